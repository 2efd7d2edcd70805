import PyProof.Rows.All
import Wide.All
import OpenK.AllK
import Wide.FinOn
import PySem.Challenge.RW_tokenwall_k16_whole_beside
import HandS.ForExc
import HandS.Comp
import HandS.Walk
import HandS.Dict
import HandS.IsInst
import HandS.Wide
import HandS.TupAny
import HandS.TupMul
import HandS.TupLe
import HandS.Deep
import HandS.Zip
import HandS.Style
import HandS.Text
import KE.GoesEnum
import HandS.ExcIs
import HandS.ExcInit
import HandS.ExcField
import KE.KExcIs
import HandS.SetFor
import HandS.Strs
import HandS.SortRule
import HandS.SortKw
import KE.KSortKey
import KE.KTupSum
import PyProof.NoPylong
set_option Elab.async false
set_option linter.all false
set_option maxRecDepth 100000
set_option maxHeartbeats 4000000
/-! Tw1: a layer of data over the hand layer. A def is walked over plain data (PyData): what a slot holds (Sl), what an expression
is worth (Ev), what a statement leads to (As); the heap is hidden behind two views: H as it stands, I the part that never changes. -/
namespace Tw
open PySem PySem.Spec PyProof.Rows L2

theorem same_new {H : Hp} {p : Addr} {o : HO} (h : H p = none) : Same H (upd H p o) := fun b x e => by
  rw [upd_ne (ne_of_none e h)]
  exact e
theorem same_t {K : PySem.W.Frag} {H H' : Hp} {a : Addr} {xs : List V} (e : Same H H') (h : SqT K H a xs) : SqT K H' a xs := by
  rcases h with (h | ⟨o, h⟩) | h
  · exact .inl (.inl (e _ _ h))
  · exact .inl (.inr ⟨o, e _ _ h⟩)
  · exact .inr h

/-- the world moves on: (H, I) to (H', I') -/
structure Nx (H I H' I' : Hp) : Prop where
  h : Same H H'
  i : Same I I'
  s : Same I' H'
  f : ∀ p o, H p = some o → I p = none → I' p = none
theorem Nx.refl {H I : Hp} (s : Same I H) : Nx H I H I := ⟨Same.refl _, Same.refl _, s, fun _ _ _ e => e⟩
theorem Nx.trans {H I H1 I1 H2 I2 : Hp} (a : Nx H I H1 I1) (b : Nx H1 I1 H2 I2) : Nx H I H2 I2 :=
  ⟨a.h.trans b.h, a.i.trans b.i, b.s, fun p o e n => b.f p o (a.h p o e) (a.f p o e n)⟩
/-- a new object, known at once -/
theorem Nx.new {H I : Hp} {p : Addr} {o : HO} (s : Same I H) (h : H p = none) : Nx H I (upd H p o) (upd I p o) := by
  have hi : I p = none := s.free h
  refine ⟨same_new h, same_new hi, fun b x e => ?_, fun q x e n => ?_⟩
  · by_cases hb : b = p
    · subst hb
      rw [upd_same] at e ⊢
      exact e
    · rw [upd_ne hb] at e ⊢
      exact s b x e
  · rw [upd_ne (ne_of_none e h)]
    exact n
/-- a new object, not told yet -/
theorem Nx.own {H I : Hp} {p : Addr} {o : HO} (s : Same I H) (h : H p = none) : Nx H I (upd H p o) I :=
  ⟨same_new h, Same.refl _, s.trans (same_new h), fun _ _ _ n => n⟩
/-- the base may be taken later -/
theorem Nx.rebase {G I0 H1 I1 H I : Hp} (a : Nx G I0 H1 I1) (b : Nx G I1 H I) : Nx G I0 H I :=
  ⟨b.h, a.i.trans b.i, b.s, fun p o e n => b.f p o e (a.f p o e n)⟩
theorem Nx.onto {G I0 H1 I1 H I : Hp} (a : Nx G I0 H1 I1) (b : Nx H1 I1 H I) : Nx G I1 H I :=
  ⟨a.h.trans b.h, b.i, b.s, fun p o e n => b.f p o (a.h p o e) n⟩
theorem Nx.here {G I0 H I : Hp} (a : Nx G I0 H I) : Nx G I H I := ⟨a.h, Same.refl _, a.s, fun _ _ _ n => n⟩

/-! ### data -/
mutual
inductive Rp (K : PySem.W.Frag) (I : Hp) : V → PyData → Prop
  | non : Rp K I .non .none
  | bl (b : Bool) : Rp K I (.bl b) (.bool b)
  | int (i : Int) : Rp K I (.int i) (.int i)
  | str (x : Str) : Rp K I (.str x) (.str x)
  | lst {a : Addr} {xs : List V} {ds : List PyData} : I a = some (.lst xs) → RpAll K I xs ds → Rp K I (.ref a) (.list ds)
  | tup {a : Addr} {xs : List V} {ds : List PyData} : I a = some (.tup xs) → RpAll K I xs ds → Rp K I (.ref a) (.tuple ds)
  /-- some dict -/
  | dct {a : Addr} {kvs : List (Key × V)} : I a = some (.dK kvs) → Rp K I (.ref a) (.dict [])
  /-- the script, told as a dict that no program makes -/
  | scr {a : Addr} {ns : List Int} : SqL K I a (ns.map V.int) → Rp K I (.ref a) (.dict [(.none, .list (ns.map .int))])
inductive RpAll (K : PySem.W.Frag) (I : Hp) : List V → List PyData → Prop
  | nil : RpAll K I [] []
  | cons {v : V} {vs : List V} {d : PyData} {ds : List PyData} : Rp K I v d → RpAll K I vs ds → RpAll K I (v :: vs) (d :: ds)
end
section
variable {K : PySem.W.Frag} {I I' : Hp}
mutual
theorem Rp.mono (e : Same I I') : ∀ {v : V} {d : PyData}, Rp K I v d → Rp K I' v d
  | _, _, .non => .non
  | _, _, .bl b => .bl b
  | _, _, .int i => .int i
  | _, _, .str x => .str x
  | _, _, .lst h r => .lst (e _ _ h) (RpAll.mono e r)
  | _, _, .tup h r => .tup (e _ _ h) (RpAll.mono e r)
  | _, _, .dct h => .dct (e _ _ h)
  | _, _, .scr h => .scr (e.seq h)
theorem RpAll.mono (e : Same I I') : ∀ {vs : List V} {ds : List PyData}, RpAll K I vs ds → RpAll K I' vs ds
  | _, _, .nil => .nil
  | _, _, .cons h r => .cons (Rp.mono e h) (RpAll.mono e r)
end
mutual
theorem Rp.dp : ∀ {v : V} {d : PyData}, Rp K I v d → d.canLay0 = true → Dp K I v d
  | _, _, .non, _ => .non
  | _, _, .bl b, _ => .bl b
  | _, _, .int i, _ => .int i
  | _, _, .str x, _ => .str x
  | _, _, .lst h r, c => .lst (.of h) (RpAll.dp r c)
  | _, _, .tup h r, c => .tup (.of h) (RpAll.dp r c)
  | _, _, .dct h, c => by cases c
  | _, _, .scr h, c => by cases c
theorem RpAll.dp : ∀ {vs : List V} {ds : List PyData}, RpAll K I vs ds → PyData.canLayAll0 ds = true → DpAll K I vs ds
  | _, _, .nil, _ => .nil
  | _, _, .cons h r, c => by
    have c' := Bool.and_eq_true_iff.mp (show (_ && _) = true from c)
    exact .cons (Rp.dp h c'.1) (RpAll.dp r c'.2)
end
theorem RpAll.length : ∀ {vs : List V} {ds : List PyData}, RpAll K I vs ds → vs.length = ds.length
  | _, _, .nil => rfl
  | _, _, .cons _ r => by rw [List.length_cons, List.length_cons, RpAll.length r]
theorem RpAll.get : ∀ {vs : List V} {ds : List PyData} {i : Nat} {d : PyData}, RpAll K I vs ds → ds[i]? = some d → ∃ v, vs[i]? = some v ∧ Rp K I v d
  | _, _, _, _, .nil, e => by simp at e
  | _, _, 0, _, .cons h _, e => by simp at e; subst e; exact ⟨_, rfl, h⟩
  | _, _, i + 1, d, .cons _ r, e => by
    obtain ⟨v, h1, h2⟩ := RpAll.get (i := i) (d := d) r (by simpa using e)
    exact ⟨v, by simpa using h1, h2⟩
theorem RpAll.app : ∀ {vs ws : List V} {ds es : List PyData}, RpAll K I vs ds → RpAll K I ws es → RpAll K I (vs ++ ws) (ds ++ es)
  | _, _, _, _, .nil, q => q
  | _, _, _, _, .cons h r, q => .cons h (RpAll.app r q)
theorem RpAll.set {v : V} {d : PyData} (h : Rp K I v d) : ∀ {vs : List V} {ds : List PyData} (i : Nat), RpAll K I vs ds → RpAll K I (vs.set i v) (ds.set i d)
  | _, _, _, .nil => .nil
  | _, _, 0, .cons _ r => .cons h r
  | _, _, i + 1, .cons q r => .cons q (RpAll.set h i r)
theorem RpAll.take : ∀ {vs : List V} {ds : List PyData} (n : Nat), RpAll K I vs ds → RpAll K I (vs.take n) (ds.take n)
  | _, _, 0, _ => .nil
  | _, _, _ + 1, .nil => .nil
  | _, _, n + 1, .cons h r => .cons h (RpAll.take n r)
theorem RpAll.drop : ∀ {vs : List V} {ds : List PyData} (n : Nat), RpAll K I vs ds → RpAll K I (vs.drop n) (ds.drop n)
  | _, _, 0, r => r
  | _, _, _ + 1, .nil => .nil
  | _, _, n + 1, .cons _ r => RpAll.drop n r
theorem RpAll.rev : ∀ {vs : List V} {ds : List PyData}, RpAll K I vs ds → RpAll K I vs.reverse ds.reverse
  | _, _, .nil => .nil
  | _, _, .cons h r => by
    rw [List.reverse_cons, List.reverse_cons]
    exact (RpAll.rev r).app (.cons h .nil)
/-- no list (and no dict) within -/
def solid : PyData → Bool
  | .list _ => false
  | .dict _ => false
  | .tuple ds => solidAll ds
  | _ => true
where solidAll : List PyData → Bool
  | [] => true
  | d :: ds => solid d && solidAll ds
/-- what holds no list doesn't lean on a list -/
theorem tup_off {p : Addr} {vs : List V} (hp : I p = some (.lst vs)) {a : Addr} {xs : List V} (h : I a = some (.tup xs)) : (fun b => if b = p then none else I b) a = some (HO.tup xs) := by
  show (if a = p then none else I a) = _
  rw [if_neg (fun z => by rw [z, hp] at h; cases h)]
  exact h
mutual
theorem Rp.off {p : Addr} {vs : List V} (hp : I p = some (.lst vs)) : ∀ {v : V} {d : PyData}, Rp K I v d → solid d = true → Rp K (fun b => if b = p then none else I b) v d
  | _, _, .non, _ => .non
  | _, _, .bl b, _ => .bl b
  | _, _, .int i, _ => .int i
  | _, _, .str x, _ => .str x
  | _, _, .lst h r, c => by cases c
  | _, _, .tup h r, c => .tup (tup_off hp h) (RpAll.off hp r c)
  | _, _, .dct h, c => by cases c
  | _, _, .scr h, c => by cases c
theorem RpAll.off {p : Addr} {vs : List V} (hp : I p = some (.lst vs)) : ∀ {ws : List V} {ds : List PyData}, RpAll K I ws ds → solid.solidAll ds = true → RpAll K (fun b => if b = p then none else I b) ws ds
  | _, _, .nil, _ => .nil
  | _, _, .cons h r, c => by
    have c' := Bool.and_eq_true_iff.mp (show (_ && _) = true from c)
    exact .cons (Rp.off hp h c'.1) (RpAll.off hp r c'.2)
end
end

/-! ### slots -/
inductive Sl where
  /-- nothing is known -/
  | no
  /-- data that no one changes -/
  | d (x : PyData)
  /-- a list of the def's own, that it may change -/
  | own (xs : List PyData)
  /-- a dict of the def's own, its keys rows of whole numbers -/
  | dic (kvs : List (List Int × V))
def dicO (kvs : List (List Int × V)) : HO := .dT (kvs.map fun kv => (kv.1.map Sum.inl, kv.2))
structure RelS (K : PySem.W.Frag) (G H I : Hp) (σ : L2.St) (δ : List Sl) : Prop where
  len : σ.length = δ.length
  d : ∀ (i : Nat) (x : PyData), δ[i]? = some (Sl.d x) → ∃ v : V, σ[i]? = some (some v) ∧ Rp K I v x
  own : ∀ (i : Nat) (xs : List PyData), δ[i]? = some (Sl.own xs) → ∃ (p : Addr) (vs : List V), σ[i]? = some (some (V.ref p)) ∧ G p = none ∧ I p = none ∧ H p = some (.lst vs) ∧ RpAll K I vs xs
  sep : ∀ (i j : Nat) (xs ys : List PyData) (p : Addr), i ≠ j → δ[i]? = some (Sl.own xs) → δ[j]? = some (Sl.own ys) → σ[i]? = some (some (V.ref p)) → σ[j]? = some (some (V.ref p)) → False
  dic : ∀ (i : Nat) (kvs : List (List Int × V)), δ[i]? = some (Sl.dic kvs) → ∃ p : Addr, σ[i]? = some (some (V.ref p)) ∧ G p = none ∧ I p = none ∧ H p = some (dicO kvs)
  sepd : ∀ (i j : Nat) (ks ls : List (List Int × V)) (p : Addr), i ≠ j → δ[i]? = some (Sl.dic ks) → δ[j]? = some (Sl.dic ls) → σ[i]? = some (some (V.ref p)) → σ[j]? = some (some (V.ref p)) → False
section
variable {K : PySem.W.Frag} {G H I H' I' : Hp} {σ : L2.St} {δ : List Sl}
theorem RelS.next (r : RelS K G H I σ δ) (n : Nx H I H' I') : RelS K G H' I' σ δ where
  len := r.len
  d := fun i x e => by
    obtain ⟨v, h1, h2⟩ := r.d i x e
    exact ⟨v, h1, h2.mono n.i⟩
  own := fun i xs e => by
    obtain ⟨p, vs, h1, h2, h3, h4, h5⟩ := r.own i xs e
    exact ⟨p, vs, h1, h2, n.f p _ h4 h3, n.h p _ h4, h5.mono n.i⟩
  sep := r.sep
  dic := fun i kvs e => by
    obtain ⟨p, h1, h2, h3, h4⟩ := r.dic i kvs e
    exact ⟨p, h1, h2, n.f p _ h4 h3, n.h p _ h4⟩
  sepd := r.sepd
theorem set_get {α : Type} {l : List α} {i j : Nat} {x y : α} (e : (l.set i x)[j]? = some y) : (j = i ∧ i < l.length ∧ y = x) ∨ (j ≠ i ∧ l[j]? = some y) := by
  by_cases h : j = i
  · subst h
    by_cases hl : j < l.length
    · rw [List.getElem?_set_self hl] at e
      exact .inl ⟨rfl, hl, (Option.some.inj e).symm⟩
    · rw [List.getElem?_eq_none_iff.mpr (by rw [List.length_set]; omega)] at e
      cases e
  · rw [List.getElem?_set_ne (Ne.symm h)] at e
    exact .inr ⟨h, e⟩
/-- a slot takes a value -/
theorem RelS.put (r : RelS K G H I σ δ) {i : Nat} {v : V} {x : PyData} (h : Rp K I v x) : RelS K G H I (σ.set i (some v)) (δ.set i (.d x)) where
  len := by rw [List.length_set, List.length_set, r.len]
  d := fun j y e => by
    rcases set_get e with ⟨rfl, hl, e'⟩ | ⟨hn, e'⟩
    · cases e'
      exact ⟨v, by rw [List.getElem?_set_self (by rw [r.len]; exact hl)], h⟩
    · obtain ⟨u, h1, h2⟩ := r.d j y e'
      exact ⟨u, by rw [List.getElem?_set_ne (Ne.symm hn)]; exact h1, h2⟩
  own := fun j xs e => by
    rcases set_get e with ⟨rfl, hl, e'⟩ | ⟨hn, e'⟩
    · cases e'
    · obtain ⟨p, vs, h1, h2⟩ := r.own j xs e'
      exact ⟨p, vs, by rw [List.getElem?_set_ne (Ne.symm hn)]; exact h1, h2⟩
  sep := fun j k xs ys p hn e1 e2 f1 f2 => by
    rcases set_get e1 with ⟨rfl, hl, e'⟩ | ⟨n1, e1'⟩
    · cases e'
    · rcases set_get e2 with ⟨rfl, hl, e'⟩ | ⟨n2, e2'⟩
      · cases e'
      · rw [List.getElem?_set_ne (Ne.symm n1)] at f1
        rw [List.getElem?_set_ne (Ne.symm n2)] at f2
        exact r.sep j k xs ys p hn e1' e2' f1 f2
  dic := fun j kvs e => by
    rcases set_get e with ⟨rfl, hl, e'⟩ | ⟨hn, e'⟩
    · cases e'
    · obtain ⟨p, h1, h2⟩ := r.dic j kvs e'
      exact ⟨p, by rw [List.getElem?_set_ne (Ne.symm hn)]; exact h1, h2⟩
  sepd := fun j k ks ls p hn e1 e2 f1 f2 => by
    rcases set_get e1 with ⟨rfl, hl, e'⟩ | ⟨n1, e1'⟩
    · cases e'
    · rcases set_get e2 with ⟨rfl, hl, e'⟩ | ⟨n2, e2'⟩
      · cases e'
      · rw [List.getElem?_set_ne (Ne.symm n1)] at f1
        rw [List.getElem?_set_ne (Ne.symm n2)] at f2
        exact r.sepd j k ks ls p hn e1' e2' f1 f2
theorem RelS.none (r : RelS K G H I σ δ) {i : Nat} {o : Option V} : RelS K G H I (σ.set i o) (δ.set i .no) where
  len := by rw [List.length_set, List.length_set, r.len]
  d := fun j y e => by
    rcases set_get e with ⟨rfl, hl, e'⟩ | ⟨hn, e'⟩
    · cases e'
    · obtain ⟨u, h1, h2⟩ := r.d j y e'
      exact ⟨u, by rw [List.getElem?_set_ne (Ne.symm hn)]; exact h1, h2⟩
  own := fun j xs e => by
    rcases set_get e with ⟨rfl, hl, e'⟩ | ⟨hn, e'⟩
    · cases e'
    · obtain ⟨p, vs, h1, h2⟩ := r.own j xs e'
      exact ⟨p, vs, by rw [List.getElem?_set_ne (Ne.symm hn)]; exact h1, h2⟩
  sep := fun j k xs ys p hn e1 e2 f1 f2 => by
    rcases set_get e1 with ⟨rfl, hl, e'⟩ | ⟨n1, e1'⟩
    · cases e'
    · rcases set_get e2 with ⟨rfl, hl, e'⟩ | ⟨n2, e2'⟩
      · cases e'
      · rw [List.getElem?_set_ne (Ne.symm n1)] at f1
        rw [List.getElem?_set_ne (Ne.symm n2)] at f2
        exact r.sep j k xs ys p hn e1' e2' f1 f2
  dic := fun j kvs e => by
    rcases set_get e with ⟨rfl, hl, e'⟩ | ⟨hn, e'⟩
    · cases e'
    · obtain ⟨p, h1, h2⟩ := r.dic j kvs e'
      exact ⟨p, by rw [List.getElem?_set_ne (Ne.symm hn)]; exact h1, h2⟩
  sepd := fun j k ks ls p hn e1 e2 f1 f2 => by
    rcases set_get e1 with ⟨rfl, hl, e'⟩ | ⟨n1, e1'⟩
    · cases e'
    · rcases set_get e2 with ⟨rfl, hl, e'⟩ | ⟨n2, e2'⟩
      · cases e'
      · rw [List.getElem?_set_ne (Ne.symm n1)] at f1
        rw [List.getElem?_set_ne (Ne.symm n2)] at f2
        exact r.sepd j k ks ls p hn e1' e2' f1 f2
/-- a slot takes a new list of its own -/
theorem RelS.make (r : RelS K G H I σ δ) {i : Nat} {p : Addr} {vs : List V} {xs : List PyData} (s : Same I H) (g : Same G H) (h : H p = Option.none) (q : RpAll K I vs xs) :
    RelS K G (upd H p (.lst vs)) I (σ.set i (some (.ref p))) (δ.set i (.own xs)) where
  len := by rw [List.length_set, List.length_set, r.len]
  d := fun j y e => by
    rcases set_get e with ⟨rfl, hl, e'⟩ | ⟨hn, e'⟩
    · cases e'
    · obtain ⟨u, h1, h2⟩ := r.d j y e'
      exact ⟨u, by rw [List.getElem?_set_ne (Ne.symm hn)]; exact h1, h2⟩
  own := fun j ys e => by
    rcases set_get e with ⟨rfl, hl, e'⟩ | ⟨hn, e'⟩
    · cases e'
      exact ⟨p, vs, by rw [List.getElem?_set_self (by rw [r.len]; exact hl)], g.free h, s.free h, upd_same, q⟩
    · obtain ⟨p', vs', h1, h2, h3, h4, h5⟩ := r.own j ys e'
      exact ⟨p', vs', by rw [List.getElem?_set_ne (Ne.symm hn)]; exact h1, h2, h3, by rw [upd_ne (ne_of_none h4 h)]; exact h4, h5⟩
  sep := fun j k ys zs a hn e1 e2 f1 f2 => by
    rcases set_get e1 with ⟨rfl, hl, e'⟩ | ⟨n1, e1'⟩
    · rcases set_get e2 with ⟨rfl, hl2, e''⟩ | ⟨n2, e2'⟩
      · exact hn rfl
      · obtain ⟨p', vs', h1, h2, h3, h4, h5⟩ := r.own k zs e2'
        rw [List.getElem?_set_self (by rw [r.len]; exact hl)] at f1
        rw [List.getElem?_set_ne (Ne.symm n2), h1] at f2
        cases f1
        cases f2
        rw [h] at h4
        cases h4
    · rcases set_get e2 with ⟨rfl, hl2, e''⟩ | ⟨n2, e2'⟩
      · obtain ⟨p', vs', h1, h2, h3, h4, h5⟩ := r.own j ys e1'
        rw [List.getElem?_set_self (by rw [r.len]; exact hl2)] at f2
        rw [List.getElem?_set_ne (Ne.symm n1), h1] at f1
        cases f1
        cases f2
        rw [h] at h4
        cases h4
      · rw [List.getElem?_set_ne (Ne.symm n1)] at f1
        rw [List.getElem?_set_ne (Ne.symm n2)] at f2
        exact r.sep j k ys zs a hn e1' e2' f1 f2
  dic := fun j kvs e => by
    rcases set_get e with ⟨rfl, hl, e'⟩ | ⟨hn, e'⟩
    · cases e'
    · obtain ⟨p', h1, h2, h3, h4⟩ := r.dic j kvs e'
      exact ⟨p', by rw [List.getElem?_set_ne (Ne.symm hn)]; exact h1, h2, h3, by rw [upd_ne (ne_of_none h4 h)]; exact h4⟩
  sepd := fun j k ks ls p hn e1 e2 f1 f2 => by
    rcases set_get e1 with ⟨rfl, hl, e'⟩ | ⟨n1, e1'⟩
    · cases e'
    · rcases set_get e2 with ⟨rfl, hl, e'⟩ | ⟨n2, e2'⟩
      · cases e'
      · rw [List.getElem?_set_ne (Ne.symm n1)] at f1
        rw [List.getElem?_set_ne (Ne.symm n2)] at f2
        exact r.sepd j k ks ls p hn e1' e2' f1 f2
/-- its own list is changed -/
theorem RelS.write (r : RelS K G H I σ δ) {i : Nat} {p : Addr} {vs : List V} {xs ys : List PyData} (e : δ[i]? = some (.own xs)) (f : σ[i]? = some (some (.ref p))) (q : RpAll K I vs ys) :
    RelS K G (upd H p (.lst vs)) I σ (δ.set i (.own ys)) where
  len := by rw [List.length_set, r.len]
  d := fun j y e1 => by
    rcases set_get e1 with ⟨rfl, hl, e'⟩ | ⟨hn, e'⟩
    · cases e'
    · exact r.d j y e'
  own := fun j zs e1 => by
    rcases set_get e1 with ⟨rfl, hl, e'⟩ | ⟨hn, e'⟩
    · cases e'
      obtain ⟨p', vs', h1, h2, h3, h4, h5⟩ := r.own j xs e
      rw [f] at h1
      cases h1
      exact ⟨p, vs, f, h2, h3, upd_same, q⟩
    · obtain ⟨p', vs', h1, h2, h3, h4, h5⟩ := r.own j zs e'
      refine ⟨p', vs', h1, h2, h3, ?_, h5⟩
      rw [upd_ne (show p' ≠ p from fun z => r.sep i j xs zs p (Ne.symm hn) e e' f (by rw [← z]; exact h1))]
      exact h4
  sep := fun j k as bs a hn e1 e2 f1 f2 => by
    rcases set_get e1 with ⟨rfl, hl, e'⟩ | ⟨n1, e1'⟩
    · rcases set_get e2 with ⟨rfl, hl2, e''⟩ | ⟨n2, e2'⟩
      · exact hn rfl
      · exact r.sep j k xs bs a hn e e2' f1 f2
    · rcases set_get e2 with ⟨rfl, hl2, e''⟩ | ⟨n2, e2'⟩
      · exact r.sep j k as xs a hn e1' e f1 f2
      · exact r.sep j k as bs a hn e1' e2' f1 f2
  dic := fun j kvs e1 => by
    rcases set_get e1 with ⟨rfl, hl, e'⟩ | ⟨hn, e'⟩
    · cases e'
    · obtain ⟨p', h1, h2, h3, h4⟩ := r.dic j kvs e'
      obtain ⟨p2, vs2, g1, g2, g3, g4, g5⟩ := r.own i xs e
      rw [f] at g1
      cases g1
      refine ⟨p', h1, h2, h3, ?_⟩
      rw [upd_ne (show p' ≠ p from fun z => by rw [z, g4] at h4; cases h4)]
      exact h4
  sepd := fun j k ks ls p hn e1 e2 f1 f2 => by
    rcases set_get e1 with ⟨rfl, hl, e'⟩ | ⟨n1, e1'⟩
    · cases e'
    · rcases set_get e2 with ⟨rfl, hl, e'⟩ | ⟨n2, e2'⟩
      · cases e'
      · exact r.sepd j k ks ls p hn e1' e2' f1 f2
/-- its own list is told: no one changes it any more -/
theorem RelS.freeze (r : RelS K G H I σ δ) {i : Nat} {p : Addr} {vs : List V} {xs : List PyData} (s : Same I H) (e : δ[i]? = some (.own xs)) (f : σ[i]? = some (some (.ref p))) (h : H p = some (.lst vs)) (n : I p = Option.none) (q : RpAll K I vs xs) :
    RelS K G H (upd I p (.lst vs)) σ (δ.set i (.d (.list xs))) where
  len := by rw [List.length_set, r.len]
  d := fun j y e1 => by
    rcases set_get e1 with ⟨rfl, hl, e'⟩ | ⟨hn, e'⟩
    · cases e'
      exact ⟨_, f, .lst upd_same (q.mono (same_new n))⟩
    · obtain ⟨u, h1, h2⟩ := r.d j y e'
      exact ⟨u, h1, h2.mono (same_new n)⟩
  own := fun j zs e1 => by
    rcases set_get e1 with ⟨rfl, hl, e'⟩ | ⟨hn, e'⟩
    · cases e'
    · obtain ⟨p', vs', h1, h2, h3, h4, h5⟩ := r.own j zs e'
      refine ⟨p', vs', h1, h2, ?_, h4, h5.mono (same_new n)⟩
      rw [upd_ne (show p' ≠ p from fun z => r.sep i j xs zs p (Ne.symm hn) e e' f (by rw [← z]; exact h1))]
      exact h3
  sep := fun j k as bs a hn e1 e2 f1 f2 => by
    rcases set_get e1 with ⟨rfl, hl, e'⟩ | ⟨n1, e1'⟩
    · cases e'
    · rcases set_get e2 with ⟨rfl, hl2, e''⟩ | ⟨n2, e2'⟩
      · cases e''
      · exact r.sep j k as bs a hn e1' e2' f1 f2
  dic := fun j kvs e1 => by
    rcases set_get e1 with ⟨rfl, hl, e'⟩ | ⟨hn, e'⟩
    · cases e'
    · obtain ⟨p', h1, h2, h3, h4⟩ := r.dic j kvs e'
      refine ⟨p', h1, h2, ?_, h4⟩
      rw [upd_ne (show p' ≠ p from fun z => by rw [z, h] at h4; cases h4)]
      exact h3
  sepd := fun j k ks ls p hn e1 e2 f1 f2 => by
    rcases set_get e1 with ⟨rfl, hl, e'⟩ | ⟨n1, e1'⟩
    · cases e'
    · rcases set_get e2 with ⟨rfl, hl, e'⟩ | ⟨n2, e2'⟩
      · cases e'
      · exact r.sepd j k ks ls p hn e1' e2' f1 f2
end

/-! ### expressions -/
section
variable (K : PySem.W.Frag)
def Ev (te : TE) (δ : List Sl) (x : PyData) : Prop := ∀ G σ H I, Same I H → Same G H → RelS K G H I σ δ → ∀ Q : VK, (∀ v H' I', Nx H I H' I' → Rp K I' v x → Q v H') → te σ H Q
/-- a new list -/
def EvN (te : TE) (δ : List Sl) (xs : List PyData) : Prop := ∀ G σ H I, Same I H → Same G H → RelS K G H I σ δ →
  ∀ Q : VK, (∀ p H1 I' vs, Nx H I H1 I' → H1 p = none → RpAll K I' vs xs → Q (.ref p) (upd H1 p (.lst vs))) → te σ H Q
def EvT (tt : TT) (δ : List Sl) (b : Bool) : Prop := ∀ G σ H I, Same I H → Same G H → RelS K G H I σ δ → ∀ Q : Bool → Hp → Prop, (∀ H' I', Nx H I H' I' → Q b H') → tt σ H Q
def EvA (ta : TA) (δ : List Sl) (xs : List PyData) : Prop := ∀ G σ H I, Same I H → Same G H → RelS K G H I σ δ → ∀ Q : List V → Hp → Prop, (∀ vs H' I', Nx H I H' I' → RpAll K I' vs xs → Q vs H') → ta σ H Q
def EvO (to : TO) (δ : List Sl) (o : Option Int) : Prop := ∀ G σ H I, Same I H → Same G H → RelS K G H I σ δ → ∀ Q : Option Int → Hp → Prop, (∀ H' I', Nx H I H' I' → Q o H') → to σ H Q
/-- it raises an error of the class at c -/
def EvX (E : XK) (te : TE) (δ : List Sl) (c : Value) : Prop := ∀ G σ H I, Same I H → Same G H → RelS K G H I σ δ → (∀ H', Same H H' → E c none H') → ∀ Q : VK, te σ H Q
def EvTX (E : XK) (te : TT) (δ : List Sl) (c : Value) : Prop := ∀ G σ H I, Same I H → Same G H → RelS K G H I σ δ → (∀ H', Same H H' → E c none H') → ∀ Q : Bool → Hp → Prop, te σ H Q
def EvAX (E : XK) (te : TA) (δ : List Sl) (c : Value) : Prop := ∀ G σ H I, Same I H → Same G H → RelS K G H I σ δ → (∀ H', Same H H' → E c none H') → ∀ Q : List V → Hp → Prop, te σ H Q
/-- operators by data: two operands, one, a call's arguments -/
def R2D (r : R2) (x y z : PyData) : Prop := ∀ H I v u, Same I H → Rp K I v x → Rp K I u y → ∀ Q : VK, (∀ w H' I', Nx H I H' I' → Rp K I' w z → Q w H') → r v u H Q
def RAD (r : List V → Hp → VK → Prop) (xs : List PyData) (z : PyData) : Prop := ∀ H I vs, Same I H → RpAll K I vs xs → ∀ Q : VK, (∀ w H' I', Nx H I H' I' → Rp K I' w z → Q w H') → r vs H Q
def RAN (r : List V → Hp → VK → Prop) (xs : List PyData) (zs : List PyData) : Prop := ∀ H I vs, Same I H → RpAll K I vs xs → ∀ Q : VK, (∀ p H1 I' ws, Nx H I H1 I' → H1 p = none → RpAll K I' ws zs → Q (.ref p) (upd H1 p (.lst ws))) → r vs H Q
end
section
variable {K : PySem.W.Frag} {δ : List Sl} {ta tb te : TE} {t u : TT} {x y z : PyData} {xs ys : List PyData}
theorem Nx.g {G H I H' I' : Hp} (n : Nx H I H' I') (g : Same G H) : Same G H' := g.trans n.h
/-- a new list becomes data -/
theorem EvN.ev (h : EvN K te δ xs) : Ev K te δ (.list xs) := fun G σ H I s g r Q q => h G σ H I s g r Q fun p H1 I' vs n hp rr =>
  q (.ref p) _ (upd I' p (.lst vs)) (n.trans (Nx.new n.s hp)) (.lst upd_same (rr.mono (same_new (n.s.free hp))))
theorem ev_var {i : Nat} (h : δ[i]? = some (.d x)) : Ev K (tVar i) δ x := fun G σ H I s g r Q q => by
  obtain ⟨v, h1, h2⟩ := r.d i x h
  exact ⟨v, h1, q v H I (Nx.refl s) h2⟩
theorem ev_int {i : Int} : Ev K (tC (.int i)) δ (.int i) := fun G σ H I s g r Q q => q _ H I (Nx.refl s) (.int i)
theorem ev_bl {b : Bool} : Ev K (tC (.bl b)) δ (.bool b) := fun G σ H I s g r Q q => q _ H I (Nx.refl s) (.bl b)
theorem ev_non : Ev K (tC .non) δ .none := fun G σ H I s g r Q q => q _ H I (Nx.refl s) .non
theorem ev_str {b : Str} : Ev K (tC (.str b)) δ (.str b) := fun G σ H I s g r Q q => q _ H I (Nx.refl s) (.str b)
theorem ev_op {r : R2} (ha : Ev K ta δ x) (hb : Ev K tb δ y) (hr : R2D K r x y z) : Ev K (tOp r ta tb) δ z := fun G σ H I s g rl Q q =>
  ha G σ H I s g rl _ fun v H1 I1 n1 r1 => hb G σ H1 I1 n1.s (n1.g g) (rl.next n1) _ fun u H2 I2 n2 r2 => hr H2 I2 v u n2.s (r1.mono n2.i) r2 Q fun w H3 I3 n3 r3 => q w H3 I3 ((n1.trans n2).trans n3) r3
theorem ev_cb {r : List V → Hp → VK → Prop} {t : TA} (ha : EvA K t δ xs) (hr : RAD K r xs z) : Ev K (tCB r t) δ z := fun G σ H I s g rl Q q =>
  ha G σ H I s g rl _ fun vs H1 I1 n1 r1 => hr H1 I1 vs n1.s r1 Q fun w H3 I3 n3 r3 => q w H3 I3 (n1.trans n3) r3
theorem en_cb {r : List V → Hp → VK → Prop} {t : TA} {zs : List PyData} (ha : EvA K t δ xs) (hr : RAN K r xs zs) : EvN K (tCB r t) δ zs := fun G σ H I s g rl Q q =>
  ha G σ H I s g rl _ fun vs H1 I1 n1 r1 => hr H1 I1 vs n1.s r1 Q fun p H3 I3 ws n3 hp r3 => q p H3 I3 ws (n1.trans n3) hp r3
theorem ea_nil : EvA K tNil δ [] := fun G σ H I s g r Q q => q [] H I (Nx.refl s) .nil
theorem ea_cons {t : TA} (ha : Ev K ta δ x) (hr : EvA K t δ xs) : EvA K (tCons ta t) δ (x :: xs) := fun G σ H I s g rl Q q =>
  ha G σ H I s g rl _ fun v H1 I1 n1 r1 => hr G σ H1 I1 n1.s (n1.g g) (rl.next n1) _ fun vs H2 I2 n2 r2 => q (v :: vs) H2 I2 (n1.trans n2) (.cons (r1.mono n2.i) r2)
theorem small_line {n : Nat} (h : n ≤ 100000) : n ≤ sizeLine := Nat.le_trans h (by decide)
theorem ev_tup {t : TA} (ha : EvA K t δ xs) (hz : xs.length ≤ sizeLine) : Ev K (tTup t) δ (.tuple xs) := fun G σ H I s g rl Q q =>
  ha G σ H I s g rl _ fun vs H1 I1 n1 r1 => ⟨by rw [r1.length]; exact hz, fun p hp => q (.ref p) _ (upd I1 p (.tup vs)) (n1.trans (Nx.new n1.s hp)) (.tup upd_same (r1.mono (same_new (n1.s.free hp))))⟩
theorem en_lst {t : TA} (ha : EvA K t δ xs) (hz : xs.length ≤ sizeLine) : EvN K (tLst t) δ xs := fun G σ H I s g rl Q q =>
  ha G σ H I s g rl _ fun vs H1 I1 n1 r1 => ⟨by rw [r1.length]; exact hz, fun p hp => q p H1 I1 vs n1 hp r1⟩
theorem et_test {b : Bool} (h : Ev K te δ (.bool b)) : EvT K (tTest te) δ b := fun G σ H I s g rl Q q =>
  h G σ H I s g rl _ fun v H1 I1 n1 r1 => by cases r1; exact ⟨b, rfl, q H1 I1 n1⟩
theorem et_B {b : Bool} (h : Ev K te δ (.bool b)) : EvT K (tB te) δ b := fun G σ H I s g rl Q q =>
  h G σ H I s g rl _ fun v H1 I1 n1 r1 => by cases r1; exact ⟨b, rfl, q H1 I1 n1⟩
theorem et_and {a b : Bool} (h1 : EvT K t δ a) (h2 : a = true → EvT K u δ b) : EvT K (tAnd t u) δ (a && b) := fun G σ H I s g rl Q q =>
  h1 G σ H I s g rl _ fun H1 I1 n1 => by
    cases a with
    | true =>
      show u σ H1 Q
      exact h2 rfl G σ H1 I1 n1.s (n1.g g) (rl.next n1) Q fun H2 I2 n2 => q H2 I2 (n1.trans n2)
    | false =>
      show Q false H1
      exact q H1 I1 n1
theorem et_or {a b : Bool} (h1 : EvT K t δ a) (h2 : a = false → EvT K u δ b) : EvT K (tOr t u) δ (a || b) := fun G σ H I s g rl Q q =>
  h1 G σ H I s g rl _ fun H1 I1 n1 => by
    cases a with
    | true =>
      show Q true H1
      exact q H1 I1 n1
    | false =>
      show u σ H1 Q
      exact h2 rfl G σ H1 I1 n1.s (n1.g g) (rl.next n1) Q fun H2 I2 n2 => q H2 I2 (n1.trans n2)
theorem et_not {a : Bool} (h1 : EvT K t δ a) : EvT K (tNot t) δ (!a) := fun G σ H I s g rl Q q => h1 G σ H I s g rl _ fun H1 I1 n1 => q H1 I1 n1
theorem ev_andV {a b : Bool} (h1 : Ev K ta δ (.bool a)) (h2 : a = true → Ev K tb δ (.bool b)) : Ev K (tAndV ta tb) δ (.bool (a && b)) := fun G σ H I s g rl Q q =>
  h1 G σ H I s g rl _ fun v H1 I1 n1 r1 => by
    cases r1
    refine ⟨a, rfl, ?_⟩
    cases a with
    | true =>
      show tb σ H1 Q
      exact h2 rfl G σ H1 I1 n1.s (n1.g g) (rl.next n1) Q fun w H2 I2 n2 r2 => q w H2 I2 (n1.trans n2) r2
    | false =>
      show Q (.bl false) H1
      exact q _ H1 I1 n1 (.bl false)
theorem ev_orV {a b : Bool} (h1 : Ev K ta δ (.bool a)) (h2 : a = false → Ev K tb δ (.bool b)) : Ev K (tOrV ta tb) δ (.bool (a || b)) := fun G σ H I s g rl Q q =>
  h1 G σ H I s g rl _ fun v H1 I1 n1 r1 => by
    cases r1
    refine ⟨a, rfl, ?_⟩
    cases a with
    | true =>
      show Q (.bl true) H1
      exact q _ H1 I1 n1 (.bl true)
    | false =>
      show tb σ H1 Q
      exact h2 rfl G σ H1 I1 n1.s (n1.g g) (rl.next n1) Q fun w H2 I2 n2 r2 => q w H2 I2 (n1.trans n2) r2
theorem ev_notV {a : Bool} (h1 : Ev K ta δ (.bool a)) : Ev K (tNotV ta) δ (.bool (!a)) := fun G σ H I s g rl Q q =>
  h1 G σ H I s g rl _ fun v H1 I1 n1 r1 => by cases r1; exact ⟨a, rfl, q _ H1 I1 n1 (.bl _)⟩
theorem ev_to (h : Ev K te δ x) (e : x = y) : Ev K te δ y := e ▸ h
theorem et_to {a b : Bool} (h : EvT K t δ a) (e : a = b) : EvT K t δ b := e ▸ h
theorem en_to (h : EvN K te δ xs) (e : xs = ys) : EvN K te δ ys := e ▸ h
theorem ev_if {b : Bool} (h : EvT K t δ b) (h1 : b = true → Ev K ta δ x) (h2 : b = false → Ev K tb δ x) : Ev K (tIf t ta tb) δ x := fun G σ H I s g rl Q q =>
  h G σ H I s g rl _ fun H1 I1 n1 => by
    cases b with
    | true =>
      show ta σ H1 Q
      exact h1 rfl G σ H1 I1 n1.s (n1.g g) (rl.next n1) Q fun w H2 I2 n2 r2 => q w H2 I2 (n1.trans n2) r2
    | false =>
      show tb σ H1 Q
      exact h2 rfl G σ H1 I1 n1.s (n1.g g) (rl.next n1) Q fun w H2 I2 n2 r2 => q w H2 I2 (n1.trans n2) r2
/-- a list of its own is read for something that holds no list: it is its own behind it -/
theorem ev_borrow {i : Nat} (e : δ[i]? = some (.own xs)) (h : Ev K te (δ.set i (.d (.list xs))) x) (hs : solid x = true) : Ev K te δ x := fun G σ H I s g r Q q => by
  obtain ⟨p, vs, h1, h2, h3, h4, h5⟩ := r.own i xs e
  have s2 : Same (upd I p (.lst vs)) H := fun b o eb => by
    by_cases hb : b = p
    · subst hb
      rw [upd_same] at eb
      cases eb
      exact h4
    · rw [upd_ne hb] at eb
      exact s b o eb
  refine h G σ H (upd I p (.lst vs)) s2 g (r.freeze s e h1 h4 h3 h5) Q fun v H' I' n rv => ?_
  have hp : I' p = some (.lst vs) := n.i p _ upd_same
  refine q v H' (fun b => if b = p then none else I' b) ⟨n.h, fun b o eb => ?_, fun b o eb => ?_, fun b o eb nb => ?_⟩ (rv.off hp hs)
  · have hb : b ≠ p := ne_of_none eb h3
    show (if b = p then none else I' b) = _
    rw [if_neg hb]
    exact n.i b o (by rw [upd_ne hb]; exact eb)
  · by_cases hb : b = p
    · have z : (if b = p then none else I' b) = some o := eb
      rw [if_pos hb] at z
      cases z
    · have z : (if b = p then none else I' b) = some o := eb
      rw [if_neg hb] at z
      exact n.s b o z
  · show (if b = p then none else I' b) = none
    by_cases hb : b = p
    · rw [if_pos hb]
    · rw [if_neg hb]
      exact n.f b o eb (by rw [upd_ne hb]; exact nb)
theorem et_borrow {i : Nat} {b : Bool} (e : δ[i]? = some (.own xs)) (h : EvT K t (δ.set i (.d (.list xs))) b) : EvT K t δ b := fun G σ H I s g r Q q => by
  obtain ⟨p, vs, h1, h2, h3, h4, h5⟩ := r.own i xs e
  have s2 : Same (upd I p (.lst vs)) H := fun b o eb => by
    by_cases hb : b = p
    · subst hb
      rw [upd_same] at eb
      cases eb
      exact h4
    · rw [upd_ne hb] at eb
      exact s b o eb
  refine h G σ H (upd I p (.lst vs)) s2 g (r.freeze s e h1 h4 h3 h5) Q fun H' I' n => ?_
  refine q H' (fun b => if b = p then none else I' b) ⟨n.h, fun b o eb => ?_, fun b o eb => ?_, fun b o eb nb => ?_⟩
  · have hb : b ≠ p := ne_of_none eb h3
    show (if b = p then none else I' b) = _
    rw [if_neg hb]
    exact n.i b o (by rw [upd_ne hb]; exact eb)
  · by_cases hb : b = p
    · have z : (if b = p then none else I' b) = some o := eb
      rw [if_pos hb] at z
      cases z
    · have z : (if b = p then none else I' b) = some o := eb
      rw [if_neg hb] at z
      exact n.s b o z
  · show (if b = p then none else I' b) = none
    by_cases hb : b = p
    · rw [if_pos hb]
    · rw [if_neg hb]
      exact n.f b o eb (by rw [upd_ne hb]; exact nb)
/-- slots that are not looked at may be forgotten -/
theorem ev_forget {i : Nat} (h : Ev K te (δ.set i .no) x) : Ev K te δ x := fun G σ H I s g r Q q => by
  have hr := r.none (i := i) (o := (σ[i]?).getD none)
  have e : σ.set i ((σ[i]?).getD none) = σ := by
    apply List.ext_getElem?
    intro j
    by_cases hj : j = i
    · subst hj
      by_cases hl : j < σ.length
      · rw [List.getElem?_set_self hl, List.getElem?_eq_getElem hl]
        rfl
      · rw [List.getElem?_eq_none_iff.mpr (by rw [List.length_set]; omega), List.getElem?_eq_none_iff.mpr (by omega)]
    · rw [List.getElem?_set_ne (Ne.symm hj)]
  rw [e] at hr
  exact h G σ H I s g hr Q q
end

/-! ### statements -/
inductive Out where
  | nx (δ : List Sl)
  | bk (δ : List Sl)
  | ct (δ : List Sl)
  | rt (x : PyData)
  /-- an error of the class at c, without a dict that is known; with its dict's fields -/
  | ex (c : Value)
  | exd (c : Value) (fs : List (Str × V))
structure Cov (K : PySem.W.Frag) (E : XK) (G I0 : Hp) (D : Ends) (P : Out → Prop) : Prop where
  nx : ∀ δ' σ' H' I', P (.nx δ') → Nx G I0 H' I' → RelS K G H' I' σ' δ' → D.nx σ' H'
  bk : ∀ δ' σ' H' I', P (.bk δ') → Nx G I0 H' I' → RelS K G H' I' σ' δ' → D.bk σ' H'
  ct : ∀ δ' σ' H' I', P (.ct δ') → Nx G I0 H' I' → RelS K G H' I' σ' δ' → D.ct σ' H'
  rt : ∀ x v H' I', P (.rt x) → Nx G I0 H' I' → Rp K I' v x → D.rt v H'
  ex : ∀ c H', P (.ex c) → Same G H' → E c none H'
  exd : ∀ c fs d H', P (.exd c fs) → Same G H' → H' d = some (.xd fs) → E c (some d) H'
def As (K : PySem.W.Frag) (E : XK) (t : TS) (δ : List Sl) (P : Out → Prop) : Prop := ∀ G I0 σ H I D, Nx G I0 H I → RelS K G H I σ δ → Cov K E G I0 D P → t D σ H
section
variable {K : PySem.W.Frag} {E : XK} {δ : List Sl} {ta tb te : TE} {tt : TT} {t u : TS} {x y z : PyData} {xs ys : List PyData} {P P' : Out → Prop}
/-- behind t comes u -/
def thenP (K : PySem.W.Frag) (E : XK) (u : TS) (P : Out → Prop) : Out → Prop
  | .nx δ' => As K E u δ' P
  | .bk δ' => P (.bk δ')
  | .ct δ' => P (.ct δ')
  | .rt x => P (.rt x)
  | .ex c => P (.ex c)
  | .exd c fs => P (.exd c fs)
theorem Cov.mono {G I0 : Hp} {D : Ends} (c : Cov K E G I0 D P) (h : ∀ o, P' o → P o) : Cov K E G I0 D P' :=
  ⟨fun a b d e p => c.nx a b d e (h _ p), fun a b d e p => c.bk a b d e (h _ p), fun a b d e p => c.ct a b d e (h _ p), fun a b d e p => c.rt a b d e (h _ p), fun a b p => c.ex a b (h _ p), fun a b d e p => c.exd a b d e (h _ p)⟩
theorem As.mono (a : As K E t δ P') (h : ∀ o, P' o → P o) : As K E t δ P := fun G I0 σ H I D n r c => a G I0 σ H I D n r (c.mono h)
theorem as_seq (h : As K E t δ (thenP K E u P)) : As K E (tSeq t u) δ P := fun G I0 σ H I D n r c =>
  h G I0 σ H I { D with nx := u D } n r
    ⟨fun δ' σ' H' I' p n' r' => p G I0 σ' H' I' D n' r' c, c.bk, c.ct, c.rt, c.ex, c.exd⟩
theorem as_next (h : P (.nx δ)) : As K E tNext δ P := fun G I0 σ H I D n r c => c.nx δ σ H I h n r
theorem as_brk (h : P (.bk δ)) : As K E tBreak δ P := fun G I0 σ H I D n r c => c.bk δ σ H I h n r
theorem as_cont (h : P (.ct δ)) : As K E tCont δ P := fun G I0 σ H I D n r c => c.ct δ σ H I h n r
theorem as_set {i : Nat} (h : Ev K te δ x) (k : P (.nx (δ.set i (.d x)))) : As K E (tAsg te (gName i)) δ P := fun G I0 σ H I D n r c =>
  h G σ H I n.s n.h r _ fun v H1 I1 n1 rv => c.nx _ _ H1 I1 k (n.trans n1) ((r.next n1).put rv)
theorem as_setN {i : Nat} (h : EvN K te δ xs) (k : P (.nx (δ.set i (.own xs)))) : As K E (tAsg te (gName i)) δ P := fun G I0 σ H I D n r c =>
  h G σ H I n.s n.h r _ fun p H1 I1 vs n1 hp rv =>
    c.nx _ _ _ I1 k ((n.trans n1).trans (Nx.own n1.s hp)) ((r.next n1).make n1.s (n1.g n.h) hp rv)
/-- a, b = e -/
theorem as_set2 {i j : Nat} (h : Ev K te δ (.tuple [x, y])) (k : P (.nx ((δ.set i (.d x)).set j (.d y)))) : As K E (tAsg te (gTup K 2 (gCons (gName i) (gCons (gName j) gNil)))) δ P := fun G I0 σ H I D n r c =>
  h G σ H I n.s n.h r _ fun v H1 I1 n1 rv => by
    cases rv with
    | tup hs ra =>
      cases ra with
      | cons r1 ra =>
        cases ra with
        | cons r2 ra =>
          cases ra
          exact ⟨_, _, rfl, .of (n1.s _ _ hs), rfl, _, _, rfl, _, _, rfl, rfl, c.nx _ _ H1 I1 k (n.trans n1) (((r.next n1).put r1).put r2)⟩
theorem as_ret (h : Ev K te δ x) (k : P (.rt x)) : As K E (tRet te) δ P := fun G I0 σ H I D n r c =>
  h G σ H I n.s n.h r _ fun v H1 I1 n1 rv => c.rt x v H1 I1 k (n.trans n1) rv
theorem as_retN (k : P (.rt .none)) : As K E tRetN δ P := fun G I0 σ H I D n r c => c.rt .none .non H I k n .non
theorem as_if {b : Bool} (h : EvT K tt δ b) (h1 : b = true → As K E t δ P) (h2 : b = false → As K E u δ P) : As K E (tIfS tt t u) δ P := fun G I0 σ H I D n r c =>
  h G σ H I n.s n.h r _ fun H1 I1 n1 => by
    cases b with
    | true =>
      show t D σ H1
      exact h1 rfl G I0 σ H1 I1 D (n.trans n1) (r.next n1) c
    | false =>
      show u D σ H1
      exact h2 rfl G I0 σ H1 I1 D (n.trans n1) (r.next n1) c
theorem as_drop (h : Ev K te δ x) (k : P (.nx δ)) : As K E (tDrop te) δ P := fun G I0 σ H I D n r c =>
  h G σ H I n.s n.h r _ fun v H1 I1 n1 rv => c.nx _ _ H1 I1 k (n.trans n1) (r.next n1)
theorem as_setX {i : Nat} {g : TG} {cl : Value} (h : EvX K E te δ cl) (k : P (.ex cl)) : As K E (tAsg te g) δ P := fun G I0 σ H I D n r c =>
  h G σ H I n.s n.h r (fun H' e => c.ex cl H' k (n.h.trans e)) _
theorem as_retX {cl : Value} (h : EvX K E te δ cl) (k : P (.ex cl)) : As K E (tRet te) δ P := fun G I0 σ H I D n r c =>
  h G σ H I n.s n.h r (fun H' e => c.ex cl H' k (n.h.trans e)) _
theorem as_dropX {cl : Value} (h : EvX K E te δ cl) (k : P (.ex cl)) : As K E (tDrop te) δ P := fun G I0 σ H I D n r c =>
  h G σ H I n.s n.h r (fun H' e => c.ex cl H' k (n.h.trans e)) _
/-- raise X('..') -/
def tRz (E : XK) (c : Value) : TS := fun _ _ H => E c none H
theorem as_raise {cl : Value} (k : P (.ex cl)) : As K E (tRz E cl) δ P := fun G I0 σ H I D n r c => c.ex cl H k n.h
theorem as_weak {i : Nat} (h : As K E t (δ.set i .no) P) : As K E t δ P := fun G I0 σ H I D n r c => by
  have hr := r.none (i := i) (o := (σ[i]?).getD none)
  have e : σ.set i ((σ[i]?).getD none) = σ := by
    apply List.ext_getElem?
    intro j
    by_cases hj : j = i
    · subst hj
      by_cases hl : j < σ.length
      · rw [List.getElem?_set_self hl, List.getElem?_eq_getElem hl]
        rfl
      · rw [List.getElem?_eq_none_iff.mpr (by rw [List.length_set]; omega), List.getElem?_eq_none_iff.mpr (by omega)]
    · rw [List.getElem?_set_ne (Ne.symm hj)]
  rw [e] at hr
  exact h G I0 σ H I D n hr c
/-- its own list becomes data -/
theorem as_freeze {i : Nat} (e : δ[i]? = some (.own xs)) (h : As K E t (δ.set i (.d (.list xs))) P) : As K E t δ P := fun G I0 σ H I D n r c => by
  obtain ⟨p, vs, h1, h2, h3, h4, h5⟩ := r.own i xs e
  refine h G I0 σ H (upd I p (.lst vs)) D ⟨n.h, n.i.trans (same_new h3), fun b o eb => ?_, fun b o eb nb => ?_⟩ (r.freeze n.s e h1 h4 h3 h5) c
  · by_cases hb : b = p
    · subst hb
      rw [upd_same] at eb
      cases eb
      exact h4
    · rw [upd_ne hb] at eb
      exact n.s b o eb
  · rw [upd_ne (ne_of_none eb h2)]
    exact n.f b o eb nb
/-- xs.append(e), xs its own -/
theorem as_app {i : Nat} (e : δ[i]? = some (.own xs)) (h : Ev K te δ x) (hz : xs.length < sizeLine) (k : P (.nx (δ.set i (.own (xs ++ [x]))))) :
    As K E (tDrop (tBM K "list" rAppend (tVar i) (tCons te tNil))) δ P := fun G I0 σ H I D n r c => by
  obtain ⟨p, vs, h1, h2, h3, h4, h5⟩ := r.own i xs e
  refine ⟨.ref p, h1, .inl ⟨rfl, _, .inl (.inl h4)⟩, ?_⟩
  refine h G σ H I n.s n.h r _ fun v H1 I1 n1 rv => ?_
  have r1 := r.next n1
  obtain ⟨p', vs', h1', h2', h3', h4', h5'⟩ := r1.own i xs e
  rw [h1] at h1'
  cases h1'
  refine ⟨p, vs', v, rfl, rfl, h4', by rw [h5'.length]; exact hz, ?_⟩
  have n2 := n.trans n1
  refine c.nx _ _ _ I1 k ⟨fun b o eb => ?_, n2.i, fun b o eb => ?_, n2.f⟩ (r1.write e h1 (h5'.app (.cons rv .nil)))
  · rw [upd_ne (ne_of_none eb h2)]
    exact n2.h b o eb
  · rw [upd_ne (ne_of_none eb h3')]
    exact n2.s b o eb
/-- xs.append(e), e a new list -/
theorem as_setI {i : Nat} {ti : TE} {j : Nat} {kk : Int} (e : δ[i]? = some (.own xs)) (hv : Ev K te δ x) (hi : Ev K ti δ (.int kk)) (hj : ixN xs.length kk = some j) (k : P (.nx (δ.set i (.own (xs.set j x))))) :
    As K E (tAsg te (gSub (tVar i) ti rSetL)) δ P := fun G I0 σ H I D n r c => by
  refine hv G σ H I n.s n.h r _ fun v H1 I1 n1 rv => ?_
  have r1 := r.next n1
  obtain ⟨p, vs, h1, h2, h3, h4, h5⟩ := r1.own i xs e
  refine ⟨.ref p, h1, ?_⟩
  refine hi G σ H1 I1 n1.s (n1.g n.h) r1 _ fun w H2 I2 n2 rw' => ?_
  cases rw'
  have r2 := r1.next n2
  obtain ⟨p', vs', h1', h2', h3', h4', h5'⟩ := r2.own i xs e
  rw [h1] at h1'
  cases h1'
  have n3 := (n.trans n1).trans n2
  refine ⟨p, vs', kk, j, rfl, rfl, h4', by rw [h5'.length]; exact hj, ?_⟩
  refine c.nx _ _ _ I2 k ⟨fun b o eb => ?_, n3.i, fun b o eb => ?_, n3.f⟩ (r2.write e h1 (RpAll.set (rv.mono n2.i) j h5'))
  · rw [upd_ne (ne_of_none eb h2')]
    exact n3.h b o eb
  · rw [upd_ne (ne_of_none eb h3')]
    exact n3.s b o eb
/-- xs.extend(e), e a new list -/
theorem as_ext {i : Nat} (e : δ[i]? = some (.own xs)) (h : EvN K te δ ys) (hz : xs.length + ys.length ≤ sizeLine) (k : P (.nx (δ.set i (.own (xs ++ ys))))) :
    As K E (tDrop (tBM K "list" rExtend (tVar i) (tCons te tNil))) δ P := fun G I0 σ H I D n r c => by
  obtain ⟨p, vs, h1, h2, h3, h4, h5⟩ := r.own i xs e
  refine ⟨.ref p, h1, .inl ⟨rfl, _, .inl (.inl h4)⟩, ?_⟩
  refine h G σ H I n.s n.h r _ fun q H1 I1 ws n1 hq rv => ?_
  have n1' := n1.trans (Nx.own (o := .lst ws) n1.s hq)
  have r1 := r.next n1'
  obtain ⟨p', vs', h1', h2', h3', h4', h5'⟩ := r1.own i xs e
  rw [h1] at h1'
  cases h1'
  refine ⟨p, q, vs', ws, rfl, rfl, h4', upd_same, by rw [h5'.length, rv.length]; exact hz, ?_⟩
  have n2 := n.trans n1'
  refine c.nx _ _ _ I1 k ⟨fun b o eb => ?_, n2.i, fun b o eb => ?_, n2.f⟩ (r1.write e h1 (h5'.app rv))
  · rw [upd_ne (ne_of_none eb h2)]
    exact n2.h b o eb
  · rw [upd_ne (ne_of_none eb h3')]
    exact n2.s b o eb

/-! ### while -/
theorem as_while (W : Nat → List Sl → Prop) (m0 : Nat) (h0 : W m0 δ)
    (hs : ∀ m δ', W m δ' → ∃ b, EvT K tt δ' b ∧ (b = true → As K E t δ' (fun o => match o with
        | .nx δ3 => ∃ m', m' < m ∧ W m' δ3
        | .ct δ3 => ∃ m', m' < m ∧ W m' δ3
        | .bk δ3 => P (.nx δ3)
        | .rt x => P (.rt x)
        | .ex c => P (.ex c)
        | .exd c fs => P (.exd c fs))) ∧ (b = false → P (.nx δ'))) : As K E (tWhile tt t) δ P := fun G I0 σ H I D n r c => by
  refine ⟨fun m σ' H' => ∃ δ' I', W m δ' ∧ Nx G I0 H' I' ∧ RelS K G H' I' σ' δ', ⟨m0, δ, I, h0, n, r⟩, fun m σ1 H1 w1 => ?_⟩
  obtain ⟨δ1, I1, w1, n1, r1⟩ := w1
  obtain ⟨b, ht, hb1, hb2⟩ := hs m δ1 w1
  refine ht G σ1 H1 I1 n1.s n1.h r1 _ fun H2 I2 n2 => ?_
  cases b with
  | true =>
    rw [if_pos rfl]
    refine ⟨fun σ' H' => ∃ m', m' < m ∧ ∃ δ' I', W m' δ' ∧ Nx G I0 H' I' ∧ RelS K G H' I' σ' δ', fun _ _ q => q, ?_⟩
    refine hb1 rfl G I0 σ1 H2 I2 _ (n1.trans n2) (r1.next n2) ⟨fun δ' σ' H' I' p n' r' => ?_, fun δ' σ' H' I' p n' r' => c.nx δ' σ' H' I' p n' r', fun δ' σ' H' I' p n' r' => ?_, c.rt, c.ex, c.exd⟩
    · obtain ⟨m', hm, w'⟩ := p
      exact ⟨m', hm, δ', I', w', n', r'⟩
    · obtain ⟨m', hm, w'⟩ := p
      exact ⟨m', hm, δ', I', w', n', r'⟩
  | false =>
    rw [if_neg Bool.false_ne_true]
    exact c.nx δ1 σ1 H2 I2 (hb2 rfl) (n1.trans n2) (r1.next n2)
end

/-! ### what is walked -/
/-- J yields these, one after another, wherever the world has come from (H0, I0) -/
structure WalkD (K : PySem.W.Frag) (J : It) (I0 : Hp) (items : List PyData) : Prop where
  goes : ∀ i H I, Same I0 I → Same I H → i < items.length → J.go i H
  stops : ∀ H I, Same I0 I → Same I H → J.stop items.length H
  yields : ∀ i H I x H', Same I0 I → Same I H → i < items.length → J.yld i H x H' → ∃ I', Nx H I H' I' ∧ ∀ d, items[i]? = some d → Rp K I' x d
def EvI (K : PySem.W.Frag) (wi : TI) (δ : List Sl) (items : List PyData) : Prop := ∀ G σ H I, Same I H → Same G H → RelS K G H I σ δ → ∀ R : It → Hp → Prop, (∀ J H' I', Nx H I H' I' → WalkD K J I' items → R J H') → wi σ H R
/-- a target -/
def Ag (K : PySem.W.Frag) (g : TG) (x : PyData) (δ : List Sl) (Pd : List Sl → Prop) : Prop := ∀ G σ H I v, RelS K G H I σ δ → Same I H → Rp K I v x → ∀ Q : L2.St → Hp → Prop, (∀ δ' σ', Pd δ' → RelS K G H I σ' δ' → Q σ' H) → g v σ H Q
section
variable {K : PySem.W.Frag} {E : XK} {δ : List Sl} {ta tb te : TE} {tt : TT} {t u : TS} {x y z : PyData} {xs ys : List PyData} {P P' : Out → Prop} {Pd : List Sl → Prop}
theorem ag_name {i : Nat} (k : Pd (δ.set i (.d x))) : Ag K (gName i) x δ Pd := fun G σ H I v r s rv Q q => q _ _ k (r.put rv)
theorem ag_tup2 {i j : Nat} (k : Pd ((δ.set i (.d x)).set j (.d y))) : Ag K (gTup K 2 (gCons (gName i) (gCons (gName j) gNil))) (.tuple [x, y]) δ Pd := fun G σ H I v r s rv Q q => by
  cases rv with
  | tup hs ra =>
    cases ra with
    | cons r1 ra =>
      cases ra with
      | cons r2 ra =>
        cases ra
        exact ⟨_, _, rfl, .of (s _ _ hs), rfl, _, _, rfl, _, _, rfl, rfl, q _ _ k ((r.put r1).put r2)⟩
theorem ag_tup3 {i j l : Nat} (k : Pd (((δ.set i (.d x)).set j (.d y)).set l (.d z))) : Ag K (gTup K 3 (gCons (gName i) (gCons (gName j) (gCons (gName l) gNil)))) (.tuple [x, y, z]) δ Pd := fun G σ H I v r s rv Q q => by
  cases rv with
  | tup hs ra =>
    cases ra with
    | cons r1 ra =>
      cases ra with
      | cons r2 ra =>
        cases ra with
        | cons r3 ra =>
          cases ra
          exact ⟨_, _, rfl, .of (s _ _ hs), rfl, _, _, rfl, _, _, rfl, _, _, rfl, rfl, q _ _ k (((r.put r1).put r2).put r3)⟩
theorem ei_list (h : Ev K te δ (.list xs)) : EvI K (iList K te) δ xs := fun G σ H I s g r R q =>
  h G σ H I s g r _ fun v H1 I1 n1 rv => by
    cases rv with
    | lst hs ra =>
      refine ⟨_, rfl, ⟨_, .of (n1.s _ _ hs)⟩, q _ H1 I1 n1 ⟨fun i H2 I2 e1 e2 hi => ?_, fun H2 I2 e1 e2 => ?_, fun i H2 I2 w H3 e1 e2 hi y => ?_⟩⟩
      · obtain ⟨v, hv, _⟩ := ra.get (List.getElem?_eq_getElem hi)
        exact ⟨_, v, SqL.of ((e1.trans e2) _ _ hs), hv⟩
      · exact ⟨_, SqL.of ((e1.trans e2) _ _ hs), by rw [ra.length]; exact Nat.le_refl _⟩
      · obtain ⟨e, y⟩ := y
        subst e
        refine ⟨I2, Nx.refl e2, fun d hd => ?_⟩
        obtain ⟨v, hv, rv⟩ := ra.get hd
        have hw := y _ (SqL.of ((e1.trans e2) _ _ hs))
        rw [hv] at hw
        cases hw
        exact rv.mono e1
theorem ei_tup (h : Ev K te δ (.tuple xs)) : EvI K (iTup K te) δ xs := fun G σ H I s g r R q =>
  h G σ H I s g r _ fun v H1 I1 n1 rv => by
    cases rv with
    | tup hs ra =>
      refine ⟨_, rfl, ⟨_, .of (n1.s _ _ hs)⟩, q _ H1 I1 n1 ⟨fun i H2 I2 e1 e2 hi => ?_, fun H2 I2 e1 e2 => ?_, fun i H2 I2 w H3 e1 e2 hi y => ?_⟩⟩
      · obtain ⟨v, hv, _⟩ := ra.get (List.getElem?_eq_getElem hi)
        exact ⟨_, v, SqT.of ((e1.trans e2) _ _ hs), hv⟩
      · exact ⟨_, SqT.of ((e1.trans e2) _ _ hs), by rw [ra.length]; exact Nat.le_refl _⟩
      · obtain ⟨e, y⟩ := y
        subst e
        refine ⟨I2, Nx.refl e2, fun d hd => ?_⟩
        obtain ⟨v, hv, rv⟩ := ra.get hd
        have hw := y _ (SqT.of ((e1.trans e2) _ _ hs))
        rw [hv] at hw
        cases hw
        exact rv.mono e1
/-- lo, lo + 1, .. -/
def nums (lo : Int) (n : Nat) : List PyData := (List.range n).map fun (i : Nat) => PyData.int (lo + i)
theorem nums_len {lo : Int} {n : Nat} : (nums lo n).length = n := by unfold nums; rw [List.length_map, List.length_range]
theorem nums_get {lo : Int} {n i : Nat} {d : PyData} (h : (nums lo n)[i]? = some d) : i < n ∧ d = .int (lo + i) := by
  unfold nums at h
  rw [List.getElem?_map] at h
  by_cases hi : i < n
  · rw [List.getElem?_range hi] at h
    exact ⟨hi, (Option.some.inj h).symm⟩
  · rw [List.getElem?_eq_none_iff.mpr (by rw [List.length_range]; omega)] at h
    cases h
theorem walk_nums {I0 : Hp} {lo : Int} {n : Nat} : WalkD K (Itr lo n) I0 (nums lo n) := by
  refine ⟨fun i H2 I2 e1 e2 hi => ?_, fun H2 I2 e1 e2 => ?_, fun i H2 I2 w H3 e1 e2 hi y => ?_⟩
  · rw [nums_len] at hi
    exact hi
  · show n ≤ (nums lo n).length
    rw [nums_len]
    exact Nat.le_refl _
  · obtain ⟨e, y⟩ := y
    subst e y
    refine ⟨I2, Nx.refl e2, fun d hd => ?_⟩
    obtain ⟨_, rfl⟩ := nums_get hd
    exact .int _
theorem ei_rng1 {t : TA} {n : Int} (h : EvA K t δ [.int n]) (h1 : -(2 ^ 62) ≤ n) (h2 : n < 2 ^ 62) : EvI K (iRng1 t) δ (nums 0 n.toNat) := fun G σ H I s g r R q =>
  h G σ H I s g r _ fun vs H1 I1 n1 rv => by
    cases rv with
    | cons r1 rv =>
      cases rv
      cases r1
      exact ⟨n, rfl, h1, h2, q _ H1 I1 n1 walk_nums⟩

/-- for target in ..: body -/
theorem as_for {wi : TI} {g : TG} (hi : EvI K wi δ xs) (Pv : Nat → List Sl → Prop) (h0 : Pv 0 δ)
    (hs : ∀ i d δ', xs[i]? = some d → Pv i δ' → Ag K g d δ' (fun δ2 => As K E t δ2 (fun o => match o with
        | .nx δ3 => Pv (i + 1) δ3
        | .ct δ3 => Pv (i + 1) δ3
        | .bk δ3 => P (.nx δ3)
        | .rt x => P (.rt x)
        | .ex c => P (.ex c)
        | .exd c fs => P (.exd c fs)))) (hd : ∀ δ', Pv xs.length δ' → P (.nx δ')) : As K E (tFor wi g t) δ P := fun G I0 σ H I D n r c => by
  refine hi G σ H I n.s n.h r _ fun J H1 I1 n1 w => ?_
  have nb := n.trans n1
  refine ⟨fun i m σ' H' => m = xs.length - i ∧ i ≤ xs.length ∧ ∃ δ' I', Pv i δ' ∧ Nx G I1 H' I' ∧ RelS K G H' I' σ' δ', ⟨xs.length, by simp, Nat.zero_le _, δ, I1, h0, nb.here, r.next n1⟩, ?_⟩
  rintro i m σ2 H2 ⟨rfl, hle, δ2, I2, p2, n2, r2⟩
  by_cases hlt : i < xs.length
  · refine .inr ⟨w.goes i H2 I2 n2.i n2.s hlt, fun σ' H' => ∃ δ' I', Pv (i + 1) δ' ∧ Nx G I1 H' I' ∧ RelS K G H' I' σ' δ', fun σ' H' ⟨δ', I', a, b, cc⟩ => ⟨xs.length - (i + 1), by omega, rfl, hlt, δ', I', a, b, cc⟩, fun v H3 y => ?_⟩
    obtain ⟨I3, n3, rv⟩ := w.yields i H2 I2 v H3 n2.i n2.s hlt y
    have n3' := n2.trans n3
    refine hs i _ δ2 (List.getElem?_eq_getElem hlt) p2 G σ2 H3 I3 v (r2.next n3) n3.s (rv _ (List.getElem?_eq_getElem hlt)) _ fun δ4 σ4 a4 r4 => ?_
    refine a4 G I1 σ4 H3 I3 _ n3' r4 ⟨fun δ' σ' H' I' p n' r' => ⟨δ', I', p, n', r'⟩, fun δ' σ' H' I' p n' r' => c.nx δ' σ' H' I' p (nb.rebase n') r', fun δ' σ' H' I' p n' r' => ⟨δ', I', p, n', r'⟩, fun x v H' I' p n' r' => c.rt x v H' I' p (nb.rebase n') r', c.ex, c.exd⟩
  · have e : i = xs.length := by omega
    subst e
    exact .inl ⟨w.stops H2 I2 n2.i n2.s, c.nx δ2 σ2 H2 I2 (hd δ2 p2) (nb.rebase n2) r2⟩

/-! ### comprehensions -/
def wipeD (δ : List Sl) : List Nat → List Sl
  | [] => δ
  | v :: vs => (wipeD δ vs).set v .no
theorem RelS.wipe {G H I : Hp} {σ : L2.St} {δ : List Sl} (r : RelS K G H I σ δ) : ∀ vs : List Nat, RelS K G H I (L2.wipe σ vs) (wipeD δ vs)
  | [] => r
  | v :: vs => (RelS.wipe r vs).none
/-- the target's slots lie among the wiped ones -/
def GWipe (g : TG) (vs : List Nat) : Prop := ∀ v σ H (Q Q' : L2.St → Hp → Prop), (∀ σ', L2.wipe σ' vs = L2.wipe σ vs → Q σ' H → Q' σ' H) → g v (L2.wipe σ vs) H Q → g v (L2.wipe σ vs) H Q'
/-- what a comprehension collects: c i tells whether the i-th item is kept, f i its value -/
def kept (n : Nat) (c : Nat → Bool) (f : Nat → PyData) : List PyData := ((List.range n).filter c).map f
theorem kept_zero {c : Nat → Bool} {f : Nat → PyData} : kept 0 c f = [] := rfl
theorem kept_yes {n : Nat} {c : Nat → Bool} {f : Nat → PyData} (h : c n = true) : kept (n + 1) c f = kept n c f ++ [f n] := by
  unfold kept
  rw [List.range_succ, List.filter_append, List.map_append, List.filter_cons, if_pos h]
  rfl
theorem kept_no {n : Nat} {c : Nat → Bool} {f : Nat → PyData} (h : c n = false) : kept (n + 1) c f = kept n c f := by
  unfold kept
  rw [List.range_succ, List.filter_append, List.map_append, List.filter_cons, if_neg (by rw [h]; decide)]
  show _ ++ [] = _
  rw [List.append_nil]
theorem kept_len (n : Nat) (c : Nat → Bool) (f : Nat → PyData) : (kept n c f).length ≤ n := by
  unfold kept
  rw [List.length_map]
  have h := List.length_filter_le c (List.range n)
  rw [List.length_range] at h
  exact h
theorem en_lc {wi : TI} {g : TG} {vs : List Nat} (c : Nat → Bool) (f : Nat → PyData) (hi : EvI K wi δ xs) (hz : xs.length ≤ sizeLine) (hw : GWipe g vs)
    (hs : ∀ i d, xs[i]? = some d → Ag K g d (wipeD δ vs) (fun δ2 => EvT K tt δ2 (c i) ∧ (c i = true → Ev K te δ2 (f i)))) : EvN K (tLc wi g tt te vs) δ (kept xs.length c f) := fun G σ H I s gg r Q q => by
  refine hi G σ H I s gg r _ fun J H1 I1 n1 w => ?_
  intro D hD
  -- the list at D stands in H alone
  have key : ∀ i m H2, (m = xs.length - i ∧ i ≤ xs.length ∧ ∃ H3 I3 ws, H3 D = none ∧ Nx H1 I1 H3 I3 ∧ H2 = upd H3 D (.lst ws) ∧ RpAll K I3 ws (kept i c f)) →
      (J.stop i H2 ∧ Q (.ref D) H2) ∨ (J.go i H2 ∧ ∃ Nt : Hp → Prop, (∀ H', Nt H' → ∃ m', m' < m ∧ (m' = xs.length - (i + 1) ∧ i + 1 ≤ xs.length ∧ ∃ H3 I3 ws, H3 D = none ∧ Nx H1 I1 H3 I3 ∧ H' = upd H3 D (.lst ws) ∧ RpAll K I3 ws (kept (i + 1) c f))) ∧
        ∀ x H', J.yld i H2 x H' → g x (L2.wipe σ vs) H' fun σ2 H2 => L2.wipe σ2 vs = L2.wipe σ vs ∧ tt σ2 H2 fun b H3 =>
          if b = true then te σ2 H3 fun y H4 => ∃ acc, H4 D = some (.lst acc) ∧ acc.length < sizeLine ∧ Nt (upd H4 D (.lst (acc ++ [y]))) else Nt H3) := by
    rintro i m H2 ⟨rfl, hle, H3, I3, ws, hD3, n3, rfl, rw3⟩
    have s3 : Same I3 (upd H3 D (.lst ws)) := n3.s.trans (same_new hD3)
    have nO : Nx H3 I3 (upd H3 D (.lst ws)) I3 := Nx.own n3.s hD3
    by_cases hlt : i < xs.length
    · refine .inr ⟨w.goes i _ I3 n3.i s3 hlt, fun H' => i + 1 ≤ xs.length ∧ ∃ H3 I3 ws, H3 D = none ∧ Nx H1 I1 H3 I3 ∧ H' = upd H3 D (.lst ws) ∧ RpAll K I3 ws (kept (i + 1) c f), fun H' p => ⟨xs.length - (i + 1), by omega, rfl, p⟩, fun x H4 y => ?_⟩
      obtain ⟨I4, n4, rv⟩ := w.yields i _ I3 x H4 n3.i s3 hlt y
      have hx : xs[i]? = some xs[i] := List.getElem?_eq_getElem hlt
      have hD4 : H4 D = some (.lst ws) := n4.h D _ upd_same
      have iD4 : I4 D = none := n4.f D _ upd_same (n3.s.free hD3)
      have r4 : RelS K G H4 I4 σ δ := ((r.next n1).next (n3.trans nO)).next n4
      have g4 : Same G H4 := ((gg.trans n1.h).trans (n3.trans nO).h).trans n4.h
      -- a state behind H4 in which D still holds ws: what stands without D
      have back : ∀ H5 I5, Nx H4 I4 H5 I5 → ∀ ws' ys, RpAll K I5 ws' ys → ∃ H6 I6 ws2, H6 D = none ∧ Nx H1 I1 H6 I6 ∧ upd H5 D (.lst ws') = upd H6 D (.lst ws2) ∧ RpAll K I6 ws2 ys := fun H5 I5 n5 ws' ys ra => by
        have hD5 : H5 D = some (.lst ws) := n5.h D _ hD4
        have iD5 : I5 D = none := n5.f D _ hD4 iD4
        have nn := (nO.trans n4).trans n5
        refine ⟨fun b => if b = D then none else H5 b, I5, ws', if_pos rfl, ⟨fun b o eb => ?_, (n3.i.trans n4.i).trans n5.i, fun b o eb => ?_, fun b o eb nb => ?_⟩, ?_, ra⟩
        · have hb : b ≠ D := ne_of_none eb hD
          show (if b = D then none else H5 b) = _
          rw [if_neg hb]
          exact nn.h b o (n3.h b o eb)
        · have hb : b ≠ D := ne_of_none eb iD5
          show (if b = D then none else H5 b) = _
          rw [if_neg hb]
          exact n5.s b o eb
        · exact nn.f b o (n3.h b o eb) (n3.f b o eb nb)
        · funext b
          unfold upd
          by_cases hb : b = D
          · rw [if_pos hb, if_pos hb]
          · rw [if_neg hb, if_neg hb]
            exact (if_neg hb).symm
      refine hw x σ H4 (fun σ2 H2 => tt σ2 H2 fun b H3 => if b = true then te σ2 H3 fun y H4 => ∃ acc, H4 D = some (.lst acc) ∧ acc.length < sizeLine ∧ (i + 1 ≤ xs.length ∧ ∃ H3' I3 ws, H3' D = none ∧ Nx H1 I1 H3' I3 ∧ upd H4 D (.lst (acc ++ [y])) = upd H3' D (.lst ws) ∧ RpAll K I3 ws (kept (i + 1) c f)) else (i + 1 ≤ xs.length ∧ ∃ H3' I3 ws, H3' D = none ∧ Nx H1 I1 H3' I3 ∧ H3 = upd H3' D (.lst ws) ∧ RpAll K I3 ws (kept (i + 1) c f))) _ (fun σ' e q => ⟨e, q⟩) ?_
      refine hs i _ hx G (L2.wipe σ vs) H4 I4 x (r4.wipe vs) n4.s (rv _ hx) _ fun δ5 σ5 a5 r5 => ?_
      refine a5.1 G σ5 H4 I4 n4.s g4 r5 _ fun H5 I5 n5 => ?_
      cases hc : c i with
      | true =>
        rw [if_pos rfl]
        refine a5.2 hc G σ5 H5 I5 n5.s (n5.g g4) (r5.next n5) _ fun v H6 I6 n6 rv6 => ?_
        have nn := n5.trans n6
        have hl : ws.length ≤ i := by rw [rw3.length]; exact kept_len _ _ _
        refine ⟨ws, nn.h D _ hD4, by omega, hlt, back H6 I6 nn _ _ ?_⟩
        rw [kept_yes hc]
        exact (rw3.mono (n4.i.trans nn.i)).app (.cons rv6 .nil)
      | false =>
        rw [if_neg Bool.false_ne_true]
        obtain ⟨H6, I6, ws2, b1, b2, b3, b4⟩ := back H5 I5 n5 ws (kept (i + 1) c f) (by rw [kept_no hc]; exact rw3.mono (n4.i.trans n5.i))
        refine ⟨hlt, H6, I6, ws2, b1, b2, ?_, b4⟩
        rw [← b3]
        funext b
        unfold upd
        by_cases hb : b = D
        · rw [if_pos hb, hb]
          exact n5.h D _ hD4
        · rw [if_neg hb]
    · have e : i = xs.length := by omega
      subst e
      exact .inl ⟨w.stops _ I3 n3.i s3, q D H3 I3 ws (n1.trans n3) hD3 rw3⟩
  refine ⟨fun i m H2 => m = xs.length - i ∧ i ≤ xs.length ∧ ∃ H3 I3 ws, H3 D = none ∧ Nx H1 I1 H3 I3 ∧ H2 = upd H3 D (.lst ws) ∧ RpAll K I3 ws (kept i c f), ⟨xs.length, by simp, Nat.zero_le _, H1, I1, [], hD, Nx.refl n1.s, rfl, .nil⟩, fun i m H2 p => key i m H2 p⟩
theorem gw_name {i : Nat} {vs : List Nat} (h : ∀ σ : L2.St, ∀ v, L2.wipe ((L2.wipe σ vs).set i (some v)) vs = L2.wipe σ vs) : GWipe (gName i) vs := fun v σ H Q Q' k q => k _ (h σ v) q
theorem kept_map {n : Nat} {f : Nat → PyData} : kept n (fun _ => true) f = (List.range n).map f := by
  unfold kept
  rw [List.filter_eq_self.mpr (fun _ _ => rfl)]
theorem et_yes : EvT K tYes δ true := fun G σ H I s g r Q q => q H I (Nx.refl s)
end

/-! ### defs -/
/-- the promise of a def over data: F tells what comes of the arguments -/
def SpD (K : PySem.W.Frag) (F : List PyData → Out → Prop) : Sp := fun vs H Q E => ∃ I ds o, Same I H ∧ RpAll K I vs ds ∧ F ds o ∧ match o with
  | .rt x => ∀ v H' I', Nx H I H' I' → Rp K I' v x → Q v H'
  | .ex c => ∀ H', Same H H' → E c none H'
  | .exd c fs => ∀ d H', Same H H' → H' d = some (.xd fs) → E c (some d) H'
  | _ => False
/-- the slots at the start -/
def slots0 (n : Nat) (ds : List PyData) : List Sl := ds.map .d ++ List.replicate (n - ds.length) .no
/-- the body's end is the call's -/
def finP (o : Out) : Out → Prop
  | .rt x => o = .rt x
  | .nx _ => o = .rt .none
  | .ex c => o = .ex c
  | .exd c fs => o = .exd c fs
  | _ => False
theorem rel_start {K : PySem.W.Frag} {H I : Hp} {N : List Str} {vs : List V} {ds : List PyData} (r : RpAll K I vs ds) : RelS K H H I (L2.start N vs) (slots0 N.length ds) where
  len := by
    unfold L2.start slots0
    rw [List.length_append, List.length_append, List.length_map, List.length_map, List.length_replicate, List.length_replicate, r.length]
  d := fun i x e => by
    unfold slots0 at e
    by_cases hi : i < ds.length
    · rw [List.getElem?_append_left (by rw [List.length_map]; exact hi), List.getElem?_map, List.getElem?_eq_getElem hi] at e
      have e' : Sl.d ds[i] = .d x := Option.some.inj e
      cases e'
      obtain ⟨v, hv, rv⟩ := r.get (List.getElem?_eq_getElem hi)
      refine ⟨v, ?_, rv⟩
      unfold L2.start
      rw [List.getElem?_append_left (by rw [List.length_map, r.length]; exact hi), List.getElem?_map, hv]
      rfl
    · rw [List.getElem?_append_right (by rw [List.length_map]; omega)] at e
      have := List.mem_of_getElem? e
      have := List.eq_of_mem_replicate this
      cases this
  own := fun i xs e => by
    unfold slots0 at e
    by_cases hi : i < ds.length
    · rw [List.getElem?_append_left (by rw [List.length_map]; exact hi), List.getElem?_map, List.getElem?_eq_getElem hi] at e
      have e' : Sl.d ds[i] = .own xs := Option.some.inj e
      cases e'
    · rw [List.getElem?_append_right (by rw [List.length_map]; omega)] at e
      have := List.mem_of_getElem? e
      have := List.eq_of_mem_replicate this
      cases this
  sep := fun i j xs ys p hn e1 e2 => by
    unfold slots0 at e1
    by_cases hi : i < ds.length
    · rw [List.getElem?_append_left (by rw [List.length_map]; exact hi), List.getElem?_map, List.getElem?_eq_getElem hi] at e1
      have e' : Sl.d ds[i] = .own xs := Option.some.inj e1
      cases e'
    · rw [List.getElem?_append_right (by rw [List.length_map]; omega)] at e1
      have := List.mem_of_getElem? e1
      have := List.eq_of_mem_replicate this
      cases this
  dic := fun i xs e => by
    unfold slots0 at e
    by_cases hi : i < ds.length
    · rw [List.getElem?_append_left (by rw [List.length_map]; exact hi), List.getElem?_map, List.getElem?_eq_getElem hi] at e
      have e' : Sl.d ds[i] = .dic xs := Option.some.inj e
      cases e'
    · rw [List.getElem?_append_right (by rw [List.length_map]; omega)] at e
      have := List.mem_of_getElem? e
      have := List.eq_of_mem_replicate this
      cases this
  sepd := fun i j xs ys p hn e1 e2 => by
    unfold slots0 at e1
    by_cases hi : i < ds.length
    · rw [List.getElem?_append_left (by rw [List.length_map]; exact hi), List.getElem?_map, List.getElem?_eq_getElem hi] at e1
      have e' : Sl.d ds[i] = .dic xs := Option.some.inj e1
      cases e'
    · rw [List.getElem?_append_right (by rw [List.length_map]; omega)] at e1
      have := List.mem_of_getElem? e1
      have := List.eq_of_mem_replicate this
      cases this
theorem as_run {K : PySem.W.Frag} {N : List Str} {t : TS} {F : List PyData → Out → Prop} {vs : List V} {H : Hp} {Q : VK} {E : XK} (h : SpD K F vs H Q E) (ha : ∀ ds o, F ds o → As K E t (slots0 N.length ds) (finP o)) :
    t { nx := fun _ H' => Q .non H', rt := Q } (L2.start N vs) H := by
  obtain ⟨I, ds, o, s, r, f, k⟩ := h
  refine ha ds o f H I (L2.start N vs) H I _ (Nx.refl s) (rel_start r) ⟨fun δ' σ' H' I' p n' r' => ?_, fun δ' σ' H' I' p => p.elim, fun δ' σ' H' I' p => p.elim, fun x v H' I' p n' r' => ?_, fun c H' p e => ?_, fun c fs d H' p e e2 => ?_⟩
  · have p' : o = .rt .none := p
    subst p'
    exact k .non H' I' n' .non
  · have p' : o = .rt x := p
    subst p'
    exact k v H' I' n' r'
  · have p' : o = .ex c := p
    subst p'
    exact k H' e
  · have p' : o = .exd c fs := p
    subst p'
    exact k d H' e e2
theorem sp_len {K : PySem.W.Frag} {F : List PyData → Out → Prop} {n : Nat} (h : ∀ ds o, F ds o → ds.length = n) : ∀ vs H Q E, SpD K F vs H Q E → vs.length = n := fun vs H Q E ⟨I, ds, o, s, r, f, k⟩ => by
  rw [r.length]
  exact h ds o f
section
variable {P : Program} {w : World} {K : PySem.W.Frag} {mg : Str → Option Value} {base : Heap}
/-- a def: its body's term t, and what it comes to over data -/
theorem def_ok {x qual : Str} {st : Stmt} {f : Addr} {fd : FuncData} {N ps : List Str} {k : Nat} {F : List PyData → Out → Prop} (FF : Fun K x qual st f fd) (S : FnScope N ps (defScope st)) (len : ∀ ds o, F ds o → ds.length = ps.length)
    (hbody : ∀ (cdv : Value) (A : Around) (outer : List Env) (s : Shared) (H : Hp) (E : XK), Room k (A.deeper (envOfC qual (defScope st) s.heap.objs.size f cdv)) →
      ∃ t, PSs (cxOf (L2.CX P w) P w K mg base N qual (defScope st) f cdv A outer s H E) (defBody st) t ∧ ∀ ds o, F ds o → As K E t (slots0 N.length ds) (finP o)) : FnOk P w K mg base (L2.CX P w) (k + 1) f fd ps (SpD K F) := by
  refine FF.okX S (sp_len len) (fun cdv A outer s H vs Q E hr h => ?_)
  obtain ⟨t, h1, h2⟩ := hbody cdv A outer s H E hr
  exact ⟨t, h1, as_run h h2⟩
/-- the law itself: nothing leaves it -/
theorem law_ok {x qual : Str} {st : Stmt} {f : Addr} {fd : FuncData} {N ps : List Str} {k : Nat} {F : List PyData → Out → Prop} (FF : Fun K x qual st f fd) (S : FnScope N ps (defScope st)) (len : ∀ ds o, F ds o → ds.length = ps.length)
    (hbody : ∀ (cdv : Value) (A : Around) (outer : List Env) (s : Shared) (H : Hp) (E : XK), Room k (A.deeper (envOfC qual (defScope st) s.heap.objs.size f cdv)) →
      ∃ t, PSs (cxOf CX0 P w K mg base N qual (defScope st) f cdv A outer s H E).nox (defBody st) t ∧ ∀ ds o, F ds o → As K E t (slots0 N.length ds) (finP o)) : FnOk P w K mg base CX0 (k + 1) f fd ps (SpD K F) := by
  refine FF.ok S (sp_len len) (fun cdv A outer s H vs Q E hr h => ?_)
  obtain ⟨t, h1, h2⟩ := hbody cdv A outer s H E hr
  exact ⟨t, h1, as_run h h2⟩
end
section
variable {K : PySem.W.Frag} {δ : List Sl} {xs : List PyData} {x : PyData} {ta : TA} {F : List PyData → Out → Prop} {W : WX} {c : Value}
/-- a call -/
theorem ev_call (ha : EvA K ta δ xs) (hF : F xs (.rt x)) : Ev K (tCallS (SpD K F) (WE W) ta) δ x := fun G σ H I s g r Q q =>
  ha G σ H I s g r _ fun vs H1 I1 n1 r1 => ⟨I1, xs, .rt x, n1.s, r1, hF, fun v H2 I2 n2 r2 => q v H2 I2 (n1.trans n2) r2⟩
theorem ex_call {E : XK} (ha : EvA K ta δ xs) (hF : F xs (.ex c)) : EvX K E (tCallS (SpD K F) (WE fun cls d _ H => E cls d H) ta) δ c := fun G σ H I s g r he Q =>
  ha G σ H I s g r _ fun vs H1 I1 n1 r1 => ⟨I1, xs, .ex c, n1.s, r1, hF, fun H2 e => he H2 (n1.h.trans e)⟩
end
end Tw

/-! Tw2: operators, built-in calls and subscripts over data. -/
namespace Tw
open PySem PySem.Spec PyProof.Rows L2
section
variable {X : Cx}
def rCatS : R2 := fun x y H Q => ∃ i j, x = .str i ∧ y = .str j ∧ i.length + j.length ≤ sizeLine ∧ Q (.str (i ++ j)) H
def rPlus : R2 := rI0 fun i j => .int (i + j)
def rMinus : R2 := rI0 fun i j => .int (i - j)
def rAddA (K : PySem.W.Frag) : R2 := fun x y H Q => rPlus x y H Q ∨ (fun x y H Q => rCatA K x y H Q ∨ (fun x y H Q => rCat x y H Q ∨ rCatS x y H Q) x y H Q) x y H Q
theorem opAdd : OpR X (binaryOp .Add) (rAddA X.K) := OpR.or op_add (OpR.or op_catA (OpR.or op_cat op_add_str))
theorem opSub : OpR X (binaryOp .Sub) rMinus := op_sub
def rTimes : R2 := rI CMulW fun i j => .int (i * j)
def rTimesB : R2 := rI CMul fun i j => .int (i * j)
def rMulA (K : PySem.W.Frag) : R2 := fun x y H Q => rTimes x y H Q ∨ (fun x y H Q => rTimesB x y H Q ∨ rRepT K x y H Q) x y H Q
theorem opMul : OpR X (binaryOp .Mult) (rMulA X.K) := OpR.or op_mulW (OpR.or op_mul op_repT)
def rQuoW : R2 := rI CDivW fun i j => .int (i / j)
def rQuoN : R2 := rI CDivN fun i j => .int (i.fdiv j)
def rDivA : R2 := fun x y H Q => rQuoW x y H Q ∨ rQuoN x y H Q
theorem opDiv : OpR X (binaryOp .FloorDiv) rDivA := OpR.or op_fdivW op_fdivN
def rModA : R2 := rI (fun _ j => j ≠ 0) fun i j => .int (i.fmod j)
theorem opMod : OpR X (binaryOp .Mod) rModA := op_modN
def rPowA : R2 := rI CPow fun i j => .int (i ^ j.toNat)
theorem opPow : OpR X (binaryOp .Pow) rPowA := op_pow
def rLtA : R2 := rI0 fun i j => .bl (decide (i < j))
def rGtA : R2 := rI0 fun i j => .bl (decide (j < i))
def rGeA : R2 := rI0 fun i j => .bl (decide (j ≤ i))
def rLeI : R2 := rI0 fun i j => .bl (decide (i ≤ j))
def rLeA (K : PySem.W.Frag) : R2 := fun x y H Q => rLeI x y H Q ∨ rLeT K x y H Q
theorem opLt : OpR X (compareOp .Lt) rLtA := op_lt
theorem opGt : OpR X (compareOp .Gt) rGtA := op_gt
theorem opGe : OpR X (compareOp .GtE) rGeA := op_ge
theorem opLe (hu : X.A.units < cLine) : OpR X (compareOp .LtE) (rLeA X.K) := OpR.or op_le (op_leT hu)
theorem opEq (hu : X.A.units + 64 < cLine) : OpR X (compareOp .Eq) (rEqD X.K) := op_eqD hu
theorem opNe (hu : X.A.units + 64 < cLine) : OpR X (compareOp .NotEq) (rNeD X.K) := op_neD hu
def rIsNon : R2 := fun x y H Q => y = .non ∧ Q (.bl (decide (x = .non))) H
def rNotNon : R2 := fun x y H Q => y = .non ∧ Q (.bl (!decide (x = .non))) H
theorem opIsN : OpR X (compareOp .Is) rIsNon := op_isN
theorem opNotN : OpR X (compareOp .IsNot) rNotNon := op_notN
def rNegA : V → Hp → VK → Prop := rU fun i => .int (-i)
theorem unNeg : UnR X (unaryOp .USub) rNegA := un_neg
def rLenA (K : PySem.W.Frag) : List V → Hp → VK → Prop := fun xs H Q => ∃ x n, xs = [x] ∧ LenV K x H n ∧ Q (.int n) H
theorem callLen : CallR X (.builtin "len") (rLenA X.K) := call_len
def rMax2A : List V → Hp → VK → Prop := fun xs H Q => ∃ i j, xs = [.int i, .int j] ∧ Q (.int (if j > i then j else i)) H
def rMin2A : List V → Hp → VK → Prop := fun xs H Q => ∃ i j, xs = [.int i, .int j] ∧ Q (.int (if j < i then j else i)) H
def rTupA (K : PySem.W.Frag) : List V → Hp → VK → Prop := fun xs H Q => ∃ p ys, xs = [.ref p] ∧ ((SqL K H p ys ∧ ∀ l, H l = none → Q (.ref l) (upd H l (.tup ys))) ∨ (SqT K H p ys ∧ Q (.ref p) H))
theorem callTup : CallR X (.type "tuple") (rTupA X.K) := call_tuple_of
def rLstA (K : PySem.W.Frag) : List V → Hp → VK → Prop := fun xs H Q => ∃ p ys, xs = [.ref p] ∧ (SqL K H p ys ∨ SqT K H p ys) ∧ ∀ l, H l = none → Q (.ref l) (upd H l (.lst ys))
theorem callLst : CallR X (.type "list") (rLstA X.K) := call_list_of
def rIntA : List V → Hp → VK → Prop := fun xs H Q => (∃ i, xs = [.int i] ∧ Q (.int i) H) ∨ ∃ k, xs = [.bl k] ∧ Q (.int (if k then 1 else 0)) H
theorem callInt : CallR X (.type "int") rIntA := call_int1
def rAbsA : List V → Hp → VK → Prop := fun xs H Q => ∃ i, xs = [.int i] ∧ Q (.int (if i < 0 then -i else i)) H
theorem callAbs : CallR X (.builtin "abs") rAbsA := call_abs
end
section
variable {K : PySem.W.Frag} {δ : List Sl} {ta tb te : TE} {t u : TT} {x y z : PyData} {xs ys : List PyData} {i j : Int}
/-! ### operators on data -/
theorem rd_plus : R2D K (rAddA K) (.int i) (.int j) (.int (i + j)) := fun H I v u s r1 r2 Q q => by
  cases r1; cases r2
  exact .inl ⟨i, j, rfl, rfl, q _ H I (Nx.refl s) (.int _)⟩
theorem rd_minus : R2D K rMinus (.int i) (.int j) (.int (i - j)) := fun H I v u s r1 r2 Q q => by
  cases r1; cases r2
  exact ⟨i, j, rfl, rfl, q _ H I (Nx.refl s) (.int _)⟩
theorem rd_cat (h : xs.length + ys.length ≤ sizeLine) : R2D K (rAddA K) (.tuple xs) (.tuple ys) (.tuple (xs ++ ys)) := fun H I v u s r1 r2 Q q => by
  cases r1 with
  | tup h1 a1 =>
    cases r2 with
    | tup h2 a2 =>
      refine .inr (.inl ⟨_, _, _, _, rfl, rfl, .of (s _ _ h1), .of (s _ _ h2), by rw [a1.length, a2.length]; exact h, fun e => ?_, fun e e2 => ?_, fun e e2 p hp => ?_⟩)
      · subst e
        cases a1
        exact q _ H I (Nx.refl s) (.tup h2 a2)
      · subst e2
        cases a2
        rw [List.append_nil] at q
        exact q _ H I (Nx.refl s) (.tup h1 a1)
      · exact q _ _ _ (Nx.new s hp) (.tup upd_same ((a1.app a2).mono (same_new (s.free hp))))
theorem rd_cats {a b : Str} (h : a.length + b.length ≤ sizeLine) : R2D K (rAddA K) (.str a) (.str b) (.str (a ++ b)) := fun H I v u s r1 r2 Q q => by
  cases r1; cases r2
  exact .inr (.inr (.inr ⟨a, b, rfl, rfl, h, q _ H I (Nx.refl s) (.str _)⟩))
/-- two lists: a new one -/
theorem en_cat (ha : Ev K ta δ (.list xs)) (hb : Ev K tb δ (.list ys)) (h : xs.length + ys.length ≤ sizeLine) : EvN K (tOp (rAddA K) ta tb) δ (xs ++ ys) := fun G σ H I s g rl Q q =>
  ha G σ H I s g rl _ fun v H1 I1 n1 r1 => hb G σ H1 I1 n1.s (n1.g g) (rl.next n1) _ fun u H2 I2 n2 r2 => by
    cases r1 with
    | lst h1 a1 =>
      cases r2 with
      | lst h2 a2 =>
        have h1' := n2.s _ _ (n2.i _ _ h1)
        exact .inr (.inr (.inl ⟨_, _, _, _, rfl, rfl, h1', n2.s _ _ h2, by rw [a1.length, a2.length]; exact h, fun p hp => q p H2 I2 _ (n1.trans n2) hp ((a1.mono n2.i).app a2)⟩))
theorem rd_times (h : CMulW i j) : R2D K (rMulA K) (.int i) (.int j) (.int (i * j)) := fun H I v u s r1 r2 Q q => by
  cases r1; cases r2
  exact .inl ⟨i, j, rfl, rfl, h, q _ H I (Nx.refl s) (.int _)⟩
/-- one factor is small -/
theorem rd_timesB (h : CMul i j) : R2D K (rMulA K) (.int i) (.int j) (.int (i * j)) := fun H I v u s r1 r2 Q q => by
  cases r1; cases r2
  exact .inr (.inl ⟨i, j, rfl, rfl, h, q _ H I (Nx.refl s) (.int _)⟩)
theorem flat_rep {I : Hp} {vs : List V} (h : RpAll K I vs xs) : ∀ n : Nat, RpAll K I (List.replicate n vs).flatten (List.replicate n xs).flatten
  | 0 => .nil
  | n + 1 => by
    rw [List.replicate_succ, List.replicate_succ, List.flatten_cons, List.flatten_cons]
    exact h.app (flat_rep h n)
theorem rd_rep (h1 : xs ≠ []) (h2 : 2 ≤ j) (h3 : j ≤ 1000) (h4 : xs.length ≤ 1000) : R2D K (rMulA K) (.tuple xs) (.int j) (.tuple (List.replicate j.toNat xs).flatten) := fun H I v u s r1 r2 Q q => by
  cases r1 with
  | tup ht a1 =>
    cases r2
    refine .inr (.inr ⟨_, j, _, rfl, rfl, .of (s _ _ ht), fun e => ?_, h2, h3, by rw [a1.length]; exact h4, fun p hp => ?_⟩)
    · subst e
      cases a1
      exact h1 rfl
    · exact q _ _ _ (Nx.new s hp) (.tup upd_same ((flat_rep a1 _).mono (same_new (s.free hp))))
theorem rd_quo {b : Nat} (h0 : 0 < j) (hb : j < 2 ^ b) (h1 : 0 < b) (h9 : b ≤ 9000) : R2D K rDivA (.int i) (.int j) (.int (i / j)) := fun H I v u s r1 r2 Q q => by
  cases r1; cases r2
  refine .inl ⟨i, j, rfl, rfl, wide_div h0 (b := b) ?_ h1 h9, q _ H I (Nx.refl s) (.int _)⟩
  have e : (j.natAbs : Int) = j := Int.natAbs_of_nonneg (by omega)
  have e2 : ((2 ^ b : Nat) : Int) = (2 : Int) ^ b := by rw [Int.natCast_pow]; rfl
  have : (j.natAbs : Int) < ((2 ^ b : Nat) : Int) := by rw [e, e2]; exact hb
  exact Int.ofNat_lt.mp this
theorem rd_quoN (h : j ≠ 0 ∧ j.natAbs < 1073741824) : R2D K rDivA (.int i) (.int j) (.int (i.fdiv j)) := fun H I v u s r1 r2 Q q => by
  cases r1; cases r2
  exact .inr ⟨i, j, rfl, rfl, h, q _ H I (Nx.refl s) (.int _)⟩
theorem rd_mod (h : 0 < j) : R2D K rModA (.int i) (.int j) (.int (i % j)) := fun H I v u s r1 r2 Q q => by
  cases r1; cases r2
  refine ⟨i, j, rfl, rfl, by omega, ?_⟩
  show Q (.int (i.fmod j)) H
  rw [Int.fmod_eq_emod_of_nonneg i (by omega)]
  exact q _ H I (Nx.refl s) (.int _)
theorem rd_pow (h : CPow i j) : R2D K rPowA (.int i) (.int j) (.int (i ^ j.toNat)) := fun H I v u s r1 r2 Q q => by
  cases r1; cases r2
  exact ⟨i, j, rfl, rfl, h, q _ H I (Nx.refl s) (.int _)⟩
theorem rd_lt : R2D K rLtA (.int i) (.int j) (.bool (decide (i < j))) := fun H I v u s r1 r2 Q q => by
  cases r1; cases r2
  exact ⟨i, j, rfl, rfl, q _ H I (Nx.refl s) (.bl _)⟩
theorem rd_gt : R2D K rGtA (.int i) (.int j) (.bool (decide (j < i))) := fun H I v u s r1 r2 Q q => by
  cases r1; cases r2
  exact ⟨i, j, rfl, rfl, q _ H I (Nx.refl s) (.bl _)⟩
theorem rd_ge : R2D K rGeA (.int i) (.int j) (.bool (decide (j ≤ i))) := fun H I v u s r1 r2 Q q => by
  cases r1; cases r2
  exact ⟨i, j, rfl, rfl, q _ H I (Nx.refl s) (.bl _)⟩
theorem rd_le : R2D K (rLeA K) (.int i) (.int j) (.bool (decide (i ≤ j))) := fun H I v u s r1 r2 Q q => by
  cases r1; cases r2
  exact .inl ⟨i, j, rfl, rfl, q _ H I (Nx.refl s) (.bl _)⟩
theorem rall_ints {I : Hp} : ∀ {ns : List Int} {vs : List V}, RpAll K I vs (ns.map PyData.int) → vs = ns.map V.int
  | [], _, h => by cases h; rfl
  | n :: ns, _, h => by
    cases h with
    | cons h1 h2 =>
      cases h1
      rw [rall_ints h2]
      rfl
theorem ints_rall {I : Hp} : ∀ ns : List Int, RpAll K I (ns.map V.int) (ns.map PyData.int)
  | [] => .nil
  | n :: ns => .cons (.int n) (ints_rall ns)
/-- <= of tuples of whole numbers, as the library tells it -/
def leT (ns ms : List Int) : Bool := Ob.lexAt (fun j => decide (ns.getD j 0 = ms.getD j 0)) (fun j => decide (ns.getD j 0 ≤ ms.getD j 0)) (decide (ns.length ≤ ms.length)) 0 (min ns.length ms.length)
theorem rd_leT {ns ms : List Int} : R2D K (rLeA K) (.tuple (ns.map .int)) (.tuple (ms.map .int)) (.bool (leT ns ms)) := fun H I v u s r1 r2 Q q => by
  cases r1 with
  | tup h1 a1 =>
    cases r2 with
    | tup h2 a2 =>
      have e1 := rall_ints a1
      have e2 := rall_ints a2
      subst e1 e2
      exact .inr ⟨_, _, ns, ms, rfl, rfl, .of (s _ _ h1), .of (s _ _ h2), q _ H I (Nx.refl s) (.bl _)⟩
theorem rd_eq (hx : SeqAt.shaped x = true) (hy : SeqAt.shaped y = true) : R2D K (rEqD K) x y (.bool (PyData.eqv x y)) := fun H I v u s r1 r2 Q q =>
  ⟨x, y, (r1.mono s).dp (SeqAt.canLay_of_shaped hx), (r2.mono s).dp (SeqAt.canLay_of_shaped hy), hx, hy, q _ H I (Nx.refl s) (.bl _)⟩
theorem rd_ne (hx : SeqAt.shaped x = true) (hy : SeqAt.shaped y = true) : R2D K (rNeD K) x y (.bool (!PyData.eqv x y)) := fun H I v u s r1 r2 Q q =>
  ⟨x, y, (r1.mono s).dp (SeqAt.canLay_of_shaped hx), (r2.mono s).dp (SeqAt.canLay_of_shaped hy), hx, hy, q _ H I (Nx.refl s) (.bl _)⟩
def isNon : PyData → Bool
  | .none => true
  | _ => false
theorem rp_non {I : Hp} {v : V} (r : Rp K I v x) : decide (v = .non) = isNon x := by
  cases r <;> rfl
theorem rd_isN : R2D K rIsNon x .none (.bool (isNon x)) := fun H I v u s r1 r2 Q q => by
  cases r2
  exact ⟨rfl, by rw [rp_non r1]; exact q _ H I (Nx.refl s) (.bl _)⟩
theorem rd_notN : R2D K rNotNon x .none (.bool (!isNon x)) := fun H I v u s r1 r2 Q q => by
  cases r2
  exact ⟨rfl, by rw [rp_non r1]; exact q _ H I (Nx.refl s) (.bl _)⟩
theorem ev_neg (h : Ev K ta δ (.int i)) : Ev K (tUn rNegA ta) δ (.int (-i)) := fun G σ H I s g r Q q =>
  h G σ H I s g r _ fun v H1 I1 n1 rv => by
    cases rv
    exact ⟨i, rfl, q _ H1 I1 n1 (.int _)⟩
/-! ### subscripts -/
theorem rd_ixL (h : atI xs i = some z) : R2D K (rIx K) (.list xs) (.int i) z := fun H I v u s r1 r2 Q q => by
  cases r1 with
  | lst h1 a1 =>
    cases r2
    unfold atI at h
    cases e : ixN xs.length i with
    | none => rw [e] at h; cases h
    | some j =>
      rw [e] at h
      obtain ⟨w, hw, rw'⟩ := a1.get (show xs[j]? = some z from h)
      refine .inl ⟨_, _, i, w, rfl, rfl, .of (s _ _ h1), ?_, q w H I (Nx.refl s) rw'⟩
      unfold atI
      rw [a1.length, e]
      exact hw
theorem rd_ixT (h : atI xs i = some z) : R2D K (rIx K) (.tuple xs) (.int i) z := fun H I v u s r1 r2 Q q => by
  cases r1 with
  | tup h1 a1 =>
    cases r2
    unfold atI at h
    cases e : ixN xs.length i with
    | none => rw [e] at h; cases h
    | some j =>
      rw [e] at h
      obtain ⟨w, hw, rw'⟩ := a1.get (show xs[j]? = some z from h)
      refine .inr (.inl ⟨_, _, i, w, rfl, rfl, .of (s _ _ h1), ?_, q w H I (Nx.refl s) rw'⟩)
      unfold atI
      rw [a1.length, e]
      exact hw
theorem at_nat {α : Type} {l : List α} {j : Nat} {a : α} (h : l[j]? = some a) : atI l (j : Int) = some a := atI_nat h
/-! ### slices -/
theorem eo_none : EvO K tNoPart δ none := fun G σ H I s g r Q q => q H I (Nx.refl s)
theorem eo_some (h : Ev K te δ (.int i)) : EvO K (tPart te) δ (some i) := fun G σ H I s g r Q q =>
  h G σ H I s g r _ fun v H1 I1 n1 rv => by
    cases rv
    exact ⟨i, rfl, q H1 I1 n1⟩
def cutD (xs : List PyData) (lo hi : Option Int) : List PyData := (xs.drop (HT.sIx xs.length 0 lo)).take (HT.sIx xs.length xs.length hi - HT.sIx xs.length 0 lo)
theorem cut_rp {I : Hp} {vs : List V} (a : RpAll K I vs xs) (lo hi : Option Int) : RpAll K I (cutV vs lo hi) (cutD xs lo hi) := by
  unfold cutV cutD
  rw [a.length]
  exact (a.drop _).take _
def rSlAll (K : PySem.W.Frag) : V → Option Int → Option Int → Hp → VK → Prop := fun x lo hi H Q => rSlA K x lo hi H Q ∨ (rSlL K x lo hi H Q ∨ rSlS x lo hi H Q)
theorem sl_all {X : Cx} : SlR X (rSlAll X.K) := by
  intro pins s σ H x v vl vu lo hi sl Q I rx hs pl pu h
  rcases h with h | h | h
  · exact sl_tupA pins s σ H x v vl vu lo hi sl Q I rx hs pl pu h
  · exact sl_list pins s σ H x v vl vu lo hi sl Q I rx hs pl pu h
  · exact sl_str pins s σ H x v vl vu lo hi sl Q I rx hs pl pu h
theorem sIx_whole {lo hi : Option Int} (h : HT.sIx xs.length 0 lo = 0 ∧ HT.sIx xs.length xs.length hi = xs.length) : cutD xs lo hi = xs := by
  unfold cutD
  rw [h.1, h.2, List.drop_zero, Nat.sub_zero, List.take_length]
theorem ev_slT {tl th : TO} {lo hi : Option Int} (h : Ev K te δ (.tuple xs)) (hl : EvO K tl δ lo) (hh : EvO K th δ hi) : Ev K (tSl (rSlAll K) te tl th) δ (.tuple (cutD xs lo hi)) := fun G σ H I s g r Q q =>
  h G σ H I s g r _ fun v H1 I1 n1 rv => hl G σ H1 I1 n1.s (n1.g g) (r.next n1) _ fun H2 I2 n2 => hh G σ H2 I2 n2.s (n2.g (n1.g g)) ((r.next n1).next n2) _ fun H3 I3 n3 => by
    cases rv with
    | tup h1 a1 =>
      have nn := n2.trans n3
      have h1' := nn.i _ _ h1
      refine .inl ⟨_, _, rfl, .of (n3.s _ _ h1'), fun e => ?_, fun e p hp => ?_⟩
      · rw [a1.length] at e
        rw [sIx_whole e] at q
        exact q _ H3 I3 (n1.trans nn) (.tup h1' (a1.mono nn.i))
      · exact q _ _ _ ((n1.trans nn).trans (Nx.new n3.s hp)) (.tup upd_same (((cut_rp a1 lo hi).mono nn.i).mono (same_new (n3.s.free hp))))
theorem en_slL {tl th : TO} {lo hi : Option Int} (h : Ev K te δ (.list xs)) (hl : EvO K tl δ lo) (hh : EvO K th δ hi) : EvN K (tSl (rSlAll K) te tl th) δ (cutD xs lo hi) := fun G σ H I s g r Q q =>
  h G σ H I s g r _ fun v H1 I1 n1 rv => hl G σ H1 I1 n1.s (n1.g g) (r.next n1) _ fun H2 I2 n2 => hh G σ H2 I2 n2.s (n2.g (n1.g g)) ((r.next n1).next n2) _ fun H3 I3 n3 => by
    cases rv with
    | lst h1 a1 =>
      have nn := n2.trans n3
      have h1' := nn.i _ _ h1
      exact .inr (.inl ⟨_, _, rfl, .of (n3.s _ _ h1'), fun p hp => q p H3 I3 _ (n1.trans nn) hp ((cut_rp a1 lo hi).mono nn.i)⟩)
theorem ev_slS {tl th : TO} {lo hi : Option Int} {z : Str} (h : Ev K te δ (.str z)) (hl : EvO K tl δ lo) (hh : EvO K th δ hi) (hz : z.length ≤ sizeLine) : Ev K (tSl (rSlAll K) te tl th) δ (.str (cutS z lo hi)) := fun G σ H I s g r Q q =>
  h G σ H I s g r _ fun v H1 I1 n1 rv => hl G σ H1 I1 n1.s (n1.g g) (r.next n1) _ fun H2 I2 n2 => hh G σ H2 I2 n2.s (n2.g (n1.g g)) ((r.next n1).next n2) _ fun H3 I3 n3 => by
    cases rv
    exact .inr (.inr ⟨z, rfl, hz, q _ H3 I3 ((n1.trans n2).trans n3) (.str _)⟩)
/-! ### calls -/
theorem rc_lenL : RAD K (rLenA K) [.list xs] (.int xs.length) := fun H I vs s r Q q => by
  cases r with
  | cons r1 r2 =>
    cases r2
    cases r1 with
    | lst h1 a1 =>
      refine ⟨_, _, rfl, .inl ⟨_, .of (s _ _ h1), rfl⟩, ?_⟩
      rw [a1.length]
      exact q _ H I (Nx.refl s) (.int _)
theorem rc_lenT : RAD K (rLenA K) [.tuple xs] (.int xs.length) := fun H I vs s r Q q => by
  cases r with
  | cons r1 r2 =>
    cases r2
    cases r1 with
    | tup h1 a1 =>
      refine ⟨_, _, rfl, .inr ⟨_, .of (s _ _ h1), rfl⟩, ?_⟩
      rw [a1.length]
      exact q _ H I (Nx.refl s) (.int _)
theorem rc_lenS {z : Str} (hz : z.length ≤ sizeLine) : RAD K (rLenA K) [.str z] (.int z.length) := fun H I vs s r Q q => by
  cases r with
  | cons r1 r2 =>
    cases r2
    cases r1
    exact ⟨_, _, rfl, ⟨hz, rfl⟩, q _ H I (Nx.refl s) (.int _)⟩
theorem rc_max2 : RAD K rMax2A [.int i, .int j] (.int (if j > i then j else i)) := fun H I vs s r Q q => by
  cases r with
  | cons r1 r2 =>
    cases r2 with
    | cons r2 r3 =>
      cases r3; cases r1; cases r2
      exact ⟨i, j, rfl, q _ H I (Nx.refl s) (.int _)⟩
theorem rc_min2 : RAD K rMin2A [.int i, .int j] (.int (if j < i then j else i)) := fun H I vs s r Q q => by
  cases r with
  | cons r1 r2 =>
    cases r2 with
    | cons r2 r3 =>
      cases r3; cases r1; cases r2
      exact ⟨i, j, rfl, q _ H I (Nx.refl s) (.int _)⟩
theorem rc_tup : RAD K (rTupA K) [.list xs] (.tuple xs) := fun H I vs s r Q q => by
  cases r with
  | cons r1 r2 =>
    cases r2
    cases r1 with
    | lst h1 a1 => exact ⟨_, _, rfl, .inl ⟨.of (s _ _ h1), fun p hp => q _ _ _ (Nx.new s hp) (.tup upd_same (a1.mono (same_new (s.free hp))))⟩⟩
theorem rc_lst : RAN K (rLstA K) [.list xs] xs := fun H I vs s r Q q => by
  cases r with
  | cons r1 r2 =>
    cases r2
    cases r1 with
    | lst h1 a1 => exact ⟨_, _, rfl, .inl (.of (s _ _ h1)), fun p hp => q p H I _ (Nx.refl s) hp a1⟩
theorem rc_lstT : RAN K (rLstA K) [.tuple xs] xs := fun H I vs s r Q q => by
  cases r with
  | cons r1 r2 =>
    cases r2
    cases r1 with
    | tup h1 a1 => exact ⟨_, _, rfl, .inr (.of (s _ _ h1)), fun p hp => q p H I _ (Nx.refl s) hp a1⟩
theorem rc_int : RAD K rIntA [.int i] (.int i) := fun H I vs s r Q q => by
  cases r with
  | cons r1 r2 =>
    cases r2
    cases r1
    exact .inl ⟨i, rfl, q _ H I (Nx.refl s) (.int _)⟩
theorem rc_intB {b : Bool} : RAD K rIntA [.bool b] (.int (if b then 1 else 0)) := fun H I vs s r Q q => by
  cases r with
  | cons r1 r2 =>
    cases r2
    cases r1
    exact .inr ⟨b, rfl, q _ H I (Nx.refl s) (.int _)⟩
theorem rc_abs : RAD K rAbsA [.int i] (.int (if i < 0 then -i else i)) := fun H I vs s r Q q => by
  cases r with
  | cons r1 r2 =>
    cases r2
    cases r1
    exact ⟨i, rfl, q _ H I (Nx.refl s) (.int _)⟩
theorem rc_sum {ns : List Int} : RAD K (rSum K) [.list (ns.map .int)] (.int ns.sum) := fun H I vs s r Q q => by
  cases r with
  | cons r1 r2 =>
    cases r2
    cases r1 with
    | lst h1 a1 =>
      have e := rall_ints a1
      subst e
      exact ⟨_, ns, rfl, .of (s _ _ h1), q _ H I (Nx.refl s) (.int _)⟩
theorem rall_bls {I : Hp} : ∀ {ns : List Bool} {vs : List V}, RpAll K I vs (ns.map PyData.bool) → vs = ns.map V.bl
  | [], _, h => by cases h; rfl
  | n :: ns, _, h => by
    cases h with
    | cons h1 h2 =>
      cases h1
      rw [rall_bls h2]
      rfl
theorem rc_any {bs : List Bool} : RAD K (rAny K) [.list (bs.map .bool)] (.bool (bs.any id)) := fun H I vs s r Q q => by
  cases r with
  | cons r1 r2 =>
    cases r2
    cases r1 with
    | lst h1 a1 =>
      have e := rall_bls a1
      subst e
      exact ⟨_, bs, rfl, .of (s _ _ h1), q _ H I (Nx.refl s) (.bl _)⟩
/-! ### isinstance -/
def tyD : PyData → String
  | .none => "NoneType"
  | .bool _ => "bool"
  | .int _ => "int"
  | .str _ => "str"
  | .list _ => "list"
  | .tuple _ => "tuple"
  | .dict [] => "dict"
  | .dict _ => "list"
theorem rp_ty {I H : Hp} (s : Same I H) {v : V} {d : PyData} (r : Rp K I v d) (hd : ∀ q, d ≠ .dict [q]) : TyX K H v (.type (tyD d)) := by
  cases r with
  | non => exact .base .non
  | bl b => exact .base (.bl b)
  | int i => exact .base (.int i)
  | str x => exact .base (.str x)
  | lst h _ => exact .base (.lst (s _ _ h))
  | tup h _ => exact .base (.tup (s _ _ h))
  | dct h => exact .base (.dK (s _ _ h))
  | scr h => exact absurd rfl (hd _)
/-- isinstance(x, T), T a built-in class -/
theorem ev_isi {n : String} {b : Bool} (h : Ev K te δ x) (hb : kitB (tyD x) n = some b) (hd : ∀ q, x ≠ .dict [q]) : Ev K (tCB (rIsi K) (tCons te (tCons (tC (.ty n)) tNil))) δ (.bool b) := fun G σ H I s g r Q q =>
  h G σ H I s g r _ fun v H1 I1 n1 rv => ⟨v, .ty n, .type (tyD x), .type n, b, rfl, .ty n, rp_ty n1.s rv hd, kit_ty hb, q _ H1 I1 n1 (.bl b)⟩
end
end Tw

/-! Tw3: zip of two and of three things, each a list or a tuple, in any mix. -/
namespace Tw
open PySem PySem.Spec PyProof.Rows L2

/-- a list (true) or a tuple (false) that is read -/
def Sr (K : PySem.W.Frag) (k : Bool) (H : Hp) (a : Addr) (xs : List V) : Prop := if k = true then SqL K H a xs else SqT K H a xs
def kHolds (k : Bool) (a : Addr) (items : Array Value) (h : Heap) : Prop := if k = true then h.IsList a items else h.IsTuple a items
def kIter (k : Bool) (it a : Addr) (i : Nat) (h : Heap) : Prop := if k = true then h.IsListIter it a i else h.IsTupleIter it a i
def kObj (k : Bool) (a : Addr) : Obj := { cls := .type (if k = true then "list_iterator" else "tuple_iterator"), data := .fields #[.ref a, .int 0 0] }
theorem k_draws {prog : Program} {w : World} {A : Around} (hh : A.handled = none) (k : Bool) (it a : Addr) (hne : a ≠ it) (items : Array Value) :
    Draws prog w A it [it, a] items.size (fun i v => items[i]? = some v) (fun i h => kIter k it a i h ∧ kHolds k a items h) := by
  cases k with
  | true => exact Draws.list hh it a hne items
  | false => exact Draws.tuple hh it a hne items
theorem k_begins (k : Bool) (a : Addr) (items : Array Value) : Begins (.ref a) (kObj k a) (kHolds k a items) := by
  cases k with
  | true => exact begins_list a items
  | false => exact begins_tuple a items
theorem k_read {X : Cx} {pins : List (Addr × Obj)} {σ : L2.St} {H : Hp} {s : Shared} {k : Bool} {a : Addr} {xs : List V} (I : Inv X pins σ H s) (h : Sr X.K k H a xs) :
    ∃ its : List Value, Vals xs its ∧ kHolds k a its.toArray s.heap ∧ a < s.heap.objs.size := by
  cases k with
  | true =>
    obtain ⟨its, r, p, _⟩ := I.list (show SqL X.K H a xs from h)
    exact ⟨its, r, p.isList, p.lt⟩
  | false =>
    obtain ⟨its, r, p, _⟩ := I.tuple (show SqT X.K H a xs from h)
    obtain ⟨o, ho, _⟩ := id p
    exact ⟨its, r, p, Heap.lt_size ho⟩
theorem k_inj {X : Cx} {pins : List (Addr × Obj)} {σ : L2.St} {H : Hp} {s : Shared} {k : Bool} {a : Addr} {xs ys : List V} (I : Inv X pins σ H s) (h : Sr X.K k H a xs) (h' : Sr X.K k H a ys) : xs = ys := by
  cases k with
  | true => exact I.list_inj (show SqL X.K H a xs from h) h'
  | false => exact I.tuple_inj (show SqT X.K H a xs from h) h'
theorem k_at {k : Bool} {it a : Addr} {i : Nat} {h h' : Heap} (x : kIter k it a i h) (e : ∀ o, h.get? it = some o → h'.get? it = some o) : kIter k it a i h' := by
  cases k with
  | true =>
    obtain ⟨o, h1, h2⟩ := (show h.IsListIter it a i from x)
    exact ⟨o, e o h1, h2⟩
  | false =>
    obtain ⟨o, h1, h2⟩ := (show h.IsTupleIter it a i from x)
    exact ⟨o, e o h1, h2⟩
theorem k_get {k : Bool} {it a : Addr} {i : Nat} {h : Heap} (x : kIter k it a i h) : ∃ o, h.get? it = some o ∧ ∀ v, o.data ≠ .cell v := by
  cases k with
  | true =>
    obtain ⟨o, h1, _, h2⟩ := (show h.IsListIter it a i from x)
    exact ⟨o, h1, fun v z => by rw [h2] at z; cases z⟩
  | false =>
    obtain ⟨o, h1, _, h2⟩ := (show h.IsTupleIter it a i from x)
    exact ⟨o, h1, fun v z => by rw [h2] at z; cases z⟩
theorem k_new {k : Bool} {it a : Addr} {h : Heap} (e : h.get? it = some (kObj k a)) : kIter k it a 0 h := by
  cases k with
  | true => exact ⟨_, e, rfl, rfl⟩
  | false => exact ⟨_, e, rfl, rfl⟩

/-! ### two -/
def ItZ2 (K : PySem.W.Frag) (k1 k2 : Bool) (a b : Addr) : It :=
  ⟨fun i H => ∃ (xs ys : List V) (x y : V), Sr K k1 H a xs ∧ Sr K k2 H b ys ∧ xs[i]? = some x ∧ ys[i]? = some y,
    fun i H v H' => ∃ T x y, v = .ref T ∧ H T = none ∧ H' = upd H T (.tup [x, y]) ∧ (∀ xs, Sr K k1 H a xs → xs[i]? = some x) ∧ (∀ ys, Sr K k2 H b ys → ys[i]? = some y),
    fun i H => ∃ xs ys : List V, Sr K k1 H a xs ∧ Sr K k2 H b ys ∧ i ≤ xs.length ∧ i ≤ ys.length ∧ (i = xs.length ∨ i = ys.length)⟩
theorem turn_z2 {P : Program} {w : World} {K : PySem.W.Frag} {elts : List Expr} {kk : Nat} {tpos : Pos} {k1 k2 : Bool} {a b z TI TO i1 i2 : Addr} (D : ZipSep2 z TI TO i1 i2 [i1, a] [i2, b]) (n1 : a ≠ i1) (n2 : b ≠ i2) :
    Turn P w K (.Tuple elts kk tpos) (ItZ2 K k1 k2 a b) [z, TI, TO, i1, i2] z (fun i h => IsZip h z TI TO .none ∧ IsTupOf2 h TI (.ref i1) (.ref i2) ∧ (∃ x y, IsTupOf2 h TO x y) ∧ kIter k1 i1 a i h ∧ kIter k2 i2 b i h) where
  mem := by simp
  obj := fun i h st c hc => by
    obtain ⟨hz, hTI, ⟨x, y, hTO⟩, h1, h2⟩ := st
    have e' : c = z ∨ c = TI ∨ c = TO ∨ c = i1 ∨ c = i2 := by simpa using hc
    rcases e' with q | q | q | q | q
    · rw [q]; exact ⟨_, hz, fun v q => nomatch q⟩
    · rw [q]; exact ⟨_, hTI, fun v q => nomatch q⟩
    · rw [q]; exact ⟨_, hTO, fun v q => nomatch q⟩
    · rw [q]; exact k_get h1
    · rw [q]; exact k_get h2
  keep := fun i h h' st k => by
    obtain ⟨hz, hTI, ⟨x, y, hTO⟩, h1, h2⟩ := st
    exact ⟨k z (by simp) _ hz, k TI (by simp) _ hTI, ⟨x, y, k TO (by simp) _ hTO⟩, k_at h1 fun o q => k i1 (by simp) o q, k_at h2 fun o q => k i2 (by simp) o q⟩
  item := by
    intro X hP hw hK hc i pins s σ H E I hf st hg
    subst hP hw hK
    obtain ⟨hz, hTI, ⟨x0, y0, hTO⟩, h1, h2⟩ := st
    obtain ⟨xs, ys, x, y, q1, q2, e1, e2⟩ := hg
    obtain ⟨its1, rv1, p1, _⟩ := k_read I q1
    obtain ⟨u1, hu1, ru1⟩ := rv1.get e1
    obtain ⟨its2, rv2, p2, _⟩ := k_read I q2
    obtain ⟨u2, hu2, ru2⟩ := rv2.get e2
    have hh : X.A.in1.handled = none := I.ok.hd hc
    have hzl : z < s.heap.objs.size := Heap.lt_size hz
    have lt1 : i < its1.toArray.size := by
      rw [List.size_toArray]
      exact (List.getElem?_eq_some_iff.mp hu1).1
    have lt2 : i < its2.toArray.size := by
      rw [List.size_toArray]
      exact (List.getElem?_eq_some_iff.mp hu2).1
    refine wpAny_pyNext_zipD2_item D (k_draws (prog := X.prog) (w := X.w) hh k1 i1 a n1 its1.toArray) (k_draws (prog := X.prog) (w := X.w) hh k2 i2 b n2 its2.toArray) hz hTI hTO ⟨h1, p1⟩ ⟨h2, p2⟩ lt1 lt2 fun w1 w2 h' tk y1 y2 z' TO' d1 d2 hT hsz hk => ?_
    have ew1 : w1 = u1 := by
      have q : its1.toArray[i]? = some u1 := by simpa using hu1
      have y1' : its1.toArray[i]? = some w1 := y1
      rw [q] at y1'
      exact (Option.some.inj y1').symm
    subst ew1
    have ew2 : w2 = u2 := by
      have q : its2.toArray[i]? = some u2 := by simpa using hu2
      have y2' : its2.toArray[i]? = some w2 := y2
      rw [q] at y2'
      exact (Option.some.inj y2').symm
    subst ew2
    refine ⟨_, rfl, wpAny_letOwnedTupleGo_zip (s := { s with heap := h', toks := tk }) z' fun h'' z'' sb => ?_⟩
    have hT2 : h''.get? s.heap.objs.size = some { cls := .type "tuple", data := .seq #[w1, w2] } := (sb.2 _ (Nat.ne_of_gt hzl)).trans hT
    have new : ObjOk X.prog X.w (upd H s.heap.objs.size (.tup [x, y])) h'' s.heap.objs.size (.tup [x, y]) := ⟨by show 2 ≤ sizeLine; decide, [w1, w2], .cons ru1 (.cons ru2 (.nil)), ⟨_, hT2, rfl, _, rfl⟩⟩
    have I1 : Inv X pins σ (upd H s.heap.objs.size (.tup [x, y])) { s with heap := h'', toks := tk } :=
      I.turnedNew (ch := [z, TI, TO, i1, i2]) (fun c o hb q => (sb.2 c (fun q' => hb (by simp [q']))).trans (hk c o (fun q' => hb (by simp [q'])) (fun q' => hb (by simp [q'])) (fun q' => hb (by simp [q'])) (fun q' => hb (by simp [q'])) q)) hf (Nat.le_refl _) new
    refine ⟨.ref s.heap.objs.size, _, I1, rfl, ⟨_, x, y, rfl, I.hok.fresh (Nat.le_refl _), rfl, fun l hl => by rw [k_inj I hl q1]; exact e1, fun l hl => by rw [k_inj I hl q2]; exact e2⟩, ⟨z'', (sb.2 _ D.TIz).trans (hk _ _ D.TIz D.TITO D.TIi1 D.TIi2 hTI), ⟨w1, w2, (sb.2 _ D.TOz).trans TO'⟩, k_at d1.1 fun o q => (sb.2 _ (fun e => D.zf1 (by rw [← e]; exact List.mem_cons_self))).trans q, k_at d2.1 fun o q => (sb.2 _ (fun e => D.zf2 (by rw [← e]; exact List.mem_cons_self))).trans q⟩, fun c hcm => ?_⟩
    have hlt : c < s.heap.objs.size := by
      have e' : c = z ∨ c = TI ∨ c = TO ∨ c = i1 ∨ c = i2 := by simpa using hcm
      rcases e' with q | q | q | q | q
      · rw [q]; exact hzl
      · rw [q]; exact Heap.lt_size hTI
      · rw [q]; exact Heap.lt_size hTO
      · rw [q]; obtain ⟨_, e1, _⟩ := k_get h1; exact Heap.lt_size e1
      · rw [q]; obtain ⟨_, e1, _⟩ := k_get h2; exact Heap.lt_size e1
    rw [upd_ne (Nat.ne_of_lt hlt)]
    exact (hf c hcm).1
  done := by
    intro X hP hw hK hc i pins s σ H E I hf st hg
    subst hP hw hK
    obtain ⟨hz, hTI, ⟨x0, y0, hTO⟩, h1, h2⟩ := st
    obtain ⟨xs, ys, q1, q2, l1, l2, hend⟩ := hg
    obtain ⟨its1, rv1, p1, _⟩ := k_read I q1
    have z1 : its1.toArray.size = xs.length := by rw [List.size_toArray]; exact rv1.length.symm
    obtain ⟨its2, rv2, p2, _⟩ := k_read I q2
    have z2 : its2.toArray.size = ys.length := by rw [List.size_toArray]; exact rv2.length.symm
    have hh : X.A.in1.handled = none := I.ok.hd hc
    refine wpAny_pyNext_zipD2_end D (k_draws (prog := X.prog) (w := X.w) hh k1 i1 a n1 its1.toArray) (k_draws (prog := X.prog) (w := X.w) hh k2 i2 b n2 its2.toArray) hz hTI hTO ⟨h1, p1⟩ ⟨h2, p2⟩ (by rw [z1]; exact l1) (by rw [z2]; exact l2) (by rw [z1, z2]; exact hend) fun h' tk hk => ⟨rfl, I.turnedL (ch := [z, TI, TO, i1, i2]) (fun c o hb q => hk c o (fun q' => hb (by simp [q'])) (fun q' => hb (by simp [q'])) (fun q' => hb (by simp [q'])) (fun q' => hb (by simp [q'])) q) hf⟩
  self := fun A i s Q E st h => wpAny_pyIter_zip st.1 h
def iZip2 (K : PySem.W.Frag) (ta : TA) : TI := fun σ H R => ta σ H fun vs H1 => ∃ (k1 k2 : Bool) (a b : Addr) (xs ys : List V), vs = [.ref a, .ref b] ∧ Sr K k1 H1 a xs ∧ Sr K k2 H1 b ys ∧ R (ItZ2 K k1 k2 a b) H1
theorem pi_zip2 {X : Cx} {e e2 : Expr} {ta : TA} {p pos tpos : Pos} {elts : List Expr} {kk : Nat} (hg : Gl X "zip") (hm : X.mg "zip" = none) (ha : PA X [e, e2] ta)
    (hs : starEach [e, e2] X.env = (false, eval e X.env) :: starEach [e2] X.env := by rfl) (hpl : (backTo pos (starEach [e2] X.env)).any (·.1) = false := by rfl) :
    PI X (.Tuple elts kk tpos) (.Call (.Name "zip" p) [e, e2] [] pos) (iZip2 X.K ta) := by
  refine ⟨fun pins s σ H R I h => ?_⟩
  refine Call_ (ld_blt I hg hm PyProof.Rows.boot_zip (PyProof.Rows.callWith_type1 (thn (ha.run pos pins s σ H _ I h) fun us s1 ⟨vs, H1, I1, r1, q1⟩ => ?_) hs hpl))
  obtain ⟨k1, k2, a, b, xs, ys, ex, q1, q2, q⟩ := q1
  subst ex
  have uu : us = [Value.ref a, Value.ref b] := by
    cases r1 with
    | cons r rr =>
      cases rr with
      | cons r2 rr =>
        cases rr
        cases r
        cases r2
        rfl
  subst uu
  obtain ⟨its1, rv1, p1, lt1⟩ := k_read I1 q1
  obtain ⟨its2, rv2, p2, lt2⟩ := k_read I1 q2
  refine zip_begins2 (k_begins k1 a its1.toArray) (k_begins k2 b its2.toArray) p1 p2 fun h' hz hTI hTO g1 g2 hsz hk => wpAny_pyIter_zip hz ?_
  have I2 : Inv X pins σ H1 { s1 with heap := h' } := I1.kept (t' := s1.toks) hk
  have fresh : ∀ c, c ∈ [s1.heap.objs.size + 4, s1.heap.objs.size + 2, s1.heap.objs.size + 3, s1.heap.objs.size, s1.heap.objs.size + 1] → FpOk X pins H1 c := fun c hcm => by
    have e' : c = s1.heap.objs.size + 4 ∨ c = s1.heap.objs.size + 2 ∨ c = s1.heap.objs.size + 3 ∨ c = s1.heap.objs.size ∨ c = s1.heap.objs.size + 1 := by simpa using hcm
    have hle : s1.heap.objs.size ≤ c := by
      rcases e' with z | z | z | z | z
      · rw [z]; exact Nat.le_add_right _ _
      · rw [z]; exact Nat.le_add_right _ _
      · rw [z]; exact Nat.le_add_right _ _
      · rw [z]; exact Nat.le_refl _
      · rw [z]; exact Nat.le_add_right _ _
    exact I1.fpOk hle (I1.hok.fresh hle)
  exact ⟨s1.heap.objs.size + 4, [s1.heap.objs.size + 4, s1.heap.objs.size + 2, s1.heap.objs.size + 3, s1.heap.objs.size, s1.heap.objs.size + 1], _, _, H1, rfl, I2, turn_z2 (zip_sep2 (fun b hb => by rw [List.mem_singleton.mp hb]; exact lt1) (fun b hb => by rw [List.mem_singleton.mp hb]; exact lt2)) (Nat.ne_of_lt (Nat.lt_of_lt_of_le lt1 (Nat.le_refl _))) (Nat.ne_of_lt (Nat.lt_of_lt_of_le lt2 (Nat.le_add_right _ _))), ⟨hz, hTI, ⟨_, _, hTO⟩, k_new g1, k_new g2⟩, fresh, q⟩
/-! ### three -/
def ItZ3 (K : PySem.W.Frag) (k1 k2 k3 : Bool) (a b c : Addr) : It :=
  ⟨fun i H => ∃ (xs ys zs : List V) (x y u : V), Sr K k1 H a xs ∧ Sr K k2 H b ys ∧ Sr K k3 H c zs ∧ xs[i]? = some x ∧ ys[i]? = some y ∧ zs[i]? = some u,
    fun i H v H' => ∃ T x y u, v = .ref T ∧ H T = none ∧ H' = upd H T (.tup [x, y, u]) ∧ (∀ xs, Sr K k1 H a xs → xs[i]? = some x) ∧ (∀ ys, Sr K k2 H b ys → ys[i]? = some y) ∧ (∀ zs, Sr K k3 H c zs → zs[i]? = some u),
    fun i H => ∃ xs ys zs : List V, Sr K k1 H a xs ∧ Sr K k2 H b ys ∧ Sr K k3 H c zs ∧ i ≤ xs.length ∧ i ≤ ys.length ∧ i ≤ zs.length ∧ (i = xs.length ∨ i = ys.length ∨ i = zs.length)⟩
theorem turn_z3 {P : Program} {w : World} {K : PySem.W.Frag} {elts : List Expr} {kk : Nat} {tpos : Pos} {k1 k2 k3 : Bool} {a b c z TI TO i1 i2 i3 : Addr} (D : ZipSep3 z TI TO i1 i2 i3 [i1, a] [i2, b] [i3, c]) (n1 : a ≠ i1) (n2 : b ≠ i2) (n3 : c ≠ i3) :
    Turn P w K (.Tuple elts kk tpos) (ItZ3 K k1 k2 k3 a b c) [z, TI, TO, i1, i2, i3] z (fun i h => IsZip h z TI TO .none ∧ IsTupOf3 h TI (.ref i1) (.ref i2) (.ref i3) ∧ (∃ x y u, IsTupOf3 h TO x y u) ∧ kIter k1 i1 a i h ∧ kIter k2 i2 b i h ∧ kIter k3 i3 c i h) where
  mem := by simp
  obj := fun i h st c hc => by
    obtain ⟨hz, hTI, ⟨x, y, u, hTO⟩, h1, h2, h3⟩ := st
    have e' : c = z ∨ c = TI ∨ c = TO ∨ c = i1 ∨ c = i2 ∨ c = i3 := by simpa using hc
    rcases e' with q | q | q | q | q | q
    · rw [q]; exact ⟨_, hz, fun v q => nomatch q⟩
    · rw [q]; exact ⟨_, hTI, fun v q => nomatch q⟩
    · rw [q]; exact ⟨_, hTO, fun v q => nomatch q⟩
    · rw [q]; exact k_get h1
    · rw [q]; exact k_get h2
    · rw [q]; exact k_get h3
  keep := fun i h h' st k => by
    obtain ⟨hz, hTI, ⟨x, y, u, hTO⟩, h1, h2, h3⟩ := st
    exact ⟨k z (by simp) _ hz, k TI (by simp) _ hTI, ⟨x, y, u, k TO (by simp) _ hTO⟩, k_at h1 fun o q => k i1 (by simp) o q, k_at h2 fun o q => k i2 (by simp) o q, k_at h3 fun o q => k i3 (by simp) o q⟩
  item := by
    intro X hP hw hK hc i pins s σ H E I hf st hg
    subst hP hw hK
    obtain ⟨hz, hTI, ⟨x0, y0, u0, hTO⟩, h1, h2, h3⟩ := st
    obtain ⟨xs, ys, zs, x, y, u, q1, q2, q3, e1, e2, e3⟩ := hg
    obtain ⟨its1, rv1, p1, _⟩ := k_read I q1
    obtain ⟨u1, hu1, ru1⟩ := rv1.get e1
    obtain ⟨its2, rv2, p2, _⟩ := k_read I q2
    obtain ⟨u2, hu2, ru2⟩ := rv2.get e2
    obtain ⟨its3, rv3, p3, _⟩ := k_read I q3
    obtain ⟨u3, hu3, ru3⟩ := rv3.get e3
    have hh : X.A.in1.handled = none := I.ok.hd hc
    have hzl : z < s.heap.objs.size := Heap.lt_size hz
    have lt1 : i < its1.toArray.size := by
      rw [List.size_toArray]
      exact (List.getElem?_eq_some_iff.mp hu1).1
    have lt2 : i < its2.toArray.size := by
      rw [List.size_toArray]
      exact (List.getElem?_eq_some_iff.mp hu2).1
    have lt3 : i < its3.toArray.size := by
      rw [List.size_toArray]
      exact (List.getElem?_eq_some_iff.mp hu3).1
    refine wpAny_pyNext_zipD3_item D (k_draws (prog := X.prog) (w := X.w) hh k1 i1 a n1 its1.toArray) (k_draws (prog := X.prog) (w := X.w) hh k2 i2 b n2 its2.toArray) (k_draws (prog := X.prog) (w := X.w) hh k3 i3 c n3 its3.toArray) hz hTI hTO ⟨h1, p1⟩ ⟨h2, p2⟩ ⟨h3, p3⟩ lt1 lt2 lt3 fun w1 w2 w3 h' tk y1 y2 y3 z' TO' d1 d2 d3 hT hsz hk => ?_
    have ew1 : w1 = u1 := by
      have q : its1.toArray[i]? = some u1 := by simpa using hu1
      have y1' : its1.toArray[i]? = some w1 := y1
      rw [q] at y1'
      exact (Option.some.inj y1').symm
    subst ew1
    have ew2 : w2 = u2 := by
      have q : its2.toArray[i]? = some u2 := by simpa using hu2
      have y2' : its2.toArray[i]? = some w2 := y2
      rw [q] at y2'
      exact (Option.some.inj y2').symm
    subst ew2
    have ew3 : w3 = u3 := by
      have q : its3.toArray[i]? = some u3 := by simpa using hu3
      have y3' : its3.toArray[i]? = some w3 := y3
      rw [q] at y3'
      exact (Option.some.inj y3').symm
    subst ew3
    refine ⟨_, rfl, wpAny_letOwnedTupleGo_zip (s := { s with heap := h', toks := tk }) z' fun h'' z'' sb => ?_⟩
    have hT2 : h''.get? s.heap.objs.size = some { cls := .type "tuple", data := .seq #[w1, w2, w3] } := (sb.2 _ (Nat.ne_of_gt hzl)).trans hT
    have new : ObjOk X.prog X.w (upd H s.heap.objs.size (.tup [x, y, u])) h'' s.heap.objs.size (.tup [x, y, u]) := ⟨by show 3 ≤ sizeLine; decide, [w1, w2, w3], .cons ru1 (.cons ru2 (.cons ru3 (.nil))), ⟨_, hT2, rfl, _, rfl⟩⟩
    have I1 : Inv X pins σ (upd H s.heap.objs.size (.tup [x, y, u])) { s with heap := h'', toks := tk } :=
      I.turnedNew (ch := [z, TI, TO, i1, i2, i3]) (fun c o hb q => (sb.2 c (fun q' => hb (by simp [q']))).trans (hk c o (fun q' => hb (by simp [q'])) (fun q' => hb (by simp [q'])) (fun q' => hb (by simp [q'])) (fun q' => hb (by simp [q'])) (fun q' => hb (by simp [q'])) q)) hf (Nat.le_refl _) new
    refine ⟨.ref s.heap.objs.size, _, I1, rfl, ⟨_, x, y, u, rfl, I.hok.fresh (Nat.le_refl _), rfl, fun l hl => by rw [k_inj I hl q1]; exact e1, fun l hl => by rw [k_inj I hl q2]; exact e2, fun l hl => by rw [k_inj I hl q3]; exact e3⟩, ⟨z'', (sb.2 _ D.TIz).trans (hk _ _ D.TIz D.TITO D.TIi1 D.TIi2 D.TIi3 hTI), ⟨w1, w2, w3, (sb.2 _ D.TOz).trans TO'⟩, k_at d1.1 fun o q => (sb.2 _ (fun e => D.zf1 (by rw [← e]; exact List.mem_cons_self))).trans q, k_at d2.1 fun o q => (sb.2 _ (fun e => D.zf2 (by rw [← e]; exact List.mem_cons_self))).trans q, k_at d3.1 fun o q => (sb.2 _ (fun e => D.zf3 (by rw [← e]; exact List.mem_cons_self))).trans q⟩, fun c hcm => ?_⟩
    have hlt : c < s.heap.objs.size := by
      have e' : c = z ∨ c = TI ∨ c = TO ∨ c = i1 ∨ c = i2 ∨ c = i3 := by simpa using hcm
      rcases e' with q | q | q | q | q | q
      · rw [q]; exact hzl
      · rw [q]; exact Heap.lt_size hTI
      · rw [q]; exact Heap.lt_size hTO
      · rw [q]; obtain ⟨_, e1, _⟩ := k_get h1; exact Heap.lt_size e1
      · rw [q]; obtain ⟨_, e1, _⟩ := k_get h2; exact Heap.lt_size e1
      · rw [q]; obtain ⟨_, e1, _⟩ := k_get h3; exact Heap.lt_size e1
    rw [upd_ne (Nat.ne_of_lt hlt)]
    exact (hf c hcm).1
  done := by
    intro X hP hw hK hc i pins s σ H E I hf st hg
    subst hP hw hK
    obtain ⟨hz, hTI, ⟨x0, y0, u0, hTO⟩, h1, h2, h3⟩ := st
    obtain ⟨xs, ys, zs, q1, q2, q3, l1, l2, l3, hend⟩ := hg
    obtain ⟨its1, rv1, p1, _⟩ := k_read I q1
    have z1 : its1.toArray.size = xs.length := by rw [List.size_toArray]; exact rv1.length.symm
    obtain ⟨its2, rv2, p2, _⟩ := k_read I q2
    have z2 : its2.toArray.size = ys.length := by rw [List.size_toArray]; exact rv2.length.symm
    obtain ⟨its3, rv3, p3, _⟩ := k_read I q3
    have z3 : its3.toArray.size = zs.length := by rw [List.size_toArray]; exact rv3.length.symm
    have hh : X.A.in1.handled = none := I.ok.hd hc
    refine wpAny_pyNext_zipD3_end D (k_draws (prog := X.prog) (w := X.w) hh k1 i1 a n1 its1.toArray) (k_draws (prog := X.prog) (w := X.w) hh k2 i2 b n2 its2.toArray) (k_draws (prog := X.prog) (w := X.w) hh k3 i3 c n3 its3.toArray) hz hTI hTO ⟨h1, p1⟩ ⟨h2, p2⟩ ⟨h3, p3⟩ (by rw [z1]; exact l1) (by rw [z2]; exact l2) (by rw [z3]; exact l3) (by rw [z1, z2, z3]; exact hend) fun h' tk hk => ⟨rfl, I.turnedL (ch := [z, TI, TO, i1, i2, i3]) (fun c o hb q => hk c o (fun q' => hb (by simp [q'])) (fun q' => hb (by simp [q'])) (fun q' => hb (by simp [q'])) (fun q' => hb (by simp [q'])) (fun q' => hb (by simp [q'])) q) hf⟩
  self := fun A i s Q E st h => wpAny_pyIter_zip st.1 h
def iZip3 (K : PySem.W.Frag) (ta : TA) : TI := fun σ H R => ta σ H fun vs H1 => ∃ (k1 k2 k3 : Bool) (a b c : Addr) (xs ys zs : List V), vs = [.ref a, .ref b, .ref c] ∧ Sr K k1 H1 a xs ∧ Sr K k2 H1 b ys ∧ Sr K k3 H1 c zs ∧ R (ItZ3 K k1 k2 k3 a b c) H1
theorem pi_zip3 {X : Cx} {e e2 e3 : Expr} {ta : TA} {p pos tpos : Pos} {elts : List Expr} {kk : Nat} (hg : Gl X "zip") (hm : X.mg "zip" = none) (ha : PA X [e, e2, e3] ta)
    (hs : starEach [e, e2, e3] X.env = (false, eval e X.env) :: starEach [e2, e3] X.env := by rfl) (hpl : (backTo pos (starEach [e2, e3] X.env)).any (·.1) = false := by rfl) :
    PI X (.Tuple elts kk tpos) (.Call (.Name "zip" p) [e, e2, e3] [] pos) (iZip3 X.K ta) := by
  refine ⟨fun pins s σ H R I h => ?_⟩
  refine Call_ (ld_blt I hg hm PyProof.Rows.boot_zip (PyProof.Rows.callWith_type1 (thn (ha.run pos pins s σ H _ I h) fun us s1 ⟨vs, H1, I1, r1, q1⟩ => ?_) hs hpl))
  obtain ⟨k1, k2, k3, a, b, c, xs, ys, zs, ex, q1, q2, q3, q⟩ := q1
  subst ex
  have uu : us = [Value.ref a, Value.ref b, Value.ref c] := by
    cases r1 with
    | cons r rr =>
      cases rr with
      | cons r2 rr =>
        cases rr with
        | cons r3 rr =>
          cases rr
          cases r
          cases r2
          cases r3
          rfl
  subst uu
  obtain ⟨its1, rv1, p1, lt1⟩ := k_read I1 q1
  obtain ⟨its2, rv2, p2, lt2⟩ := k_read I1 q2
  obtain ⟨its3, rv3, p3, lt3⟩ := k_read I1 q3
  refine zip_begins3 (k_begins k1 a its1.toArray) (k_begins k2 b its2.toArray) (k_begins k3 c its3.toArray) p1 p2 p3 fun h' hz hTI hTO g1 g2 g3 hsz hk => wpAny_pyIter_zip hz ?_
  have I2 : Inv X pins σ H1 { s1 with heap := h' } := I1.kept (t' := s1.toks) hk
  have fresh : ∀ c, c ∈ [s1.heap.objs.size + 5, s1.heap.objs.size + 3, s1.heap.objs.size + 4, s1.heap.objs.size, s1.heap.objs.size + 1, s1.heap.objs.size + 2] → FpOk X pins H1 c := fun c hcm => by
    have e' : c = s1.heap.objs.size + 5 ∨ c = s1.heap.objs.size + 3 ∨ c = s1.heap.objs.size + 4 ∨ c = s1.heap.objs.size ∨ c = s1.heap.objs.size + 1 ∨ c = s1.heap.objs.size + 2 := by simpa using hcm
    have hle : s1.heap.objs.size ≤ c := by
      rcases e' with z | z | z | z | z | z
      · rw [z]; exact Nat.le_add_right _ _
      · rw [z]; exact Nat.le_add_right _ _
      · rw [z]; exact Nat.le_add_right _ _
      · rw [z]; exact Nat.le_refl _
      · rw [z]; exact Nat.le_add_right _ _
      · rw [z]; exact Nat.le_add_right _ _
    exact I1.fpOk hle (I1.hok.fresh hle)
  exact ⟨s1.heap.objs.size + 5, [s1.heap.objs.size + 5, s1.heap.objs.size + 3, s1.heap.objs.size + 4, s1.heap.objs.size, s1.heap.objs.size + 1, s1.heap.objs.size + 2], _, _, H1, rfl, I2, turn_z3 (zip_sep3 (fun b hb => by rw [List.mem_singleton.mp hb]; exact lt1) (fun b hb => by rw [List.mem_singleton.mp hb]; exact lt2) (fun b hb => by rw [List.mem_singleton.mp hb]; exact lt3)) (Nat.ne_of_lt (Nat.lt_of_lt_of_le lt1 (Nat.le_refl _))) (Nat.ne_of_lt (Nat.lt_of_lt_of_le lt2 (Nat.le_add_right _ _))) (Nat.ne_of_lt (Nat.lt_of_lt_of_le lt3 (Nat.le_add_right _ _))), ⟨hz, hTI, ⟨_, _, _, hTO⟩, k_new g1, k_new g2, k_new g3⟩, fresh, q⟩

def seqD (k : Bool) (xs : List PyData) : PyData := if k = true then .list xs else .tuple xs
theorem seq_rp {K : PySem.W.Frag} {I : Hp} {k : Bool} {v : V} {xs : List PyData} (r : Rp K I v (seqD k xs)) : ∃ a vs, v = .ref a ∧ RpAll K I vs xs ∧ ∀ H, Same I H → Sr K k H a vs := by
  cases k with
  | true =>
    cases (show Rp K I v (.list xs) from r) with
    | lst h a => exact ⟨_, _, rfl, a, fun H s => SqL.of (s _ _ h)⟩
  | false =>
    cases (show Rp K I v (.tuple xs) from r) with
    | tup h a => exact ⟨_, _, rfl, a, fun H s => SqT.of (s _ _ h)⟩
def pairs (xs ys : List PyData) : List PyData := (List.zip xs ys).map fun p => .tuple [p.1, p.2]
theorem pairs_len {xs ys : List PyData} : (pairs xs ys).length = min xs.length ys.length := by unfold pairs; rw [List.length_map, List.length_zip]
theorem pairs_get {xs ys : List PyData} {i : Nat} {d : PyData} (h : (pairs xs ys)[i]? = some d) : ∃ x y, xs[i]? = some x ∧ ys[i]? = some y ∧ d = .tuple [x, y] := by
  unfold pairs at h
  rw [List.getElem?_map] at h
  cases e : (List.zip xs ys)[i]? with
  | none => rw [e] at h; cases h
  | some p =>
    rw [e] at h
    obtain ⟨h1, h2⟩ := List.getElem?_zip_eq_some.mp e
    exact ⟨p.1, p.2, h1, h2, (Option.some.inj h).symm⟩
def triples (xs ys zs : List PyData) : List PyData := (List.zip xs (List.zip ys zs)).map fun p => .tuple [p.1, p.2.1, p.2.2]
theorem triples_len {xs ys zs : List PyData} : (triples xs ys zs).length = min xs.length (min ys.length zs.length) := by unfold triples; rw [List.length_map, List.length_zip, List.length_zip]
theorem triples_get {xs ys zs : List PyData} {i : Nat} {d : PyData} (h : (triples xs ys zs)[i]? = some d) : ∃ x y z, xs[i]? = some x ∧ ys[i]? = some y ∧ zs[i]? = some z ∧ d = .tuple [x, y, z] := by
  unfold triples at h
  rw [List.getElem?_map] at h
  cases e : (List.zip xs (List.zip ys zs))[i]? with
  | none => rw [e] at h; cases h
  | some p =>
    rw [e] at h
    obtain ⟨h1, h2⟩ := List.getElem?_zip_eq_some.mp e
    obtain ⟨h3, h4⟩ := List.getElem?_zip_eq_some.mp h2
    exact ⟨p.1, p.2.1, p.2.2, h1, h3, h4, (Option.some.inj h).symm⟩
section
variable {K : PySem.W.Frag} {δ : List Sl} {xs ys zs : List PyData} {t : TA}
theorem ei_zip2 (k1 k2 : Bool) (h : EvA K t δ [seqD k1 xs, seqD k2 ys]) : EvI K (iZip2 K t) δ (pairs xs ys) := fun G σ H I s g r R q =>
  h G σ H I s g r _ fun vs H1 I1 n1 rv => by
    cases rv with
    | cons r1 rv =>
      cases rv with
      | cons r2 rv =>
        cases rv
        obtain ⟨a, vs1, rfl, a1, s1⟩ := seq_rp r1
        obtain ⟨b, vs2, rfl, a2, s2⟩ := seq_rp r2
        refine ⟨k1, k2, a, b, vs1, vs2, rfl, s1 _ n1.s, s2 _ n1.s, q _ H1 I1 n1 ⟨fun i H2 I2 e1 e2 hi => ?_, fun H2 I2 e1 e2 => ?_, fun i H2 I2 w H3 e1 e2 hi y => ?_⟩⟩
        · rw [pairs_len] at hi
          obtain ⟨u, hu, _⟩ := a1.get (List.getElem?_eq_getElem (show i < xs.length by omega))
          obtain ⟨u2, hu2, _⟩ := a2.get (List.getElem?_eq_getElem (show i < ys.length by omega))
          exact ⟨vs1, vs2, u, u2, s1 _ (e1.trans e2), s2 _ (e1.trans e2), hu, hu2⟩
        · refine ⟨vs1, vs2, s1 _ (e1.trans e2), s2 _ (e1.trans e2), ?_⟩
          rw [pairs_len, a1.length, a2.length]
          omega
        · obtain ⟨T, x, y', rfl, hT, rfl, f1, f2⟩ := y
          refine ⟨upd I2 T (.tup [x, y']), Nx.new e2 hT, fun d hd => ?_⟩
          obtain ⟨dx, dy, g1, g2, rfl⟩ := pairs_get hd
          obtain ⟨u, hu, ru⟩ := a1.get g1
          obtain ⟨u2, hu2, ru2⟩ := a2.get g2
          have q1 := f1 vs1 (s1 _ (e1.trans e2))
          have q2 := f2 vs2 (s2 _ (e1.trans e2))
          rw [hu] at q1
          rw [hu2] at q2
          cases q1
          cases q2
          have e3 : Same I1 (upd I2 T (.tup [x, y'])) := e1.trans (same_new (e2.free hT))
          exact .tup upd_same (.cons (ru.mono e3) (.cons (ru2.mono e3) .nil))
theorem ei_zip3 (k1 k2 k3 : Bool) (h : EvA K t δ [seqD k1 xs, seqD k2 ys, seqD k3 zs]) : EvI K (iZip3 K t) δ (triples xs ys zs) := fun G σ H I s g r R q =>
  h G σ H I s g r _ fun vs H1 I1 n1 rv => by
    cases rv with
    | cons r1 rv =>
      cases rv with
      | cons r2 rv =>
        cases rv with
        | cons r3 rv =>
          cases rv
          obtain ⟨a, vs1, rfl, a1, s1⟩ := seq_rp r1
          obtain ⟨b, vs2, rfl, a2, s2⟩ := seq_rp r2
          obtain ⟨c, vs3, rfl, a3, s3⟩ := seq_rp r3
          refine ⟨k1, k2, k3, a, b, c, vs1, vs2, vs3, rfl, s1 _ n1.s, s2 _ n1.s, s3 _ n1.s, q _ H1 I1 n1 ⟨fun i H2 I2 e1 e2 hi => ?_, fun H2 I2 e1 e2 => ?_, fun i H2 I2 w H3 e1 e2 hi y => ?_⟩⟩
          · rw [triples_len] at hi
            obtain ⟨u, hu, _⟩ := a1.get (List.getElem?_eq_getElem (show i < xs.length by omega))
            obtain ⟨u2, hu2, _⟩ := a2.get (List.getElem?_eq_getElem (show i < ys.length by omega))
            obtain ⟨u3, hu3, _⟩ := a3.get (List.getElem?_eq_getElem (show i < zs.length by omega))
            exact ⟨vs1, vs2, vs3, u, u2, u3, s1 _ (e1.trans e2), s2 _ (e1.trans e2), s3 _ (e1.trans e2), hu, hu2, hu3⟩
          · refine ⟨vs1, vs2, vs3, s1 _ (e1.trans e2), s2 _ (e1.trans e2), s3 _ (e1.trans e2), ?_⟩
            rw [triples_len, a1.length, a2.length, a3.length]
            omega
          · obtain ⟨T, x, y', z', rfl, hT, rfl, f1, f2, f3⟩ := y
            refine ⟨upd I2 T (.tup [x, y', z']), Nx.new e2 hT, fun d hd => ?_⟩
            obtain ⟨dx, dy, dz, g1, g2, g3, rfl⟩ := triples_get hd
            obtain ⟨u, hu, ru⟩ := a1.get g1
            obtain ⟨u2, hu2, ru2⟩ := a2.get g2
            obtain ⟨u3, hu3, ru3⟩ := a3.get g3
            have q1 := f1 vs1 (s1 _ (e1.trans e2))
            have q2 := f2 vs2 (s2 _ (e1.trans e2))
            have q3 := f3 vs3 (s3 _ (e1.trans e2))
            rw [hu] at q1
            rw [hu2] at q2
            rw [hu3] at q3
            cases q1
            cases q2
            cases q3
            have e3 : Same I1 (upd I2 T (.tup [x, y', z'])) := e1.trans (same_new (e2.free hT))
            exact .tup upd_same (.cons (ru.mono e3) (.cons (ru2.mono e3) (.cons (ru3.mono e3) .nil)))
end
end Tw

/-! Tw4: the script as data; rows, moves, nets; what the laws draw. -/
namespace Tw
open PySem PySem.Spec PyProof.Rows L2

/-! ### the script -/
def scrD (ns : List Int) : PyData := .dict [(.none, .list (ns.map .int))]
section
variable {K : PySem.W.Frag} {δ : List Sl} {ta tb te : TE} {ns : List Int} {i : Int}
theorem map_int_inj : ∀ {a b : List Int}, a.map PyData.int = b.map PyData.int → a = b
  | [], [], _ => rfl
  | [], _ :: _, h => by cases h
  | _ :: _, [], h => by cases h
  | x :: xs, y :: ys, h => by
    rw [List.map_cons, List.map_cons] at h
    injection h with h1 h2
    injection h1 with h1
    rw [h1, map_int_inj h2]
theorem rp_scr {I : Hp} {v : V} (r : Rp K I v (scrD ns)) : ∃ a, v = .ref a ∧ SqL K I a (ns.map V.int) := by
  unfold scrD at r
  generalize e : (PyData.dict [(PyData.none, PyData.list (ns.map PyData.int))]) = d at r
  cases r with
  | @scr a ms h =>
    injection e with e
    injection e with e _
    injection e with _ e
    injection e with e
    rw [map_int_inj e]
    exact ⟨a, rfl, h⟩
  | _ => simp at e
theorem rc_lenZ : RAD K (rLenA K) [scrD ns] (.int ns.length) := fun H I vs s r Q q => by
  cases r with
  | cons r1 r2 =>
    cases r2
    obtain ⟨a, rfl, h⟩ := rp_scr r1
    refine ⟨_, _, rfl, .inl ⟨_, s.seq h, rfl⟩, ?_⟩
    rw [List.length_map]
    exact q _ H I (Nx.refl s) (.int _)
theorem rd_ixZ {z : Int} (h : atI ns i = some z) : R2D K (rIx K) (scrD ns) (.int i) (.int z) := fun H I v u s r1 r2 Q q => by
  obtain ⟨a, rfl, hl⟩ := rp_scr r1
  cases r2
  refine .inl ⟨a, _, i, .int z, rfl, rfl, s.seq hl, ?_, q _ H I (Nx.refl s) (.int z)⟩
  unfold atI at h ⊢
  rw [List.length_map]
  cases e : ixN ns.length i with
  | none => rw [e] at h; cases h
  | some j =>
    rw [e] at h
    show (ns.map V.int)[j]? = _
    rw [List.getElem?_map]
    rw [show ns[j]? = some z from h]
    rfl
theorem lay_ints : ∀ ns : List Int, PyData.canLayAll0 (ns.map PyData.int) = true
  | [] => rfl
  | n :: ns => by
    show (PyData.canLay0 (.int n) && PyData.canLayAll0 (ns.map PyData.int)) = true
    rw [lay_ints ns]
    rfl
theorem depth_ints : ∀ ns : List Int, PyData.depthAll (ns.map PyData.int) ≤ 0
  | [] => by decide
  | n :: ns => by
    have h := depth_ints ns
    show max (PyData.depth (.int n)) (PyData.depthAll (ns.map PyData.int)) ≤ 0
    have : PyData.depth (.int n) = 0 := rfl
    omega
theorem rd_eqZ : R2D K (rEqD K) (scrD ns) (.list []) (.bool (PyData.eqv (.list (ns.map .int)) (.list []))) := fun H I v u s r1 r2 Q q => by
  obtain ⟨a, rfl, hl⟩ := rp_scr r1
  cases r2 with
  | lst h2 a2 =>
    cases a2
    refine ⟨.list (ns.map .int), .list [], .lst (s.seq hl) ((ints_rall (K := K) (I := H) ns).dp (lay_ints ns)), .lst (.of (s _ _ h2)) .nil, ?_, by decide, q _ H I (Nx.refl s) (.bl _)⟩
    · have h1 : (PyData.list (ns.map .int)).canLay0 = true := lay_ints ns
      have h2 : (PyData.list (ns.map .int)).depth ≤ 64 := by
        have := depth_ints ns
        show PyData.depthAll (ns.map .int) + 1 ≤ 64
        omega
      show (PyData.canLay0 _ && decide _) = true
      rw [h1, decide_eq_true h2]
      rfl
end

/-! ### what the laws draw -/
def cellF (ns : List Int) (k : Int) : Int := if k < ns.length then ns.getD k.toNat 0 else if ns = [] then 0 else ns.getD (k % ns.length).toNat 0 * 31 + k
def drawnF (ns : List Int) (k : Int) : Int := (cellF ns k + 7919 * k + 1) * 48271 % 2147483647
def mixedF (ns : List Int) (k many : Int) : Int := (drawnF ns k * drawnF ns k + 7 * drawnF ns k + k) % 2147483629 % many
theorem mixed_lo (ns : List Int) (k : Int) {many : Int} (h : 0 < many) : 0 ≤ mixedF ns k many := Int.emod_nonneg _ (by omega)
theorem mixed_hi (ns : List Int) (k : Int) {many : Int} (h : 0 < many) : mixedF ns k many < many := Int.emod_lt_of_pos _ h
theorem drawn_lo (ns : List Int) (k : Int) : 0 ≤ drawnF ns k := Int.emod_nonneg _ (by decide)
theorem drawn_hi (ns : List Int) (k : Int) : drawnF ns k < 2147483647 := Int.emod_lt_of_pos _ (by decide)

/-! ### rows, moves, nets -/
def rowD (r : List Int) : PyData := .tuple (r.map .int)
def moveD (m : List Int × List Int) : PyData := .tuple [rowD m.1, rowD m.2]
def netD (n : Nat) (ms : List (List Int × List Int)) : PyData := .tuple [.int n, .tuple (ms.map moveD)]
/-- a row of n numbers from 0 to w -/
def RowOk (n : Nat) (w : Int) (r : List Int) : Prop := r.length = n ∧ ∀ x ∈ r, 0 ≤ x ∧ x ≤ w
structure NetOk (n : Nat) (w : Int) (ms : List (List Int × List Int)) : Prop where
  pos : 1 ≤ n
  top : n ≤ 6
  many : ms.length ≤ 10
  rows : ∀ m ∈ ms, RowOk n w m.1 ∧ RowOk n w m.2
theorem RowOk.mono {n : Nat} {w w' : Int} {r : List Int} (h : RowOk n w r) (hw : w ≤ w') : RowOk n w' r := ⟨h.1, fun x hx => ⟨(h.2 x hx).1, Int.le_trans (h.2 x hx).2 hw⟩⟩
theorem NetOk.mono {n : Nat} {w w' : Int} {ms : List (List Int × List Int)} (h : NetOk n w ms) (hw : w ≤ w') : NetOk n w' ms :=
  ⟨h.pos, h.top, h.many, fun m hm => ⟨(h.rows m hm).1.mono hw, (h.rows m hm).2.mono hw⟩⟩
/-- the items of a row -/
theorem row_get {r : List Int} {j : Nat} {z : Int} (h : r[j]? = some z) : (r.map PyData.int)[j]? = some (.int z) := by
  rw [List.getElem?_map, h]
  rfl
theorem row_get' {r : List Int} {j : Nat} {d : PyData} (h : (r.map PyData.int)[j]? = some d) : ∃ z, r[j]? = some z ∧ d = .int z := by
  rw [List.getElem?_map] at h
  cases e : r[j]? with
  | none => rw [e] at h; cases h
  | some z =>
    rw [e] at h
    exact ⟨z, rfl, (Option.some.inj h).symm⟩
theorem getD_get {α : Type} {l : List α} {j : Nat} {d : α} (h : j < l.length) : l[j]? = some (l.getD j d) := by
  rw [List.getD_eq_getElem?_getD, List.getElem?_eq_getElem h]
  rfl
theorem at_getD {l : List Int} {i : Int} (h0 : 0 ≤ i) (h1 : i < l.length) : atI l i = some (l.getD i.toNat 0) := by
  have e : i = (i.toNat : Int) := by omega
  rw [e]
  exact at_nat (getD_get (by omega))
theorem at_row {l : List Int} {i : Int} (h0 : 0 ≤ i) (h1 : i < l.length) : atI (l.map PyData.int) i = some (.int (l.getD i.toNat 0)) := by
  have e : i = (i.toNat : Int) := by omega
  rw [e]
  exact at_nat (row_get (getD_get (by omega)))
theorem at_map {α : Type} {l : List α} {f : α → PyData} {i : Int} {a : α} (h : atI l i = some a) : atI (l.map f) i = some (f a) := by
  unfold atI at h ⊢
  rw [List.length_map]
  cases e : ixN l.length i with
  | none => rw [e] at h; cases h
  | some j =>
    rw [e] at h
    show (l.map f)[j]? = _
    rw [List.getElem?_map]
    rw [show l[j]? = some a from h]
    rfl

/-- a row of draws by a table -/
def tabRow (tab : List Int) (f : Int → Int) (cells : List Int) : List Int := cells.map fun c => tab.getD (f c).toNat 0
def cellsF (ns : List Int) (at_ : Int) (size : Nat) : List Int := (List.range size).map fun (k : Nat) => mixedF ns (at_ + k) 25
/-- one token more at a place, so often -/
def pour (size : Int) : Nat → List Int → Int → List Int
  | 0, g, _ => g
  | n + 1, g, left => pour size n (g.set (left % size).toNat (g.getD (left % size).toNat 0 + 1)) (left / size)
def moveF (tab : List Int) (ns : List Int) (at_ : Int) (size : Nat) (even : Bool) : List Int × List Int :=
  let takes := tabRow tab (· % 5) (cellsF ns at_ size)
  (takes, if even then pour size takes.sum.toNat (List.replicate size 0) (mixedF ns (at_ + 4) 65536) else tabRow tab (· / 5) (cellsF ns at_ size))
theorem cells_get {ns : List Int} {at_ : Int} {size : Nat} {c : Int} (h : c ∈ cellsF ns at_ size) : 0 ≤ c ∧ c < 25 := by
  unfold cellsF at h
  obtain ⟨k, _, rfl⟩ := List.mem_map.mp h
  exact ⟨mixed_lo _ _ (by decide), mixed_hi _ _ (by decide)⟩
theorem tab_ok {tab : List Int} {w : Int} (ht : tab.length = 5) (hw : ∀ x ∈ tab, 0 ≤ x ∧ x ≤ w) {f : Int → Int} {ns : List Int} {at_ : Int} {size : Nat} (hf : ∀ c, 0 ≤ c → c < 25 → 0 ≤ f c ∧ f c < 5) : RowOk size w (tabRow tab f (cellsF ns at_ size)) := by
  refine ⟨by unfold tabRow cellsF; rw [List.length_map, List.length_map, List.length_range], fun x hx => ?_⟩
  unfold tabRow at hx
  obtain ⟨c, hc, rfl⟩ := List.mem_map.mp hx
  obtain ⟨h0, h1⟩ := cells_get hc
  obtain ⟨f0, f1⟩ := hf c h0 h1
  refine hw _ ?_
  rw [List.getD_eq_getElem?_getD, List.getElem?_eq_getElem (show (f c).toNat < tab.length by omega)]
  exact List.getElem_mem _
theorem pour_len {size : Int} : ∀ (n : Nat) (g : List Int) (l : Int), (pour size n g l).length = g.length
  | 0, _, _ => rfl
  | n + 1, g, l => by
    unfold pour
    rw [pour_len n, List.length_set]
theorem pour_ok {size : Int} : ∀ (n : Nat) (g : List Int) (l w : Int), (∀ x ∈ g, 0 ≤ x ∧ x ≤ w) → 0 ≤ w → ∀ x ∈ pour size n g l, 0 ≤ x ∧ x ≤ w + n
  | 0, g, l, w, h, hw, x, hx => by
    have := h x hx
    omega
  | n + 1, g, l, w, h, hw, x, hx => by
    have hd : ∀ j : Nat, 0 ≤ g.getD j 0 ∧ g.getD j 0 ≤ w := fun j => by
      by_cases hj : j < g.length
      · rw [List.getD_eq_getElem?_getD, List.getElem?_eq_getElem hj]
        exact h _ (List.getElem_mem _)
      · rw [List.getD_eq_getElem?_getD, List.getElem?_eq_none_iff.mpr (by omega)]
        exact ⟨Int.le_refl _, hw⟩
    have ih := pour_ok n (g.set (l % size).toNat (g.getD (l % size).toNat 0 + 1)) (l / size) (w + 1) (fun y hy => by
      rcases List.mem_or_eq_of_mem_set hy with q | q
      · have := h y q
        omega
      · have := hd (l % size).toNat
        omega) (by omega) x hx
    omega
theorem sum_le {w : Int} : ∀ (r : List Int), (∀ x ∈ r, 0 ≤ x ∧ x ≤ w) → 0 ≤ r.sum ∧ r.sum ≤ w * r.length
  | [], _ => by simp
  | a :: r, h => by
    have ih := sum_le r fun x hx => h x (List.mem_cons_of_mem _ hx)
    have ha := h a List.mem_cons_self
    rw [List.sum_cons, List.length_cons, Int.natCast_succ, Int.mul_add, Int.mul_one]
    omega
/-- a drawn move: rows of that many numbers, at most w (at most 2 * size where it gives as many as it takes) -/
theorem move_ok {tab : List Int} {w W : Int} (ht : tab.length = 5) (hw : ∀ x ∈ tab, 0 ≤ x ∧ x ≤ w) (ns : List Int) (at_ : Int) (size : Nat) (even : Bool) (hW : w ≤ W) (hE : even = true → w * size ≤ W) (h0 : 0 ≤ w) :
    RowOk size W (moveF tab ns at_ size even).1 ∧ RowOk size W (moveF tab ns at_ size even).2 := by
  have h1 : RowOk size w (tabRow tab (· % 5) (cellsF ns at_ size)) := tab_ok ht hw fun c a b => ⟨Int.emod_nonneg _ (by decide), Int.emod_lt_of_pos _ (by decide)⟩
  have h2 : RowOk size w (tabRow tab (· / 5) (cellsF ns at_ size)) := tab_ok ht hw fun c a b => ⟨by omega, by omega⟩
  refine ⟨h1.mono hW, ?_⟩
  cases even with
  | false => exact h2.mono hW
  | true =>
    show RowOk size W (pour size (tabRow tab (· % 5) (cellsF ns at_ size)).sum.toNat (List.replicate size 0) (mixedF ns (at_ + 4) 65536))
    refine ⟨by rw [pour_len, List.length_replicate], fun x hx => ?_⟩
    have hs := sum_le _ h1.2
    rw [h1.1] at hs
    have hE' := hE rfl
    have := pour_ok _ _ _ 0 (fun y hy => by rw [List.eq_of_mem_replicate hy]; exact ⟨Int.le_refl _, Int.le_refl _⟩) (Int.le_refl _) x hx
    omega
def sizeF (ns : List Int) (at_ : Int) : Nat := if mixedF ns (at_ + 2) 6 = 5 then 4 else (1 + mixedF ns at_ 3).toNat
def manyF (ns : List Int) (at_ : Int) : Nat := (mixedF ns (at_ + 1) 5).toNat
def evenF (ns : List Int) (at_ : Int) : Bool := decide (mixedF ns (at_ + 3) 2 = 1)
theorem size_ok (ns : List Int) (at_ : Int) : 1 ≤ sizeF ns at_ ∧ sizeF ns at_ ≤ 4 := by
  have h0 := mixed_lo ns at_ (many := 3) (by decide)
  have h1 := mixed_hi ns at_ (many := 3) (by decide)
  unfold sizeF
  split <;> omega
theorem many_ok (ns : List Int) (at_ : Int) : manyF ns at_ ≤ 4 := by
  have h1 := mixed_hi ns (at_ + 1) (many := 5) (by decide)
  unfold manyF
  omega
def movesF (tab : List Int) (ns : List Int) (at_ : Int) : List (List Int × List Int) := (List.range (manyF ns at_)).map fun (k : Nat) => moveF tab ns (at_ + 4 + 5 * k) (sizeF ns at_) (evenF ns at_)
def tab0 : List Int := [0, 0, 1, 1, 2]
def tab9 : List Int := [0, 1, 3, 5, 9]
/-- the table by which a net's numbers are drawn: wide ones in a twelfth -/
def tabF (ns : List Int) (even : Bool) : List Int := if even = false ∧ mixedF ns 62 6 = 0 then tab9 else tab0
def hoardF (ns : List Int) (at_ : Int) (size : Nat) (most : Int) : List Int := (List.range size).map fun (k : Nat) => mixedF ns (at_ + k) (most + 1)
theorem hoard_ok (ns : List Int) (at_ : Int) (size : Nat) {most : Int} (h : 0 ≤ most) : RowOk size most (hoardF ns at_ size most) := by
  unfold hoardF
  refine ⟨by rw [List.length_map, List.length_range], fun x hx => ?_⟩
  obtain ⟨k, _, rfl⟩ := List.mem_map.mp hx
  have := mixed_lo ns (at_ + k) (many := most + 1) (by omega)
  have := mixed_hi ns (at_ + k) (many := most + 1) (by omega)
  omega
theorem net_ok0 (ns : List Int) (at_ : Int) : NetOk (sizeF ns at_) 9 (movesF tab0 ns at_) := by
  have h := size_ok ns at_
  refine ⟨h.1, by omega, by unfold movesF; rw [List.length_map, List.length_range]; have := many_ok ns at_; omega, fun m hm => ?_⟩
  unfold movesF at hm
  obtain ⟨k, _, rfl⟩ := List.mem_map.mp hm
  exact move_ok (w := 2) rfl (by decide) ns _ _ _ (by decide) (fun _ => by omega) (by decide)
theorem net_ok9 (ns : List Int) (at_ : Int) : NetOk (sizeF ns at_) 9 (movesF (tabF ns (evenF ns at_)) ns at_) := by
  have h := size_ok ns at_
  refine ⟨h.1, by omega, by unfold movesF; rw [List.length_map, List.length_range]; have := many_ok ns at_; omega, fun m hm => ?_⟩
  unfold movesF at hm
  obtain ⟨k, _, rfl⟩ := List.mem_map.mp hm
  unfold tabF
  split
  · rename_i he
    rw [he.1]
    exact move_ok (w := 9) rfl (by decide) ns _ _ _ (by decide) (fun z => by cases z) (by decide)
  · exact move_ok (w := 2) rfl (by decide) ns _ _ _ (by decide) (fun _ => by omega) (by decide)
theorem net_ok2 (ns : List Int) (at_ : Int) (h : evenF ns at_ = false) : NetOk (sizeF ns at_) 2 (movesF tab0 ns at_) := by
  have h' := size_ok ns at_
  refine ⟨h'.1, by omega, by unfold movesF; rw [List.length_map, List.length_range]; have := many_ok ns at_; omega, fun m hm => ?_⟩
  unfold movesF at hm
  obtain ⟨k, _, rfl⟩ := List.mem_map.mp hm
  exact move_ok (w := 2) rfl (by decide) ns _ _ _ (by decide) (fun z => by rw [h] at z; cases z) (by decide)
end Tw

/-! Tw5: shapes of loops that come often; what is clean data. -/
namespace Tw
open PySem PySem.Spec PyProof.Rows L2
/-! ### data that hold no script -/
mutual
def cln : PyData → Bool
  | .dict [] => true
  | .dict _ => false
  | .list ds => clnAll ds
  | .tuple ds => clnAll ds
  | _ => true
def clnAll : List PyData → Bool
  | [] => true
  | d :: ds => cln d && clnAll ds
end
def NoScr (d : PyData) : Prop := ∀ q, d ≠ .dict [q]
theorem cln_no {d : PyData} (h : cln d = true) : NoScr d := fun q e => by
  subst e
  cases h
theorem clnAll_get : ∀ {ds : List PyData} {i : Nat} {d : PyData}, clnAll ds = true → ds[i]? = some d → cln d = true
  | [], _, _, _, e => by simp at e
  | a :: r, 0, d, h, e => by
    have h' := Bool.and_eq_true_iff.mp (show (cln a && clnAll r) = true from h)
    simp at e
    subst e
    exact h'.1
  | a :: r, i + 1, d, h, e => by
    have h' := Bool.and_eq_true_iff.mp (show (cln a && clnAll r) = true from h)
    exact clnAll_get (i := i) h'.2 (by simpa using e)
theorem cln_ints : ∀ r : List Int, clnAll (r.map .int) = true
  | [] => rfl
  | _ :: r => by
    show (true && clnAll (r.map .int)) = true
    rw [cln_ints r]
    rfl
theorem cln_row (r : List Int) : cln (rowD r) = true := cln_ints r
theorem cln_moves : ∀ ms : List (List Int × List Int), clnAll (ms.map moveD) = true
  | [] => rfl
  | m :: ms => by
    show ((cln (rowD m.1) && (cln (rowD m.2) && true)) && clnAll (ms.map moveD)) = true
    rw [cln_moves ms, cln_row, cln_row]
    rfl
theorem cln_net (n : Nat) (ms : List (List Int × List Int)) : cln (netD n ms) = true := by
  show (true && ((clnAll (ms.map moveD)) && true)) = true
  rw [cln_moves]
  rfl
/-! ### loops -/
section
variable {K : PySem.W.Frag} {E : XK} {δ : List Sl} {ta tb te te1 te2 : TE} {tt : TT} {t u : TS} {x y z r1 r2 : PyData} {xs ys : List PyData} {P P' : Out → Prop}
/-- for ..: if test: return e1 / return e2 -/
theorem as_search {wi : TI} {g : TG} (p : Nat → Bool) (hi : EvI K wi δ xs) (Fr : List Sl → Prop) (h0 : Fr δ)
    (ht : ∀ i d δ', xs[i]? = some d → Fr δ' → (∀ j, j < i → p j = false) → Ag K g d δ' (fun δ2 => EvT K tt δ2 (p i) ∧ Fr δ2)) (h1 : ∀ δ', Fr δ' → Ev K te1 δ' r1) (h2 : ∀ δ', Fr δ' → Ev K te2 δ' r2)
    (k : P (.rt (if (List.range xs.length).any p then r1 else r2))) : As K E (tSeq (tFor wi g (tIfS tt (tRet te1) tNext)) (tRet te2)) δ P := by
  refine as_seq (as_for hi (fun i δ' => Fr δ' ∧ ∀ j, j < i → p j = false) ⟨h0, fun j hj => by omega⟩ (fun i d δ' hd hp => ?_) (fun δ' hp => ?_))
  · refine fun G σ H I v r s rv Q q => ht i d δ' hd hp.1 hp.2 G σ H I v r s rv Q fun δ2 σ' hh rr => q δ2 σ' ?_ rr
    have hlt : i < xs.length := (List.getElem?_eq_some_iff.mp hd).1
    refine as_if hh.1 (fun hb => as_ret (h1 _ hh.2) ?_) (fun hb => as_next ⟨hh.2, fun j hj => ?_⟩)
    · show P (.rt r1)
      rw [if_pos (List.any_eq_true.mpr ⟨i, List.mem_range.mpr hlt, hb⟩)] at k
      exact k
    · rcases Nat.lt_or_eq_of_le (Nat.le_of_lt_succ hj) with q | q
      · exact hp.2 j q
      · rw [q]; exact hb
  · show As K E (tRet te2) δ' P
    refine as_ret (h2 _ hp.1) ?_
    have e : (List.range xs.length).any p = false := by
      rw [List.any_eq_false]
      intro j hj
      rw [hp.2 j (List.mem_range.mp hj)]
      decide
    rw [e] at k
    exact k
/-- [e for x in ..]: every item kept -/
theorem en_map {wi : TI} {g : TG} {vs : List Nat} (f : Nat → PyData) (hi : EvI K wi δ xs) (hz : xs.length ≤ sizeLine) (hw : GWipe g vs)
    (hs : ∀ i d, xs[i]? = some d → Ag K g d (wipeD δ vs) (fun δ2 => Ev K te δ2 (f i))) : EvN K (tLc wi g tYes te vs) δ ((List.range xs.length).map f) := by
  rw [← kept_map]
  exact en_lc (fun _ => true) f hi hz hw fun i d hd G σ H I v r s rv Q q => hs i d hd G σ H I v r s rv Q fun δ2 σ' hh rr => q δ2 σ' ⟨et_yes, fun _ => hh⟩ rr
theorem gw_tup2 {i j : Nat} {vs : List Nat} (h : ∀ σ : L2.St, ∀ v w, L2.wipe (((L2.wipe σ vs).set i (some v)).set j (some w)) vs = L2.wipe σ vs) : GWipe (gTup K 2 (gCons (gName i) (gCons (gName j) gNil))) vs :=
  fun v σ H Q Q' k ⟨a, xs, e, hs, hl, v1, r1, e1, v2, r2, e2, e3, q⟩ => ⟨a, xs, e, hs, hl, v1, r1, e1, v2, r2, e2, e3, k _ (h σ v1 v2) q⟩
theorem gw_tup3 {i j l : Nat} {vs : List Nat} (h : ∀ σ : L2.St, ∀ v w u, L2.wipe ((((L2.wipe σ vs).set i (some v)).set j (some w)).set l (some u)) vs = L2.wipe σ vs) : GWipe (gTup K 3 (gCons (gName i) (gCons (gName j) (gCons (gName l) gNil)))) vs :=
  fun v σ H Q Q' k ⟨a, xs, e, hs, hl, v1, r1, e1, v2, r2, e2, v3, r3, e3, e4, q⟩ => ⟨a, xs, e, hs, hl, v1, r1, e1, v2, r2, e2, v3, r3, e3, e4, k _ (h σ v1 v2 v3) q⟩
theorem wipe_one (i : Nat) (σ : L2.St) (v : V) : L2.wipe ((L2.wipe σ [i]).set i (some v)) [i] = L2.wipe σ [i] := by
  show (((σ.set i none).set i (some v)).set i none) = σ.set i none
  rw [List.set_set, List.set_set]
theorem set_none_set {σ : L2.St} {i j : Nat} {v : V} : ((σ.set i (some v)).set j none).set i none = (σ.set j none).set i none := by
  by_cases h : i = j
  · subst h
    rw [List.set_set, List.set_set, List.set_set]
  · rw [List.set_comm _ _ h, List.set_set]
theorem wipe_two (i j : Nat) (σ : L2.St) (v w : V) : L2.wipe (((L2.wipe σ [i, j]).set i (some v)).set j (some w)) [i, j] = L2.wipe σ [i, j] := by
  apply List.ext_getElem?
  intro k
  show ((((((σ.set j none).set i none).set i (some v)).set j (some w)).set j none).set i none)[k]? = ((σ.set j none).set i none)[k]?
  simp only [List.getElem?_set, List.length_set]
  split <;> split <;> simp_all
theorem wipe_three (i j l : Nat) (σ : L2.St) (v w u : V) : L2.wipe ((((L2.wipe σ [i, j, l]).set i (some v)).set j (some w)).set l (some u)) [i, j, l] = L2.wipe σ [i, j, l] := by
  apply List.ext_getElem?
  intro k
  show ((((((((σ.set l none).set j none).set i none).set i (some v)).set j (some w)).set l (some u)).set l none).set j none |>.set i none)[k]? = (((σ.set l none).set j none).set i none)[k]?
  simp only [List.getElem?_set, List.length_set]
  repeat' (first | rfl | (split <;> first | rfl | skip) | simp_all)
theorem gw1 (i : Nat) : GWipe (gName i) [i] := gw_name (wipe_one i)
theorem gw2 (i j : Nat) : GWipe (gTup K 2 (gCons (gName i) (gCons (gName j) gNil))) [i, j] := gw_tup2 (wipe_two i j)
theorem gw3 (i j l : Nat) : GWipe (gTup K 3 (gCons (gName i) (gCons (gName j) (gCons (gName l) gNil)))) [i, j, l] := gw_tup3 (wipe_three i j l)
theorem row_line {r : List Int} (h : r.length ≤ 1000) : (r.map PyData.int).length ≤ sizeLine := by
  rw [List.length_map]
  exact small_line (by omega)
theorem nums_line {lo : Int} {n : Nat} (h : n ≤ 1000) : (nums lo n).length ≤ sizeLine := by
  rw [nums_len]
  exact small_line (by omega)
/-- a move of a net by its number -/
theorem net_moves {n : Nat} {ms : List (List Int × List Int)} {i : Nat} (h : δ[i]? = some (.d (netD n ms))) : Ev K (tOp (rIx K) (tVar i) (tC (.int 1))) δ (.tuple (ms.map moveD)) := ev_op (ev_var h) ev_int (rd_ixT rfl)
theorem net_size {n : Nat} {ms : List (List Int × List Int)} {i : Nat} (h : δ[i]? = some (.d (netD n ms))) : Ev K (tOp (rIx K) (tVar i) (tC (.int 0))) δ (.int n) := ev_op (ev_var h) ev_int (rd_ixT rfl)
theorem net_move {n : Nat} {ms : List (List Int × List Int)} {i j : Nat} {k : Nat} {m : List Int × List Int} (h : δ[i]? = some (.d (netD n ms))) (hj : δ[j]? = some (.d (.int k))) (hm : ms[k]? = some m) :
    Ev K (tOp (rIx K) (tOp (rIx K) (tVar i) (tC (.int 1))) (tVar j)) δ (moveD m) := ev_op (net_moves h) (ev_var hj) (rd_ixT (at_map (at_nat hm)))
end
theorem eqv_int (i j : Int) : PyData.eqv (.int i) (.int j) = decide (i = j) := by
  show (i == j) = _
  by_cases h : i = j
  · subst h; simp
  · simp [h]
/-! ### kinds of data -/
def isInt : PyData → Bool
  | .int _ => true
  | _ => false
theorem kit_int (d : PyData) (h : NoScr d) : ∃ b, kitB (tyD d) "int" = some b ∧ ∃ c, kitB (tyD d) "bool" = some c ∧ (b && !c) = isInt d := by
  cases d with
  | none => exact ⟨false, (show kitB "NoneType" "int" = some false by decide +kernel), false, (show kitB "NoneType" "bool" = some false by decide +kernel), rfl⟩
  | bool b => exact ⟨true, (show kitB "bool" "int" = some true by decide +kernel), true, (show kitB "bool" "bool" = some true by decide +kernel), rfl⟩
  | int i => exact ⟨true, (show kitB "int" "int" = some true by decide +kernel), false, (show kitB "int" "bool" = some false by decide +kernel), rfl⟩
  | str x => exact ⟨false, (show kitB "str" "int" = some false by decide +kernel), false, (show kitB "str" "bool" = some false by decide +kernel), rfl⟩
  | list xs => exact ⟨false, (show kitB "list" "int" = some false by decide +kernel), false, (show kitB "list" "bool" = some false by decide +kernel), rfl⟩
  | tuple xs => exact ⟨false, (show kitB "tuple" "int" = some false by decide +kernel), false, (show kitB "tuple" "bool" = some false by decide +kernel), rfl⟩
  | dict kvs =>
    cases kvs with
    | nil => exact ⟨false, (show kitB "dict" "int" = some false by decide +kernel), false, (show kitB "dict" "bool" = some false by decide +kernel), rfl⟩
    | cons q r => exact ⟨false, (show kitB "list" "int" = some false by decide +kernel), false, (show kitB "list" "bool" = some false by decide +kernel), rfl⟩
theorem kit_tup (d : PyData) (h : NoScr d) : ∃ b, kitB (tyD d) "tuple" = some b ∧ (b = true → ∃ xs, d = .tuple xs) ∧ (b = false → ∀ xs, d ≠ .tuple xs) := by
  cases d with
  | none => exact ⟨false, (show kitB "NoneType" "tuple" = some false by decide +kernel), (fun z => by cases z), fun _ _ z => by cases z⟩
  | bool b => exact ⟨false, (show kitB "bool" "tuple" = some false by decide +kernel), (fun z => by cases z), fun _ _ z => by cases z⟩
  | int i => exact ⟨false, (show kitB "int" "tuple" = some false by decide +kernel), (fun z => by cases z), fun _ _ z => by cases z⟩
  | str x => exact ⟨false, (show kitB "str" "tuple" = some false by decide +kernel), (fun z => by cases z), fun _ _ z => by cases z⟩
  | list xs => exact ⟨false, (show kitB "list" "tuple" = some false by decide +kernel), (fun z => by cases z), fun _ _ z => by cases z⟩
  | tuple xs => exact ⟨true, (show kitB "tuple" "tuple" = some true by decide +kernel), (fun _ => ⟨xs, rfl⟩), fun z => by cases z⟩
  | dict kvs =>
    cases kvs with
    | nil => exact ⟨false, (show kitB "dict" "tuple" = some false by decide +kernel), (fun z => by cases z), fun _ _ z => by cases z⟩
    | cons q r => exact ⟨false, (show kitB "list" "tuple" = some false by decide +kernel), (fun z => by cases z), fun _ _ z => by cases z⟩
theorem kit_str (d : PyData) (h : NoScr d) : ∃ b, kitB (tyD d) "str" = some b ∧ (b = true → ∃ xs, d = .str xs) ∧ (b = false → ∀ xs, d ≠ .str xs) := by
  cases d with
  | none => exact ⟨false, (show kitB "NoneType" "str" = some false by decide +kernel), (fun z => by cases z), fun _ _ z => by cases z⟩
  | bool b => exact ⟨false, (show kitB "bool" "str" = some false by decide +kernel), (fun z => by cases z), fun _ _ z => by cases z⟩
  | int i => exact ⟨false, (show kitB "int" "str" = some false by decide +kernel), (fun z => by cases z), fun _ _ z => by cases z⟩
  | str x => exact ⟨true, (show kitB "str" "str" = some true by decide +kernel), (fun _ => ⟨x, rfl⟩), fun z => by cases z⟩
  | list xs => exact ⟨false, (show kitB "list" "str" = some false by decide +kernel), (fun z => by cases z), fun _ _ z => by cases z⟩
  | tuple xs => exact ⟨false, (show kitB "tuple" "str" = some false by decide +kernel), (fun z => by cases z), fun _ _ z => by cases z⟩
  | dict kvs =>
    cases kvs with
    | nil => exact ⟨false, (show kitB "dict" "str" = some false by decide +kernel), (fun z => by cases z), fun _ _ z => by cases z⟩
    | cons q r => exact ⟨false, (show kitB "list" "str" = some false by decide +kernel), (fun z => by cases z), fun _ _ z => by cases z⟩
theorem kit_lst (d : PyData) (h : cln d = true) : ∃ b, kitB (tyD d) "list" = some b ∧ (b = true → ∃ xs, d = .list xs) ∧ (b = false → ∀ xs, d ≠ .list xs) := by
  cases d with
  | none => exact ⟨false, (show kitB "NoneType" "list" = some false by decide +kernel), (fun z => by cases z), fun _ _ z => by cases z⟩
  | bool b => exact ⟨false, (show kitB "bool" "list" = some false by decide +kernel), (fun z => by cases z), fun _ _ z => by cases z⟩
  | int i => exact ⟨false, (show kitB "int" "list" = some false by decide +kernel), (fun z => by cases z), fun _ _ z => by cases z⟩
  | str x => exact ⟨false, (show kitB "str" "list" = some false by decide +kernel), (fun z => by cases z), fun _ _ z => by cases z⟩
  | list xs => exact ⟨true, (show kitB "list" "list" = some true by decide +kernel), (fun _ => ⟨xs, rfl⟩), fun z => by cases z⟩
  | tuple xs => exact ⟨false, (show kitB "tuple" "list" = some false by decide +kernel), (fun z => by cases z), fun _ _ z => by cases z⟩
  | dict kvs =>
    cases kvs with
    | nil => exact ⟨false, (show kitB "dict" "list" = some false by decide +kernel), (fun z => by cases z), fun _ _ z => by cases z⟩
    | cons q r => cases h
theorem shaped_int (i : Int) : SeqAt.shaped (.int i) = true := rfl
/-- an item that is there -/
theorem item_eq {xs : List PyData} {i : Nat} {d : PyData} (h : xs[i]? = some d) : xs.getD i .none = d := by
  rw [List.getD_eq_getElem?_getD, h]
  rfl
theorem any_not {n : Nat} {p : Nat → Bool} : ((List.range n).any fun i => !p i) = !(List.range n).all p := by
  rw [List.all_eq_not_any_not, Bool.not_not]
theorem map_getD {r : List Int} {n : Nat} (h : r.length = n) : (List.range n).map (fun k => r.getD k 0) = r := by
  subst h
  apply List.ext_getElem?
  intro k
  rw [List.getElem?_map]
  by_cases hk : k < r.length
  · rw [List.getElem?_range hk, List.getElem?_eq_getElem hk, Option.map_some, List.getD_eq_getElem?_getD, List.getElem?_eq_getElem hk]
    rfl
  · rw [List.getElem?_eq_none_iff.mpr (by rw [List.length_range]; omega), List.getElem?_eq_none_iff.mpr (by omega)]
    rfl
theorem eqv_nat (i j : Nat) : PyData.eqv (.int i) (.int j) = decide (i = j) := by
  rw [eqv_int]
  exact decide_eq_decide.mpr Int.ofNat_inj
section
variable {K : PySem.W.Frag} {E : XK} {δ δ1 : List Sl} {t u : TS} {P : Out → Prop}
/-- t leads to these slots, whichever way -/
theorem as_to (h : As K E t δ (fun o => o = .nx δ1)) (h2 : As K E u δ1 P) : As K E (tSeq t u) δ P := as_seq (h.mono fun o e => by
  subst e
  exact h2)
theorem as_toQ {Q : List Sl → Prop} (h : As K E t δ (fun o => ∃ δ1, Q δ1 ∧ o = .nx δ1)) (h2 : ∀ δ1, Q δ1 → As K E u δ1 P) : As K E (tSeq t u) δ P := as_seq (h.mono fun o e => by
  obtain ⟨δ1, q, rfl⟩ := e
  exact h2 δ1 q)
end
theorem ix_of {n : Nat} {i : Int} (h0 : 0 ≤ i) (h1 : i < n) : ixN n i = some i.toNat := by
  unfold ixN
  rw [if_pos h0, if_pos h1]
theorem tab_len (ns : List Int) (even : Bool) : (tabF ns even).length = 5 := by
  unfold tabF
  split <;> rfl
theorem tab_all (ns : List Int) (even : Bool) : ∀ x ∈ tabF ns even, 0 ≤ x ∧ x ≤ 9 := by
  unfold tabF
  split <;> decide
theorem map_range {α β : Type} (l : List α) (d : α) (f : α → β) : (List.range l.length).map (fun i => f (l.getD i d)) = l.map f := by
  apply List.ext_getElem?
  intro k
  rw [List.getElem?_map, List.getElem?_map]
  by_cases hk : k < l.length
  · rw [List.getElem?_range hk, List.getElem?_eq_getElem hk, Option.map_some, Option.map_some, List.getD_eq_getElem?_getD, List.getElem?_eq_getElem hk]
    rfl
  · rw [List.getElem?_eq_none_iff.mpr (by rw [List.length_range]; omega), List.getElem?_eq_none_iff.mpr (by omega)]
    rfl
theorem map_set_int (l : List Int) (i : Nat) (x : Int) : (l.map PyData.int).set i (.int x) = (l.set i x).map .int := by
  rw [List.map_set]
theorem lay_moves : ∀ ms : List (List Int × List Int), PyData.canLayAll0 (ms.map moveD) = true
  | [] => rfl
  | m :: ms => by
    show ((PyData.canLayAll0 (m.1.map .int) && (PyData.canLayAll0 (m.2.map .int) && true)) && PyData.canLayAll0 (ms.map moveD)) = true
    rw [lay_ints, lay_ints, lay_moves ms]
    rfl
theorem depth_moves : ∀ ms : List (List Int × List Int), PyData.depthAll (ms.map moveD) ≤ 2
  | [] => by decide
  | m :: ms => by
    have h := depth_moves ms
    have h1 := depth_ints m.1
    have h2 := depth_ints m.2
    show max (max (PyData.depthAll (m.1.map .int) + 1) (max (PyData.depthAll (m.2.map .int) + 1) 0) + 1) (PyData.depthAll (ms.map moveD)) ≤ 2
    omega
theorem shaped_of {d : PyData} (h1 : d.canLay0 = true) (h2 : d.depth ≤ 64) : SeqAt.shaped d = true := by
  show (d.canLay0 && decide (d.depth ≤ 64)) = true
  rw [h1, decide_eq_true h2]
  rfl
theorem shaped_moves (ms : List (List Int × List Int)) : SeqAt.shaped (.tuple (ms.map moveD)) = true :=
  shaped_of (lay_moves ms) (by have := depth_moves ms; show PyData.depthAll _ + 1 ≤ 64; omega)
theorem shaped_row (r : List Int) : SeqAt.shaped (rowD r) = true :=
  shaped_of (lay_ints r) (by have := depth_ints r; show PyData.depthAll _ + 1 ≤ 64; omega)
theorem shaped_intsL (r : List Int) : SeqAt.shaped (.list (r.map .int)) = true :=
  shaped_of (lay_ints r) (by have := depth_ints r; show PyData.depthAll _ + 1 ≤ 64; omega)
theorem shaped_net (n : Nat) (ms : List (List Int × List Int)) : SeqAt.shaped (netD n ms) = true :=
  shaped_of (by show (true && (PyData.canLayAll0 (ms.map moveD) && true)) = true; rw [lay_moves]; rfl) (by have := depth_moves ms; show max 0 (max (PyData.depthAll (ms.map moveD) + 1) 0) + 1 ≤ 64; omega)
theorem eqv_moves (ms : List (List Int × List Int)) : PyData.eqv (.tuple (ms.map moveD)) (.tuple []) = decide (ms = []) := by
  cases ms with
  | nil => rfl
  | cons m r => rfl
theorem cut_take {xs : List PyData} {k : Nat} : cutD xs none (some (k : Int)) = xs.take k := by
  unfold cutD
  rw [HT.sIx_none, HT.sIx_nat, List.drop_zero, Nat.sub_zero]
  by_cases h : k ≤ xs.length
  · rw [Nat.min_eq_left h]
  · rw [Nat.min_eq_right (by omega), List.take_length, List.take_of_length_le (by omega)]
theorem cut_drop {xs : List PyData} {k : Nat} : cutD xs (some (k : Int)) none = xs.drop k := by
  unfold cutD
  rw [HT.sIx_none, HT.sIx_nat]
  by_cases h : k ≤ xs.length
  · rw [Nat.min_eq_left h]
    exact List.take_of_length_le (by rw [List.length_drop]; exact Nat.le_refl _)
  · rw [Nat.min_eq_right (by omega), Nat.sub_self, List.take_zero, List.drop_of_length_le (by omega)]
def overB (one other : List Int) : Bool := (List.range other.length).all fun k => decide (other.getD k 0 ≤ one.getD k 0)
theorem lt_not_le (a b : Int) : decide (a < b) = !decide (b ≤ a) := by
  by_cases h : a < b
  · rw [decide_eq_true h, decide_eq_false (by omega)]; rfl
  · rw [decide_eq_false h, decide_eq_true (by omega)]; rfl
theorem search_all {n : Nat} {p : Nat → Bool} : (if ((List.range n).any fun i => !p i) then PyData.bool false else PyData.bool true) = .bool ((List.range n).all p) := by
  rw [any_not]
  cases (List.range n).all p <;> rfl
def ledR (h takes gives : List Int) : List Int := (List.range h.length).map fun k => h.getD k 0 - takes.getD k 0 + gives.getD k 0
theorem overB_iff {a b : List Int} : overB a b = true ↔ ∀ k, k < b.length → b.getD k 0 ≤ a.getD k 0 := by
  unfold overB
  rw [List.all_eq_true]
  exact ⟨fun h k hk => of_decide_eq_true (h k (List.mem_range.mpr hk)), fun h k hk => decide_eq_true (h k (List.mem_range.mp hk))⟩
theorem getD_map_range {n k : Nat} {f : Nat → Int} (h : k < n) : ((List.range n).map f).getD k 0 = f k := by
  rw [List.getD_eq_getElem?_getD, List.getElem?_map, List.getElem?_range h]
  rfl
theorem led_get {h a b : List Int} {k : Nat} (hk : k < h.length) : (ledR h a b).getD k 0 = h.getD k 0 - a.getD k 0 + b.getD k 0 := getD_map_range hk
theorem led_len {h a b : List Int} : (ledR h a b).length = h.length := by unfold ledR; rw [List.length_map, List.length_range]
def natB : PyData → Bool
  | .int i => decide (0 ≤ i)
  | _ => false
def hoardB (n : Nat) : PyData → Bool
  | .tuple ds => decide (ds.length = n) && (List.range ds.length).all fun i => natB (ds.getD i .none)
  | _ => false
theorem hoardB_no {n : Nat} {d : PyData} (h : ∀ xs, d ≠ .tuple xs) : hoardB n d = false := by
  cases d <;> first | rfl | exact absurd rfl (h _)


theorem hoardB_row {n : Nat} {r : List Int} (h : r.length = n) (h0 : ∀ x ∈ r, 0 ≤ x) : hoardB n (rowD r) = true := by
  show (decide ((r.map PyData.int).length = n) && (List.range (r.map PyData.int).length).all fun i => natB ((r.map PyData.int).getD i .none)) = true
  rw [List.length_map, decide_eq_true h, Bool.true_and, List.all_eq_true]
  intro i hi
  have hi' := List.mem_range.mp hi
  rw [item_eq (row_get (List.getElem?_eq_getElem hi'))]
  exact decide_eq_true (h0 _ (List.getElem_mem _))
def inB (d : PyData) (l m : Int) : Bool := match d with
  | .int i => decide (l ≤ i) && decide (i ≤ m)
  | _ => false
theorem inB_nat {ms : List (List Int × List Int)} {k : Nat} {m : List Int × List Int} (h : ms[k]? = some m) : inB (.int (k : Nat)) 0 (ms.length - 1) = true := by
  have := (List.getElem?_eq_some_iff.mp h).1
  show (decide ((0 : Int) ≤ (k : Int)) && decide ((k : Int) ≤ (ms.length : Int) - 1)) = true
  rw [decide_eq_true (by omega), decide_eq_true (by omega)]
  rfl
theorem range_all {f : PyData → Bool} (xs : List PyData) : ((List.range xs.length).all fun i => f (xs.getD i .none)) = xs.all f := by
  cases h : xs.all f with
  | true =>
    rw [List.all_eq_true] at h ⊢
    intro i hi
    have hi' := List.mem_range.mp hi
    rw [item_eq (List.getElem?_eq_getElem hi')]
    exact h _ (List.getElem_mem _)
  | false =>
    rw [List.all_eq_false] at h ⊢
    obtain ⟨x, hx, hf⟩ := h
    obtain ⟨i, hi, e⟩ := List.getElem_of_mem hx
    refine ⟨i, List.mem_range.mpr hi, ?_⟩
    rw [item_eq (List.getElem?_eq_getElem hi), e]
    exact hf
/-- a move made; a run made -/
def stepR (ms : List (List Int × List Int)) (h : List Int) (k : Nat) : Option (List Int) := match ms[k]? with
  | some m => if overB h m.1 then some (ledR h m.1 m.2) else none
  | none => none
def walkR (ms : List (List Int × List Int)) (h : List Int) (run : List Nat) : Option (List Int) := run.foldlM (stepR ms) h
theorem walkR_nil {ms : List (List Int × List Int)} {h : List Int} : walkR ms h [] = some h := rfl
theorem walkR_app {ms : List (List Int × List Int)} {h : List Int} (a b : List Nat) : walkR ms h (a ++ b) = (walkR ms h a).bind fun h' => walkR ms h' b := by
  unfold walkR
  rw [List.foldlM_append]
  rfl
theorem walkR_one {ms : List (List Int × List Int)} {h : List Int} {k : Nat} : walkR ms h [k] = stepR ms h k := by
  unfold walkR
  rw [List.foldlM_cons]
  cases stepR ms h k <;> rfl
theorem take_more {α : Type} {l : List α} {i : Nat} {x : α} (h : l[i]? = some x) : l.take (i + 1) = l.take i ++ [x] := by
  rw [List.take_add_one, h]
  rfl
/-- the law's start: the script stands there -/
theorem law_start {K : PySem.W.Frag} {F : List PyData → Out → Prop} {H : Hp} {a : Addr} {ns : List Int} (h : F [scrD ns] (.rt (.bool true))) (hS : SqL K H a (ns.map V.int)) : SpD K F [.ref a] H (fun v _ => v = .bl true) fun _ _ _ => False :=
  ⟨H, [scrD ns], .rt (.bool true), Same.refl _, .cons (.scr hS) .nil, h, fun v H' I' n r => by cases r; rfl⟩
end Tw

/-! Tw6: xs[::-1] of a list or a tuple; tuples times 0 and 1; is of bools. -/
namespace Tw
open PySem PySem.Spec PyProof.Rows L2 PyProof
section
variable {prog : Program} {w : World} {A : Around} {E : Value → Shared → Prop} {s : Shared}
theorem fm_some {α β : Type} {f : α → Option β} {g : α → β} : ∀ {l : List α}, (∀ x ∈ l, f x = some (g x)) → l.filterMap f = l.map g
  | [], _ => rfl
  | a :: l, h => by
    rw [List.filterMap_cons, h a List.mem_cons_self, List.map_cons, fm_some fun x hx => h x (List.mem_cons_of_mem _ hx)]
theorem rev_range (n : Nat) (xs : Array Value) (hn : xs.size = n) : ((List.range n).filterMap fun (m : Nat) => xs[(((n : Int) - 1) + (m : Int) * -1).toNat]?).toArray = xs.toList.reverse.toArray := by
  subst hn
  congr 1
  have e : ((List.range xs.size).filterMap fun (m : Nat) => xs[(((xs.size : Int) - 1) + (m : Int) * -1).toNat]?) = (List.range xs.size).map fun m => xs.toList.getD (xs.size - 1 - m) default := by
    refine fm_some fun m hm => ?_
    have hm' := List.mem_range.mp hm
    have e1 : (((xs.size : Int) - 1) + (m : Int) * -1).toNat = xs.size - 1 - m := by omega
    have hlt : xs.size - 1 - m < xs.size := by omega
    show xs[(((xs.size : Int) - 1) + (m : Int) * -1).toNat]? = _
    rw [e1, Array.getElem?_eq_getElem hlt, List.getD_eq_getElem?_getD, List.getElem?_eq_getElem (by simpa using hlt)]
    simp
  rw [e]
  apply List.ext_getElem?
  intro k
  by_cases hk : k < xs.size
  · rw [List.getElem?_map, List.getElem?_range hk, List.getElem?_reverse (by simpa using hk)]
    show some (xs.toList.getD (xs.size - 1 - k) default) = _
    have hlt : xs.size - 1 - k < xs.toList.length := by rw [Array.length_toList]; omega
    rw [List.getD_eq_getElem?_getD, Array.length_toList, List.getElem?_eq_getElem hlt]
    rfl
  · rw [List.getElem?_eq_none_iff.mpr (by rw [List.length_map, List.length_range]; omega), List.getElem?_eq_none_iff.mpr (by rw [List.length_reverse, Array.length_toList]; omega)]
theorem getItem_tuple_rev {t sl : Addr} {items : Array Value} {vl vu vs : Value} {Q : Value → Shared → Prop} (ht : IsTup s.heap t items) (hs : s.heap.IsSliceOf sl vl vu vs) (pl : IsPart vl none) (pu : IsPart vu none) (ps : IsPart vs (some (-1)))
    (h : Q (.ref s.heap.objs.size) { s with heap := s.heap.push { cls := .type "tuple", data := .seq items.toList.reverse.toArray } }) (hsz : items.size ≤ sizeLine) : wpAny (model prog w) A (getItem (.ref t) (.ref sl)) Q E s := by
  have htake : sizeOk (.seq items.toList.reverse.toArray) := by
    show items.toList.reverse.toArray.size ≤ sizeLine
    rw [List.size_toArray, List.length_reverse, Array.length_toList]
    exact hsz
  obtain ⟨os, hos, hcs, hds⟩ := id hs
  have hTs : s.TypeIs (.ref sl) "slice" := ⟨os, hos, hcs⟩
  unfold getItem
  try with_reducible refine wpAny_holding ?_
  first | refine wpAny_bind (wpAny_pure ?_) | skip
  refine wpAny_bind (wpAny_sequenceKey ht.typeIs (by decide) ?_)
  refine wpAny_bind (wpAny_callSpecial?_slot (name := Str.ofString "__getitem__") ht.typeIs PyProof.Rows.slot_tuple_getitem
    (wpAny_call_entry PyProof.Rows.slot_tuple_getitem ht.typeIs PyProof.Rows.entry_tuple_getitem ?_ (PyProof.Rows.args_tuple_getitem _ _)))
  show wpAny _ _ (Builtin.Tuple.tupleItemsOf (.ref t) >>= _) _ _ s
  refine wpAny_bind (PyProof.Rows.tupleItemsOf_ ht ?_)
  refine wpAny_bind (wpAny_typeOf hTs ?_)
  rw [if_pos (by decide)]
  refine wpAny_bind ?_
  · unfold Builtin.Slice.sliceApplied Builtin.Slice.sliceFields
    refine wpAny_bind (wpAny_bind (wpAny_field hos hds (x := vl) rfl (wpAny_bind (wpAny_field hos hds (x := vu) rfl (wpAny_bind (wpAny_field hos hds (x := vs) rfl (wpAny_pure ?_)))))))
    refine wpAny_bind (HT.slicePart_ ps ?_)
    show wpAny _ _ (if ((-1 : Int) == 0) = true then _ else _) _ _ s
    rw [if_neg (by decide)]
    refine wpAny_bind (HT.slicePart_ pl (wpAny_bind (HT.slicePart_ pu (wpAny_bind (wpAny_pure ?_)))))
    show wpAny _ _ (pure (((items.size : Int) - 1), (-1 : Int), Builtin.Slice.slicePlaces ((items.size : Int) - 1) (-1) (-1))) _ _ s
    have hp : Builtin.Slice.slicePlaces ((items.size : Int) - 1) (-1) (-1) = items.size := by
      unfold Builtin.Slice.slicePlaces
      have h1 : ¬ (-1 : Int) > 0 := by decide
      have h2 : (-(-1) : Int) = 1 := by decide
      simp only [h1, if_false, h2, Int.ediv_one]
      split <;> omega
    rw [hp]
    refine wpAny_pure ?_
    have hno : ¬ ((((items.size : Int) - 1) == 0 && (-1 : Int) == 1 && items.size == items.size) = true) := by
      intro q
      rw [Bool.and_eq_true, Bool.and_eq_true] at q
      exact absurd q.1.2 (by decide)
    show wpAny _ _ (if (((items.size : Int) - 1) == 0 && (-1 : Int) == 1 && items.size == items.size) = true then _ else _) _ _ s
    rw [if_neg hno, rev_range items.size items rfl]
    first
      | exact wpAny_bind (m := Builtin.Tuple.tupleExact _) (wpAny_newObj_type (wpAny_pure ⟨_, rfl, wpAny_pure h⟩) htake)
      | exact wpAny_bind (m := Builtin.Tuple.tupleExact _) (wpAny_newObj_type (wpAny_bind (wpAny_pure (wpAny_pure ⟨_, rfl, wpAny_pure h⟩))) htake)
      | exact wpAny_bind (wpAny_bind (m := Builtin.Tuple.tupleExact _) (wpAny_newObj_type (wpAny_pure (wpAny_pure ⟨_, rfl, wpAny_pure h⟩)) htake))
      | exact wpAny_bind (wpAny_bind (m := Builtin.Tuple.tupleExact _) (wpAny_newObj_type (wpAny_pure ⟨_, rfl, wpAny_pure h⟩) htake))
end
/-- a[::-1], a list or a tuple -/
def tRevA (K : PySem.W.Frag) (te : TE) : TE := fun σ H Q => te σ H fun x H1 => ∃ a xs, x = .ref a ∧
  ((SqL K H1 a xs ∧ ∀ p, H1 p = none → Q (.ref p) (upd H1 p (.lst xs.reverse))) ∨ (SqT K H1 a xs ∧ ∀ p, H1 p = none → Q (.ref p) (upd H1 p (.tup xs.reverse))))
theorem pe_revA {X : Cx} {e : Expr} {te : TE} {k : Nat} {p1 p2 p3 pos : Pos} (he : PE X e te) : PE X (.Subscript e (.Slice none none (some (.UnaryOp .USub (.Constant (.int 1) k p1) p2)) p3) pos) (tRevA X.K te) := by
  refine ⟨fun pins s σ H Q I h => ?_⟩
  refine Subscript_ (thn (he.run pins s σ H _ I h) fun v s1 ⟨x, H1, I1, r1, q1⟩ => ?_)
  obtain ⟨a, xs, ex, q⟩ := q1
  subst ex
  cases r1
  have hst : PO X (some (.UnaryOp .USub (.Constant (.int 1) k p1) p2)) (tPart (tUn (rU fun i => .int (-i)) (tC (.int 1)))) := po_some (pe_un un_neg pe_int)
  refine wpAny_Slice (thn (po_none.run pins s1 σ H1 (fun o H2 => o = none ∧ H2 = H1) I1 ⟨rfl, rfl⟩) fun vl s2 ⟨l, H2, I2, pl, el, e2⟩ => ?_)
  subst el e2
  refine thn (po_none.run pins s2 σ H2 (fun o H3 => o = none ∧ H3 = H2) I2 ⟨rfl, rfl⟩) fun vu s3 ⟨u, H3, I3, pu, eu, e3⟩ => ?_
  subst eu e3
  refine thn (hst.run pins s3 σ H3 (fun o H4 => o = some (-1) ∧ H4 = H3) I3 ⟨1, rfl, -1, rfl, rfl, rfl⟩) fun vs s4 ⟨o, H4, I4, ps, eo, e4⟩ => ?_
  subst eo e4
  have I5 : Inv X pins σ H4 { s4 with heap := s4.heap.push { cls := .type "slice", data := .fields #[vl, vu, vs] } } := I4.kept (t' := s4.toks) fun b ob q => Heap.get?_push_of_some _ q
  show wpAny (model X.prog X.w) X.A (subscriptTail e (.Slice none none (some (.UnaryOp .USub (.Constant (.int 1) k p1) p2)) p3) (.ref a) (.ref s4.heap.objs.size)) (EP X pins σ Q) X.xe { s4 with heap := s4.heap.push { cls := .type "slice", data := .fields #[vl, vu, vs] } }
  rcases q with ⟨hx, q⟩ | ⟨hx, q⟩
  · obtain ⟨its, r, ht, hz⟩ := I5.list hx
    have hlen := r.length
    refine tail_any (ops := [.ref a, .ref s4.heap.objs.size]) ht.isList.typeIs (PySem.slot_list_getitem.lookup) ?_ (by with_unfolding_all rfl)
    refine wpAny_getItem_list_slice ht.isList (Heap.IsSliceOf.new _ vl vu vs) pl pu ps (by decide) ?_ (by rw [List.size_toArray]; omega)
    rw [PySem.W.krv_pick]
    refine ⟨.ref _, _, I5.laid (t' := s4.toks) (o := .lst xs.reverse) (fun b ob q => Heap.get?_push_of_some _ q) (Nat.le_refl _) ?_, rfl, q _ (I5.hok.fresh (Nat.le_refl _))⟩
    exact ⟨by rw [List.length_reverse]; exact hz, _, 0, r.reverse, Heap.get?_push_size _ rfl⟩
  · obtain ⟨its, r, ht, hz⟩ := I5.tuple hx
    have hlen := r.length
    refine tail_any (ops := [.ref a, .ref s4.heap.objs.size]) ht.typeIs (PyProof.Rows.slot_tuple_getitem.lookup) ?_ (by with_unfolding_all rfl)
    refine getItem_tuple_rev ht (Heap.IsSliceOf.new _ vl vu vs) pl pu ps ?_ (by rw [List.size_toArray]; omega)
    refine ⟨.ref _, _, I5.laid (t' := s4.toks) (o := .tup xs.reverse) (fun b ob q => Heap.get?_push_of_some _ q) (Nat.le_refl _) ?_, rfl, q _ (I5.hok.fresh (Nat.le_refl _))⟩
    exact ⟨by rw [List.length_reverse]; exact hz, _, r.reverse, IsTup.new _ _⟩
section
variable {K : PySem.W.Frag} {δ : List Sl} {te : TE} {xs : List PyData} {x y : PyData} {a b : Bool}
theorem en_rev (h : Ev K te δ (.list xs)) : EvN K (tRevA K te) δ xs.reverse := fun G σ H I s g r Q q =>
  h G σ H I s g r _ fun v H1 I1 n1 rv => by
    cases rv with
    | lst h1 a1 => exact ⟨_, _, rfl, .inl ⟨.of (n1.s _ _ h1), fun p hp => q p H1 I1 _ n1 hp a1.rev⟩⟩
theorem ev_revT (h : Ev K te δ (.tuple xs)) : Ev K (tRevA K te) δ (.tuple xs.reverse) := fun G σ H I s g r Q q =>
  h G σ H I s g r _ fun v H1 I1 n1 rv => by
    cases rv with
    | tup h1 a1 => exact ⟨_, _, rfl, .inr ⟨.of (n1.s _ _ h1), fun p hp => q _ _ _ (n1.trans (Nx.new n1.s hp)) (.tup upd_same (a1.rev.mono (same_new (n1.s.free hp))))⟩⟩
/-! ### is True, is not False .. of bools -/
def rIsB : R2 := fun x y H Q => ∃ a b, x = .bl a ∧ y = .bl b ∧ Q (.bl (decide (a = b))) H
def rNotB : R2 := fun x y H Q => ∃ a b, x = .bl a ∧ y = .bl b ∧ Q (.bl (!decide (a = b))) H
theorem opIsB {X : Cx} : OpR X (compareOp .Is) rIsB := op_is_bl
theorem opNotB {X : Cx} : OpR X (compareOp .IsNot) rNotB := op_isnot_bl
theorem rd_isB : R2D K rIsB (.bool a) (.bool b) (.bool (decide (a = b))) := fun H I v u s r1 r2 Q q => by
  cases r1; cases r2
  exact ⟨a, b, rfl, rfl, q _ H I (Nx.refl s) (.bl _)⟩
theorem rd_notB : R2D K rNotB (.bool a) (.bool b) (.bool (!decide (a = b))) := fun H I v u s r1 r2 Q q => by
  cases r1; cases r2
  exact ⟨a, b, rfl, rfl, q _ H I (Nx.refl s) (.bl _)⟩
end
end Tw

/-! Tw7: plain laws of runs and of equal data. -/
namespace Tw
open PySem PySem.Spec PyProof.Rows L2 PyProof
theorem eqv_self {d : PyData} (h : SeqAt.shaped d = true) : PyData.eqv d d = true := PySem.SeqAt.eqv_refl d (by
  have h : (d.canLay0 && decide (d.depth ≤ 64)) = true := h
  rw [Bool.and_eq_true] at h
  exact h.1)
theorem step_some {ms : List (List Int × List Int)} {h h' : List Int} {k : Nat} (e : stepR ms h k = some h') : ∃ m, ms[k]? = some m ∧ overB h m.1 = true ∧ h' = ledR h m.1 m.2 := by
  unfold stepR at e
  cases em : ms[k]? with
  | none => rw [em] at e; cases e
  | some m =>
    rw [em] at e
    have e : (if overB h m.1 = true then some (ledR h m.1 m.2) else none) = some h' := e
    by_cases ho : overB h m.1 = true
    · rw [if_pos ho] at e
      exact ⟨m, rfl, ho, (Option.some.inj e).symm⟩
    · rw [if_neg ho] at e
      cases e
theorem walk_pre {ms : List (List Int × List Int)} {h h' : List Int} {run : List Nat} (e : walkR ms h run = some h') (i : Nat) : ∃ hi, walkR ms h (run.take i) = some hi ∧ walkR ms hi (run.drop i) = some h' := by
  rw [← List.take_append_drop i run, walkR_app] at e
  cases e1 : walkR ms h (run.take i) with
  | none => rw [e1] at e; cases e
  | some hi =>
    rw [e1] at e
    exact ⟨hi, rfl, e⟩
theorem walk_len {n : Nat} {ms : List (List Int × List Int)} : ∀ {run : List Nat} {h h' : List Int}, h.length = n → walkR ms h run = some h' → h'.length = n
  | [], h, h', hl, e => by
    cases (show some h = some h' from e)
    exact hl
  | k :: run, h, h', hl, e => by
    unfold walkR at e
    rw [List.foldlM_cons] at e
    cases e1 : stepR ms h k with
    | none => rw [e1] at e; cases e
    | some h1 =>
      rw [e1] at e
      obtain ⟨m, _, _, rfl⟩ := step_some e1
      exact walk_len (run := run) (by rw [led_len]; exact hl) e
theorem walk_at {ms : List (List Int × List Int)} {h h' : List Int} {run : List Nat} (e : walkR ms h run = some h') {i k : Nat} (hk : run[i]? = some k) :
    ∃ hi m, walkR ms h (run.take i) = some hi ∧ ms[k]? = some m ∧ overB hi m.1 = true ∧ walkR ms h (run.take (i + 1)) = some (ledR hi m.1 m.2) := by
  obtain ⟨h2, e2, _⟩ := walk_pre e (i + 1)
  rw [take_more hk, walkR_app] at e2
  cases e1 : walkR ms h (run.take i) with
  | none => rw [e1] at e2; cases e2
  | some hi =>
    rw [e1] at e2
    have e3 : stepR ms hi k = some h2 := by
      rw [← walkR_one]
      exact e2
    obtain ⟨m, hm, ho, rfl⟩ := step_some e3
    refine ⟨hi, m, rfl, hm, ho, ?_⟩
    rw [take_more hk, walkR_app, e1]
    exact e2
theorem walk_moves {ms : List (List Int × List Int)} {h h' : List Int} {run : List Nat} (e : walkR ms h run = some h') {i k : Nat} (hk : run[i]? = some k) : k < ms.length := by
  obtain ⟨hi, m, _, hm, _⟩ := walk_at e hk
  exact (List.getElem?_eq_some_iff.mp hm).1
theorem nats_get {run : List Nat} {i : Nat} {d : PyData} (h : (run.map fun (k : Nat) => PyData.int k)[i]? = some d) : ∃ k, run[i]? = some k ∧ d = .int (k : Nat) := by
  rw [List.getElem?_map] at h
  cases e : run[i]? with
  | none => rw [e] at h; cases h
  | some k =>
    rw [e] at h
    exact ⟨k, rfl, (Option.some.inj h).symm⟩
theorem moves_get {ms : List (List Int × List Int)} {i : Nat} {d : PyData} (h : (ms.map moveD)[i]? = some d) : ∃ m, ms[i]? = some m ∧ d = moveD m := by
  rw [List.getElem?_map] at h
  cases e : ms[i]? with
  | none => rw [e] at h; cases h
  | some k =>
    rw [e] at h
    exact ⟨k, rfl, (Option.some.inj h).symm⟩
theorem step_len {ms : List (List Int × List Int)} {h h' : List Int} {k : Nat} (e : stepR ms h k = some h') : h'.length = h.length := by
  obtain ⟨m, hm, ho, rfl⟩ := step_some e
  exact led_len
theorem walk_cons {ms : List (List Int × List Int)} {h h' : List Int} {k : Nat} {run : List Nat} (e : walkR ms h (k :: run) = some h') : ∃ h1, stepR ms h k = some h1 ∧ walkR ms h1 run = some h' := by
  unfold walkR at e
  rw [List.foldlM_cons] at e
  cases e1 : stepR ms h k with
  | none => rw [e1] at e; cases e
  | some h1 =>
    rw [e1] at e
    exact ⟨h1, rfl, e⟩
theorem step_nn {n : Nat} {w : Int} {ms : List (List Int × List Int)} {h h' : List Int} {k : Nat} (hN : NetOk n w ms) (hl : h.length = n) (h0 : ∀ x ∈ h, 0 ≤ x) (e : stepR ms h k = some h') : ∀ x ∈ h', 0 ≤ x := by
  obtain ⟨m, hm, ho, rfl⟩ := step_some e
  obtain ⟨r1, r2⟩ := hN.rows m (List.mem_of_getElem? hm)
  intro x hx
  unfold ledR at hx
  obtain ⟨j, hj, rfl⟩ := List.mem_map.mp hx
  have hj' := List.mem_range.mp hj
  have h1 := overB_iff.mp ho j (by rw [r1.1, ← hl]; exact hj')
  have h2 := (r2.2 (m.2.getD j 0) (by rw [List.getD_eq_getElem?_getD, List.getElem?_eq_getElem (by rw [r2.1, ← hl]; exact hj')]; exact List.getElem_mem _)).1
  omega
theorem cln_nats : ∀ r : List Nat, clnAll (r.map fun (k : Nat) => PyData.int k) = true
  | [] => rfl
  | _ :: r => by
    show (true && clnAll (r.map fun (k : Nat) => PyData.int k)) = true
    rw [cln_nats r]
    rfl
theorem eqv_ints : ∀ a b : List Int, PyData.eqvAll (a.map .int) (b.map .int) = decide (a = b)
  | [], [] => rfl
  | [], _ :: _ => rfl
  | _ :: _, [] => rfl
  | x :: a, y :: b => by
    show (PyData.eqv (.int x) (.int y) && PyData.eqvAll (a.map .int) (b.map .int)) = _
    rw [eqv_int, eqv_ints a b]
    by_cases h : x = y <;> by_cases h2 : a = b <;> simp [h, h2]
theorem eqv_row (a b : List Int) : PyData.eqv (rowD a) (rowD b) = decide (a = b) := eqv_ints a b
end Tw

/-! Tw8: try: f(..) except X: ..; except X as e: r = r + int(isinstance(e, ValueError)). -/
namespace Tw
open PySem PySem.Spec PyProof.Rows L2 PyProof
/-- isinstance of the error that the suite holds at a -/
def rIsX (K : PySem.W.Frag) (a : Addr) (cls : Value) (d : Option Addr) : List V → Hp → VK → Prop := fun xs H Q => ∃ D, cls = .ref D ∧ d = none ∧ ExcC K D ∧ rIsE K D a xs H Q
theorem call_isX {X : Cx} {a : Addr} {cls : Value} {d : Option Addr} {oe : Obj} {pn : List (Addr × Obj)} (hz : Zc cls d oe) (hf : ∃ vs, oe.data = .fields vs) : CallR (X.suite a ((a, oe) :: pn)) (.builtin "isinstance") (rIsX X.K a cls d) := by
  intro pins s σ H xs us Q I r h
  obtain ⟨D, rfl, rfl, C, q⟩ := h
  exact call_isE C hz hf pins s σ H xs us Q I r q
def tTryA (K : PySem.W.Frag) (c : Value) (body : WX → TS) (suite : TS) : TS := fun D σ H => body (wOnly K c (fun _ _ _ => suite) (fun _ _ _ _ => False) D) D σ H
def tTryB (K : PySem.W.Frag) (c : Value) (i : Nat) (body : WX → TS) (suite : Addr → Value → Option Addr → TS) : TS := fun D σ H => body (wAs K c i suite (fun _ _ _ _ => False) D) D σ H
section
variable {X : Cx} {x : Str} {c : Value} {body suite : List Stmt} {b₀ : Stmt} {np pos pos' : Pos} {tb : WX → TS} {su : TS} {ts : Addr → Value → Option Addr → TS} {i : Nat} {n : Str}
theorem ps_tryA (hs : X.stack = X.env :: X.outer) (hf : X.env.frame = some X.env.locals) (hc : Names X x c)
    (hb : ∀ (W : WX) (pn : List (Addr × Obj)) (xe : Value → Shared → Prop), Takes (X.tr pn xe) W → PassesOwn (model X.prog X.w) X.A X.env xe → PSs (X.tr pn xe) body (tb W))
    (hsu : ∀ (a : Addr) (oe : Obj) (cls : Value) (d : Option Addr) (pn : List (Addr × Obj)), Zc cls d oe → (∃ vs, oe.data = .fields vs) → PSs (X.suite a ((a, oe) :: pn)) (b₀ :: suite) su) :
    PS X (.Try body [.ExceptHandler (some (.Name x np)) none (b₀ :: suite) pos'] [] [] pos) (tTryA X.K c tb su) := ps_try_only (ts := fun _ _ _ => su) hs hf hc takes0 hb hsu
theorem ps_tryB (hs : X.stack = X.env :: X.outer) (hf : X.env.frame = some X.env.locals) (hN : X.N.Nodup) (hi : X.N[i]? = some n) (hln : X.env.kindOf n = some .local) (hc : Names X x c)
    (hb : ∀ (W : WX) (pn : List (Addr × Obj)) (xe : Value → Shared → Prop), Takes (X.tr pn xe) W → PassesOwn (model X.prog X.w) X.A X.env xe → PSs (X.tr pn xe) body (tb W))
    (hsu : ∀ (a : Addr) (oe : Obj) (cls : Value) (d : Option Addr) (pn : List (Addr × Obj)), Zc cls d oe → (∃ vs, oe.data = .fields vs) → PSs (X.suite a ((a, oe) :: pn)) (b₀ :: suite) (ts a cls d)) :
    PS X (.Try body [.ExceptHandler (some (.Name x np)) (some n) (b₀ :: suite) pos'] [] [] pos) (tTryB X.K c i tb ts) := ps_try_as hs hf hN hi hln hc takes0 hb hsu
end
/-- what the kit must say of the error class D, of ValueError and of the class T over it -/
structure ErrF (K : PySem.W.Frag) (D T : Addr) : Prop where
  C : ExcC K D
  ve : PySem.W.kitOne K (.ref D) (.type "ValueError") = some true
  own : PySem.W.exmOne K (.ref D) (.ref D) = some true
  top : PySem.W.exmOne K (.ref D) (.ref T) = some true
theorem errF_of {K : PySem.W.Frag} {D T : Addr} (C : ExcC K D) (tD : PySem.W.typeIn K (.ref D) = some (.type "type")) (sv : PySem.W.subIn K (.ref D) (.type "ValueError") = some true) (sD : PySem.W.subIn K (.ref D) (.ref D) = some true)
    (bT : PySem.W.subIn K (.ref T) (.type "BaseException") = some true) (dT : PySem.W.hasDictIn K T = true) (tT : PySem.W.typeIn K (.ref T) = some (.type "type")) (sT : PySem.W.subIn K (.ref D) (.ref T) = some true) : ErrF K D T where
  C := C
  ve := by
    show (if ((Value.ref D == Value.type "ValueError") = true) then some true else if PySem.W.kitMeta "ValueError" = true then PySem.W.subIn K (.ref D) (.type "ValueError") else none) = some true
    rw [if_neg (by intro h; cases (beq_iff_eq.mp h)), if_pos (by decide +kernel)]
    exact sv
  own := PySem.W.exm_ref C.hs C.hd tD sD
  top := PySem.W.exm_ref bT dT tT sT
section
variable {K : PySem.W.Frag} {E : XK} {δ : List Sl} {xs : List PyData} {x : PyData} {ta : TA} {F : List PyData → Out → Prop} {cl c : Value} {su : TS} {P : Out → Prop} {D T : Addr}
theorem as_tryA_ok (ha : EvA K ta δ xs) (hF : F xs (.rt x)) (k : P (.nx δ)) : As K E (tTryA K c (fun W => tDrop (tCallS (SpD K F) (WE W) ta)) su) δ P := fun G I0 σ H I D n r cv =>
  as_drop (ev_call (W := wOnly K c (fun _ _ _ => su) (fun _ _ _ _ => False) D) ha hF) k G I0 σ H I D n r cv
theorem as_tryB_ok {i : Nat} {sb : Addr → Value → Option Addr → TS} (ha : EvA K ta δ xs) (hF : F xs (.rt x)) (k : P (.nx δ)) : As K E (tTryB K c i (fun W => tDrop (tCallS (SpD K F) (WE W) ta)) sb) δ P := fun G I0 σ H I D n r cv =>
  as_drop (ev_call (W := wAs K c i sb (fun _ _ _ _ => False) D) ha hF) k G I0 σ H I D n r cv
theorem nx_same {H I H' : Hp} (s : Same I H) (e : Same H H') : Nx H I H' I := ⟨e, Same.refl _, s.trans e, fun _ _ _ z => z⟩
theorem as_tryA_ex (ha : EvA K ta δ xs) (hF : F xs (.ex cl)) (he : PySem.W.exmOne K cl c = some true) (hs : As K E su δ P) : As K E (tTryA K c (fun W => tDrop (tCallS (SpD K F) (WE W) ta)) su) δ P := fun G I0 σ H I D n r cv =>
  ha G σ H I n.s n.h r _ fun vs H1 I1 n1 r1 => ⟨I1, xs, .ex cl, n1.s, r1, hF, fun H2 e => ⟨true, he, fun _ a _ => hs G I0 σ H2 I1 D ((n.trans n1).trans (nx_same n1.s e)) (r.next (n1.trans (nx_same n1.s e))) cv, fun z => nomatch z⟩⟩
theorem as_tryB_ex {i q : Nat} {m : Int} (ha : EvA K ta δ xs) (hF : F xs (.ex (.ref D))) (hE : ErrF K D T) (hq : δ[q]? = some (.d (.int m))) (hi : i < δ.length) (hiq : i ≠ q) (k : P (.nx ((δ.set q (.d (.int (m + 1)))).set i .no))) :
    As K E (tTryB K (.ref T) i (fun W => tDrop (tCallS (SpD K F) (WE W) ta)) (fun a cls d => tAsg (tOp (rAddA K) (tVar q) (tCB rIntA (tCons (tCB (rIsX K a cls d) (tCons (tVar i) (tCons (tC (.ty "ValueError")) tNil))) tNil))) (gName q))) δ P := fun G I0 σ H I D' n r cv =>
  ha G σ H I n.s n.h r _ fun vs H1 I1 n1 r1 => ⟨I1, xs, .ex (.ref D), n1.s, r1, hF, fun H2 e => ⟨true, hE.top, fun _ a _ => by
    have r2 := r.next (n1.trans (nx_same n1.s e))
    have n2 := (n.trans n1).trans (nx_same n1.s e)
    obtain ⟨v, e1, rv⟩ := r2.d q _ hq
    cases rv
    have hl := r2.len
    have h1 : (σ.set i (some (V.ref a)))[q]? = some (some (.int m)) := by rw [List.getElem?_set_ne hiq]; exact e1
    have h2 : (σ.set i (some (V.ref a)))[i]? = some (some (.ref a)) := List.getElem?_set_self (by omega)
    refine ⟨_, h1, ?_⟩
    refine ⟨_, h2, D, rfl, rfl, hE.C, .ty "ValueError", .type "ValueError", true, rfl, fun u ru => ru, hE.ve, ?_⟩
    refine .inr ⟨true, rfl, ?_⟩
    refine .inl ⟨_, _, rfl, rfl, ?_⟩
    refine cv.nx _ _ _ _ k n2 ?_
    have r3 : RelS K G H2 I1 (σ.set q (some (.int (m + 1)))) (δ.set q (.d (.int (m + 1)))) := r2.put (.int _)
    have r4 := r3.none (i := i) (o := none)
    have ec : ((σ.set i (some (V.ref a))).set q (some (.int (m + 1)))).set i none = (σ.set q (some (.int (m + 1)))).set i none := by
      rw [List.set_comm _ _ hiq, List.set_set]
    show RelS K G H2 I1 (((σ.set i (some (V.ref a))).set q (some (.int (m + 1)))).set i none) _
    rw [ec]
    exact r4, fun z => nomatch z⟩⟩
end
end Tw

/-! Tw9: a tuple times 0, times 1. -/
namespace Tw
open PySem PySem.Spec PyProof.Rows L2 PyProof
theorem tuple_mul1 (l : Addr) (items : Array Value) (n : Nat) (dd : Option Addr) (sl : Array (Option Value)) (u : Tok) :
    Meets (Builtin.«tuple.__mul__» ⟨[.ref l, .int 1 u], []⟩) (fun _ R s => s.heap.get? l = some { cls := .type "tuple", dict := dd, data := .seq items n, slots := sl } ∧
      R (.ok (.ret (Value.ref l))) s) :=
  .of_wp fun prog w A R s h => by
    obtain ⟨hp, g, d, tk, os⟩ := s
    obtain ⟨hl, h⟩ := h
    have f1 := AutoSeq1.idx_int
    have c0 : (decide ((1 : Int) < -(2 ^ 63)) || decide ((1 : Int) ≥ 2 ^ 63)) = false := by decide
    have c1 : (items.isEmpty || (1 : Int) == 1) = true := by rw [Bool.or_eq_true]; exact .inr rfl
    wp_walk using wpAny_loadPart' hl
    repeat (first
      | (refine wpAny_ite_false (decide_eq_false (by rw [c0]; exact Bool.false_ne_true)) ?_; wp_walk using wpAny_loadPart' hl)
      | (refine wpAny_ite_true (decide_eq_true c1) ?_; wp_walk using wpAny_loadPart' hl)
      | (refine wpAny_ite_true (decide_eq_true rfl) ?_; wp_walk using wpAny_loadPart' hl))
    exact ⟨_, rfl, h⟩
theorem tuple_mul0 (l : Addr) (items : Array Value) (n : Nat) (dd : Option Addr) (sl : Array (Option Value)) (u : Tok) (c : items.isEmpty = false) :
    Meets (Builtin.«tuple.__mul__» ⟨[.ref l, .int 0 u], []⟩) (fun _ R s => s.heap.get? l = some { cls := .type "tuple", dict := dd, data := .seq items n, slots := sl } ∧
      R (.ok (.ret (Value.ref s.heap.objs.size))) { s with heap := s.heap.push { cls := Value.type "tuple", data := Data.seq #[] }, toks := s.toks }) :=
  .of_wp fun prog w A R s h => by
    obtain ⟨hp, g, d, tk, os⟩ := s
    obtain ⟨hl, h⟩ := h
    have f1 := AutoSeq1.idx_int
    have c0 : (decide ((0 : Int) < -(2 ^ 63)) || decide ((0 : Int) ≥ 2 ^ 63)) = false := by decide
    have c1 : (items.isEmpty || (0 : Int) == 1) = false := by rw [c] <;> rfl
    have c2 : (decide ((0 : Int) ≤ 0) || items.isEmpty) = true := by rw [Bool.or_eq_true]; exact .inl (by decide)
    wp_walk using wpAny_loadPart' hl
    repeat (first
      | (refine wpAny_ite_false (decide_eq_false (by rw [c0]; exact Bool.false_ne_true)) ?_; wp_walk using wpAny_loadPart' hl)
      | (refine wpAny_ite_false (decide_eq_false (by rw [c1]; exact Bool.false_ne_true)) ?_; wp_walk using wpAny_loadPart' hl)
      | (refine wpAny_ite_true (decide_eq_true c2) ?_; wp_walk using wpAny_loadPart' hl)
      | (refine wpAny_ite_false (decide_eq_false (Nat.not_lt.mpr (Nat.zero_le _))) ?_; wp_walk using wpAny_loadPart' hl))
    exact ⟨_, rfl, h⟩
/-- a tuple times 0 (it is not empty) or 1 -/
def rRepS (K : PySem.W.Frag) : R2 := fun x y H Q => ∃ l xs, x = .ref l ∧ SqT K H l xs ∧ ((y = .int 1 ∧ Q (.ref l) H) ∨ (y = .int 0 ∧ xs ≠ [] ∧ ∀ p, H p = none → Q (.ref p) (upd H p (.tup []))))
section
variable {X : Cx}
theorem op_repS : OpR X (binaryOp .Mult) (rRepS X.K) := by
  intro pins s σ H x y v u Q I rx ry h
  obtain ⟨l, xs, rfl, hT, q⟩ := h
  cases rx
  rcases q with ⟨rfl, q⟩ | ⟨rfl, hne, q⟩
  · obtain ⟨t, rfl⟩ := ry
    obtain ⟨its, r, ⟨⟨cls, dd, data, sl⟩, ho, hc, n, hd⟩, hs⟩ := I.tuple hT
    simp only at hc hd
    subst hc hd
    refine wpAny_binaryOp_repeat_ref (T := "tuple") (U := "int") (by decide) ⟨_, ho, rfl⟩ (fun s' => typeIs_int s' 1 t) noFill_tuple_mul F.fills_int_mul F.slot_int_rmul repeat_tuple F.slot_int_index.lookup
      (call_meets F.slot_int_rmul (typeIs_int s 1 t) F.entry_int_rmul (F.args_int_rmul_2 _ _) (int_rmul_tuple 1 t l its.toArray n dd sl)
        ⟨ho, rfl, ⟨_, ho, rfl⟩, call_meets F.slot_tuple_mul ⟨_, ho, rfl⟩ F.entry_tuple_mul (F.args_tuple_mul_2 _ _) (tuple_mul1 l its.toArray n dd sl t) ⟨ho, ?_⟩⟩)
    exact ⟨.ref l, H, I, rfl, q⟩
  · obtain ⟨t, rfl⟩ := ry
    obtain ⟨its, r, ⟨⟨cls, dd, data, sl⟩, ho, hc, n, hd⟩, hs⟩ := I.tuple hT
    simp only at hc hd
    subst hc hd
    have hle : its.length = xs.length := r.length.symm
    have hi : its.toArray.isEmpty = false := by
      cases its with
      | nil => exact absurd (List.eq_nil_of_length_eq_zero hle.symm) hne
      | cons a b => rfl
    refine wpAny_binaryOp_repeat_ref (T := "tuple") (U := "int") (by decide) ⟨_, ho, rfl⟩ (fun s' => typeIs_int s' 0 t) noFill_tuple_mul F.fills_int_mul F.slot_int_rmul repeat_tuple F.slot_int_index.lookup
      (call_meets F.slot_int_rmul (typeIs_int s 0 t) F.entry_int_rmul (F.args_int_rmul_2 _ _) (int_rmul_tuple 0 t l its.toArray n dd sl)
        ⟨ho, rfl, ⟨_, ho, rfl⟩, call_meets F.slot_tuple_mul ⟨_, ho, rfl⟩ F.entry_tuple_mul (F.args_tuple_mul_2 _ _) (tuple_mul0 l its.toArray n dd sl t hi) ⟨ho, ?_⟩⟩)
    refine ⟨.ref s.heap.objs.size, _, I.laid (t' := s.toks) (o := .tup []) (fun b ob q => Heap.get?_push_of_some _ q) (Nat.le_refl _) ?_, rfl, q _ (I.hok.fresh (Nat.le_refl _))⟩
    exact ⟨Nat.zero_le _, _, .nil, IsTup.new _ _⟩
end
def rMulT (K : PySem.W.Frag) : R2 := fun x y H Q => rMulA K x y H Q ∨ rRepS K x y H Q
theorem opMulT {X : Cx} : OpR X (binaryOp .Mult) (rMulT X.K) := OpR.or opMul op_repS
section
variable {K : PySem.W.Frag} {xs : List PyData} {j : Int} {x y z : PyData}
theorem rd_mulA (h : R2D K (rMulA K) x y z) : R2D K (rMulT K) x y z := fun H I v u s r1 r2 Q q => .inl (h H I v u s r1 r2 Q q)
/-- a tuple that is not empty, times j -/
theorem rd_repT (h1 : xs ≠ []) (h2 : 0 ≤ j) (h3 : j ≤ 1000) (h4 : xs.length ≤ 1000) : R2D K (rMulT K) (.tuple xs) (.int j) (.tuple (List.replicate j.toNat xs).flatten) := fun H I v u s r1 r2 Q q => by
  by_cases g2 : 2 ≤ j
  · exact .inl (rd_rep h1 g2 h3 h4 H I v u s r1 r2 Q q)
  · cases r1 with
    | tup e1 a1 =>
      cases r2
      by_cases g1 : j = 1
      · subst g1
        refine .inr ⟨_, _, rfl, .of (s _ _ e1), .inl ⟨rfl, q _ H I (Nx.refl s) ?_⟩⟩
        have e : (List.replicate (1 : Int).toNat xs).flatten = xs := by simp
        rw [e]
        exact .tup e1 a1
      · have g0 : j = 0 := by omega
        subst g0
        refine .inr ⟨_, _, rfl, .of (s _ _ e1), .inr ⟨rfl, fun z => h1 ?_, fun p hp => q _ _ _ (Nx.new s hp) (.tup upd_same .nil)⟩⟩
        have := a1.length
        rw [z] at this
        exact List.eq_nil_of_length_eq_zero this.symm
end
end Tw

/-! Tw10: Stuck: an own error with an own __init__ that calls its base's; its field read in an except suite. -/
namespace Tw
open PySem PySem.Spec PyProof.Rows L2 PyProof
def atN : Str := "at"
/-- what the kit must say of Stuck at C, of TokenError at T over it, of Stuck's __init__ at fI -/
structure StuckF (K : PySem.W.Frag) (C T fI : Addr) : Prop where
  o : OexC K C
  no : PySem.W.findIn K (.ref C) "at" = some none
  iC : PySem.W.findIn K (.ref C) "__init__" = some (some (.ref fI))
  tI : PySem.W.typeIn K (.ref fI) = some (.type "function")
  rd : PySem.W.readsIn K T (.type "type") = true
  sg : PySem.W.specialIn K (.ref T) "__getattribute__" = some (some (.builtin "type.__getattribute__"))
  ty : PySem.W.typeIn K (.ref T) = some (.type "type")
  fc : PySem.W.findCls K (.ref T) (.type "type") "__init__" = some (.val (.builtin "ValueError.__init__"))
  E : ExcC K C
  kT : PySem.W.kitOne K (.ref C) (.ref T) = some true
  kV : PySem.W.kitOne K (.ref C) (.type "ValueError") = some true
  ex : PySem.W.exmOne K (.ref C) (.ref C) = some true
theorem StuckF.X {K : PySem.W.Frag} {C T fI : Addr} (h : StuckF K C T fI) : XfC K C := ⟨h.E.hg, h.E.hk, h.E.hs, h.E.hd⟩
theorem stuckF_of {K : PySem.W.Frag} {C T fI : Addr} (o : OexC K C) (no : PySem.W.findIn K (.ref C) "at" = some none) (iC : PySem.W.findIn K (.ref C) "__init__" = some (some (.ref fI))) (tI : PySem.W.typeIn K (.ref fI) = some (.type "function"))
    (rd : PySem.W.readsIn K T (.type "type") = true) (sg : PySem.W.specialIn K (.ref T) "__getattribute__" = some (some (.builtin "type.__getattribute__"))) (ty : PySem.W.typeIn K (.ref T) = some (.type "type")) (fc : PySem.W.findCls K (.ref T) (.type "type") "__init__" = some (.val (.builtin "ValueError.__init__")))
    (E : ExcC K C) (dT : PySem.W.hasDictIn K T = true) (sT : PySem.W.subIn K (.ref C) (.ref T) = some true) (sV : PySem.W.subIn K (.ref C) (.type "ValueError") = some true) (sC : PySem.W.subIn K (.ref C) (.ref C) = some true) : StuckF K C T fI where
  o := o
  no := no
  iC := iC
  tI := tI
  rd := rd
  sg := sg
  ty := ty
  fc := fc
  E := E
  kT := by
    obtain ⟨cd, hc, _⟩ := PySem.W.any_some dT
    show (if ((Value.ref C == Value.ref T) = true) then some true else if ((PySem.W.clsIn K T).isSome && PySem.W.typeIn K (.ref T) == some (.type "type")) = true then PySem.W.subIn K (.ref C) (.ref T) else none) = some true
    rw [hc, ty, sT]
    split
    · rfl
    · rw [if_pos (by rfl)]
  kV := by
    show (if ((Value.ref C == Value.type "ValueError") = true) then some true else if PySem.W.kitMeta "ValueError" = true then PySem.W.subIn K (.ref C) (.type "ValueError") else none) = some true
    rw [if_neg (by intro h; cases (beq_iff_eq.mp h)), if_pos (by decide +kernel)]
    exact sV
  ex := PySem.W.exm_ref E.hs E.hd o.tyC sC
section
variable {X : Cx} {e : Expr} {es : List Expr} {ta : TA} {x : Str} {T : Addr} {p1 p2 pos : Pos}
/-- T.__init__(self, ..), T an own class that has ValueError's -/
theorem pe_oinit {pl : Sem Bool} (hg : Gl X x) (hm : X.mg x = some (.ref T)) (rd : PySem.W.readsIn X.K T (.type "type") = true) (sg : PySem.W.specialIn X.K (.ref T) "__getattribute__" = some (some (.builtin "type.__getattribute__"))) (ty : PySem.W.typeIn X.K (.ref T) = some (.type "type"))
    (fc : PySem.W.findCls X.K (.ref T) (.type "type") "__init__" = some (.val (.builtin "ValueError.__init__"))) (ha : PA X (e :: es) ta) (hdb : (x == ("__debug__" : Str)) = false := by decide)
    (hc : eval (.Call (.Attribute (.Name x p1) "__init__" p2) (e :: es) [] pos) X.env = (do
      let ov ← eval (.Name x p1) X.env
      standAt p2.atName
      let (f, first) ← holding [ov] (getMethod ov "__init__" pl)
      callWith pos f first (backTo pos (starEach (e :: es) X.env)) (backToKw pos (keywordEach [] X.env))) := by rfl)
    (he : starEach (e :: es) X.env = (false, eval e X.env) :: starEach es X.env := by rfl) (hpl : (backTo pos (starEach es X.env)).any (·.1) = false := by rfl) :
    PE X (.Call (.Attribute (.Name x p1) "__init__" p2) (e :: es) [] pos) (tVeI X.K ta) := by
  refine ⟨fun pins s σ H Q I h => ?_⟩
  refine PySem.W.methodCall_KW (ld_glob I hg hm ?_ hdb) hc
  obtain ⟨m, fr⟩ := I.fr
  refine PySem.W.method_of_cls fr I.ok.mod.kin sg (PySem.W.cls_val fr I.ok.mod.kin ty rd fc (by decide +kernel) ?_)
  show wpAny _ _ (callWith pos (Value.builtin "ValueError.__init__") [] (backTo pos (starEach (e :: es) X.env)) []) _ _ _
  refine PyProof.Rows.callWith_method1 (thn (ha.run pos pins _ σ H _ (I.tok _) h) fun us s1 ⟨vs, H1, I1, r1, a, C, ws, ev, hl, T, ea, q⟩ => ?_) he hpl
  subst ev
  cases r1 with
  | @cons _ u0 _ ur ra rw' =>
    obtain rfl : u0 = Value.ref a := ra
    have hlen : ur.length ≤ sizeLine := by
      rw [← Paired.length rw', sizeLine_eq]
      omega
    exact oinit_ok T I1 ea hlen fun s' J => ⟨.non, H1, J, rfl, q⟩
end
/-- Stuck.__init__(self, at): the field at is set, nothing else -/
def spI (K : PySem.W.Frag) : Sp := fun vs H Q _ => ∃ (a C : Addr) (k : Int), vs = [.ref a, .int k] ∧ OexC K C ∧ PySem.W.findIn K (.ref C) "at" = some none ∧ H a = some (exo a C none) ∧
  ∀ dx, H dx = none → dx ≠ a → Q .non (upd (upd H dx (exd dx [("at", .int k)])) a (exo a C (some dx)))
/-- raise Stuck(e) -/
def tRzO (K : PySem.W.Frag) (C : Addr) (W : WX) (ta : TA) : TS := fun _ σ H => tMkO C (spI K) [] ta σ H fun cls d H' => W cls d σ H'
def t_init (K : PySem.W.Frag) : TS := tSeq (tDrop (tVeI K (tCons (tVar 0) (tCons (tC (.str (PySem.Str.ofString "a move can't be made"))) tNil)))) (tOst K "at" (tVar 0) (tVar 1))
theorem spI_len {K : PySem.W.Frag} : ∀ vs H Q E, spI K vs H Q E → vs.length = 2 := fun _ _ _ _ ⟨_, _, _, h, _⟩ => by rw [h]; rfl
theorem spI_body {K : PySem.W.Frag} {vs : List V} {H : Hp} {Q : VK} {E : XK} {N : List Str} (h : spI K vs H Q E) : t_init K { nx := fun _ H' => Q .non H', rt := Q } (L2.start N vs) H := by
  obtain ⟨a, C, k, rfl, o, no, ea, q⟩ := h
  refine ⟨.ref a, rfl, ?_⟩
  refine ⟨a, C, [.str (PySem.Str.ofString "a move can't be made")], rfl, by decide, o, ea, ?_⟩
  refine ⟨.int k, rfl, .ref a, rfl, a, C, rfl, o, no, .inl ⟨ea, fun dx h1 h2 => q dx h1 h2⟩⟩
section
variable {K : PySem.W.Frag} {E : XK} {δ : List Sl} {te : TE} {P : Out → Prop} {C : Addr} {k : Int}
theorem as_rzO (he : Ev K te δ (.int k)) (hC : OexC K C) (hno : PySem.W.findIn K (.ref C) "at" = some none) (kP : P (.exd (.ref C) [("at", .int k)])) : As K E (tRzO K C (fun cls d _ H => E cls d H) (tCons te tNil)) δ P := fun G I0 σ H I D n r c => by
    unfold tRzO tMkO
    refine (ea_cons he ea_nil) G σ H I n.s n.h r _ fun vs H1 I1 n1 r1 => ?_
    cases r1 with
    | cons rx rr =>
      cases rr
      cases rx
      refine ⟨by show 1 ≤ 1000; decide, fun a ha => ⟨a, C, k, rfl, hC, hno, upd_same, fun dx hdx hne => ?_⟩⟩
      have h1 : H1 dx = none := by rw [upd_ne hne] at hdx; exact hdx
      refine ⟨rfl, dx, [("at", .int k)], upd_same, by rw [upd_ne hne, upd_same], h1, ?_⟩
      refine c.exd (.ref C) [("at", .int k)] dx _ kP (fun p o hp => ?_) upd_same
      have hp1 := n1.h p o (n.h p o hp)
      have pa : p ≠ a := fun z => by rw [z, ha] at hp1; cases hp1
      have pd : p ≠ dx := fun z => by rw [z, h1] at hp1; cases hp1
      rw [upd_ne pd, del_ne pa, upd_ne pa, upd_ne pd, upd_ne pa]
      exact hp1
end
/-- isinstance of the error that the suite holds at a, its dict known -/
def rIsY (K : PySem.W.Frag) (a : Addr) (cls : Value) (d : Option Addr) : List V → Hp → VK → Prop := fun xs H Q => ∃ (D dd : Addr) (fs : List (Str × V)) (c : V) (cv : Value) (b : Bool), cls = .ref D ∧ d = some dd ∧ H dd = some (.xd fs) ∧ ExcC K D ∧
  xs = [.ref a, c] ∧ (∀ u, RelV c u → u = cv) ∧ PySem.W.kitOne K (.ref D) cv = some b ∧ Q (.bl b) H
theorem call_isY {X : Cx} {a : Addr} {cls : Value} {d : Option Addr} {oe : Obj} {pn : List (Addr × Obj)} (hz : Zc cls d oe) (hf : ∃ vs, oe.data = .fields vs) : CallR (X.suite a ((a, oe) :: pn)) (.builtin "isinstance") (rIsY X.K a cls d) := by
  intro pins s σ H xs us Q I r h
  obtain ⟨D, dd, fs, c, cv, b, rfl, rfl, hdd, C, rfl, hcv, e, q⟩ := h
  cases r with
  | cons rx rr =>
    cases rr with
    | cons rt rr =>
      cases rr
      cases rx
      have ec := hcv _ rt
      subst ec
      obtain ⟨hget, _⟩ := I.pin (a, oe) (List.mem_append.mpr (.inl List.mem_cons_self))
      obtain ⟨vs, hv⟩ := hf
      have hx : ObjOk X.prog X.w H s.heap dd (.xd fs) := I.hok dd _ hdd
      obtain ⟨mA, hns, hr⟩ := hx
      obtain ⟨od, ho, hl⟩ := lookIn_ns hns
      have J : PySem.W.InstAt s.heap a oe D (some od) := ⟨hget, hz.1, by unfold PySem.W.notCls; rw [hv] <;> rfl, by rw [hz.2]; exact ho⟩
      have hcl : (PySem.W.clsIn X.K D).isSome = true := by
        obtain ⟨cd, hc, _⟩ := PySem.W.any_some C.hd
        rw [hc]
        rfl
      exact PySem.W.kia_one (PySem.W.kitx_exc hcl C.hg C.hk C.hs C.ha C.hn C.ht C.hm) I.kIn J e (fun z => nomatch z) fun tk => ⟨.bl b, H, I.kept (t' := tk) fun _ _ z => z, rfl, q⟩
theorem ite_t {A B : Prop} (h : A) : if true = true then A else B := by rw [if_pos rfl]; exact h
section
variable {K : PySem.W.Frag} {E : XK} {δ : List Sl} {xs : List PyData} {x : PyData} {ta : TA} {F : List PyData → Out → Prop} {P : Out → Prop} {C T fI : Addr} {c : Value} {i q : Nat} {k : Int} {z : Str}
theorem as_tryC_ok {sb : Addr → Value → Option Addr → TS} (ha : EvA K ta δ xs) (hF : F xs (.rt x)) (kP : P (.nx (δ.set q (.d x)))) : As K E (tTryB K c i (fun W => tAsg (tCallS (SpD K F) (WE W) ta) (gName q)) sb) δ P := fun G I0 σ H I D n r cv =>
  as_set (ev_call (W := wAs K c i sb (fun _ _ _ _ => False) D) ha hF) kP G I0 σ H I D n r cv
theorem as_tryC_ex (ha : EvA K ta δ xs) (hF : F xs (.exd (.ref C) [("at", .int k)])) (hS : StuckF K C T fI) (hi : i < δ.length) (hiq : i ≠ q) (kP : P (.nx ((δ.set q (.d (.tuple [.str z, .int k]))).set i .no))) :
    As K E (tTryB K (.ref C) i (fun W => tAsg (tCallS (SpD K F) (WE W) ta) (gName q)) (fun a cls d => tIfS (tAnd (tB (tCB (rIsY K a cls d) (tCons (tVar i) (tCons (tC (.ref T)) tNil)))) (tB (tCB (rIsY K a cls d) (tCons (tVar i) (tCons (tC (.ty "ValueError")) tNil)))))
      (tAsg (tTup (tCons (tC (.str z)) (tCons (tXf a cls d C "at" (tVar i)) tNil))) (gName q)) tNext)) δ P := fun G I0 σ H I D' n r cv =>
  ha G σ H I n.s n.h r _ fun vs H1 I1 n1 r1 => ⟨I1, xs, .exd (.ref C) [("at", .int k)], n1.s, r1, hF, fun dd H2 e hdd => ⟨true, hS.ex, fun _ a _ => by
    have r2 := r.next (n1.trans (nx_same n1.s e))
    have n2 := (n.trans n1).trans (nx_same n1.s e)
    have hl := r2.len
    have h2 : (σ.set i (some (V.ref a)))[i]? = some (some (.ref a)) := List.getElem?_set_self (by omega)
    refine ⟨_, h2, C, dd, _, .ref T, .ref T, true, rfl, rfl, hdd, hS.E, rfl, fun u ru => ru, hS.kT, true, rfl, ite_t ?_⟩
    refine ⟨_, h2, C, dd, _, .ty "ValueError", .type "ValueError", true, rfl, rfl, hdd, hS.E, rfl, fun u ru => ru, hS.kV, true, rfl, ite_t ?_⟩
    refine ⟨_, h2, rfl, rfl, dd, _, .int k, rfl, hdd, by simp [List.lookup], ?_⟩
    refine ⟨by show 2 ≤ sizeLine; decide, fun p hp => ?_⟩
    have n3 : Nx H2 I1 (upd H2 p (.tup [.str z, .int k])) (upd I1 p (.tup [.str z, .int k])) := Nx.new n2.s hp
    have r3 : RelS K G (upd H2 p (.tup [.str z, .int k])) (upd I1 p (.tup [.str z, .int k])) (σ.set q (some (.ref p))) (δ.set q (.d (.tuple [.str z, .int k]))) := (r2.next n3).put (.tup upd_same (.cons (.str _) (.cons (.int _) .nil)))
    have r4 := r3.none (i := i) (o := none)
    refine cv.nx _ _ _ _ kP (n2.trans n3) ?_
    have ec : ((σ.set i (some (V.ref a))).set q (some (.ref p))).set i none = (σ.set q (some (.ref p))).set i none := by
      rw [List.set_comm _ _ hiq, List.set_set]
    show RelS K G _ _ (((σ.set i (some (V.ref a))).set q (some (.ref p))).set i none) _
    rw [ec]
    exact r4, fun z => nomatch z⟩⟩
end
end Tw

/-! Tw11: sorted(set(xs)) of a list of ints; in, not in such a list. -/
namespace Tw
open PySem PySem.Spec PyProof.Rows L2 PyProof
section
variable {P : Program} {w : World} {A : Around} {E : Value → Shared → Prop} {s : Shared}
/-- the empty set, as it is made -/
abbrev noneYet (w : World) : Obj := { cls := .type "set", dict := none, data := .set #[] 0 (.fresh 0 0 (!w.params.followText "set-order")) }
/-- the loop that fills the new set from a list of ints -/
theorem fill_list {l : Addr} {items : Array Value} (ns : List Int) {R : Result → Shared → Prop} (hh : A.handled = none) (hl : s.heap.IsList l items) (hit : IntsAre items.toList ns) (hb : ns.length + 1 < scanBound) (hR : ∀ (h' : Heap) (tk c : Nat), SetR w h' s.heap.objs.size (fun j => decide (j ∈ ns)) c → c ≤ ns.length →
      (∀ b o, s.heap.get? b = some o → h'.get? b = some o) → R (.ok (.ret .none)) { s with heap := h', toks := tk }) :
    codeAny (model P w) A (.builtin "set.update.loop" ⟨[.ref s.heap.objs.size, .ref (s.heap.objs.size + 1)], []⟩) R { s with heap := (s.heap.push (noneYet w)).push { cls := .type "list_iterator", data := .fields #[.ref l, .int 0 0] } } := by
  have hlen : items.size = ns.length := by
    have := IntsAre.length hit
    rwa [Array.length_toList] at this
  have hlS : l < s.heap.objs.size := by
    obtain ⟨o, ho, _⟩ := hl
    exact Heap.lt_size ho
  have z1 : (s.heap.push (noneYet w)).objs.size = s.heap.objs.size + 1 := Heap.size_push ..
  have gS : ((s.heap.push (noneYet w)).push { cls := .type "list_iterator", data := .fields #[.ref l, .int 0 0] }).get? s.heap.objs.size = some (noneYet w) := Heap.get?_push_of_some _ (Heap.get?_push_size _ rfl)
  have gI : ((s.heap.push (noneYet w)).push { cls := .type "list_iterator", data := .fields #[.ref l, .int 0 0] }).get? (s.heap.objs.size + 1) = some { cls := .type "list_iterator", data := .fields #[.ref l, .int 0 0] } := by
    rw [← z1]
    exact Heap.get?_push_size _ rfl
  have gl : ((s.heap.push (noneYet w)).push { cls := .type "list_iterator", data := .fields #[.ref l, .int 0 0] }).IsList l items := (hl.push _).push _
  refine set_update_ints ((Walks.list (A := A.in1) (by simp [hh]) (s.heap.objs.size + 1) l (Nat.ne_of_lt (Nat.lt_succ_of_lt hlS)) items).toS) s.heap.objs.size (by simp only [List.mem_cons, List.not_mem_nil, or_false, not_or]; exact ⟨Nat.ne_of_lt (Nat.lt_succ_self _), Nat.ne_of_gt hlS⟩) ns hlen hb (fun i v hv => ?_) items.size 0 _ (Nat.sub_zero _) (Nat.zero_le _) ⟨⟨_, gI, rfl, rfl⟩, gl⟩ ⟨0, Nat.le_refl 0, setR_new_at gS⟩ (fun s' c hm hc hS => ?_)
  · have hi : i < ns.length := by rw [← hlen]; exact (Array.getElem?_eq_some_iff.mp hv).1
    obtain ⟨t, e⟩ := IntsAre.int_at hit i v (by rw [Array.getElem?_toList]; exact hv)
    exact ⟨ns[i], t, List.getElem?_eq_getElem hi, by rw [e, List.getD_eq_getElem?_getD, List.getElem?_eq_getElem hi]; rfl⟩
  · have key := hR s'.heap s'.toks c hS (by rw [← hlen]; exact hc) fun b o e => by
      have hlt := Heap.lt_size e
      exact hm.heap b o (by simp only [List.mem_cons, List.not_mem_nil, or_false, not_or]; exact ⟨Nat.ne_of_lt hlt, Nat.ne_of_lt (Nat.lt_succ_of_lt hlt)⟩) (Heap.get?_push_of_some _ (Heap.get?_push_of_some _ e))
    obtain ⟨h', g', d', tk', os'⟩ := s'
    have e1 : g' = s.gens := hm.gens
    have e2 : d' = s.drawn := hm.drawn
    have e3 : os' = s.os := hm.os
    subst e1 e2 e3
    exact key
/-- set(xs): the call comes to the loop above -/
theorem make_set {l : Addr} {items : Array Value} (ns : List Int) {Q : Value → Shared → Prop} (hh : A.handled = none) (hl : s.heap.IsList l items) (hit : IntsAre items.toList ns) (hb : ns.length + 1 < scanBound)
    (h : ∀ (h' : Heap) (tk c : Nat), SetR w h' s.heap.objs.size (fun j => decide (j ∈ ns)) c → c ≤ ns.length → (∀ b o, s.heap.get? b = some o → h'.get? b = some o) → Q (.ref s.heap.objs.size) { s with heap := h', toks := tk }) :
    wpAny (model P w) A (call (.type "set") [.ref l]) Q E s := by
  obtain ⟨_, _, hmro⟩ := F.called_set.mro
  have hmade := F.called_set.made
  have hsub := F.called_set.sub
  have hnot := F.called_set.notType
  have hcan := F.called_set.canCreate
  have htc := F.typeCall_set_1 (.ref l)
  refine wpAny_call (codeAny_of_tree ?_)
  show wpAny _ _ (callAny (.type "set") _) _ _ _
  refine wpAny_pure ⟨Code.quiet_builtin _ (by decide +kernel), codeAny_builtin F.entry_type_call ?_⟩
  rw [Around.under_plain (weight_type_call_type "set" [.ref l] []) rfl]
  repeat (any_goals (first | assumption | wp_step))
  refine codeAny_mono (code_set_led1 (.ref l) (E := E) (Q₁ := fun v t => v = .ref s.heap.objs.size ∧ t = { s with heap := s.heap.push (noneYet w) }) ⟨rfl, rfl⟩) fun r t hr => ?_
  match r, hr with
  | .error e, hr => exact hr
  | .ok .next, hr => exact hr.elim
  | .ok .brk, hr => exact hr.elim
  | .ok .cont, hr => exact hr.elim
  | .ok (.ret v), hr =>
    obtain ⟨rfl, rfl⟩ := hr
    have hT : Shared.TypeIs { s with heap := s.heap.push (noneYet w) } (.ref s.heap.objs.size) "set" := ⟨_, Heap.get?_push_size _ rfl, rfl⟩
    have hli := F.called_set.init.lookup
    have hbi := F.called_set.init.bind (.ref s.heap.objs.size)
    repeat (any_goals (first | assumption | wp_step))
    refine codeAny_mono (codeAny_call_builtin (R := wants (fun r t => r = .none ∧ ∃ h' tk c, t = { s with heap := h', toks := tk } ∧ SetR w h' s.heap.objs.size (fun j => decide (j ∈ ns)) c ∧ c ≤ ns.length ∧ (∀ b o, s.heap.get? b = some o → h'.get? b = some o)) E) F.called_set.init.plain F.entry_set_init (check_set_init_1 hT ?_)) fun r t hr => ?_
    · obtain ⟨⟨ocls, odict, odata, oslots⟩, hol, hcl, nl, hdl⟩ := id hl
      simp only at hcl hdl
      subst hcl hdl
      have hget : (s.heap.push (noneYet w)).get? l = some { cls := .type "list", dict := odict, data := .seq items nl, slots := oslots } := Heap.get?_push_of_some _ hol
      have k1 := F.sub_list_set
      have k2 := F.sub_list_frozenset
      have k3 : (Value.type "list" == Value.type "dict") = false := by decide
      have hl1 : (s.heap.push (noneYet w)).IsList l items := hl.push _
      unfold Builtin.«set.__init__» noKeywords Builtin.Frozenset.updateFrom
      generalize hPI : pyIter = PI
      wp_walk
      subst hPI
      refine wpAny_pyIter_list hl1 (wpAny_bind (wpAny_runValue ?_))
      rw [show (s.heap.push (noneYet w)).objs.size = s.heap.objs.size + 1 from Heap.size_push ..]
      refine fill_list (A := A.in1.in1) ns (by simp [hh]) hl hit hb fun h' tk c hS hc hk => ?_
      show wpAny _ _ _ _ _ _
      refine wpAny_pure ?_
      show wpAny _ _ (ret Value.none) _ _ _
      exact wpAny_pure ⟨rfl, h', tk, c, rfl, hS, hc, hk⟩
    · match r, hr with
      | .error e, hr => exact hr
      | .ok .next, hr => exact hr.elim
      | .ok .brk, hr => exact hr.elim
      | .ok .cont, hr => exact hr.elim
      | .ok (.ret v), hr =>
        obtain ⟨rfl, h', tk, c, rfl, hS, hc, hk⟩ := hr
        repeat (any_goals (first | assumption | wp_step))
        exact h _ _ _ hS hc hk
end
/-- sorted(set(e)), e a list of ints -/
def tSortSet (K : PySem.W.Frag) (ta : TE) : TE := fun σ H Q => ta σ H fun x H1 => ∃ (l : Addr) (ns : List Int), x = .ref l ∧ SqL K H1 l (ns.map V.int) ∧ ns.length < 64 ∧
  ∀ (out : List Int) (p : Addr), out.Pairwise (· < ·) → (∀ k, k ∈ out ↔ k ∈ ns) → H1 p = none → Q (.ref p) (upd H1 p (.lst (out.map V.int)))
theorem pe_sortSet {X : Cx} {a : Expr} {ta : TE} {p p2 q pos : Pos} (hg : Gl X "sorted") (hm : X.mg "sorted" = none) (hg2 : Gl X "set") (hm2 : X.mg "set" = none) (ha : PE X a ta) (hc : X.calm = true := by rfl)
    (na : starEach [a] X.env = (false, eval a X.env) :: starEach [] X.env := by rfl) : PE X (.Call (.Name "sorted" p) [.Call (.Name "set" p2) [a] [] q] [] pos) (tSortSet X.K ta) := by
  refine ⟨fun pins s σ H Q I h => ?_⟩
  refine Call_ (ld_blt I hg hm boot_sorted ?_)
  refine PyProof.Rows.callWith_builtin1 (PyProof.Rows.args_cons ?_ rfl) rfl rfl
  refine Call_ (ld_blt I hg2 hm2 PyProof.Rows.boot_set ?_)
  refine PyProof.Rows.callWith_type1 (PyProof.Rows.args_cons (thn (ha.run pins s σ H _ I h) fun v s1 ⟨x, H1, I1, r1, q1⟩ => PyProof.Rows.args_nil ?_) na) na rfl
  obtain ⟨l, ns, rfl, hq, hl, q1⟩ := q1
  cases r1
  obtain ⟨its, r, pl, hz⟩ := I1.list hq
  refine make_set ns (I1.ok.hd hc) pl.isList (by simpa using RZ.intsAre_vals r) (by unfold scanBound; omega) fun h' tk c hS hcl hk => ?_
  refine PyProof.Rows.args_nil ?_
  have I2 : Inv X pins σ H1 { s1 with heap := h', toks := tk } := I1.kept hk
  refine sorted_set hS (I2.ok.hd hc) (by omega) fun s' pp out c2 ms k g o hp hg3 hi hs hmm hln => ?_
  have hlen : (ms.map V.int).length ≤ sizeLine := by rw [List.length_map, hln, sizeLine_eq]; omega
  have hn : H1 pp = none := I2.hok.fresh hp
  have J : Inv X pins σ (upd H1 pp (.lst (ms.map V.int))) { s1 with heap := s'.heap, gens := s'.gens, drawn := s'.drawn, toks := s'.toks } :=
    Inv.call (s := { s1 with heap := h', toks := tk }) (ch := []) I2 (Un.laid k hp hn) (I2.hok.laid k hp ⟨hlen, out.toList, c2, vals_of_ints hi, hg3⟩) (by rw [g]; exact I2.bare) (fun _ z => nomatch z)
  have e : s' = { s1 with heap := s'.heap, gens := s'.gens, drawn := s'.drawn, toks := s'.toks } := by
    cases s'
    cases s1
    cases o
    rfl
  rw [e]
  exact ⟨.ref pp, _, J, rfl, q1 ms pp hs (fun k => by rw [hmm k, decide_eq_true_eq]) hn⟩
theorem eqV_int (a b : Int) : eqV (.int a) (.int b) = decide (a = b) := by
  first | rfl | (unfold eqV; by_cases h : a = b <;> simp [h])
theorem inV_ints (i : Int) : ∀ ns : List Int, inV (.int i) (ns.map V.int) = decide (i ∈ ns)
  | [] => by simp [inV]
  | a :: r => by
    show ((eqV (.int a) (.int i)) || inV (.int i) (r.map V.int)) = _
    rw [inV_ints i r, eqV_int]
    by_cases h : a = i
    · simp [h]
    · by_cases h2 : i ∈ r
      · simp [h2]
      · simp [h, h2, Ne.symm h]
theorem flat_ints (ns : List Int) : (ns.map V.int).all flatV = true := by
  rw [List.all_map, List.all_eq_true]
  intro x _
  rfl
section
variable {K : PySem.W.Frag} {i : Int} {ns : List Int}
theorem rd_in : R2D K (rIn K false) (.int i) (.list (ns.map .int)) (.bool (decide (i ∈ ns))) := fun H I v u s r1 r2 Q q => by
  cases r1
  cases r2 with
  | lst h a =>
    have e := rall_ints a
    subst e
    exact ⟨_, _, rfl, .inl (.of (s _ _ h)), rfl, flat_ints ns, by rw [inV_ints]; exact q _ H I (Nx.refl s) (.bl _)⟩
theorem rd_notIn : R2D K (rIn K true) (.int i) (.list (ns.map .int)) (.bool (!decide (i ∈ ns))) := fun H I v u s r1 r2 Q q => by
  cases r1
  cases r2 with
  | lst h a =>
    have e := rall_ints a
    subst e
    exact ⟨_, _, rfl, .inl (.of (s _ _ h)), rfl, flat_ints ns, by rw [inV_ints]; exact q _ H I (Nx.refl s) (.bl _)⟩
end
end Tw

/-! Tw12: sorted without repeats; sinks and traps, in plain Lean. -/
namespace Tw
open PySem PySem.Spec PyProof.Rows L2 PyProof
def insU (x : Int) : List Int → List Int
  | [] => [x]
  | y :: r => if x < y then x :: y :: r else if x = y then y :: r else y :: insU x r
theorem mem_insU {x k : Int} : ∀ {l : List Int}, k ∈ insU x l ↔ k = x ∨ k ∈ l
  | [] => by simp [insU]
  | y :: r => by
    unfold insU
    split
    · simp
    · split
      · rename_i h
        subst h
        simp
      · rw [List.mem_cons, mem_insU (l := r), List.mem_cons]
        constructor
        · rintro (h | h | h) <;> simp [h]
        · rintro (h | h | h) <;> simp [h]
theorem pw_insU {x : Int} : ∀ {l : List Int}, l.Pairwise (· < ·) → (insU x l).Pairwise (· < ·)
  | [], _ => List.pairwise_singleton ..
  | y :: r, h => by
    obtain ⟨h1, h2⟩ := List.pairwise_cons.mp h
    unfold insU
    split
    · rename_i hx
      refine List.pairwise_cons.mpr ⟨fun k hk => ?_, h⟩
      rcases List.mem_cons.mp hk with rfl | hk
      · exact hx
      · exact Int.lt_trans hx (h1 k hk)
    · split
      · exact h
      · rename_i h3 h4
        refine List.pairwise_cons.mpr ⟨fun k hk => ?_, pw_insU h2⟩
        rcases mem_insU.mp hk with rfl | hk
        · omega
        · exact h1 k hk
def sortU (l : List Int) : List Int := l.foldr insU []
theorem mem_sortU {k : Int} : ∀ {l : List Int}, k ∈ sortU l ↔ k ∈ l
  | [] => by simp [sortU]
  | a :: r => by
    show k ∈ insU a (sortU r) ↔ _
    rw [mem_insU, mem_sortU, List.mem_cons]
theorem pw_sortU : ∀ {l : List Int}, (sortU l).Pairwise (· < ·)
  | [] => List.Pairwise.nil
  | a :: r => pw_insU pw_sortU
/-- two that rise and have the same members are one -/
theorem rise_eq : ∀ {a b : List Int}, a.Pairwise (· < ·) → b.Pairwise (· < ·) → (∀ k, k ∈ a ↔ k ∈ b) → a = b
  | [], [], _, _, _ => rfl
  | [], y :: b, _, _, h => absurd ((h y).mpr List.mem_cons_self) (by simp)
  | x :: a, [], _, _, h => absurd ((h x).mp List.mem_cons_self) (by simp)
  | x :: a, y :: b, ha, hb, h => by
    obtain ⟨a1, a2⟩ := List.pairwise_cons.mp ha
    obtain ⟨b1, b2⟩ := List.pairwise_cons.mp hb
    have e : x = y := by
      rcases List.mem_cons.mp ((h x).mp List.mem_cons_self) with e | e
      · exact e
      · rcases List.mem_cons.mp ((h y).mpr List.mem_cons_self) with e2 | e2
        · exact e2.symm
        · have := b1 x e
          have := a1 y e2
          omega
    subst e
    congr 1
    refine rise_eq a2 b2 fun k => ?_
    constructor
    · intro hk
      rcases List.mem_cons.mp ((h k).mp (List.mem_cons_of_mem _ hk)) with e | e
      · have := a1 k hk
        omega
      · exact e
    · intro hk
      rcases List.mem_cons.mp ((h k).mpr (List.mem_cons_of_mem _ hk)) with e | e
      · have := b1 k hk
        omega
      · exact e
section
variable {K : PySem.W.Frag} {E : XK} {δ : List Sl} {te : TE} {ns : List Int} {xs ys : List PyData} {P : Out → Prop}
theorem en_sortSet (h : Ev K te δ (.list (ns.map .int))) (hl : ns.length < 64) : EvN K (tSortSet K te) δ ((sortU ns).map .int) := fun G σ H I s g r Q q =>
  h G σ H I s g r _ fun v H1 I1 n1 rv => by
    cases rv with
    | lst h1 a1 =>
      have e := rall_ints a1
      subst e
      refine ⟨_, ns, rfl, .of (n1.s _ _ h1), hl, fun out p hs hm hp => ?_⟩
      have eo : out = sortU ns := rise_eq hs pw_sortU fun k => by rw [hm k, mem_sortU]
      subst eo
      exact q p H1 I1 _ n1 hp (ints_rall _)
/-- xs.extend(ys), ys data -/
theorem as_extD {i : Nat} (e : δ[i]? = some (.own xs)) (h : Ev K te δ (.list ys)) (hz : xs.length + ys.length ≤ sizeLine) (k : P (.nx (δ.set i (.own (xs ++ ys))))) :
    As K E (tDrop (tBM K "list" rExtend (tVar i) (tCons te tNil))) δ P := fun G I0 σ H I D n r c => by
  obtain ⟨p, vs, h1, h2, h3, h4, h5⟩ := r.own i xs e
  refine ⟨.ref p, h1, .inl ⟨rfl, _, .inl (.inl h4)⟩, ?_⟩
  refine h G σ H I n.s n.h r _ fun v H1 I1 n1 rv => ?_
  cases rv with
  | lst hq rw =>
    have r1 := r.next n1
    obtain ⟨p', vs', h1', h2', h3', h4', h5'⟩ := r1.own i xs e
    rw [h1] at h1'
    cases h1'
    refine ⟨p, _, vs', _, rfl, rfl, h4', n1.s _ _ hq, by rw [h5'.length, rw.length]; exact hz, ?_⟩
    have n2 := n.trans n1
    refine c.nx _ _ _ I1 k ⟨fun b o eb => ?_, n2.i, fun b o eb => ?_, n2.f⟩ (r1.write e h1 (h5'.app rw))
    · rw [upd_ne (ne_of_none eb h2)]
      exact n2.h b o eb
    · rw [upd_ne (ne_of_none eb h3')]
      exact n2.s b o eb
end
theorem getD_of {l : List Int} {i : Nat} {k : Int} (h : l[i]? = some k) : l.getD i 0 = k := by
  rw [List.getD_eq_getElem?_getD, h]
  rfl
theorem kept_filter (ps : List Int) (p : Int → Bool) : kept ps.length (fun i => p (ps.getD i 0)) (fun i => .int (ps.getD i 0)) = (ps.filter p).map PyData.int := by
  unfold kept
  have e : (List.range ps.length).map (fun k => ps.getD k 0) = ps := map_getD rfl
  have e2 : ps.filter p = ((List.range ps.length).filter fun i => p (ps.getD i 0)).map fun k => ps.getD k 0 := by
    conv => lhs; rw [← e]
    rw [List.filter_map]
    rfl
  rw [e2, List.map_map]
  rfl
/-! ### sinks and traps -/
def sd (m : List Int × List Int) (g : Bool) : List Int := if g then m.2 else m.1
def tch (t ps : List Int) : Bool := ps.any fun p => decide (0 < t.getD p.toNat 0)
def badF (ms : List (List Int × List Int)) (g : Bool) (ps : List Int) : List Int := ms.flatMap fun m => if tch (sd m (!g)) ps then [] else ps.filter fun p => decide (0 < (sd m g).getD p.toNat 0)
def staysB (ms : List (List Int × List Int)) (g : Bool) (ps : List Int) : Bool := ms.all fun m => !(tch (sd m g) ps && !tch (sd m (!g)) ps)
def greatG (ms : List (List Int × List Int)) (g : Bool) : Nat → List Int → List Int
  | 0, l => l
  | k + 1, l => if badF ms g l = [] then l else greatG ms g k (l.filter fun p => !decide (p ∈ badF ms g l))
def gS (ms : List (List Int × List Int)) (g : Bool) (ps : List Int) : List Int := greatG ms g (sortU ps).length (sortU ps)
theorem great_done {ms : List (List Int × List Int)} {g : Bool} {k : Nat} {l : List Int} (h : badF ms g l = []) : greatG ms g k l = l := by
  cases k with
  | zero => rfl
  | succ k => exact if_pos h
theorem bad_sub {ms : List (List Int × List Int)} {g : Bool} {l : List Int} {p : Int} (h : p ∈ badF ms g l) : p ∈ l := by
  unfold badF at h
  obtain ⟨m, _, hp⟩ := List.mem_flatMap.mp h
  split at hp
  · cases hp
  · exact (List.mem_filter.mp hp).1
theorem less_len {ms : List (List Int × List Int)} {g : Bool} {l : List Int} (h : badF ms g l ≠ []) : (l.filter fun p => !decide (p ∈ badF ms g l)).length < l.length := by
  obtain ⟨b, hb⟩ := List.exists_mem_of_ne_nil _ h
  exact List.length_filter_lt_length_iff_exists.mpr ⟨b, bad_sub hb, by simp [hb]⟩
theorem great_sub {ms : List (List Int × List Int)} {g : Bool} : ∀ {k : Nat} {l : List Int}, (greatG ms g k l).Sublist l
  | 0, l => List.Sublist.refl _
  | k + 1, l => by
    unfold greatG
    split
    · exact List.Sublist.refl _
    · exact great_sub.trans List.filter_sublist
theorem tch_iff {t ps : List Int} : tch t ps = true ↔ ∃ p ∈ ps, 0 < t.getD p.toNat 0 := by
  unfold tch
  rw [List.any_eq_true]
  constructor
  · rintro ⟨p, h1, h2⟩
    exact ⟨p, h1, of_decide_eq_true h2⟩
  · rintro ⟨p, h1, h2⟩
    exact ⟨p, h1, decide_eq_true h2⟩
theorem stays_iff {ms : List (List Int × List Int)} {g : Bool} {ps : List Int} : staysB ms g ps = true ↔ ∀ m ∈ ms, tch (sd m g) ps = true → tch (sd m (!g)) ps = true := by
  unfold staysB
  rw [List.all_eq_true]
  constructor
  · intro h m hm ht
    have := h m hm
    rw [ht] at this
    cases e : tch (sd m (!g)) ps with
    | true => rfl
    | false => rw [e] at this; cases this
  · intro h m hm
    cases e : tch (sd m g) ps with
    | false => rfl
    | true => rw [h m hm e]; rfl
theorem stays_of {ms : List (List Int × List Int)} {g : Bool} {l : List Int} (h : badF ms g l = []) : staysB ms g l = true := stays_iff.mpr fun m hm ht => by
  cases e : tch (sd m (!g)) l with
  | true => rfl
  | false =>
    obtain ⟨p, hp, h0⟩ := tch_iff.mp ht
    have : p ∈ badF ms g l := by
      unfold badF
      refine List.mem_flatMap.mpr ⟨m, hm, ?_⟩
      rw [e, if_neg Bool.false_ne_true]
      exact List.mem_filter.mpr ⟨hp, decide_eq_true h0⟩
    rw [h] at this
    cases this
theorem great_stays {ms : List (List Int × List Int)} {g : Bool} : ∀ {k : Nat} {l : List Int}, l.length ≤ k → staysB ms g (greatG ms g k l) = true
  | 0, l, h => by
    have e : l = [] := List.eq_nil_of_length_eq_zero (by omega)
    subst e
    refine stays_of (?_ : badF ms g [] = [])
    unfold badF
    rw [List.flatMap_eq_nil_iff]
    intro m _
    split <;> rfl
  | k + 1, l, h => by
    unfold greatG
    by_cases hb : badF ms g l = []
    · rw [if_pos hb]
      exact stays_of hb
    · rw [if_neg hb]
      exact great_stays (by have := less_len hb; omega)
theorem great_max {ms : List (List Int × List Int)} {g : Bool} {S : List Int} (hS : staysB ms g S = true) : ∀ {k : Nat} {l : List Int}, (∀ p ∈ S, p ∈ l) → ∀ p ∈ S, p ∈ greatG ms g k l
  | 0, l, h => h
  | k + 1, l, h => by
    unfold greatG
    split
    · exact h
    · refine great_max hS fun p hp => List.mem_filter.mpr ⟨h p hp, ?_⟩
      cases e : decide (p ∈ badF ms g l) with
      | false => rfl
      | true =>
        exfalso
        have hb := of_decide_eq_true e
        unfold badF at hb
        obtain ⟨m, hm, hq⟩ := List.mem_flatMap.mp hb
        split at hq
        · cases hq
        · rename_i ht
          have h0 := of_decide_eq_true (List.mem_filter.mp hq).2
          obtain ⟨q, q1, q2⟩ := tch_iff.mp (stays_iff.mp hS m hm (tch_iff.mpr ⟨p, hp, h0⟩))
          exact ht (tch_iff.mpr ⟨q, h q q1, q2⟩)
theorem gS_rise {ms : List (List Int × List Int)} {g : Bool} {ps : List Int} : (gS ms g ps).Pairwise (· < ·) := pw_sortU.sublist great_sub
theorem gS_mem {ms : List (List Int × List Int)} {g : Bool} {ps : List Int} {p : Int} (h : p ∈ gS ms g ps) : p ∈ ps := mem_sortU.mp (great_sub.subset h)
theorem gS_stays {ms : List (List Int × List Int)} {g : Bool} {ps : List Int} : staysB ms g (gS ms g ps) = true := great_stays (Nat.le_refl _)
theorem gS_max {ms : List (List Int × List Int)} {g : Bool} {ps S : List Int} (hS : staysB ms g S = true) (h : ∀ p ∈ S, p ∈ ps) : ∀ p ∈ S, p ∈ gS ms g ps := great_max hS fun p hp => mem_sortU.mpr (h p hp)
/-- a rising row stays when it is the greatest of itself -/
theorem gS_iff {ms : List (List Int × List Int)} {g : Bool} {ps row : List Int} (hr : row.Pairwise (· < ·)) (hm : ∀ k, k ∈ ps ↔ k ∈ row) : decide (gS ms g ps = sortU ps) = staysB ms g row := by
  have e : sortU ps = row := rise_eq pw_sortU hr fun k => by rw [mem_sortU, hm]
  rw [e]
  cases h : staysB ms g row with
  | true =>
    refine decide_eq_true (rise_eq gS_rise hr fun k => ⟨fun hk => (hm k).mp (gS_mem hk), fun hk => gS_max h (fun p hp => (hm p).mpr hp) k hk⟩)
  | false =>
    refine decide_eq_false fun e2 => ?_
    have := gS_stays (ms := ms) (g := g) (ps := ps)
    rw [e2, h] at this
    cases this
def setsF : Nat → List (List Int)
  | 0 => [[]]
  | n + 1 => setsF n ++ (setsF n).map fun r => r ++ [(n : Int)]
theorem sets_in : ∀ {n : Nat} {r : List Int}, r ∈ setsF n → r.Pairwise (· < ·) ∧ ∀ k ∈ r, 0 ≤ k ∧ k < n
  | 0, r, h => by
    have e : r = [] := List.mem_singleton.mp h
    subst e
    exact ⟨List.Pairwise.nil, fun k hk => by cases hk⟩
  | n + 1, r, h => by
    rcases List.mem_append.mp h with h | h
    · obtain ⟨a, b⟩ := sets_in h
      exact ⟨a, fun k hk => by have := b k hk; omega⟩
    · obtain ⟨q, hq, rfl⟩ := List.mem_map.mp h
      obtain ⟨a, b⟩ := sets_in hq
      refine ⟨List.pairwise_append.mpr ⟨a, List.pairwise_singleton .., fun x hx y hy => ?_⟩, fun k hk => ?_⟩
      · rw [List.mem_singleton.mp hy]
        exact (b x hx).2
      · rcases List.mem_append.mp hk with hk | hk
        · have := b k hk
          omega
        · rw [List.mem_singleton.mp hk]
          omega
theorem sets_all : ∀ {n : Nat} {r : List Int}, r.Pairwise (· < ·) → (∀ k ∈ r, 0 ≤ k ∧ k < n) → r ∈ setsF n
  | 0, r, _, h => by
    have e : r = [] := by
      cases r with
      | nil => rfl
      | cons a r =>
        have := h a List.mem_cons_self
        omega
    rw [e]
    exact List.mem_singleton.mpr rfl
  | n + 1, r, hr, h => by
    have hf : r.filter (fun (k : Int) => decide (k < (n : Int))) ∈ setsF n := sets_all (hr.filter _) fun k hk => by
      obtain ⟨h1, h2⟩ := List.mem_filter.mp hk
      exact ⟨(h k h1).1, of_decide_eq_true h2⟩
    by_cases hn : (n : Int) ∈ r
    · refine List.mem_append.mpr (.inr (List.mem_map.mpr ⟨_, hf, ?_⟩))
      refine rise_eq (List.pairwise_append.mpr ⟨hr.filter _, List.pairwise_singleton .., fun x hx y hy => ?_⟩) hr fun k => ?_
      · rw [List.mem_singleton.mp hy]
        exact of_decide_eq_true (List.mem_filter.mp hx).2
      · rw [List.mem_append, List.mem_filter, List.mem_singleton]
        constructor
        · rintro (⟨a, _⟩ | rfl)
          · exact a
          · exact hn
        · intro hk
          have := h k hk
          by_cases e : k = n
          · exact .inr e
          · exact .inl ⟨hk, decide_eq_true (by omega)⟩
    · refine List.mem_append.mpr (.inl ?_)
      have e : r.filter (fun (k : Int) => decide (k < (n : Int))) = r := List.filter_eq_self.mpr fun k hk => decide_eq_true (by
        have := h k hk
        have : k ≠ n := fun e => hn (e ▸ hk)
        omega)
      rw [e] at hf
      exact hf
def insideB (row ps : List Int) : Bool := decide (row.filter (fun p => !decide (p ∈ ps)) = [])
theorem inside_iff {row ps : List Int} : insideB row ps = true ↔ ∀ p ∈ row, p ∈ ps := by
  unfold insideB
  rw [decide_eq_true_eq, List.filter_eq_nil_iff]
  constructor
  · intro h p hp
    have := h p hp
    simpa using this
  · intro h p hp
    simp [h p hp]
def unionF (ms : List (List Int × List Int)) (g : Bool) (rows : List (List Int)) (ps : List Int) : List Int := (rows.filter fun row => insideB row ps && staysB ms g row).flatten
def lawG (ms : List (List Int × List Int)) (g : Bool) (n : Nat) (ps : List Int) : List Int := sortU (unionF ms g (setsF n) ps)
theorem great_law {ms : List (List Int × List Int)} {g : Bool} {n : Nat} {ps qs : List Int} (h : ∀ k, k ∈ ps ↔ k ∈ qs) (hn : ∀ k ∈ qs, 0 ≤ k ∧ k < n) : gS ms g ps = lawG ms g n qs := by
  refine rise_eq gS_rise pw_sortU fun k => ?_
  rw [lawG, mem_sortU]
  unfold unionF
  rw [List.mem_flatten]
  constructor
  · intro hk
    refine ⟨gS ms g ps, List.mem_filter.mpr ⟨sets_all gS_rise fun p hp => hn p ((h p).mp (gS_mem hp)), ?_⟩, hk⟩
    rw [gS_stays, Bool.and_true]
    exact inside_iff.mpr fun p hp => (h p).mp (gS_mem hp)
  · rintro ⟨row, hr, hk⟩
    obtain ⟨_, hc⟩ := List.mem_filter.mp hr
    rw [Bool.and_eq_true] at hc
    exact gS_max hc.2 (fun p hp => (h p).mpr (inside_iff.mp hc.1 p hp)) k hk
theorem flat_len (p : List Int → Bool) : ∀ rows : List (List Int), (rows.filter p).flatten.length ≤ rows.flatten.length
  | [] => Nat.le_refl _
  | r :: rows => by
    have ih := flat_len p rows
    rw [List.filter_cons, List.flatten_cons, List.length_append]
    split
    · rw [List.flatten_cons, List.length_append]
      omega
    · omega
theorem union_len {ms : List (List Int × List Int)} {g : Bool} {rows : List (List Int)} {ps : List Int} : (unionF ms g rows ps).length ≤ rows.flatten.length := flat_len _ rows
theorem sets_len {n : Nat} (h : n ≤ 4) : (setsF n).flatten.length ≤ 32 ∧ (setsF n).length ≤ 16 := by
  match n, h with
  | 0, _ => decide
  | 1, _ => decide
  | 2, _ => decide
  | 3, _ => decide
  | 4, _ => decide
end Tw

/-! Tw13: texts: digits, join, split, index. -/
namespace Tw
open PySem PySem.Spec PyProof.Rows L2 PyProof
abbrev mk (l : List Nat) : Str := ⟨l.toArray⟩
theorem tl_mk (l : List Nat) : TL.tl (mk l) = l := rfl
theorem mk_inj {a b : Str} (h : TL.tl a = TL.tl b) : a = b := TL.ext_tl h
theorem app_mk (a b : List Nat) : mk a ++ mk b = mk (a ++ b) := mk_inj (by rw [TL.tl_append])
def dgL (d : Int) : List Nat := [48 + d.toNat]
def rStrI : List V → Hp → VK → Prop := fun xs H Q => ∃ i, xs = [.int i] ∧ i.natAbs.log2 < 1920 ∧ Q (.str (toString i)) H
theorem callStrI {X : Cx} : CallR X (.type "str") rStrI := call_str_int
def rIntS : List V → Hp → VK → Prop := fun xs H Q => ∃ a n, xs = [.str a] ∧ PySem.intText? a = some n ∧ a.length ≤ 640 ∧ Q (.int n) H
theorem callIntS {X : Cx} : CallR X (.type "int") rIntS := call_int_str
def rNotSub : R2 := fun x y H Q => ∃ i j, x = .str i ∧ y = .str j ∧ Q (.bl (!(!(Builtin.Str.occurrences j i 0 j.length 1).isEmpty))) H
theorem opNotSub {X : Cx} : OpR X (compareOp .NotIn) rNotSub := op_notin_str
def rSplitA : V → List V → Hp → VK → Prop := fun x xs H Q => ∃ a b, x = .str a ∧ xs = [.str b] ∧ (b.length == 0) = false ∧ a.length + 2 ≤ sizeLine ∧ rNewStrs (Txt.split a b) H Q
theorem mtSplit {X : Cx} : MtR X "str.split" rSplitA := mt_split
def rJoinA (K : PySem.W.Frag) : V → List V → Hp → VK → Prop := fun x xs H Q => ∃ a p, ∃ ys : List Str, x = .str a ∧ xs = [.ref p] ∧ (SqL K H p (ys.map V.str) ∨ SqT K H p (ys.map V.str)) ∧
    (ys.map (·.length)).sum + ys.length * a.length ≤ 16777216 ∧ Q (.str (Txt.join a ys)) H
theorem mtJoin {X : Cx} : MtR X "str.join" (rJoinA X.K) := mt_join
theorem ten {i : Int} (h0 : 0 ≤ i) (h9 : i ≤ 9) : i = 0 ∨ i = 1 ∨ i = 2 ∨ i = 3 ∨ i = 4 ∨ i = 5 ∨ i = 6 ∨ i = 7 ∨ i = 8 ∨ i = 9 := by omega
theorem str_dg {i : Int} (h0 : 0 ≤ i) (h9 : i ≤ 9) : V.str (toString i) = V.str (mk (dgL i)) := by
  rcases ten h0 h9 with rfl | rfl | rfl | rfl | rfl | rfl | rfl | rfl | rfl | rfl <;> rfl
theorem int_dg {i : Int} (h0 : 0 ≤ i) (h9 : i ≤ 9) : PySem.intText? (mk (dgL i)) = some i := by
  rcases ten h0 h9 with rfl | rfl | rfl | rfl | rfl | rfl | rfl | rfl | rfl | rfl <;> decide +kernel
theorem sub_dg {i : Int} (h0 : 0 ≤ i) (h9 : i ≤ 9) : (Builtin.Str.occurrences (PySem.Str.ofString "0123456789") (mk (dgL i)) 0 (PySem.Str.ofString "0123456789").length 1).isEmpty = false := by
  rcases ten h0 h9 with rfl | rfl | rfl | rfl | rfl | rfl | rfl | rfl | rfl | rfl <;> decide +kernel
section
variable {K : PySem.W.Frag} {δ : List Sl} {ta to te : TE} {ys : List Str} {y z b : Str} {i : Int} {j c : Nat}
theorem rall_strs {I : Hp} : ∀ {ns : List Str} {vs : List V}, RpAll K I vs (ns.map PyData.str) → vs = ns.map V.str
  | [], _, h => by cases h; rfl
  | n :: ns, _, h => by
    cases h with
    | cons a t =>
      cases a
      rw [rall_strs t]
      rfl
theorem strs_rall {I : Hp} : ∀ ns : List Str, RpAll K I (ns.map V.str) (ns.map PyData.str)
  | [] => .nil
  | n :: ns => .cons (.str n) (strs_rall ns)
theorem rc_strI (h0 : 0 ≤ i) (h9 : i ≤ 9) : RAD K rStrI [.int i] (.str (mk (dgL i))) := fun H I vs s r Q q => by
  cases r with
  | cons rx rr =>
    cases rr
    cases rx
    refine ⟨i, rfl, ?_, ?_⟩
    · rcases ten h0 h9 with rfl | rfl | rfl | rfl | rfl | rfl | rfl | rfl | rfl | rfl <;> decide +kernel
    · rw [str_dg h0 h9]
      exact q _ H I (Nx.refl s) (.str _)
theorem rc_intS (h0 : 0 ≤ i) (h9 : i ≤ 9) : RAD K rIntS [.str (mk (dgL i))] (.int i) := fun H I vs s r Q q => by
  cases r with
  | cons rx rr =>
    cases rr
    cases rx
    exact ⟨_, i, rfl, int_dg h0 h9, by show 1 ≤ 640; decide, q _ H I (Nx.refl s) (.int _)⟩
theorem rd_notSub (h0 : 0 ≤ i) (h9 : i ≤ 9) : R2D K rNotSub (.str (mk (dgL i))) (.str (PySem.Str.ofString "0123456789")) (.bool false) := fun H I v u s r1 r2 Q q => by
  cases r1; cases r2
  refine ⟨_, _, rfl, rfl, ?_⟩
  rw [sub_dg h0 h9]
  exact q _ H I (Nx.refl s) (.bl _)
theorem rd_ixS (hz : z.length ≤ sizeLine) (h : atI z.cps.toList i = some c) : R2D K (rIx K) (.str z) (.int i) (.str (mk [c])) := fun H I v u s r1 r2 Q q => by
  cases r1; cases r2
  exact .inr (.inr ⟨z, i, c, rfl, rfl, hz, h, q _ H I (Nx.refl s) (.str _)⟩)
theorem rd_dig (h0 : 0 ≤ i) (h9 : i ≤ 9) : R2D K (rIx K) (.str (PySem.Str.ofString "0123456789")) (.int i) (.str (mk (dgL i))) := rd_ixS (by decide) (by
  rcases ten h0 h9 with rfl | rfl | rfl | rfl | rfl | rfl | rfl | rfl | rfl | rfl <;> decide +kernel)
theorem en_split (h : Ev K to δ (.str z)) (hb : Ev K ta δ (.str b)) (h0 : (b.length == 0) = false) (hz : z.length + 2 ≤ sizeLine) : EvN K (tBM K "str" rSplitA to (tCons ta tNil)) δ ((Txt.split z b).map .str) := fun G σ H I s g r Q q =>
  h G σ H I s g r _ fun v H1 I1 n1 rv => by
    cases rv
    refine ⟨rfl, ?_⟩
    refine (ea_cons hb ea_nil) G σ H1 I1 n1.s (n1.g g) (r.next n1) _ fun vs H2 I2 n2 r2 => ?_
    cases r2 with
    | cons rx rr =>
      cases rr
      cases rx
      exact ⟨z, b, rfl, rfl, h0, hz, fun p hp => q p H2 I2 _ (n1.trans n2) hp (strs_rall _)⟩
theorem ev_join (h : Ev K to δ (.str z)) (hx : Ev K ta δ (.list (ys.map .str))) (hz : (ys.map (·.length)).sum + ys.length * z.length ≤ 16777216) : Ev K (tBM K "str" (rJoinA K) to (tCons ta tNil)) δ (.str (Txt.join z ys)) := fun G σ H I s g r Q q =>
  h G σ H I s g r _ fun v H1 I1 n1 rv => by
    cases rv
    refine ⟨rfl, ?_⟩
    refine (ea_cons hx ea_nil) G σ H1 I1 n1.s (n1.g g) (r.next n1) _ fun vs H2 I2 n2 r2 => ?_
    cases r2 with
    | cons rx rr =>
      cases rr
      cases rx with
      | lst h1 a1 =>
        have e := rall_strs a1
        subst e
        exact ⟨z, _, ys, rfl, rfl, .inl (.of (n2.s _ _ h1)), hz, q _ H2 I2 (n1.trans n2) (.str _)⟩
theorem flat_strs (ns : List Str) : (ns.map V.str).all flatV = true := by
  rw [List.all_map, List.all_eq_true]
  intro x _
  rfl
theorem ev_index (h : Ev K to δ (.list (ys.map .str))) (hy : Ev K ta δ (.str y)) (hj : ys[j]? = some y) (hno : ∀ m, m < j → ∀ w, ys[m]? = some w → w ≠ y) : Ev K (tBM K "list" (rIndex K) to (tCons ta tNil)) δ (.int j) := fun G σ H I s g r Q q =>
  h G σ H I s g r _ fun v H1 I1 n1 rv => by
    cases rv with
    | lst h1 a1 =>
      have e := rall_strs a1
      subst e
      refine ⟨.inl ⟨rfl, _, .of (n1.s _ _ h1)⟩, ?_⟩
      refine (ea_cons hy ea_nil) G σ H1 I1 n1.s (n1.g g) (r.next n1) _ fun vs H2 I2 n2 r2 => ?_
      cases r2 with
      | cons rx rr =>
        cases rr
        cases rx
        refine ⟨_, ys.map V.str, .str y, j, .str y, rfl, rfl, .of ((n1.trans n2).s _ _ (n2.i _ _ h1)), rfl, flat_strs ys, by rw [List.getElem?_map, hj]; rfl, beq_self_eq_true y, fun m z' hm hz => ?_, q _ H2 I2 (n1.trans n2) (.int _)⟩
        rw [List.getElem?_map] at hz
        cases e : ys[m]? with
        | none => rw [e] at hz; cases hz
        | some w =>
          rw [e] at hz
          cases hz
          exact beq_eq_false_iff_ne.mpr (hno m hm w e)
theorem rd_notInS (hy : y ∈ ys) : R2D K (rIn K true) (.str y) (.list (ys.map .str)) (.bool false) := fun H I v u s r1 r2 Q q => by
  cases r1
  cases r2 with
  | lst h a =>
    have e := rall_strs a
    subst e
    refine ⟨_, _, rfl, .inl (.of (s _ _ h)), rfl, flat_strs ys, ?_⟩
    have ei : inV (.str y) (ys.map V.str) = true := by
      show ((ys.map V.str).any fun w => eqV w (.str y)) = true
      rw [List.any_map, List.any_eq_true]
      exact ⟨y, hy, beq_self_eq_true y⟩
    rw [ei]
    exact q _ H I (Nx.refl s) (.bl _)
end
/-! ### joined, cut -/
/-- [32, 59, 32] stands nowhere in p, nor across its end -/
theorem run_piece {p rest : List Nat} (hp : 59 ∉ p) (hr : rest = [] ∨ ∃ t, rest = 32 :: t) {k : Nat} (hk : k < p.length) : TL.pre [32, 59, 32] ((p ++ rest).drop k) = false := by
  cases h : TL.pre [32, 59, 32] ((p ++ rest).drop k) with
  | false => rfl
  | true =>
    exfalso
    have e : ((p ++ rest).drop k).take 3 = [32, 59, 32] := eq_of_beq h
    have e1 : (((p ++ rest).drop k).take 3)[1]? = some 59 := by rw [e]; rfl
    rw [List.getElem?_take_of_lt (by decide), List.getElem?_drop] at e1
    by_cases h1 : k + 1 < p.length
    · rw [List.getElem?_append_left h1] at e1
      exact hp (List.mem_of_getElem? e1)
    · have hk1 : k + 1 = p.length := by omega
      rw [List.getElem?_append_right (by omega), hk1, Nat.sub_self] at e1
      rcases hr with rfl | ⟨t, rfl⟩
      · cases e1
      · cases e1
theorem spl_semi : ∀ {ps : List (List Nat)}, ps ≠ [] → (∀ p ∈ ps, 59 ∉ p) → TL.spl [32, 59, 32] 0 [] (TL.joinL [32, 59, 32] ps) = ps
  | [p], _, hp => by
    have h := TL.spl_run [32, 59, 32] (p ++ []) p.length 0 [] (by rw [List.append_nil]; omega) (fun k _ hk => run_piece (hp p List.mem_cons_self) (.inl rfl) (by omega))
    rw [List.drop_zero, List.nil_append, Nat.zero_add, List.append_nil, List.drop_length, List.take_length, TL.spl_nil] at h
    exact h
  | p :: q :: r, _, hp => by
    show TL.spl [32, 59, 32] 0 [] (p ++ ([32, 59, 32] ++ TL.joinL [32, 59, 32] (q :: r))) = p :: q :: r
    have ih := spl_semi (ps := q :: r) (by simp) fun x hx => hp x (List.mem_cons_of_mem _ hx)
    generalize TL.joinL [32, 59, 32] (q :: r) = rest at ih ⊢
    have h := TL.spl_run [32, 59, 32] (p ++ ([32, 59, 32] ++ rest)) p.length 0 [] (by rw [List.length_append]; omega) (fun k _ hk => run_piece (hp p List.mem_cons_self) (.inr ⟨_, rfl⟩) (by omega))
    rw [List.drop_zero, List.nil_append, Nat.zero_add, List.take_left, List.drop_left] at h
    rw [h]
    have h2 := TL.spl_at (S := [32, 59, 32]) (L := [32, 59, 32] ++ rest) (by simp) (c := 0) (acc := p) (by rw [List.drop_zero]; rfl)
    rw [List.drop_zero] at h2
    rw [h2]
    show p :: TL.spl [32, 59, 32] 0 [] rest = _
    rw [ih]
theorem join_mk (a : List Nat) (ys : List (List Nat)) : Txt.join (mk a) (ys.map mk) = mk (TL.joinL a ys) := mk_inj (by
  rw [TL.join_eq, TL.tl_join, List.map_map]
  congr 1
  exact List.map_id' ys)
theorem join_front (s : List Nat) : ∀ {ps : List (List Nat)}, ps ≠ [] → s ++ TL.joinL s ps = ps.flatMap fun p => s ++ p
  | [p], _ => by simp [TL.joinL]
  | p :: q :: r, _ => by
    have ih := join_front s (ps := q :: r) (by simp)
    show s ++ (p ++ (s ++ TL.joinL s (q :: r))) = (s ++ p) ++ (q :: r).flatMap _
    rw [ih, List.append_assoc]
theorem join_app (s : List Nat) {a b : List (List Nat)} (ha : a ≠ []) (hb : b ≠ []) : TL.joinL s (a ++ b) = TL.joinL s a ++ (s ++ TL.joinL s b) := by
  match a, ha with
  | [p], _ =>
    match b, hb with
    | q :: r, _ => rfl
  | p :: p2 :: r, _ =>
    have ih := join_app s (a := p2 :: r) (b := b) (by simp) hb
    show p ++ (s ++ TL.joinL s ((p2 :: r) ++ b)) = (p ++ (s ++ TL.joinL s (p2 :: r))) ++ (s ++ TL.joinL s b)
    rw [ih]
    simp only [List.append_assoc]
termination_by a.length
/-- a net as it is shown -/
def rowT (r : List Int) : List Nat := TL.joinL [32] (r.map dgL)
def wordsT (m : List Int × List Int) : List (List Nat) := m.1.map dgL ++ ([62] :: m.2.map dgL)
def moveT (m : List Int × List Int) : List Nat := rowT m.1 ++ ([32, 62, 32] ++ rowT m.2)
def piecesT (n : Int) (ms : List (List Int × List Int)) : List (List Nat) := dgL n :: ms.map moveT
def netT (n : Int) (ms : List (List Int × List Int)) : List Nat := TL.joinL [32, 59, 32] (piecesT n ms)
theorem move_words {m : List Int × List Int} (h1 : m.1 ≠ []) (h2 : m.2 ≠ []) : moveT m = TL.joinL [32] (wordsT m) := by
  unfold wordsT
  rw [join_app [32] (by simpa using h1) (by simp)]
  obtain ⟨x, r, e⟩ := List.exists_cons_of_ne_nil h2
  unfold moveT rowT
  rw [e]
  rfl
theorem split_move {m : List Int × List Int} (h1 : m.1 ≠ []) (h2 : m.2 ≠ []) (d1 : ∀ x ∈ m.1, 0 ≤ x ∧ x ≤ 9) (d2 : ∀ x ∈ m.2, 0 ≤ x ∧ x ≤ 9) : Txt.split (mk (moveT m)) (mk [32]) = (wordsT m).map mk := by
  rw [move_words h1 h2, ← join_mk]
  have dig : ∀ x : Int, 32 ∉ dgL x := fun x h => by
    have := List.mem_singleton.mp h
    omega
  refine TL.split_join (y := mk [32]) (s := 32) (S := []) rfl (by decide +kernel) (by unfold wordsT; simp) fun p hp => ?_
  obtain ⟨w, hw, rfl⟩ := List.mem_map.mp hp
  rw [tl_mk]
  unfold wordsT at hw
  rcases List.mem_append.mp hw with hw | hw
  · obtain ⟨x, _, rfl⟩ := List.mem_map.mp hw
    exact dig x
  · rcases List.mem_cons.mp hw with rfl | hw
    · decide
    · obtain ⟨x, _, rfl⟩ := List.mem_map.mp hw
      exact dig x
theorem no59_join {s : List Nat} (hs : 59 ∉ s) : ∀ {ps : List (List Nat)}, (∀ p ∈ ps, 59 ∉ p) → 59 ∉ TL.joinL s ps
  | [], _ => by simp [TL.joinL]
  | [p], h => h p List.mem_cons_self
  | p :: q :: r, h => by
    show 59 ∉ p ++ (s ++ TL.joinL s (q :: r))
    intro hm
    rcases List.mem_append.mp hm with hm | hm
    · exact h p List.mem_cons_self hm
    · rcases List.mem_append.mp hm with hm | hm
      · exact hs hm
      · exact no59_join hs (fun x hx => h x (List.mem_cons_of_mem _ hx)) hm
theorem no59_dg {x : Int} (h : 0 ≤ x ∧ x ≤ 9) : 59 ∉ dgL x := fun hm => by
  have := List.mem_singleton.mp hm
  omega
theorem no59_row {r : List Int} (h : ∀ x ∈ r, 0 ≤ x ∧ x ≤ 9) : 59 ∉ rowT r := no59_join (by decide) fun p hp => by
  obtain ⟨x, hx, rfl⟩ := List.mem_map.mp hp
  exact no59_dg (h x hx)
theorem no59_move {m : List Int × List Int} (d1 : ∀ x ∈ m.1, 0 ≤ x ∧ x ≤ 9) (d2 : ∀ x ∈ m.2, 0 ≤ x ∧ x ≤ 9) : 59 ∉ moveT m := fun hm => by
  rcases List.mem_append.mp hm with hm | hm
  · exact no59_row d1 hm
  · rcases List.mem_append.mp hm with hm | hm
    · exact absurd hm (by decide)
    · exact no59_row d2 hm
theorem split_net {n : Nat} {w : Int} {ms : List (List Int × List Int)} (h : NetOk n w ms) (hw : w ≤ 9) : Txt.split (mk (netT n ms)) (mk [32, 59, 32]) = (piecesT n ms).map mk := by
  refine TL.map_tl_inj ?_
  rw [TL.split_spl _ (mk [32, 59, 32]) (by simp [tl_mk]) (TL.kind_ok (by decide +kernel)), List.map_map]
  have e : (piecesT n ms).map (TL.tl ∘ mk) = piecesT n ms := List.map_id' _
  rw [e]
  refine spl_semi (by unfold piecesT; simp) fun p hp => ?_
  unfold piecesT at hp
  rcases List.mem_cons.mp hp with rfl | hp
  · exact no59_dg (by have := h.top; omega)
  · obtain ⟨m, hm, rfl⟩ := List.mem_map.mp hp
    obtain ⟨r1, r2⟩ := h.rows m hm
    exact no59_move (fun x hx => by have := r1.2 x hx; omega) (fun x hx => by have := r2.2 x hx; omega)
end Tw

/-! Tw14: is True of plain values; count, index, in of truth values; a dict written out; which own error it was. -/
namespace Tw
open PySem PySem.Spec PyProof.Rows L2 PyProof
/-! ### x is True -/
def plainV : V → Bool
  | .int _ | .bl _ | .str _ | .non => true
  | _ => false
def isTrV : V → Bool
  | .bl b => b
  | _ => false
def rIsTr : R2 := fun x y H Q => y = .bl true ∧ plainV x = true ∧ Q (.bl (isTrV x)) H
theorem opIsTr {X : Cx} : OpR X (compareOp .Is) rIsTr := by
  intro pins s σ H x y v u Q I rx ry h
  obtain ⟨rfl, hp, q⟩ := h
  cases (show u = Value.bool true from ry)
  cases x with
  | int i =>
    obtain ⟨t, rfl⟩ := rx
    exact wpAny_is_other rfl (fun z => by cases z) ⟨.bl false, H, I, rfl, q⟩
  | bl b =>
    cases (show v = Value.bool b from rx)
    cases b with
    | true => exact wpAny_is_self rfl ⟨.bl true, H, I, rfl, q⟩
    | false => exact wpAny_is_other rfl (fun z => by cases z) ⟨.bl false, H, I, rfl, q⟩
  | str z =>
    obtain ⟨t, rfl⟩ := rx
    exact wpAny_is_other rfl (fun z => by cases z) ⟨.bl false, H, I, rfl, q⟩
  | non =>
    cases (show v = Value.none from rx)
    exact wpAny_is_other rfl (fun z => by cases z) ⟨.bl false, H, I, rfl, q⟩
  | _ => cases hp
def plainD : PyData → Bool
  | .int _ | .bool _ | .str _ | .none => true
  | _ => false
def isTrD : PyData → Bool
  | .bool b => b
  | _ => false
/-! ### lists of truth values -/
theorem bls_of : ∀ {bs : List Bool} {its : List Value}, Vals (bs.map V.bl) its → its = bs.map Value.bool
  | [], _, .nil => rfl
  | b :: bs, _, .cons r t => by
    cases (show _ = Value.bool b from r)
    rw [bls_of t]
    rfl
def isTrW : Value → Bool
  | .bool b => b
  | _ => false
theorem count_bls : ∀ bs : List Bool, (bs.map Value.bool).countP isTrW = bs.count true
  | [] => rfl
  | b :: bs => by
    rw [List.map_cons, List.countP_cons, List.count_cons, count_bls bs]
    cases b <;> rfl
def rCountB (K : PySem.W.Frag) : V → List V → Hp → VK → Prop := fun x xs H Q => ∃ (p : Addr) (bs : List Bool), x = .ref p ∧ xs = [.bl true] ∧ SqL K H p (bs.map V.bl) ∧ Q (.int (bs.count true : Nat)) H
theorem mtCountB {X : Cx} : MtR X "list.count" (rCountB X.K) := by
  intro pins s σ H x xs v us Q I rx rxs h
  obtain ⟨p, bs, rfl, rfl, hs, q⟩ := h
  cases rx
  obtain ⟨u, rfl, ru⟩ := rxs.one
  cases (show u = Value.bool true from ru)
  obtain ⟨its, rv, ⟨⟨cls, dd, data, sl⟩, n, ho, hc, hdn, hd⟩, hlen⟩ := I.list hs
  simp only at hc hd
  subst hc hd
  have hi := bls_of rv
  subst hi
  refine call_meets PySem.F.slot_list_count ⟨_, ho, rfl⟩ PySem.F.entry_list_count (PySem.F.args_list_count_2 _ _)
    (SeqAt.list_countAt p (bs.map Value.bool).toArray n dd sl (.bool true) isTrW) ⟨ho, fun y hy => ?_, ?_⟩
  · obtain ⟨b, _, rfl⟩ := List.mem_map.mp (by simpa using hy : y ∈ bs.map Value.bool)
    have := eqAt_V (A := X.A.in1) (s := s) (y := .bl b) (x := .bl true) (u := .bool b) (v := .bool true) rfl rfl rfl rfl
    have e : eqV (.bl b) (.bl true) = isTrW (.bool b) := by cases b <;> rfl
    rw [e] at this
    first | exact this | exact this.in1 | simpa using this
  · refine ⟨.int (bs.count true : Nat), H, I.tok _, ⟨s.toks, ?_⟩, q⟩
    show Value.int (((bs.map Value.bool).toArray.toList.countP isTrW : Nat) : Int) s.toks = _
    rw [show (bs.map Value.bool).toArray.toList = bs.map Value.bool from rfl, count_bls]
section
variable {K : PySem.W.Frag} {E : XK} {δ : List Sl} {ta tb to te : TE} {bs : List Bool} {x y z : PyData} {xs : List PyData} {j : Nat} {i : Int} {ns : List Int}
theorem rd_isTr (h : plainD x = true) : R2D K rIsTr x (.bool true) (.bool (isTrD x)) := fun H I v u s r1 r2 Q q => by
  cases r2
  cases x with
  | int i => cases r1; exact ⟨rfl, rfl, q _ H I (Nx.refl s) (.bl _)⟩
  | bool b => cases r1; exact ⟨rfl, rfl, q _ H I (Nx.refl s) (.bl _)⟩
  | str b => cases r1; exact ⟨rfl, rfl, q _ H I (Nx.refl s) (.bl _)⟩
  | none => cases r1; exact ⟨rfl, rfl, q _ H I (Nx.refl s) (.bl _)⟩
  | _ => cases h
theorem flat_bls (bs : List Bool) : (bs.map V.bl).all flatV = true := by
  rw [List.all_map, List.all_eq_true]
  intro x _
  rfl
theorem rd_inB (h : true ∈ bs) : R2D K (rIn K false) (.bool true) (.list (bs.map .bool)) (.bool true) := fun H I v u s r1 r2 Q q => by
  cases r1
  cases r2 with
  | lst h1 a =>
    have e := rall_bls a
    subst e
    refine ⟨_, _, rfl, .inl (.of (s _ _ h1)), rfl, flat_bls bs, ?_⟩
    have ei : inV (.bl true) (bs.map V.bl) = true := by
      show ((bs.map V.bl).any fun w => eqV w (.bl true)) = true
      rw [List.any_map, List.any_eq_true]
      exact ⟨true, h, rfl⟩
    rw [ei]
    exact q _ H I (Nx.refl s) (.bl _)
theorem rd_inT : R2D K (rIn K false) (.int i) (.tuple (ns.map .int)) (.bool (decide (i ∈ ns))) := fun H I v u s r1 r2 Q q => by
  cases r1
  cases r2 with
  | tup h a =>
    have e := rall_ints a
    subst e
    exact ⟨_, _, rfl, .inr (.of (s _ _ h)), rfl, flat_ints ns, by rw [inV_ints]; exact q _ H I (Nx.refl s) (.bl _)⟩
theorem ev_countB (h : Ev K to δ (.list (bs.map .bool))) : Ev K (tBM K "list" (rCountB K) to (tCons (tC (.bl true)) tNil)) δ (.int (bs.count true : Nat)) := fun G σ H I s g r Q q =>
  h G σ H I s g r _ fun v H1 I1 n1 rv => by
    cases rv with
    | lst h1 a1 =>
      have e := rall_bls a1
      subst e
      exact ⟨.inl ⟨rfl, _, .of (n1.s _ _ h1)⟩, _, bs, rfl, rfl, .of (n1.s _ _ h1), q _ H1 I1 n1 (.int _)⟩
theorem ev_indexB (h : Ev K to δ (.list (bs.map .bool))) (hj : bs[j]? = some true) (hno : ∀ m, m < j → bs[m]? = some false) : Ev K (tBM K "list" (rIndex K) to (tCons (tC (.bl true)) tNil)) δ (.int j) := fun G σ H I s g r Q q =>
  h G σ H I s g r _ fun v H1 I1 n1 rv => by
    cases rv with
    | lst h1 a1 =>
      have e := rall_bls a1
      subst e
      refine ⟨.inl ⟨rfl, _, .of (n1.s _ _ h1)⟩, _, bs.map V.bl, .bl true, j, .bl true, rfl, rfl, .of (n1.s _ _ h1), rfl, flat_bls bs, by rw [List.getElem?_map, hj]; rfl, rfl, fun m z' hm hz => ?_, q _ H1 I1 n1 (.int _)⟩
      rw [List.getElem?_map, hno m hm] at hz
      cases hz
      rfl
/-- {0: True}: some dict -/
theorem ev_dict1 : Ev K (tDisp [((tC (.int 0)), (tC (.bl true)))]) δ (.dict []) := fun G σ H I s g r Q q => by
  intro p hp
  refine ⟨upd_same, [(.inl 0, .bl true)], rfl, by show 1 ≤ 15; decide, ?_⟩
  rw [upd_upd]
  exact q _ _ _ (Nx.new s hp) (.dct upd_same)
/-- the left operand raises -/
theorem ex_opL {r : R2} {c : Value} (h : EvX K E ta δ c) : EvX K E (tOp r ta tb) δ c := fun G σ H I s g rl he Q => h G σ H I s g rl he _
end
/-! ### which own error it was -/
theorem kit_yes {K : PySem.W.Frag} {D X : Addr} (dX : PySem.W.hasDictIn K X = true) (tX : PySem.W.typeIn K (.ref X) = some (.type "type")) (s : PySem.W.subIn K (.ref D) (.ref X) = some true) : PySem.W.kitOne K (.ref D) (.ref X) = some true := by
  obtain ⟨cd, hc, _⟩ := PySem.W.any_some dX
  show (if ((Value.ref D == Value.ref X) = true) then some true else if ((PySem.W.clsIn K X).isSome && PySem.W.typeIn K (.ref X) == some (.type "type")) = true then PySem.W.subIn K (.ref D) (.ref X) else none) = some true
  rw [hc, tX, s]
  split
  · rfl
  · rw [if_pos (by rfl)]
theorem kit_no {K : PySem.W.Frag} {D X : Addr} (dX : PySem.W.hasDictIn K X = true) (tX : PySem.W.typeIn K (.ref X) = some (.type "type")) (s : PySem.W.subIn K (.ref D) (.ref X) = some false) (sD : PySem.W.subIn K (.ref D) (.ref D) = some true) : PySem.W.kitOne K (.ref D) (.ref X) = some false := by
  obtain ⟨cd, hc, _⟩ := PySem.W.any_some dX
  have hne : ¬ (Value.ref D == Value.ref X) = true := fun e => by
    have e2 : Value.ref D = Value.ref X := beq_iff_eq.mp e
    rw [← e2, sD] at s
    cases s
  show (if ((Value.ref D == Value.ref X) = true) then some true else if ((PySem.W.clsIn K X).isSome && PySem.W.typeIn K (.ref X) == some (.type "type")) = true then PySem.W.subIn K (.ref D) (.ref X) else none) = some false
  rw [if_neg hne, hc, tX, s, if_pos (by rfl)]
/-- what the kit says of the classes asked of: NoHoard, NoMove, NoPlace; NoNet, Endless, TooBig, NoText, Stuck -/
structure ClsF (K : PySem.W.Frag) (X : Addr) : Prop where
  d : PySem.W.hasDictIn K X = true
  t : PySem.W.typeIn K (.ref X) = some (.type "type")
structure KindF (K : PySem.W.Frag) (D T c0 c1 c2 c3 c4 c5 c6 c7 : Addr) (k : Nat) : Prop where
  C : ExcC K D
  top : PySem.W.exmOne K (.ref D) (.ref T) = some true
  ve : PySem.W.kitOne K (.ref D) (.type "ValueError") = some true
  k0 : PySem.W.kitOne K (.ref D) (.ref c0) = some (decide (k = 0))
  k1 : PySem.W.kitOne K (.ref D) (.ref c1) = some (decide (k = 1))
  k2 : PySem.W.kitOne K (.ref D) (.ref c2) = some (decide (k = 2))
  k3 : PySem.W.kitOne K (.ref D) (.ref c3) = some false
  k4 : PySem.W.kitOne K (.ref D) (.ref c4) = some false
  k5 : PySem.W.kitOne K (.ref D) (.ref c5) = some false
  k6 : PySem.W.kitOne K (.ref D) (.ref c6) = some false
  k7 : PySem.W.kitOne K (.ref D) (.ref c7) = some false
theorem kindF_of {K : PySem.W.Frag} {D T c0 c1 c2 c3 c4 c5 c6 c7 : Addr} {k : Nat} (C : ExcC K D) (tD : PySem.W.typeIn K (.ref D) = some (.type "type")) (sv : PySem.W.subIn K (.ref D) (.type "ValueError") = some true) (sD : PySem.W.subIn K (.ref D) (.ref D) = some true)
    (bT : PySem.W.subIn K (.ref T) (.type "BaseException") = some true) (dT : ClsF K T) (sT : PySem.W.subIn K (.ref D) (.ref T) = some true)
    (f0 : ClsF K c0) (f1 : ClsF K c1) (f2 : ClsF K c2) (f3 : ClsF K c3) (f4 : ClsF K c4) (f5 : ClsF K c5) (f6 : ClsF K c6) (f7 : ClsF K c7)
    (s0 : PySem.W.subIn K (.ref D) (.ref c0) = some (decide (k = 0))) (s1 : PySem.W.subIn K (.ref D) (.ref c1) = some (decide (k = 1))) (s2 : PySem.W.subIn K (.ref D) (.ref c2) = some (decide (k = 2)))
    (s3 : PySem.W.subIn K (.ref D) (.ref c3) = some false) (s4 : PySem.W.subIn K (.ref D) (.ref c4) = some false) (s5 : PySem.W.subIn K (.ref D) (.ref c5) = some false) (s6 : PySem.W.subIn K (.ref D) (.ref c6) = some false) (s7 : PySem.W.subIn K (.ref D) (.ref c7) = some false) :
    KindF K D T c0 c1 c2 c3 c4 c5 c6 c7 k := by
  have any : ∀ {X : Addr} {b : Bool}, ClsF K X → PySem.W.subIn K (.ref D) (.ref X) = some b → PySem.W.kitOne K (.ref D) (.ref X) = some b := fun {X b} f s => by
    cases b with
    | true => exact kit_yes f.d f.t s
    | false => exact kit_no f.d f.t s sD
  exact ⟨C, PySem.W.exm_ref bT dT.d dT.t sT, (errF_of C tD sv sD bT dT.d dT.t sT).ve, any f0 s0, any f1 s1, any f2 s2, any f3 s3, any f4 s4, any f5 s5, any f6 s6, any f7 s7⟩
section
variable {K : PySem.W.Frag} {E : XK} {xs : List PyData} {ta : TA} {F : List PyData → Out → Prop} {P : Out → Prop} {D T c0 c1 c2 c3 c4 c5 c6 c7 : Addr} {k : Nat} {d0 : PyData}
def suiteK (K : PySem.W.Frag) (c0 c1 c2 c3 c4 c5 c6 c7 : Addr) : Addr → Value → Option Addr → TS := fun a cls d => (tSeq (tAsg (tLst (tCons (tCB (rIsX K a cls d) (tCons (tVar 1) (tCons (tC (.ref c0)) tNil))) (tCons (tCB (rIsX K a cls d) (tCons (tVar 1) (tCons (tC (.ref c1)) tNil))) (tCons (tCB (rIsX K a cls d) (tCons (tVar 1) (tCons (tC (.ref c2)) tNil))) tNil)))) (gName 2))
    (tSeq (tAsg (tLst (tCons (tCB (rIsX K a cls d) (tCons (tVar 1) (tCons (tC (.ref c3)) tNil))) (tCons (tCB (rIsX K a cls d) (tCons (tVar 1) (tCons (tC (.ref c4)) tNil))) (tCons (tCB (rIsX K a cls d) (tCons (tVar 1) (tCons (tC (.ref c5)) tNil))) (tCons (tCB (rIsX K a cls d) (tCons (tVar 1) (tCons (tC (.ref c6)) tNil))) tNil))))) (gName 3))
    (tSeq (tDrop (tBM K "list" rAppend (tVar 3) (tCons (tCB (rIsX K a cls d) (tCons (tVar 1) (tCons (tC (.ref c7)) tNil))) tNil)))
    (tIfS (tAnd (tB (tCB (rIsX K a cls d) (tCons (tVar 1) (tCons (tC (.ty "ValueError")) tNil)))) (tAnd (tTest (tOp (rEqD K) (tBM K "list" (rCountB K) (tOp (rAddA K) (tVar 2) (tVar 3)) (tCons (tC (.bl true)) tNil)) (tC (.int 1)))) (tTest (tOp (rIn K false) (tC (.bl true)) (tVar 2))))) (tRet (tBM K "list" (rIndex K) (tVar 2) (tCons (tC (.bl true)) tNil))) tNext))))
theorem as_kind (ha : EvA K ta [.d d0, .no, .no, .no] xs) (hF : F xs (.ex (.ref D))) (hE : KindF K D T c0 c1 c2 c3 c4 c5 c6 c7 k) (hk : k < 3) (kP : P (.rt (.int (k : Nat)))) :
    As K E (tTryB K (.ref T) 1 (fun W => tDrop (tCallS (SpD K F) (WE W) ta)) (suiteK K c0 c1 c2 c3 c4 c5 c6 c7)) [.d d0, .no, .no, .no] P := fun G I0 σ H I D' n r cv =>
  ha G σ H I n.s n.h r _ fun vs H1 I1 n1 r1 => ⟨I1, xs, .ex (.ref D), n1.s, r1, hF, fun H2 e => ⟨true, hE.top, fun _ a _ => by
    have r2 := r.next (n1.trans (nx_same n1.s e))
    have n2 := (n.trans n1).trans (nx_same n1.s e)
    have hl : σ.length = 4 := r2.len
    have ty : ∀ {X : Addr}, ∀ u, RelV (.ref X) u → u = Value.ref X := fun u ru => ru
    have g1 : (σ.set 1 (some (V.ref a)))[1]? = some (some (.ref a)) := List.getElem?_set_self (by omega)
    refine ⟨_, g1, D, rfl, rfl, hE.C, .ref c0, .ref c0, _, rfl, ty, hE.k0, ?_⟩
    refine ⟨_, g1, D, rfl, rfl, hE.C, .ref c1, .ref c1, _, rfl, ty, hE.k1, ?_⟩
    refine ⟨_, g1, D, rfl, rfl, hE.C, .ref c2, .ref c2, _, rfl, ty, hE.k2, ?_⟩
    refine ⟨by show 3 ≤ sizeLine; decide, fun p hp => ?_⟩
    have g2 : ((σ.set 1 (some (V.ref a))).set 2 (some (V.ref p)))[1]? = some (some (.ref a)) := by rw [List.getElem?_set_ne (by decide)]; exact g1
    refine ⟨_, g2, D, rfl, rfl, hE.C, .ref c3, .ref c3, _, rfl, ty, hE.k3, ?_⟩
    refine ⟨_, g2, D, rfl, rfl, hE.C, .ref c4, .ref c4, _, rfl, ty, hE.k4, ?_⟩
    refine ⟨_, g2, D, rfl, rfl, hE.C, .ref c5, .ref c5, _, rfl, ty, hE.k5, ?_⟩
    refine ⟨_, g2, D, rfl, rfl, hE.C, .ref c6, .ref c6, _, rfl, ty, hE.k6, ?_⟩
    refine ⟨by show 4 ≤ sizeLine; decide, fun q hq => ?_⟩
    have g3 : (((σ.set 1 (some (V.ref a))).set 2 (some (V.ref p))).set 3 (some (V.ref q)))[1]? = some (some (.ref a)) := by rw [List.getElem?_set_ne (by decide)]; exact g2
    have g4 : (((σ.set 1 (some (V.ref a))).set 2 (some (V.ref p))).set 3 (some (V.ref q)))[3]? = some (some (.ref q)) := List.getElem?_set_self (by rw [List.length_set, List.length_set]; omega)
    refine ⟨.ref q, g4, .inl ⟨rfl, _, .inl (.inl upd_same)⟩, ?_⟩
    refine ⟨_, g3, D, rfl, rfl, hE.C, .ref c7, .ref c7, _, rfl, ty, hE.k7, ?_⟩
    refine ⟨q, _, .bl false, rfl, rfl, upd_same, by show 4 < sizeLine; decide, ?_⟩
    rw [upd_upd]
    have n3 : Nx H2 I1 (upd H2 p (.lst [.bl (decide (k = 0)), .bl (decide (k = 1)), .bl (decide (k = 2))])) (upd I1 p (.lst [.bl (decide (k = 0)), .bl (decide (k = 1)), .bl (decide (k = 2))])) := Nx.new n2.s hp
    have n4 := Nx.new (o := .lst ([.bl false, .bl false, .bl false, .bl false] ++ [.bl false])) n3.s hq
    have r3 := ((r2.next n3).none (i := 1) (o := some (V.ref a))).put (i := 2) (x := .list ([decide (k = 0), decide (k = 1), decide (k = 2)].map .bool)) (Rp.lst (K := K) upd_same (.cons (.bl _) (.cons (.bl _) (.cons (.bl _) .nil))))
    have r4 := (r3.next n4).put (i := 3) (x := .list ([false, false, false, false, false].map .bool)) (Rp.lst (K := K) upd_same (.cons (.bl _) (.cons (.bl _) (.cons (.bl _) (.cons (.bl _) (.cons (.bl _) .nil))))))
    have n5 := (n2.trans n3).trans n4
    refine ⟨_, g3, D, rfl, rfl, hE.C, .ty "ValueError", .type "ValueError", true, rfl, fun u ru => ru, hE.ve, true, rfl, ite_t ?_⟩
    refine (et_and (a := true) (b := true) (et_test (ev_to (ev_op (ev_countB (bs := [decide (k = 0), decide (k = 1), decide (k = 2)] ++ [false, false, false, false, false]) (ev_to (en_cat (ev_var rfl) (ev_var rfl) (by show 8 ≤ sizeLine; decide)).ev rfl)) ev_int (rd_eq rfl rfl)) ?_)) fun _ => et_test (ev_op (x := .bool true) ev_bl (ev_var (x := .list ([decide (k = 0), decide (k = 1), decide (k = 2)].map .bool)) rfl) (rd_inB ?_))) G _ _ _ n5.s n5.h r4 _ fun H6 I6 n6 => ite_t ?_
    · rcases (by omega : k = 0 ∨ k = 1 ∨ k = 2) with rfl | rfl | rfl <;> rfl
    · rcases (by omega : k = 0 ∨ k = 1 ∨ k = 2) with rfl | rfl | rfl <;> decide
    · refine (ev_indexB (bs := [decide (k = 0), decide (k = 1), decide (k = 2)]) (j := k) (ev_var rfl) ?_ ?_) G _ _ _ (n5.trans n6).s (n5.trans n6).h (r4.next n6) _ fun v H7 I7 n7 rv => cv.rt _ _ _ _ kP ((n5.trans n6).trans n7) rv
      · rcases (by omega : k = 0 ∨ k = 1 ∨ k = 2) with rfl | rfl | rfl <;> rfl
      · rcases (by omega : k = 0 ∨ k = 1 ∨ k = 2) with rfl | rfl | rfl
        · intro m hm; omega
        · intro m hm
          have : m = 0 := by omega
          subst this
          rfl
        · intro m hm
          rcases (by omega : m = 0 ∨ m = 1) with rfl | rfl <;> rfl, fun z => nomatch z⟩⟩
end
end Tw

/-! Tw18: in plain Lean: how long a shortest run over a goal can be, place by place left out (Rackoff), and how many hoards that tells. -/
namespace Tw

/-! ### counting -/
theorem sub_len {α : Type} [DecidableEq α] : ∀ {l m : List α}, l.Nodup → (∀ x ∈ l, x ∈ m) → l.length ≤ m.length
  | [], _, _, _ => Nat.zero_le _
  | x :: t, m, h, hs => by
    have hx := hs x List.mem_cons_self
    obtain ⟨hn, ht⟩ := List.nodup_cons.mp h
    have ih := sub_len (l := t) (m := m.erase x) ht fun y hy => by
      have hne : y ≠ x := fun e => hn (e ▸ hy)
      exact (List.mem_erase_of_ne hne).mpr (hs y (List.mem_cons_of_mem _ hy))
    have hl := List.length_erase_of_mem hx
    have hp := List.length_pos_of_mem hx
    rw [List.length_cons]
    omega
/-- all rows below b, place by place -/
def boxes : List Nat → List (List Nat)
  | [] => [[]]
  | b :: B => (List.range b).flatMap fun h => (boxes B).map (h :: ·)
def prodN : List Nat → Nat
  | [] => 1
  | b :: B => b * prodN B
theorem flat_lenN {α β : Type} {f : α → List β} {c : Nat} : ∀ {l : List α}, (∀ x ∈ l, (f x).length = c) → (l.flatMap f).length = l.length * c
  | [], _ => by simp
  | x :: r, h => by
    rw [List.flatMap_cons, List.length_append, flat_lenN (l := r) fun y hy => h y (List.mem_cons_of_mem _ hy), h x List.mem_cons_self, List.length_cons, Nat.succ_mul]
    omega
theorem boxes_len : ∀ B : List Nat, (boxes B).length = prodN B
  | [] => rfl
  | b :: B => by
    unfold boxes prodN
    rw [flat_lenN (c := prodN B) fun x _ => by rw [List.length_map, boxes_len B], List.length_range]
/-- v lies below B, place by place -/
def Under : List Nat → List Nat → Prop
  | [], [] => True
  | v :: vs, b :: bs => v < b ∧ Under vs bs
  | _, _ => False
theorem boxes_mem : ∀ {v B : List Nat}, Under v B → v ∈ boxes B
  | [], [], _ => by simp [boxes]
  | v :: vs, b :: bs, h => by
    unfold boxes
    exact List.mem_flatMap.mpr ⟨v, List.mem_range.mpr h.1, List.mem_map.mpr ⟨vs, boxes_mem h.2, rfl⟩⟩
  | [], _ :: _, h => h.elim
  | _ :: _, [], h => h.elim
theorem under_iff : ∀ {v B : List Nat}, v.length = B.length → (∀ k, k < B.length → v.getD k 0 < B.getD k 0) → Under v B
  | [], [], _, _ => trivial
  | v :: vs, b :: bs, hl, h => ⟨h 0 (by simp), under_iff (by simpa using hl) fun k hk => by
      have := h (k + 1) (by simpa using hk)
      simpa using this⟩
  | [], _ :: _, hl, _ => by simp at hl
  | _ :: _, [], hl, _ => by simp at hl
/-- rows below one of these bounds -/
theorem count_boxes {l : List (List Nat)} {Bs : List (List Nat)} {c : Nat} (hn : l.Nodup) (hu : ∀ v ∈ l, ∃ B ∈ Bs, Under v B) (hc : ∀ B ∈ Bs, prodN B = c) : l.length ≤ Bs.length * c := by
  have h := sub_len (m := Bs.flatMap boxes) hn fun v hv => by
    obtain ⟨B, hB, h⟩ := hu v hv
    exact List.mem_flatMap.mpr ⟨B, hB, boxes_mem h⟩
  rw [flat_lenN (c := c) fun B hB => by rw [boxes_len, hc B hB]] at h
  exact h
theorem prod_rep (x : Nat) : ∀ n : Nat, prodN (List.replicate n x) = x ^ n
  | 0 => rfl
  | n + 1 => by
    rw [List.replicate_succ]
    show x * prodN _ = _
    rw [prod_rep x n, Nat.pow_succ, Nat.mul_comm]
theorem prod_set (x g : Nat) : ∀ (n k : Nat), k < n + 1 → prodN ((List.replicate (n + 1) x).set k g) = g * x ^ n
  | n, 0, _ => by
    rw [List.replicate_succ, List.set_cons_zero]
    show g * prodN _ = _
    rw [prod_rep]
  | 0, k + 1, h => by omega
  | n + 1, k + 1, h => by
    rw [List.replicate_succ, List.set_cons_succ]
    show x * prodN _ = _
    rw [prod_set x g n k (by omega), Nat.pow_succ, Nat.mul_left_comm, Nat.mul_comm x (x ^ n)]

/-! ### backward, place by place: m a move, k a place -/
section
variable (tk gv : Nat → Nat → Nat)
def pre (m : Nat) (y : Nat → Nat) : Nat → Nat := fun k => tk m k + (y k - gv m k)
/-- the least hoard from which a run leads over g -/
def preR (r : List Nat) (g : Nat → Nat) : Nat → Nat := r.foldr (pre tk gv) g
theorem pre_le {m : Nat} {y z : Nat → Nat} {k : Nat} (h : y k ≤ z k) : pre tk gv m y k ≤ pre tk gv m z k := by
  unfold pre
  omega
theorem preR_le : ∀ {r : List Nat} {y z : Nat → Nat} {k : Nat}, y k ≤ z k → preR tk gv r y k ≤ preR tk gv r z k
  | [], _, _, _, h => h
  | m :: r, _, _, _, h => pre_le tk gv (preR_le (r := r) h)
theorem preR_app (r q : List Nat) (g : Nat → Nat) : preR tk gv (r ++ q) g = preR tk gv r (preR tk gv q g) := by
  unfold preR
  rw [List.foldr_append]
theorem preR_grow {w : Nat} (hw : ∀ m k, tk m k ≤ w) : ∀ (r : List Nat) (g : Nat → Nat) (k : Nat), preR tk gv r g k ≤ g k + w * r.length
  | [], g, k => by
    show g k ≤ _
    omega
  | m :: r, g, k => by
    have ih := preR_grow hw r g k
    have := hw m k
    show tk m k + (preR tk gv r g k - gv m k) ≤ _
    rw [List.length_cons, Nat.mul_succ]
    omega
/-- how long a shortest run can be, s places looked at -/
def shortL (G : Nat) : Nat → Nat
  | 0 => 0
  | s + 1 => (s + 1) * (G * (G + 2 * shortL G s + 1) ^ s)
/-- of e a run leads over g, as far as the places S go -/
def CovR (g : Nat → Nat) (S : List Nat) (r : List Nat) (e : Nat → Nat) : Prop := ∀ k ∈ S, preR tk gv r g k ≤ e k
variable {tk gv}
theorem take_drop_len (r : List Nat) (i : Nat) (h : i ≤ r.length) : (r.drop i).length = r.length - i := by rw [List.length_drop]
theorem cov_cut {g e : Nat → Nat} {S r r0 : List Nat} {i : Nat} (h : CovR tk gv g S r e) (h0 : CovR tk gv g S r0 (preR tk gv (r.drop i) g)) : CovR tk gv g S (r.take i ++ r0) e := fun k hk => by
  have h1 := h k hk
  rw [← List.take_append_drop i r, preR_app] at h1
  rw [preR_app]
  exact Nat.le_trans (preR_le tk gv (h0 k hk)) h1
theorem mapS_getD {S : List Nat} {f : Nat → Nat} {k : Nat} (h : k < S.length) : (S.map f).getD k 0 = f (S[k]) := by
  rw [List.getD_eq_getElem?_getD, List.getElem?_map, List.getElem?_eq_getElem h]
  rfl
theorem short {N G : Nat} {g : Nat → Nat} (hG : ∀ k, g k ≤ G) (hw : ∀ m k, tk m k ≤ 2) : ∀ (s : Nat) (S : List Nat), S.length = s → ∀ (n : Nat) (e : Nat → Nat) (r : List Nat), r.length = n → (∀ m ∈ r, m < N) → CovR tk gv g S r e →
    ∃ r0, r0.length ≤ shortL G s ∧ (∀ m ∈ r0, m < N) ∧ CovR tk gv g S r0 e
  | 0, S, hS, n, e, r, _, _, _ => by
    refine ⟨[], Nat.zero_le _, by simp, fun k hk => ?_⟩
    rw [List.eq_nil_of_length_eq_zero hS] at hk
    cases hk
  | s + 1, S, hS, n, e, r, hr, hm, hc => by
    induction n using Nat.strongRecOn generalizing r with
    | ind n ih =>
      by_cases hb : r.length ≤ shortL G (s + 1)
      · exact ⟨r, hb, hm, hc⟩
      -- a shorter one?
      by_cases hx : ∃ i r0, i ≤ r.length ∧ r0.length < r.length - i ∧ (∀ m ∈ r0, m < N) ∧ CovR tk gv g S r0 (preR tk gv (r.drop i) g)
      · obtain ⟨i, r0, hi, hl, hm0, h0⟩ := hx
        refine ih (r.take i ++ r0).length ?_ (r.take i ++ r0) rfl (fun m h => ?_) (cov_cut hc h0)
        · rw [List.length_append, List.length_take]
          omega
        · rcases List.mem_append.mp h with h | h
          · exact hm m (List.mem_of_mem_take h)
          · exact hm0 m h
      -- none: all that stands on the way lies in a box, and is new each time
      exfalso
      have tight : ∀ i r0, i ≤ r.length → (∀ m ∈ r0, m < N) → CovR tk gv g S r0 (preR tk gv (r.drop i) g) → r.length - i ≤ r0.length := fun i r0 hi hm0 h0 => by
        rcases Nat.lt_or_ge r0.length (r.length - i) with h | h
        · exact absurd ⟨i, r0, hi, h, hm0, h0⟩ hx
        · exact h
      have hbox : ∀ i, i ≤ r.length → ∀ k, k < S.length → ∀ (hk : k < S.length), preR tk gv (r.drop i) g S[k] ≤ G + 2 * shortL G s := fun i hi k _ hk => by
        obtain ⟨r0, l0, m0, c0⟩ := short hG hw s (S.eraseIdx k) (by rw [List.length_eraseIdx_of_lt hk]; omega) (r.drop i).length (preR tk gv (r.drop i) g) (r.drop i) rfl (fun m h => hm m (List.mem_of_mem_drop h)) (fun k _ => Nat.le_refl _)
        have g0 := preR_grow tk gv hw r0 g S[k]
        have gk := hG S[k]
        rcases Nat.lt_or_ge (preR tk gv (r.drop i) g S[k]) (preR tk gv r0 g S[k]) with h | h
        · omega
        · have ht := tight i r0 hi m0 fun p hp => by
            obtain ⟨j, hj, rfl⟩ := List.getElem_of_mem hp
            by_cases hjk : j = k
            · subst hjk
              exact h
            · exact c0 _ (List.mem_eraseIdx_iff_getElem.mpr ⟨j, hj, hjk, rfl⟩)
          have g1 := preR_grow tk gv hw (r.drop i) g S[k]
          rw [List.length_drop] at g1
          omega
      have hnew : ((List.range r.length).map fun i => S.map (preR tk gv (r.drop i) g)).Nodup := by
        refine List.pairwise_map.mpr ?_
        refine List.Pairwise.imp_of_mem ?_ (List.pairwise_lt_range (n := r.length))
        intro i j hi hj hij he
        have hi' := List.mem_range.mp hi
        have hj' := List.mem_range.mp hj
        have := tight i (r.drop j) (by omega) (fun m h => hm m (List.mem_of_mem_drop h)) fun k hk => by
          have := (List.map_inj_left.mp he) k hk
          omega
        rw [List.length_drop] at this
        omega
      have hcnt := count_boxes (Bs := (List.range (s + 1)).map fun k => (List.replicate (s + 1) (G + 2 * shortL G s + 1)).set k G) (c := G * (G + 2 * shortL G s + 1) ^ s) hnew (fun v hv => by
        obtain ⟨i, hi, rfl⟩ := List.mem_map.mp hv
        have hi := List.mem_range.mp hi
        -- at some place it lies below the goal
        have hlow : ∃ k, ∃ hk : k < S.length, preR tk gv (r.drop i) g S[k] < g S[k] := by
          apply Classical.byContradiction
          intro hno
          have := tight i [] (by omega) (by simp) fun p hp => by
            obtain ⟨j, hj, rfl⟩ := List.getElem_of_mem hp
            show g S[j] ≤ _
            rcases Nat.lt_or_ge (preR tk gv (r.drop i) g S[j]) (g S[j]) with h | h
            · exact absurd ⟨j, hj, h⟩ hno
            · exact h
          simp at this
          omega
        obtain ⟨k, hk, hlt⟩ := hlow
        refine ⟨_, List.mem_map.mpr ⟨k, List.mem_range.mpr (by omega), rfl⟩, under_iff (by simp [hS]) fun j hj => ?_⟩
        rw [List.length_set, List.length_replicate] at hj
        have hj' : j < S.length := by omega
        rw [mapS_getD hj']
        have hB := hbox i (by omega) j hj' hj'
        by_cases hjk : j = k
        · subst hjk
          have := hG S[j]
          rw [List.getD_eq_getElem?_getD, List.getElem?_set_self (by rw [List.length_replicate]; exact hj), Option.getD_some]
          omega
        · rw [List.getD_eq_getElem?_getD, List.getElem?_set_ne (Ne.symm hjk), List.getElem?_replicate, if_pos hj, Option.getD_some]
          omega) (fun B hB => by
        obtain ⟨k, hk, rfl⟩ := List.mem_map.mp hB
        exact prod_set _ _ s k (List.mem_range.mp hk))
      rw [List.length_map, List.length_range, List.length_map, List.length_range] at hcnt
      exact hb hcnt
end
end Tw

/-! Tw20: in plain Lean: the hoards met backwards from a goal, and how many there can be. -/
namespace Tw
abbrev MvS := List (List Int × List Int)
/-- the least row from which a move leads over a goal -/
def befA (takes gives goal : List Int) : List Int := (List.range goal.length).map fun k => takes.getD k 0 + (if goal.getD k 0 - gives.getD k 0 > 0 then goal.getD k 0 - gives.getD k 0 else 0)
/-- a hoard that was met: by which move from which place in the list, and the run that leads from it over the goal -/
structure MItem where
  h : List Int
  p : Option (Nat × Nat)
  r : List Nat
def item0 : MItem := ⟨[], none, []⟩
def mvA (ms : MvS) (m : Nat) : List Int × List Int := ms.getD m ([], [])
def befM (ms : MvS) (m : Nat) (h : List Int) : List Int := befA (mvA ms m).1 (mvA ms m).2 h
def stepM (ms : MvS) (at_ : Nat) (hd : MItem) (found : List MItem) (m : Nat) : List MItem :=
  if found.any (fun x => overB (befM ms m hd.h) x.h) then found else found ++ [⟨befM ms m hd.h, some (m, at_), m :: hd.r⟩]
def stepA (ms : MvS) (found : List MItem) (at_ : Nat) : List MItem := (List.range ms.length).foldl (stepM ms at_ (found.getD at_ item0)) found
def stepS (ms : MvS) (s : List MItem × Nat) : List MItem × Nat := if s.2 < s.1.length then (stepA ms s.1 s.2, s.2 + 1) else s
def metS (ms : MvS) (g : List Int) : Nat → List MItem × Nat
  | 0 => ([⟨g, none, []⟩], 0)
  | k + 1 => stepS ms (metS ms g k)
def hN (l : List Int) : Nat → Nat := fun k => (l.getD k 0).toNat
def tkN (ms : MvS) (m k : Nat) : Nat := ((mvA ms m).1.getD k 0).toNat
def gvN (ms : MvS) (m k : Nat) : Nat := ((mvA ms m).2.getD k 0).toNat
/-- each move keeps to the places of A, or off them -/
def Apart (n : Nat) (ms : MvS) (A : Nat → Bool) : Prop := ∀ mv ∈ ms, (∀ s, s < n → A s = false → mv.1.getD s 0 = 0 ∧ mv.2.getD s 0 = 0) ∨ ∀ s, s < n → A s = true → mv.1.getD s 0 = 0 ∧ mv.2.getD s 0 = 0
def ltB (q s : Nat) : Bool := decide (s < q)
structure Hy (n : Nat) (ms : MvS) (g : List Int) (G : Nat) : Prop where
  rows : ∀ m ∈ ms, m.1.length = n ∧ m.2.length = n ∧ (∀ x ∈ m.1, 0 ≤ x ∧ x ≤ 2) ∧ ∀ x ∈ m.2, 0 ≤ x
  gl : g.length = n
  gb : ∀ x ∈ g, 0 ≤ x ∧ x ≤ G
  size : (1 ≤ n ∧ n ≤ 3 ∧ G = 3) ∨ (n = 4 ∧ (G = 1 ∨ (G = 2 ∧ ∃ q, 1 ≤ q ∧ q ≤ 3 ∧ Apart n ms (ltB q))))
def RowP (n : Nat) (h : List Int) : Prop := h.length = n ∧ ∀ x ∈ h, 0 ≤ x
theorem getD_mem_or {l : List Int} (k : Nat) : l.getD k 0 ∈ l ∨ l.getD k 0 = 0 := by
  rw [List.getD_eq_getElem?_getD]
  cases e : l[k]? with
  | none => exact .inr rfl
  | some x => exact .inl (List.mem_of_getElem? e)
theorem getD_out {l : List Int} {k : Nat} (h : l.length ≤ k) : l.getD k 0 = 0 := by
  rw [List.getD_eq_getElem?_getD, List.getElem?_eq_none_iff.mpr h]
  rfl
theorem RowP.nn {n : Nat} {h : List Int} (r : RowP n h) (k : Nat) : 0 ≤ h.getD k 0 := by
  rcases getD_mem_or (l := h) k with q | q
  · exact r.2 _ q
  · rw [q]
    exact Int.le_refl _
theorem RowP.out {n : Nat} {h : List Int} (r : RowP n h) {k : Nat} (hk : n ≤ k) : hN h k = 0 := by
  unfold hN
  rw [getD_out (by rw [r.1]; exact hk)]
  rfl
theorem over_hN {n : Nat} {a b : List Int} (ra : RowP n a) (rb : RowP n b) : overB a b = true ↔ ∀ k, hN b k ≤ hN a k := by
  rw [overB_iff]
  constructor
  · intro h k
    by_cases hk : k < n
    · have := h k (by rw [rb.1]; exact hk)
      show (b.getD k 0).toNat ≤ (a.getD k 0).toNat
      omega
    · rw [rb.out (by omega)]
      exact Nat.zero_le _
  · intro h k hk
    have h1 := h k
    have h2 := ra.nn k
    have h3 := rb.nn k
    have : (b.getD k 0).toNat ≤ (a.getD k 0).toNat := h1
    omega
theorem row_ext {n : Nat} {a b : List Int} (ra : RowP n a) (rb : RowP n b) (h : ∀ k, hN a k = hN b k) : a = b := by
  apply List.ext_getElem (by rw [ra.1, rb.1])
  intro k h1 h2
  have q : (a.getD k 0).toNat = (b.getD k 0).toNat := h k
  have e1 : a.getD k 0 = a[k] := by rw [List.getD_eq_getElem?_getD, List.getElem?_eq_getElem h1]; rfl
  have e2 : b.getD k 0 = b[k] := by rw [List.getD_eq_getElem?_getD, List.getElem?_eq_getElem h2]; rfl
  have n1 := ra.nn k
  have n2 := rb.nn k
  rw [← e1, ← e2]
  omega
theorem over_self {n : Nat} {a : List Int} (ra : RowP n a) : overB a a = true := (over_hN ra ra).mpr fun _ => Nat.le_refl _
section
variable {n : Nat} {ms : MvS} {g : List Int} {G : Nat}
theorem Hy.mv (H : Hy n ms g G) {m : Nat} (hm : m < ms.length) : mvA ms m ∈ ms := by
  unfold mvA
  rw [List.getD_eq_getElem?_getD, List.getElem?_eq_getElem hm]
  exact List.getElem_mem _
theorem Hy.grow (H : Hy n ms g G) (m k : Nat) : tkN ms m k ≤ 2 := by
  unfold tkN
  by_cases hm : m < ms.length
  · rcases getD_mem_or (l := (mvA ms m).1) k with q | q
    · have := (H.rows _ (H.mv hm)).2.2.1 _ q
      omega
    · rw [q]
      decide
  · have : mvA ms m = ([], []) := by
      unfold mvA
      rw [List.getD_eq_getElem?_getD, List.getElem?_eq_none_iff.mpr (by omega)]
      rfl
    rw [this]
    show (([] : List Int).getD k 0).toNat ≤ 2
    rw [getD_out (by simp)]
    decide
theorem Hy.g_row (H : Hy n ms g G) : RowP n g := ⟨H.gl, fun x hx => (H.gb x hx).1⟩
theorem Hy.g_le (H : Hy n ms g G) (k : Nat) : hN g k ≤ G := by
  unfold hN
  rcases getD_mem_or (l := g) k with q | q
  · have := H.gb _ q
    omega
  · rw [q]
    exact Nat.zero_le _
theorem bef_get {a b h : List Int} {k : Nat} (hk : k < h.length) : (befA a b h).getD k 0 = a.getD k 0 + (if h.getD k 0 - b.getD k 0 > 0 then h.getD k 0 - b.getD k 0 else 0) := getD_map_range hk
theorem bef_len (a b h : List Int) : (befA a b h).length = h.length := by
  unfold befA
  rw [List.length_map, List.length_range]
theorem Hy.tk0 (H : Hy n ms g G) {m : Nat} (hm : m < ms.length) (k : Nat) : 0 ≤ (mvA ms m).1.getD k 0 := by
  rcases getD_mem_or (l := (mvA ms m).1) k with q | q
  · exact ((H.rows _ (H.mv hm)).2.2.1 _ q).1
  · rw [q]
    exact Int.le_refl _
theorem Hy.gv0 (H : Hy n ms g G) {m : Nat} (hm : m < ms.length) (k : Nat) : 0 ≤ (mvA ms m).2.getD k 0 := by
  rcases getD_mem_or (l := (mvA ms m).2) k with q | q
  · exact (H.rows _ (H.mv hm)).2.2.2 _ q
  · rw [q]
    exact Int.le_refl _
theorem Hy.bef_row (H : Hy n ms g G) {m : Nat} (hm : m < ms.length) {h : List Int} (r : RowP n h) : RowP n (befM ms m h) := by
  refine ⟨by unfold befM; rw [bef_len, r.1], fun x hx => ?_⟩
  unfold befM befA at hx
  obtain ⟨k, hk, rfl⟩ := List.mem_map.mp hx
  have := H.tk0 hm k
  split <;> omega
theorem Hy.bef_hN (H : Hy n ms g G) {m : Nat} (hm : m < ms.length) {h : List Int} (r : RowP n h) : hN (befM ms m h) = pre (tkN ms) (gvN ms) m (hN h) := by
  funext k
  by_cases hk : k < n
  · show ((befA _ _ h).getD k 0).toNat = ((mvA ms m).1.getD k 0).toNat + ((h.getD k 0).toNat - ((mvA ms m).2.getD k 0).toNat)
    rw [bef_get (by rw [r.1]; exact hk)]
    have h1 := H.tk0 hm k
    have h2 := H.gv0 hm k
    have h3 := r.nn k
    split <;> omega
  · rw [(H.bef_row hm r).out (by omega)]
    show 0 = ((mvA ms m).1.getD k 0).toNat + (hN h k - gvN ms m k)
    rw [r.out (by omega), getD_out (by rw [(H.rows _ (H.mv hm)).1]; omega)]
    omega

/-! ### runs of one part -/
theorem Apart.off {A : Nat → Bool} (h : Apart n ms A) : Apart n ms fun s => !A s := fun mv hm => by
  rcases h mv hm with q | q
  · exact .inr fun s hs e => q s hs (by simpa using e)
  · exact .inl fun s hs e => q s hs (by simpa using e)
theorem apart_all : Apart n ms fun _ => true := fun _ _ => .inl fun _ _ h => by cases h
open Classical in
/-- a move of A -/
noncomputable def isA (n : Nat) (ms : MvS) (A : Nat → Bool) (m : Nat) : Bool := decide (∀ s, s < n → A s = false → (mvA ms m).1.getD s 0 = 0 ∧ (mvA ms m).2.getD s 0 = 0)
theorem isA_in {A : Nat → Bool} {m k : Nat} (h : isA n ms A m = true) (hk : k < n) (hA : A k = false) : tkN ms m k = 0 ∧ gvN ms m k = 0 := by
  have := of_decide_eq_true h k hk hA
  unfold tkN gvN
  rw [this.1, this.2]
  exact ⟨rfl, rfl⟩
theorem isA_out {A : Nat → Bool} (hA : Apart n ms A) {m k : Nat} (hm : m < ms.length) (h : isA n ms A m = false) (hk : k < n) (ha : A k = true) : tkN ms m k = 0 ∧ gvN ms m k = 0 := by
  have hmem : mvA ms m ∈ ms := by
    unfold mvA
    rw [List.getD_eq_getElem?_getD, List.getElem?_eq_getElem hm]
    exact List.getElem_mem _
  rcases hA _ hmem with q | q
  · exact absurd q (of_decide_eq_false h)
  · have := q k hk ha
    unfold tkN gvN
    rw [this.1, this.2]
    exact ⟨rfl, rfl⟩
theorem pre_stay {m k : Nat} {y : Nat → Nat} (h : tkN ms m k = 0 ∧ gvN ms m k = 0) : pre (tkN ms) (gvN ms) m y k = y k := by
  show tkN ms m k + (y k - gvN ms m k) = y k
  omega
/-- at the places of A only A's moves matter -/
theorem run_in {A : Nat → Bool} (hA : Apart n ms A) {k : Nat} (hk : k < n) (ha : A k = true) (g : Nat → Nat) : ∀ r : List Nat, (∀ m ∈ r, m < ms.length) → preR (tkN ms) (gvN ms) (r.filter (isA n ms A)) g k = preR (tkN ms) (gvN ms) r g k
  | [], _ => rfl
  | m :: r, h => by
    have ih := run_in hA hk ha g r fun p hp => h p (List.mem_cons_of_mem _ hp)
    rw [List.filter_cons]
    cases e : isA n ms A m with
    | true =>
      rw [if_pos rfl]
      show tkN ms m k + (preR (tkN ms) (gvN ms) (r.filter (isA n ms A)) g k - gvN ms m k) = tkN ms m k + (preR (tkN ms) (gvN ms) r g k - gvN ms m k)
      rw [ih]
    | false =>
      rw [if_neg (by decide), ih]
      exact (pre_stay (isA_out hA (h m List.mem_cons_self) e hk ha)).symm
theorem run_out {A : Nat → Bool} {k : Nat} (hk : k < n) (ha : A k = false) (g : Nat → Nat) : ∀ r : List Nat, preR (tkN ms) (gvN ms) (r.filter (isA n ms A)) g k = g k
  | [] => rfl
  | m :: r => by
    have ih := run_out hk ha g r
    rw [List.filter_cons]
    cases e : isA n ms A m with
    | true =>
      rw [if_pos rfl]
      exact (pre_stay (isA_in e hk ha)).trans ih
    | false =>
      rw [if_neg (by decide)]
      exact ih
theorem run_inB {A : Nat → Bool} {k : Nat} (hk : k < n) (ha : A k = false) (g : Nat → Nat) : ∀ r : List Nat, preR (tkN ms) (gvN ms) (r.filter fun m => !isA n ms A m) g k = preR (tkN ms) (gvN ms) r g k
  | [] => rfl
  | m :: r => by
    have ih := run_inB hk ha g r
    rw [List.filter_cons]
    cases e : isA n ms A m with
    | true =>
      rw [if_neg (by decide), ih]
      exact (pre_stay (isA_in e hk ha)).symm
    | false =>
      rw [if_pos (by rfl)]
      show tkN ms m k + (preR (tkN ms) (gvN ms) (r.filter fun m => !isA n ms A m) g k - gvN ms m k) = tkN ms m k + (preR (tkN ms) (gvN ms) r g k - gvN ms m k)
      rw [ih]
theorem run_outB {A : Nat → Bool} (hA : Apart n ms A) {k : Nat} (hk : k < n) (ha : A k = true) (g : Nat → Nat) : ∀ r : List Nat, (∀ m ∈ r, m < ms.length) → preR (tkN ms) (gvN ms) (r.filter fun m => !isA n ms A m) g k = g k
  | [], _ => rfl
  | m :: r, h => by
    have ih := run_outB hA hk ha g r fun p hp => h p (List.mem_cons_of_mem _ hp)
    rw [List.filter_cons]
    cases e : isA n ms A m with
    | true =>
      rw [if_neg (by decide)]
      exact ih
    | false =>
      rw [if_pos (by rfl)]
      exact (pre_stay (isA_out hA (h m List.mem_cons_self) e hk ha)).trans ih
theorem two_len (p : Nat → Bool) : ∀ r : List Nat, (r.filter p).length + (r.filter fun m => !p m).length = r.length
  | [] => rfl
  | m :: r => by
    have ih := two_len p r
    rw [List.filter_cons, List.filter_cons]
    cases e : p m with
    | true =>
      rw [if_pos rfl, if_neg (by decide), List.length_cons, List.length_cons]
      omega
    | false =>
      rw [if_neg (by decide), if_pos (by rfl), List.length_cons, List.length_cons]
      omega
/-- A's part of one run, the others' part of another -/
theorem run_mix {A : Nat → Bool} (hA : Apart n ms A) {r w : List Nat} (hr : ∀ m ∈ r, m < ms.length) (hw : ∀ m ∈ w, m < ms.length) (g : Nat → Nat) {k : Nat} (hk : k < n) :
    preR (tkN ms) (gvN ms) (r.filter (isA n ms A) ++ w.filter fun m => !isA n ms A m) g k = if A k then preR (tkN ms) (gvN ms) r g k else preR (tkN ms) (gvN ms) w g k := by
  rw [preR_app]
  cases e : A k with
  | true =>
    rw [if_pos rfl, ← run_in hA hk e g r hr]
    have q := run_outB hA hk e g w hw
    exact Nat.le_antisymm (preR_le _ _ (Nat.le_of_eq q)) (preR_le _ _ (Nat.le_of_eq q.symm))
  | false =>
    rw [if_neg (by decide), run_out hk e, run_inB hk e]

/-! ### what holds while they are met -/
/-- some place outside S has no more than the goal and a shortest run can bring -/
def Boxed (n G : Nat) (A : Nat → Bool) (h : List Int) : Prop := ∀ S : List Nat, (∃ p, p < n ∧ A p = true ∧ p ∉ S) → ∃ p, p < n ∧ A p = true ∧ p ∉ S ∧ hN h p ≤ G + 2 * shortL G S.length
structure MI (n : Nat) (ms : MvS) (g : List Int) (G : Nat) (found : List MItem) (at_ done : Nat) : Prop where
  rows : ∀ x ∈ found, RowP n x.h
  run : ∀ x ∈ found, hN x.h = preR (tkN ms) (gvN ms) x.r (hN g) ∧ ∀ m ∈ x.r, m < ms.length
  mono : found.Pairwise fun x y => x.r.length ≤ y.r.length
  bad : found.Pairwise fun x y => overB y.h x.h = false
  first : found[0]? = some ⟨g, none, []⟩
  par : ∀ j x, found[j]? = some x → 1 ≤ j → ∃ m a y, x.p = some (m, a) ∧ a < j ∧ found[a]? = some y ∧ x.r = m :: y.r ∧ m < ms.length
  top : ∀ x ∈ found, ∀ y, found[at_]? = some y → x.r.length ≤ y.r.length + 1
  closed : ∀ a y m, found[a]? = some y → m < ms.length → (a < at_ ∨ (a = at_ ∧ m < done)) → ∃ x ∈ found, overB (befM ms m y.h) x.h = true ∧ x.r.length ≤ y.r.length + 1
  box : ∀ x ∈ found, x.r ≠ [] → ∀ A, Apart n ms A → Boxed n G A x.h
theorem MI.start (H : Hy n ms g G) : MI n ms g G [⟨g, none, []⟩] 0 0 := by
  refine ⟨fun x hx => ?_, fun x hx => ?_, List.pairwise_singleton _ _, List.pairwise_singleton _ _, rfl, fun j x e h => ?_, fun x hx y e => ?_, fun a y m e hm h => ?_, fun x hx h => ?_⟩
  · rw [List.mem_singleton.mp hx]
    exact H.g_row
  · rw [List.mem_singleton.mp hx]
    exact ⟨rfl, by simp⟩
  · rw [List.getElem?_eq_none_iff.mpr (by simpa using h)] at e
    cases e
  · rw [List.mem_singleton.mp hx]
    exact Nat.zero_le _
  · rcases h with h | ⟨_, h⟩ <;> omega
  · rw [List.mem_singleton.mp hx] at h
    exact absurd rfl h
theorem pair_idx {α : Type} {R : α → α → Prop} {l : List α} (h : l.Pairwise R) {i j : Nat} {x y : α} (hi : l[i]? = some x) (hj : l[j]? = some y) (hij : i < j) : R x y := by
  obtain ⟨h1, rfl⟩ := List.getElem?_eq_some_iff.mp hi
  obtain ⟨h2, rfl⟩ := List.getElem?_eq_some_iff.mp hj
  exact List.pairwise_iff_getElem.mp h i j h1 h2 hij
/-- whatever run of fewer moves than at_'s: one that was met is under where it begins -/
theorem MI.reach (H : Hy n ms g G) {found : List MItem} {at_ done : Nat} {B : Nat} (I : MI n ms g G found at_ done) (hB : ∀ a y, found[a]? = some y → y.r.length < B → a < at_) : ∀ r : List Nat, (∀ m ∈ r, m < ms.length) → r.length ≤ B → ∃ x ∈ found, x.r.length ≤ r.length ∧ ∀ k, hN x.h k ≤ preR (tkN ms) (gvN ms) r (hN g) k
  | [], _, _ => ⟨_, List.mem_of_getElem? I.first, Nat.le_refl _, fun k => Nat.le_refl _⟩
  | m :: r, hm, hl => by
    obtain ⟨x, hx, l1, c1⟩ := MI.reach H I hB r (fun p hp => hm p (List.mem_cons_of_mem _ hp)) (by rw [List.length_cons] at hl; omega)
    obtain ⟨a, ha, rfl⟩ := List.getElem_of_mem hx
    have hm0 := hm m List.mem_cons_self
    have hat := hB a _ (List.getElem?_eq_getElem ha) (by rw [List.length_cons] at hl; omega)
    obtain ⟨x', hx', ov, l2⟩ := I.closed a _ m (List.getElem?_eq_getElem ha) hm0 (.inl hat)
    refine ⟨x', hx', by rw [List.length_cons]; omega, fun k => ?_⟩
    have h1 := (over_hN (H.bef_row hm0 (I.rows _ hx)) (I.rows _ hx')).mp ov k
    rw [H.bef_hN hm0 (I.rows _ hx)] at h1
    exact Nat.le_trans h1 (pre_le _ _ (c1 k))
theorem getD_some {α : Type} {l : List α} {i : Nat} {x d : α} (h : l[i]? = some x) : l.getD i d = x := by
  rw [List.getD_eq_getElem?_getD, h]
  rfl
/-- one move -/
theorem MI.step (H : Hy n ms g G) {found : List MItem} {at_ m : Nat} {hd : MItem} (I : MI n ms g G found at_ m) (hat : found[at_]? = some hd) (hm : m < ms.length) : MI n ms g G (stepM ms at_ hd found m) at_ (m + 1) ∧ (stepM ms at_ hd found m)[at_]? = some hd := by
  have hhd := List.mem_of_getElem? hat
  have rhd := I.rows _ hhd
  have ro := H.bef_row hm rhd
  have eo := H.bef_hN hm rhd
  unfold stepM
  cases hc : found.any fun x => overB (befM ms m hd.h) x.h with
  | true =>
    rw [if_pos rfl]
    refine ⟨⟨I.rows, I.run, I.mono, I.bad, I.first, I.par, I.top, fun a y p ey hp h => ?_, I.box⟩, hat⟩
    by_cases hap : a = at_ ∧ p = m
    · obtain ⟨rfl, rfl⟩ := hap
      rw [hat] at ey
      cases ey
      obtain ⟨x, hx, ov⟩ := List.any_eq_true.mp hc
      exact ⟨x, hx, ov, I.top x hx _ hat⟩
    · exact I.closed a y p ey hp (by omega)
  | false =>
    rw [if_neg (by decide)]
    have no : ∀ x ∈ found, overB (befM ms m hd.h) x.h = false := fun x hx => by
      cases q : overB (befM ms m hd.h) x.h with
      | false => rfl
      | true =>
        have := List.any_eq_false.mp hc x hx
        exact absurd q this
    have hal : at_ < found.length := (List.getElem?_eq_some_iff.mp hat).1
    have old : ∀ {i : Nat} {x : MItem}, i < found.length → (found ++ [⟨befM ms m hd.h, some (m, at_), m :: hd.r⟩])[i]? = some x → found[i]? = some x := fun {i x} hi e => by
      rw [List.getElem?_append_left hi] at e
      exact e
    have keep : ∀ {i : Nat} {x : MItem}, found[i]? = some x → (found ++ [⟨befM ms m hd.h, some (m, at_), m :: hd.r⟩])[i]? = some x := fun {i x} e => by
      rw [List.getElem?_append_left (List.getElem?_eq_some_iff.mp e).1]
      exact e
    have both : ∀ {P : MItem → Prop}, (∀ x ∈ found, P x) → P ⟨befM ms m hd.h, some (m, at_), m :: hd.r⟩ → ∀ x ∈ found ++ [⟨befM ms m hd.h, some (m, at_), m :: hd.r⟩], P x := fun {P} h1 h2 x hx => by
      rcases List.mem_append.mp hx with q | q
      · exact h1 x q
      · rw [List.mem_singleton.mp q]
        exact h2
    have hrun := I.run _ hhd
    have nrun : hN (befM ms m hd.h) = preR (tkN ms) (gvN ms) (m :: hd.r) (hN g) := by
      rw [eo, hrun.1]
      rfl
    have nval : ∀ p ∈ m :: hd.r, p < ms.length := fun p hp => by
      rcases List.mem_cons.mp hp with rfl | hp
      · exact hm
      · exact hrun.2 p hp
    refine ⟨⟨both I.rows ro, both I.run ⟨nrun, nval⟩, ?_, ?_, keep I.first, fun j x e h => ?_, ?_, fun a y p ey hp h => ?_, both I.box fun _ => ?_⟩, keep hat⟩
    · refine List.pairwise_append.mpr ⟨I.mono, List.pairwise_singleton _ _, fun x hx y hy => ?_⟩
      rw [List.mem_singleton.mp hy]
      exact I.top x hx _ hat
    · refine List.pairwise_append.mpr ⟨I.bad, List.pairwise_singleton _ _, fun x hx y hy => ?_⟩
      rw [List.mem_singleton.mp hy]
      exact no x hx
    · by_cases hj : j < found.length
      · obtain ⟨q, a, y, e1, e2, e3, e4, e5⟩ := I.par j x (old hj e) h
        exact ⟨q, a, y, e1, e2, keep e3, e4, e5⟩
      · have hjl := (List.getElem?_eq_some_iff.mp e).1
        rw [List.length_append, List.length_singleton] at hjl
        have : j = found.length := by omega
        subst this
        rw [List.getElem?_append_right (Nat.le_refl _), Nat.sub_self] at e
        cases e
        exact ⟨m, at_, hd, rfl, hal, keep hat, rfl, hm⟩
    · intro x hx y ey
      have ey := old hal ey
      rw [hat] at ey
      cases ey
      revert x hx
      exact both (fun x hx => I.top x hx _ hat) (Nat.le_refl _)
    · by_cases ha : a < found.length
      · have ey' := old ha ey
        by_cases hap : a = at_ ∧ p = m
        · obtain ⟨rfl, rfl⟩ := hap
          rw [hat] at ey'
          cases ey'
          exact ⟨_, List.mem_append_right _ (List.mem_singleton_self _), over_self ro, Nat.le_refl _⟩
        · obtain ⟨x, hx, ov, l⟩ := I.closed a y p ey' hp (by omega)
          exact ⟨x, List.mem_append_left _ hx, ov, l⟩
      · omega
    · -- the new one lies in the box
      intro A hA S hS
      apply Classical.byContradiction
      intro hno
      have big : ∀ p, p < n → A p = true → p ∉ S → G + 2 * shortL G S.length < hN (befM ms m hd.h) p := fun p h1 ha h2 => by
        rcases Nat.lt_or_ge (G + 2 * shortL G S.length) (hN (befM ms m hd.h) p) with q | q
        · exact q
        · exact absurd ⟨p, h1, ha, h2, q⟩ hno
      obtain ⟨r0, l0, m0, c0⟩ := short (N := ms.length) (G := G) (g := hN g) H.g_le H.grow S.length S rfl (m :: hd.r).length (hN (befM ms m hd.h)) (m :: hd.r) rfl nval (fun k _ => by rw [nrun]; exact Nat.le_refl _)
      have nz : ∀ r : List Nat, (∀ p ∈ r, p < ms.length) → ∀ k, n ≤ k → preR (tkN ms) (gvN ms) r (hN g) k = 0 := by
        intro r
        induction r with
        | nil =>
          intro _ k hk
          exact H.g_row.out hk
        | cons p r ih =>
          intro hp k hk
          show tkN ms p k + (preR (tkN ms) (gvN ms) r (hN g) k - gvN ms p k) = 0
          rw [ih (fun q hq => hp q (List.mem_cons_of_mem _ hq)) k hk]
          have hpp := hp p List.mem_cons_self
          unfold tkN
          rw [getD_out (by rw [(H.rows _ (H.mv hpp)).1]; omega)]
          omega
      have mmix : ∀ p ∈ r0.filter (isA n ms A) ++ (m :: hd.r).filter fun m => !isA n ms A m, p < ms.length := fun p hp => by
        rcases List.mem_append.mp hp with q | q
        · exact m0 p (List.mem_filter.mp q).1
        · exact nval p (List.mem_filter.mp q).1
      have under : ∀ k, preR (tkN ms) (gvN ms) (r0.filter (isA n ms A) ++ (m :: hd.r).filter fun m => !isA n ms A m) (hN g) k ≤ hN (befM ms m hd.h) k := fun k => by
        by_cases hkn : k < n
        · rw [run_mix hA m0 nval (hN g) hkn]
          cases ek : A k with
          | false =>
            rw [if_neg (by decide), nrun]
            exact Nat.le_refl _
          | true =>
            rw [if_pos rfl]
            by_cases hkS : k ∈ S
            · exact c0 k hkS
            · have h1 := big k hkn ek hkS
              have h2 := preR_grow (tkN ms) (gvN ms) H.grow r0 (hN g) k
              have h3 := H.g_le k
              omega
        · rw [nz _ mmix k (by omega)]
          exact Nat.zero_le _
      have hlen := two_len (isA n ms A) (m :: hd.r)
      rw [List.length_cons] at hlen
      have hlr : (r0.filter (isA n ms A)).length ≤ r0.length := List.length_filter_le _ _
      rcases Nat.lt_or_ge hd.r.length (r0.filter (isA n ms A) ++ (m :: hd.r).filter fun m => !isA n ms A m).length with hl | hl
      · rw [List.length_append] at hl
        obtain ⟨p, h1, ha, h2⟩ := hS
        have h3 := big p h1 ha h2
        rw [nrun, ← run_in hA h1 ha (hN g) (m :: hd.r) nval] at h3
        have h4 := preR_grow (tkN ms) (gvN ms) H.grow ((m :: hd.r).filter (isA n ms A)) (hN g) p
        have h5 := H.g_le p
        omega
      · obtain ⟨x, hx, _, hle⟩ := MI.reach H I (B := hd.r.length) (fun a y ey hy => by
          rcases Nat.lt_trichotomy a at_ with q | q | q
          · exact q
          · subst q
            rw [hat] at ey
            cases ey
            omega
          · have := pair_idx I.mono hat ey q
            omega) _ mmix hl
        have := (over_hN ro (I.rows _ hx)).mpr fun k => Nat.le_trans (hle k) (under k)
        rw [no x hx] at this
        cases this
/-- all the moves of one -/
theorem MI.all (H : Hy n ms g G) {found : List MItem} {at_ : Nat} {hd : MItem} (I : MI n ms g G found at_ 0) (hat : found[at_]? = some hd) : ∀ k, k ≤ ms.length →
    MI n ms g G ((List.range k).foldl (stepM ms at_ hd) found) at_ k ∧ ((List.range k).foldl (stepM ms at_ hd) found)[at_]? = some hd
  | 0, _ => ⟨I, hat⟩
  | k + 1, h => by
    obtain ⟨J, hj⟩ := MI.all H I hat k (by omega)
    rw [List.range_succ, List.foldl_append]
    exact J.step H hj (by omega)
theorem MI.next (H : Hy n ms g G) {found : List MItem} {at_ : Nat} (I : MI n ms g G found at_ 0) (hat : at_ < found.length) : MI n ms g G (stepA ms found at_) (at_ + 1) 0 := by
  have hd := List.getElem?_eq_getElem hat
  obtain ⟨J, hj⟩ := I.all H hd ms.length (Nat.le_refl _)
  have e : stepA ms found at_ = (List.range ms.length).foldl (stepM ms at_ found[at_]) found := by
    unfold stepA
    rw [getD_some hd]
  rw [← e] at J hj
  refine ⟨J.rows, J.run, J.mono, J.bad, J.first, J.par, fun x hx y ey => ?_, fun a y m ey hm h => J.closed a y m ey hm (by omega), J.box⟩
  have h1 := J.top x hx _ hj
  have h2 := pair_idx J.mono hj ey (Nat.lt_succ_self _)
  omega
theorem MI.met (H : Hy n ms g G) : ∀ k, MI n ms g G (metS ms g k).1 (metS ms g k).2 0
  | 0 => MI.start H
  | k + 1 => by
    have ih := MI.met H k
    show MI n ms g G (stepS ms (metS ms g k)).1 (stepS ms (metS ms g k)).2 0
    unfold stepS
    split
    · rename_i h
      exact ih.next H h
    · exact ih

/-! ### how many -/
theorem bnd_ex : ∃ b : Nat, b = 7566049 := ⟨_, rfl⟩
noncomputable def bndN : Nat := Classical.choose bnd_ex
theorem bnd_val : bndN = 7566049 := Classical.choose_spec bnd_ex
theorem MI.count (H : Hy n ms g G) {found : List MItem} {at_ done : Nat} (I : MI n ms g G found at_ done) : found.length ≤ bndN := by
  have h0 : found ≠ [] := fun e => by
    have := I.first
    rw [e] at this
    cases this
  obtain ⟨x0, t, rfl⟩ := List.exists_cons_of_ne_nil h0
  have e0 : x0 = ⟨g, none, []⟩ := Option.some.inj I.first
  have hbad := List.pairwise_cons.mp I.bad
  have htr : ∀ x ∈ t, x.r ≠ [] := fun x hx e => by
    obtain ⟨j, hj, rfl⟩ := List.getElem_of_mem hx
    obtain ⟨m, a, y, _, _, _, e4, _⟩ := I.par (j + 1) t[j] (by rw [List.getElem?_cons_succ]; exact List.getElem?_eq_getElem hj) (by omega)
    rw [e] at e4
    cases e4
  have hrow : ∀ x ∈ t, RowP n x.h := fun x hx => I.rows x (List.mem_cons_of_mem _ hx)
  have hnd : (t.map fun x => (List.range n).map (hN x.h)).Nodup := by
    refine List.pairwise_map.mpr (List.Pairwise.imp_of_mem ?_ hbad.2)
    intro x y hx hy hov he
    have : overB y.h x.h = true := (over_hN (hrow y hy) (hrow x hx)).mpr fun k => by
      by_cases hk : k < n
      · have := (List.map_inj_left.mp he) k (List.mem_range.mpr hk)
        omega
      · rw [(hrow x hx).out (by omega)]
        exact Nat.zero_le _
    rw [hov] at this
    cases this
  have hboxA : ∀ x ∈ t, ∀ A, Apart n ms A → Boxed n G A x.h := fun x hx => I.box x (List.mem_cons_of_mem _ hx) (htr x hx)
  have hbox : ∀ x ∈ t, ∀ S : List Nat, (∃ p, p < n ∧ p ∉ S) → ∃ p, p < n ∧ p ∉ S ∧ hN x.h p ≤ G + 2 * shortL G S.length := fun x hx S ⟨p, h1, h2⟩ => by
    obtain ⟨q, q1, _, q2, q3⟩ := hboxA x hx _ apart_all S ⟨p, h1, rfl, h2⟩
    exact ⟨q, q1, q2, q3⟩
  have hgd : ∀ (f : Nat → Nat) {k : Nat}, k < n → ((List.range n).map f).getD k 0 = f k := fun f {k} hk => by
    rw [List.getD_eq_getElem?_getD, List.getElem?_map, List.getElem?_range hk]
    rfl
  have hS : ∀ p, p < n → ∃ q, q < n ∧ q ∉ (List.range n).erase p := fun p hp => ⟨p, hp, fun h => by
    have := (List.Nodup.mem_erase_iff List.nodup_range).mp h
    exact this.1 rfl⟩
  have hone : ∀ x ∈ t, ∀ p, p < n → hN x.h p ≤ G + 2 * shortL G (n - 1) := fun x hx p hp => by
    obtain ⟨q, hq, hqS, hle⟩ := hbox x hx ((List.range n).erase p) (hS p hp)
    have hqp : q = p := by
      apply Classical.byContradiction
      intro hne
      exact hqS ((List.Nodup.mem_erase_iff List.nodup_range).mpr ⟨hne, List.mem_range.mpr hq⟩)
    subst hqp
    rw [List.length_erase_of_mem (List.mem_range.mpr hp), List.length_range] at hle
    exact hle
  rw [List.length_cons]
  rcases H.size with ⟨n1, n3, rfl⟩ | ⟨rfl, rfl | ⟨rfl, q, q1, q3, hq⟩⟩
  · have hL : shortL 3 (n - 1) ≤ 60 := by
      have : n = 1 ∨ n = 2 ∨ n = 3 := by omega
      rcases this with rfl | rfl | rfl <;> decide
    have hc := count_boxes (Bs := [List.replicate n 124]) (c := 124 ^ n) hnd (fun v hv => by
      obtain ⟨x, hx, rfl⟩ := List.mem_map.mp hv
      refine ⟨_, List.mem_singleton_self _, under_iff (by simp) fun k hk => ?_⟩
      rw [List.length_replicate] at hk
      rw [hgd _ hk, List.getD_eq_getElem?_getD, List.getElem?_replicate, if_pos hk, Option.getD_some]
      have := hone x hx k hk
      omega) (fun B hB => by rw [List.mem_singleton.mp hB, prod_rep])
    rw [List.length_map, List.length_singleton] at hc
    have : 124 ^ n ≤ 124 ^ 3 := Nat.pow_le_pow_right (by decide) n3
    have e3 : (124 : Nat) ^ 3 = 1906624 := by decide
    rw [bnd_val]
    omega
  · have two : ∀ x ∈ t, ∀ p q, p < 4 → q < 4 → p ≠ q → hN x.h p ≤ 17 ∨ hN x.h q ≤ 17 := fun x hx p q hp hq hpq => by
      obtain ⟨k, hk, hkS, hle⟩ := hbox x hx (((List.range 4).erase p).erase q) ⟨p, hp, fun h => by
        have h1 := List.mem_of_mem_erase h
        exact ((List.Nodup.mem_erase_iff List.nodup_range).mp h1).1 rfl⟩
      have hl : (((List.range 4).erase p).erase q).length = 2 := by
        rw [List.length_erase_of_mem ((List.Nodup.mem_erase_iff List.nodup_range).mpr ⟨Ne.symm hpq, List.mem_range.mpr hq⟩), List.length_erase_of_mem (List.mem_range.mpr hp), List.length_range]
      rw [hl, show shortL 1 2 = 8 from by decide] at hle
      by_cases hkp : k = p
      · subst hkp
        exact .inl (by omega)
      · by_cases hkq : k = q
        · subst hkq
          exact .inr (by omega)
        · exact absurd ((List.Nodup.mem_erase_iff (List.Nodup.erase _ List.nodup_range)).mpr ⟨hkq, (List.Nodup.mem_erase_iff List.nodup_range).mpr ⟨hkp, List.mem_range.mpr hk⟩⟩) hkS
    have zero : ∀ x ∈ t, ∃ z, z < 4 ∧ hN x.h z = 0 := fun x hx => by
      apply Classical.byContradiction
      intro hno
      have hov : overB x.h g = true := (over_hN (hrow x hx) H.g_row).mpr fun k => by
        by_cases hk : k < 4
        · have h1 := H.g_le k
          have h2 : hN x.h k ≠ 0 := fun q => hno ⟨k, hk, q⟩
          omega
        · rw [H.g_row.out (by omega)]
          exact Nat.zero_le _
      have := hbad.1 x hx
      rw [e0] at this
      rw [hov] at this
      cases this
    have hc := count_boxes (Bs := (List.range 4).flatMap fun z => ((List.range 4).erase z).map fun b => ((List.replicate 4 18).set z 1).set b 1946) (c := 630504) hnd (fun v hv => by
      obtain ⟨x, hx, rfl⟩ := List.mem_map.mp hv
      obtain ⟨z, hz, hz0⟩ := zero x hx
      -- the place that may be large
      have hb : ∃ b, b < 4 ∧ b ≠ z ∧ ∀ k, k < 4 → k ≠ b → hN x.h k ≤ 17 := by
        by_cases hbig : ∃ b, b < 4 ∧ 17 < hN x.h b
        · obtain ⟨b, hb4, hb17⟩ := hbig
          refine ⟨b, hb4, fun e => by rw [e, hz0] at hb17; omega, fun k hk hkb => ?_⟩
          rcases two x hx b k hb4 hk (Ne.symm hkb) with q | q
          · omega
          · exact q
        · refine ⟨if z = 0 then 1 else 0, by split <;> decide, by split <;> omega, fun k hk _ => ?_⟩
          rcases Nat.lt_or_ge 17 (hN x.h k) with q | q
          · exact absurd ⟨k, hk, q⟩ hbig
          · exact q
      obtain ⟨b, hb4, hbz, hsm⟩ := hb
      refine ⟨_, List.mem_flatMap.mpr ⟨z, List.mem_range.mpr hz, List.mem_map.mpr ⟨b, (List.Nodup.mem_erase_iff List.nodup_range).mpr ⟨hbz, List.mem_range.mpr hb4⟩, rfl⟩⟩, under_iff (by simp) fun k hk => ?_⟩
      rw [List.length_set, List.length_set, List.length_replicate] at hk
      rw [hgd _ hk, List.getD_eq_getElem?_getD]
      by_cases hkb : k = b
      · subst hkb
        rw [List.getElem?_set_self (by simpa using hk), Option.getD_some]
        have := hone x hx k hk
        rw [show shortL 1 (4 - 1) = 972 from by decide] at this
        omega
      · rw [List.getElem?_set_ne (Ne.symm hkb)]
        by_cases hkz : k = z
        · subst hkz
          rw [List.getElem?_set_self (by simpa using hk), Option.getD_some, hz0]
          decide
        · rw [List.getElem?_set_ne (Ne.symm hkz), List.getElem?_replicate, if_pos hk, Option.getD_some]
          have := hsm k hk hkb
          omega) (by decide)
    rw [List.length_map] at hc
    have e12 : ((List.range 4).flatMap fun z => ((List.range 4).erase z).map fun b => ((List.replicate 4 18).set z 1).set b 1946).length = 12 := by decide
    rw [e12] at hc
    rw [bnd_val]
    omega
  · -- two parts: each place by its own part
    have part : ∀ (A : Nat → Bool), Apart 4 ms A → ∀ x ∈ t, ∀ (S : List Nat) p, p < 4 → A p = true → p ∉ S → (∀ q, q < 4 → A q = true → q ∉ S → q = p) → hN x.h p ≤ 2 + 2 * shortL 2 S.length := fun A hA x hx S p hp ha hpS hu => by
      obtain ⟨q, q1, q2, q3, q4⟩ := hboxA x hx A hA S ⟨p, hp, ha, hpS⟩
      rw [hu q q1 q2 q3] at q4
      exact q4
    have s0 : 2 + 2 * shortL 2 0 ≤ 2 := by decide
    have s1 : 2 + 2 * shortL 2 1 ≤ 40 := by decide
    have s2 : 2 + 2 * shortL 2 2 ≤ 122 := by decide
    have cnt : ∀ B : List Nat, B.length = 4 → prodN B ≤ 7566048 → (∀ x ∈ t, ∀ k, k < 4 → hN x.h k < B.getD k 0) → t.length + 1 ≤ bndN := fun B hB hc hb => by
      have hc2 := count_boxes (Bs := [B]) (c := prodN B) hnd (fun v hv => by
        obtain ⟨x, hx, rfl⟩ := List.mem_map.mp hv
        refine ⟨_, List.mem_singleton_self _, under_iff (by simp [hB]) fun k hk => ?_⟩
        rw [hB] at hk
        rw [hgd _ hk]
        exact hb x hx k hk) (fun B' hB' => by rw [List.mem_singleton.mp hB'])
      rw [List.length_map, List.length_singleton] at hc2
      rw [bnd_val]
      omega
    have l : ∀ {p : Nat}, ltB q p = true ↔ p < q := by unfold ltB; simp
    have r : ∀ {p : Nat}, (!ltB q p) = true ↔ q ≤ p := by unfold ltB; simp
    rcases (show q = 1 ∨ q = 2 ∨ q = 3 by omega) with rfl | rfl | rfl
    · refine cnt [3, 123, 123, 123] rfl (by decide) fun x hx k hk => ?_
      rcases (show k = 0 ∨ k = 1 ∨ k = 2 ∨ k = 3 by omega) with rfl | rfl | rfl | rfl
      · have : hN x.h 0 ≤ 2 + 2 * shortL 2 0 := part _ hq x hx [] 0 (by omega) rfl (by simp) fun q h1 h2 _ => by have := l.mp h2; omega
        show hN x.h 0 < 3
        omega
      · have : hN x.h 1 ≤ 2 + 2 * shortL 2 2 := part _ hq.off x hx [2, 3] 1 (by omega) rfl (by simp) fun q h1 h2 h3 => by have := r.mp h2; simp at h3; omega
        show hN x.h 1 < 123
        omega
      · have : hN x.h 2 ≤ 2 + 2 * shortL 2 2 := part _ hq.off x hx [1, 3] 2 (by omega) rfl (by simp) fun q h1 h2 h3 => by have := r.mp h2; simp at h3; omega
        show hN x.h 2 < 123
        omega
      · have : hN x.h 3 ≤ 2 + 2 * shortL 2 2 := part _ hq.off x hx [1, 2] 3 (by omega) rfl (by simp) fun q h1 h2 h3 => by have := r.mp h2; simp at h3; omega
        show hN x.h 3 < 123
        omega
    · refine cnt [41, 41, 41, 41] rfl (by decide) fun x hx k hk => ?_
      rcases (show k = 0 ∨ k = 1 ∨ k = 2 ∨ k = 3 by omega) with rfl | rfl | rfl | rfl
      · have : hN x.h 0 ≤ 2 + 2 * shortL 2 1 := part _ hq x hx [1] 0 (by omega) rfl (by simp) fun q h1 h2 h3 => by have := l.mp h2; simp at h3; omega
        show hN x.h 0 < 41
        omega
      · have : hN x.h 1 ≤ 2 + 2 * shortL 2 1 := part _ hq x hx [0] 1 (by omega) rfl (by simp) fun q h1 h2 h3 => by have := l.mp h2; simp at h3; omega
        show hN x.h 1 < 41
        omega
      · have : hN x.h 2 ≤ 2 + 2 * shortL 2 1 := part _ hq.off x hx [3] 2 (by omega) rfl (by simp) fun q h1 h2 h3 => by have := r.mp h2; simp at h3; omega
        show hN x.h 2 < 41
        omega
      · have : hN x.h 3 ≤ 2 + 2 * shortL 2 1 := part _ hq.off x hx [2] 3 (by omega) rfl (by simp) fun q h1 h2 h3 => by have := r.mp h2; simp at h3; omega
        show hN x.h 3 < 41
        omega
    · refine cnt [123, 123, 123, 3] rfl (by decide) fun x hx k hk => ?_
      rcases (show k = 0 ∨ k = 1 ∨ k = 2 ∨ k = 3 by omega) with rfl | rfl | rfl | rfl
      · have : hN x.h 0 ≤ 2 + 2 * shortL 2 2 := part _ hq x hx [1, 2] 0 (by omega) rfl (by simp) fun q h1 h2 h3 => by have := l.mp h2; simp at h3; omega
        show hN x.h 0 < 123
        omega
      · have : hN x.h 1 ≤ 2 + 2 * shortL 2 2 := part _ hq x hx [0, 2] 1 (by omega) rfl (by simp) fun q h1 h2 h3 => by have := l.mp h2; simp at h3; omega
        show hN x.h 1 < 123
        omega
      · have : hN x.h 2 ≤ 2 + 2 * shortL 2 2 := part _ hq x hx [0, 1] 2 (by omega) rfl (by simp) fun q h1 h2 h3 => by have := l.mp h2; simp at h3; omega
        show hN x.h 2 < 123
        omega
      · have : hN x.h 3 ≤ 2 + 2 * shortL 2 0 := part _ hq.off x hx [] 3 (by omega) rfl (by simp) fun q h1 h2 _ => by have := r.mp h2; omega
        show hN x.h 3 < 3
        omega
/-- all have been looked at in the end -/
theorem met_at (H : Hy n ms g G) : ∀ k, (metS ms g k).2 = k ∨ (metS ms g k).1.length ≤ (metS ms g k).2
  | 0 => .inl rfl
  | k + 1 => by
    show (stepS ms (metS ms g k)).2 = k + 1 ∨ (stepS ms (metS ms g k)).1.length ≤ (stepS ms (metS ms g k)).2
    unfold stepS
    split
    · rename_i h
      rcases met_at H k with q | q
      · exact .inl (by show (metS ms g k).2 + 1 = _; omega)
      · omega
    · rename_i h
      exact .inr (by omega)
noncomputable def metF (ms : MvS) (g : List Int) : List MItem := (metS ms g (bndN + 1)).1
theorem met_stop (H : Hy n ms g G) : (metS ms g (bndN + 1)).1.length ≤ (metS ms g (bndN + 1)).2 := by
  rcases met_at H (bndN + 1) with q | q
  · have := (MI.met H (bndN + 1)).count H
    omega
  · exact q
theorem met_stay {k : Nat} (h : (metS ms g k).1.length ≤ (metS ms g k).2) : ∀ d, metS ms g (k + d) = metS ms g k
  | 0 => rfl
  | d + 1 => by
    have ih := met_stay h d
    show stepS ms (metS ms g (k + d)) = _
    rw [ih]
    unfold stepS
    rw [if_neg (by omega)]
theorem met_two {j k : Nat} (hj : (metS ms g j).1.length ≤ (metS ms g j).2) (hk : (metS ms g k).1.length ≤ (metS ms g k).2) : metS ms g j = metS ms g k := by
  rcases Nat.le_total j k with q | q
  · obtain ⟨d, rfl⟩ := Nat.le.dest q
    exact (met_stay hj d).symm
  · obtain ⟨d, rfl⟩ := Nat.le.dest q
    exact met_stay hk d
theorem met_same (H : Hy n ms g G) {k : Nat} (h : (metS ms g k).1.length ≤ (metS ms g k).2) : (metS ms g k).1 = metF ms g := congrArg Prod.fst (met_two h (met_stop H))
theorem met_done (H : Hy n ms g G) : MI n ms g G (metF ms g) (metS ms g (bndN + 1)).2 0 := MI.met H (bndN + 1)
end
end Tw

/-! Tw21: sorted of rows (tuples of numbers), by themselves and by their sums, of any length. -/
namespace Tw
open PySem PySem.Spec PyProof.Rows L2 PyProof SrtO Srt

/-! ### plain sorting -/
section
variable {α β : Type}
def insB (lt : α → α → Bool) (x : α) : List α → List α
  | [] => [x]
  | y :: r => if lt y x = true then y :: insB lt x r else x :: y :: r
def isort (lt : α → α → Bool) : List α → List α
  | [] => []
  | x :: r => insB lt x (isort lt r)
theorem ins_perm (lt : α → α → Bool) (x : α) : ∀ l : List α, (insB lt x l).Perm (x :: l)
  | [] => List.Perm.refl _
  | y :: r => by
    unfold insB
    split
    · exact ((ins_perm lt x r).cons y).trans (List.Perm.swap x y r)
    · exact List.Perm.refl _
theorem isort_perm (lt : α → α → Bool) : ∀ l : List α, (isort lt l).Perm l
  | [] => List.Perm.refl _
  | x :: r => (ins_perm lt x _).trans ((isort_perm lt r).cons x)
theorem ins_srtd {lt : α → α → Bool} (O : Swo lt) (x : α) : ∀ {l : List α}, Srtd lt l → Srtd lt (insB lt x l)
  | [], _ => List.pairwise_singleton _ _
  | y :: r, h => by
    obtain ⟨h1, h2⟩ := List.pairwise_cons.mp h
    unfold insB
    split
    · rename_i hlt
      refine List.pairwise_cons.mpr ⟨fun z hz => ?_, ins_srtd O x h2⟩
      rcases List.mem_cons.mp ((ins_perm lt x r).mem_iff.mp hz) with rfl | hz
      · exact O.asym _ _ hlt
      · exact h1 z hz
    · rename_i hlt
      refine List.pairwise_cons.mpr ⟨fun z hz => ?_, h⟩
      have hyx : lt y x = false := by simpa using hlt
      rcases List.mem_cons.mp hz with rfl | hz
      · exact hyx
      · exact O.tr x y z hyx (h1 z hz)
theorem isort_srtd {lt : α → α → Bool} (O : Swo lt) : ∀ l : List α, Srtd lt (isort lt l)
  | [] => List.Pairwise.nil
  | x :: r => ins_srtd O x (isort_srtd O r)
theorem ins_cls {lt : α → α → Bool} (O : Swo lt) (x z : α) : ∀ {l : List α}, Srtd lt l → (insB lt x l).filter (eqv lt z) = (x :: l).filter (eqv lt z)
  | [], _ => rfl
  | y :: r, h => by
    obtain ⟨h1, h2⟩ := List.pairwise_cons.mp h
    unfold insB
    split
    · rename_i hlt
      rw [List.filter_cons, ins_cls O x z h2, List.filter_cons, List.filter_cons, List.filter_cons]
      by_cases hy : eqv lt z y = true
      · by_cases hx : eqv lt z x = true
        · exfalso
          have a := eqv_iff.mp hy
          have b := eqv_iff.mp hx
          -- y below x, both like z
          have : lt y x = false := O.tr x z y b.1 a.2
          rw [hlt] at this
          cases this
        · rw [if_pos hy, if_neg hx, if_neg hx, if_pos hy]
      · rw [if_neg hy, if_neg hy]
    · rfl
theorem isort_stb {lt : α → α → Bool} (O : Swo lt) : ∀ l : List α, Stb lt (isort lt l) l
  | [] => Stb.refl _
  | x :: r => by
    have ih := isort_stb O r
    refine ⟨isort_perm lt _, fun z => ?_⟩
    show (insB lt x (isort lt r)).filter _ = _
    rw [ins_cls O x z (isort_srtd O r), List.filter_cons, List.filter_cons, ih.cls z]
theorem isort_uniq {lt : α → α → Bool} (O : Swo lt) {l m : List α} (h1 : Srtd lt l) (h2 : Stb lt l m) : l = isort lt m :=
  stb_uniq O h1 (isort_srtd O m) ⟨h2.perm.trans (isort_perm lt m).symm, fun x => (h2.cls x).trans ((isort_stb O m).cls x).symm⟩
theorem ins_map {lt : β → β → Bool} (f : α → β) (x : α) : ∀ l : List α, (insB (fun a b => lt (f a) (f b)) x l).map f = insB lt (f x) (l.map f)
  | [] => rfl
  | y :: r => by
    unfold insB
    rw [List.map_cons]
    show _ = if lt (f y) (f x) = true then f y :: insB lt (f x) (r.map f) else f x :: f y :: r.map f
    split
    · rw [List.map_cons, ins_map f x r]
    · rfl
theorem isort_map {lt : β → β → Bool} (f : α → β) : ∀ l : List α, (isort (fun a b => lt (f a) (f b)) l).map f = isort lt (l.map f)
  | [] => rfl
  | x :: r => by
    show (insB _ x (isort _ r)).map f = insB lt (f x) (isort lt (r.map f))
    rw [ins_map, isort_map f r]
theorem isort_len (lt : α → α → Bool) (l : List α) : (isort lt l).length = l.length := (isort_perm lt l).length_eq
end

/-! ### rows in order -/
def lexL : List Int → List Int → Bool
  | [], [] => false
  | [], _ :: _ => true
  | _ :: _, [] => false
  | a :: as, b :: bs => if a = b then lexL as bs else decide (a < b)
theorem lexL_asym : ∀ x y : List Int, lexL x y = true → lexL y x = false
  | [], [], _ => rfl
  | [], _ :: _, _ => rfl
  | _ :: _, [], h => by cases h
  | a :: as, b :: bs, h => by
    unfold lexL at h ⊢
    by_cases e : a = b
    · rw [if_pos e] at h
      rw [if_pos e.symm]
      exact lexL_asym as bs h
    · rw [if_neg e] at h
      rw [if_neg (Ne.symm e)]
      have := of_decide_eq_true h
      exact decide_eq_false (by omega)
theorem lexL_tr : ∀ x y z : List Int, lexL y x = false → lexL z y = false → lexL z x = false
  | [], [], z, _, h => h
  | [], y :: ys, z, h, _ => by
    cases z with
    | nil => rfl
    | cons c cs => rfl
  | x :: xs, [], z, h, _ => by cases h
  | x :: xs, y :: ys, [], _, h => by cases h
  | x :: xs, y :: ys, z :: zs, h1, h2 => by
    unfold lexL at h1 h2 ⊢
    by_cases e1 : y = x
    · rw [if_pos e1] at h1
      by_cases e2 : z = y
      · rw [if_pos e2] at h2
        rw [if_pos (e2.trans e1)]
        exact lexL_tr xs ys zs h1 h2
      · rw [if_neg e2] at h2
        have := of_decide_eq_false h2
        rw [if_neg (by omega)]
        exact decide_eq_false (by omega)
    · rw [if_neg e1] at h1
      have a := of_decide_eq_false h1
      by_cases e2 : z = y
      · rw [if_neg (by omega)]
        exact decide_eq_false (by omega)
      · rw [if_neg e2] at h2
        have b := of_decide_eq_false h2
        rw [if_neg (by omega)]
        exact decide_eq_false (by omega)
theorem lexL_swo : Swo lexL := ⟨lexL_asym, lexL_tr⟩
def sumLt (x y : List Int) : Bool := decide (x.sum < y.sum)
theorem sumLt_swo : Swo sumLt := ⟨fun x y h => by
  have := of_decide_eq_true h
  exact decide_eq_false (by omega), fun x y z h1 h2 => by
  have := of_decide_eq_false h1
  have := of_decide_eq_false h2
  exact decide_eq_false (by omega)⟩
theorem swo_pull {α β : Type} {lt : β → β → Bool} (O : Swo lt) (f : α → β) : Swo fun x y => lt (f x) (f y) := ⟨fun x y => O.asym _ _, fun x y z => O.tr _ _ _⟩

/-! ### the model's sorted of tuples of ints -/
section
variable {prog : Program} {w : World} {A : Around} {E : Value → Shared → Prop} {s : Shared}
theorem lex_rows {Q : Bool → Shared → Prop} {b : Bool} {xs ys : List Value} {ns ms : List Int} (i : Nat) (hx : IntsAre xs ns) (hy : IntsAre ys ms) (hl : ns.length = ms.length) (h : Q (lexL ns ms) s) : PySem.W.KatLex prog w A b false Q (xs.zip ys) i s := by
  induction hx generalizing ys ms i with
  | nil =>
    cases hy with
    | nil => exact PySem.W.kat_nil h
    | cons q u hy => simp at hl
  | @cons p t xs ns hx ih =>
    cases hy with
    | nil => simp at hl
    | @cons q u ys ms hy =>
      have hl' : ns.length = ms.length := by simpa using hl
      show PySem.W.KatLex prog w A b false Q ((Value.int p t, Value.int q u) :: xs.zip ys) i s
      refine PySem.W.kat_cons (wpAny_eqBool_int ?_)
      by_cases e : p = q
      · subst e
        rw [beq_self_eq_true]
        refine PySem.W.kat_yes ?_
        have d : lexL (p :: ns) (p :: ms) = lexL ns ms := if_pos rfl
        rw [d] at h
        first
          | exact ih (i + 1) hy hl' h
          | exact ih _ _ (i + 1) hy hl' h
      · rw [show (p == q) = false from beq_eq_false_iff_ne.mpr e]
        refine PySem.W.kat_no (TS.oneLt_ints _ ?_)
        have d : lexL (p :: ns) (q :: ms) = decide (p < q) := if_neg e
        rw [d] at h
        exact h
/-- v is a tuple of the ints k v, n of them -/
def RowsAt (h : Heap) (n : Nat) (k : Value → List Int) (vs : List Value) : Prop := ∀ v ∈ vs, TS.TupInts h v (k v) ∧ (k v).length = n
theorem RowsAt.keeps {h h' : Heap} {n : Nat} {k : Value → List Int} {vs : List Value} (x : RowsAt h n k vs) (kp : ∀ b o, h.get? b = some o → o.cls = .type "tuple" → h'.get? b = some o) : RowsAt h' n k vs := fun v hv => ⟨(x v hv).1.keeps kp, (x v hv).2⟩
theorem rows_cmp {n : Nat} {k : Value → List Int} {vs : List Value} (hp : RowsAt s.heap n k vs) : SrtO.Cmp prog w A s (tuples' true) (fun p => p.1 ∈ vs) (lt2 fun v u => lexL (k v) (k u)) := by
  intro p q hm hm'
  obtain ⟨t1, l1⟩ := hp _ hm
  obtain ⟨t2, l2⟩ := hp _ hm'
  show wpAny (model prog w) A (keyLt' (tuples' true) p.1 q.1) (fun r s' => s' = s ∧ r = lexL (k p.1) (k q.1)) (fun _ _ => False) s
  obtain ⟨a, xs, e1, ⟨o, ho, hc, m, hdt⟩, i⟩ := t1
  obtain ⟨a', ys, e2, ⟨o', ho', hc', m', hdt'⟩, i'⟩ := t2
  rw [e1] at i l1
  rw [e2] at i' l2
  rw [e1, e2]
  refine PySem.W.kat_lt ho hdt ho' hdt' ?_
  have sz : decide (xs.size < ys.size) = false := by
    have l3 := i.length
    have l4 := i'.length
    rw [Array.length_toList] at l3 l4
    exact decide_eq_false (by omega)
  rw [sz]
  exact lex_rows 0 i i' (by omega) ⟨rfl, rfl⟩
theorem rows_firsts {h : Heap} {n : Nat} (hn : 1 ≤ n) {k : Value → List Int} : ∀ {vs : List Value}, RowsAt h n k vs → ∃ fs, PySem.W.KatTups h vs fs ∧ fs.length = vs.length ∧ ∀ f, f ∈ fs → ∃ n t, f = Value.int n t
  | [], _ => ⟨[], PySem.W.KatTups.nil, rfl, fun f hf => by simp at hf⟩
  | v :: vs, x => by
    obtain ⟨fs, kk, hl, hi⟩ := rows_firsts hn (vs := vs) fun u hu => x u (List.mem_cons_of_mem _ hu)
    obtain ⟨⟨a, xs, e0, ⟨o, ho, hc, m, hdt⟩, i⟩, hln⟩ := x v (List.mem_cons_self ..)
    obtain ⟨y, ys, e⟩ : ∃ y ys, xs.toList = y :: ys := by
      cases q : xs.toList with
      | nil =>
        rw [q] at i
        have l := i.length
        rw [List.length_nil, hln] at l
        omega
      | cons y ys => exact ⟨y, ys, rfl⟩
    obtain ⟨z, t, hy⟩ := i.all y (by rw [e]; exact List.mem_cons_self ..)
    rw [e0]
    refine ⟨y :: fs, PySem.W.KatTups.cons ho hc hdt ?_ kk, by simp [hl], ?_⟩
    · have z := congrArg (fun l : List Value => l[0]?) e
      simpa using z
    · intro f hf
      rcases List.mem_cons.mp hf with rfl | hf
      · exact ⟨z, t, hy⟩
      · exact hi f hf
theorem rows_sortable {a : Addr} {n : Nat} (hn : 1 ≤ n) {k : Value → List Int} {vs : List Value} (h0 : 0 < vs.length) (hp : RowsAt s.heap n k vs) (ha : ∀ o, s.heap.get? a = some o → o.cls ≠ .type "tuple") : SortableO prog w A s a vs fun v u => lexL (k v) (k u) := by
  intro h' keep
  have hp' : RowsAt h' n k vs := hp.keeps fun b o e c => keep b o (fun z => by subst z; exact ha o e c) e
  obtain ⟨fs, h1, h2, h3⟩ := rows_firsts hn hp'
  refine ⟨tuples' true, fun Q E hq => ?_, rows_cmp hp'⟩
  refine PySem.W.kat_kind (T := .type "int") h1 (by omega) (fun f hm => ?_) (by rfl) ?_
  · obtain ⟨x, t, rfl⟩ := h3 f hm
    exact PySem.W.Looks.now
  · have e : (Value.type "int" != Value.type "tuple") = true := by first | decide +kernel | rfl | decide
    rw [e]
    exact hq
theorem sorted_rows {l : Addr} {n : Nat} (hn : 1 ≤ n) {vs : List Value} {k : Value → List Int} {Q : Value → Shared → Prop} (hl : s.heap.IsList l vs.toArray) (hz : vs.length ≤ sizeLine) (hp : RowsAt s.heap n k vs)
    (h : ∀ (h' : Heap) (d : Addr) (out : List Value), Srtd (fun v u => lexL (k v) (k u)) out → Stb (fun v u => lexL (k v) (k u)) out vs → (∀ b o, s.heap.get? b = some o → h'.get? b = some o) → s.heap.objs.size ≤ d → (∃ n, h'.get? d = some (seqObj "list" out.toArray n)) → Q (.ref d) { s with heap := h' }) :
    wpAny (model prog w) A (call (.builtin "sorted") [.ref l]) Q E s := by
  refine sorted_ord (swo_pull lexL_swo k) hl hz (fun h2 h₁ a ha kk => ?_) fun out hs hb => ?_
  · refine rows_sortable (s := { s with heap := h₁ }) hn (by omega) (hp.keeps fun b o e _ => (kk b o e).2) fun o e => ?_
    have e' : some o = some (seqObj "list" vs.toArray 0) := e.symm.trans ha
    cases e'
    intro c
    exact absurd (Value.type.inj c) (by decide)
  · exact h _ _ out hs hb (fun b o e => sortedAll_old e) (Nat.le_succ _) (sortedAll_at s.heap vs out.toArray)

/-! ### by key=sum -/
theorem sum_tup {v : Value} {ns : List Int} {Q : Value → Shared → Prop} (hh : A.handled = none) (ht : TS.TupInts s.heap v ns)
    (h : ∀ h' tk t', (∀ b o, s.heap.get? b = some o → h'.get? b = some o) → Q (.int ns.sum t') { s with heap := h', toks := tk }) : wpAny (model prog w) A (call (.builtin "sum") [v]) Q E s := by
  obtain ⟨a, vs, rfl, hl, hi⟩ := ht
  obtain ⟨xs, hx⟩ := hi.allInts.items
  have hn : numsOf vs.toList.toArray.toList = ns := by rw [show vs.toList.toArray.toList = vs.toList from rfl, hi.numsOf]
  rw [hx] at hn
  rw [Array.toArray_toList] at hx
  rw [nums_intItems] at hn
  have hl' : s.heap.IsTuple a (PySem.intItems xs) := by rw [← hx]; exact hl
  refine PySem.W.ktm_sumG hh hl' fun h' tk t' hk => ?_
  have := h h' tk t' hk
  rw [preSum_eq, List.take_of_length_le (by simp), hn]
  exact this
theorem int_kind {vs : List Value} {κ : Value → Int} {ts : List Tok} (hl : ts.length = vs.length) (h2 : 2 ≤ vs.length) : keyKind' (List.zipWith (fun v t => Value.int (κ v) t) vs ts).toArray = pure oneType' := by
  have hi : IntsAre (List.zipWith (fun v t => Value.int (κ v) t) vs ts).toArray.toList (vs.map κ) := by
    show IntsAre (List.zipWith (fun v t => Value.int (κ v) t) vs ts) (vs.map κ)
    clear h2
    induction vs generalizing ts with
    | nil => cases ts <;> exact IntsAre.nil
    | cons v vs ih =>
      cases ts with
      | nil => simp at hl
      | cons t ts => exact IntsAre.cons _ _ (ih (by simpa using hl))
  exact PyProof.Rows.ksk_kind hi (by rw [List.size_toArray, List.length_zipWith]; omega)
theorem zip_keys {vs : List Value} {κ : Value → Int} {ts : List Tok} (hl : ts.length = vs.length) : ∀ p ∈ (List.zipWith (fun v t => Value.int (κ v) t) vs ts).zip vs, ∃ t, p.1 = Value.int (κ p.2) t := by
  induction vs generalizing ts with
  | nil => intro p hp; simp at hp
  | cons v vs ih =>
    cases ts with
    | nil => simp at hl
    | cons t ts =>
      intro p hp
      rw [List.zipWith_cons_cons, List.zip_cons_cons] at hp
      rcases List.mem_cons.mp hp with rfl | hp
      · exact ⟨t, rfl⟩
      · exact ih (by simpa using hl) p hp
theorem sort_sum {a : Addr} {n : Nat} {vs : List Value} {κ : Value → Int} {P : PySem.Fin → Shared → Prop} (hh : A.handled = none) (ho : s.heap.get? a = some (seqObj "list" vs.toArray n)) (hz : vs.length < sizeLine)
    (hp : ∀ v ∈ vs, ∃ ns, TS.TupInts s.heap v ns ∧ κ v = ns.sum)
    (h : ∀ h' tk (out : List Value), Srtd (fun v u => decide (κ v < κ u)) out → Stb (fun v u => decide (κ v < κ u)) out vs → (∀ b o, b ≠ a → s.heap.get? b = some o → h'.get? b = some o) → (∃ n, h'.get? a = some (seqObj "list" out.toArray n)) → P (.done (.ret .none)) { s with heap := h', toks := tk }) :
    wpAny (model prog w) A (PyProof.Rows.ksk_tree a (.builtin "sum") false) P E s := by
  have ha : a < s.heap.objs.size := Heap.lt_size ho
  obtain ⟨e1, ho1⟩ : ∃ e1, (s.heap.update a (Obj.mapSeq fun _ => (#[] : Array Value))).get? a = some (seqObj "list" #[] e1) := ⟨_, get?_update_seq ho fun _ => #[]⟩
  have hkS : ((s.heap.update a (Obj.mapSeq fun _ => (#[] : Array Value))).push (seqObj "tuple" vs.toArray 0)).objs.size = s.heap.objs.size + 1 := by rw [size_push', Heap.size_update]
  unfold PyProof.Rows.ksk_tree
  refine wpAny_bind (listItems_at ho rfl ?_)
  refine wpAny_bind (listUpdate_at ho rfl ?_ (by rw [List.size_toArray]; omega) (Nat.zero_le _))
  refine wpAny_bind (seqEpoch_at ho1 rfl ?_)
  refine wpAny_bind (wpAny_newTuple ?_ (by show vs.length ≤ _; omega))
  refine wpAny_bind (wpAny_newList ?_ (Nat.zero_le _))
  refine wpAny_holding ?_
  generalize hkk : ((s.heap.update a (Obj.mapSeq fun _ => (#[] : Array Value))).push (seqObj "tuple" vs.toArray 0)).objs.size = kS
  rw [hkk] at hkS
  have hka : kS ≠ a := by
    rw [hkS]
    exact Nat.ne_of_gt (Nat.lt_succ_of_lt ha)
  have kp0 : ∀ b o, b ≠ a → s.heap.get? b = some o → (((s.heap.update a (Obj.mapSeq fun _ => (#[] : Array Value))).push (seqObj "tuple" vs.toArray 0)).push (seqObj "list" #[] 0)).get? b = some o := fun b o hb e =>
    Heap.get?_push_of_some _ (Heap.get?_push_of_some _ ((Heap.get?_update_ne _ _ _ _ hb).trans e))
  have a0 : (((s.heap.update a (Obj.mapSeq fun _ => (#[] : Array Value))).push (seqObj "tuple" vs.toArray 0)).push (seqObj "list" #[] 0)).get? a = some (seqObj "list" #[] e1) := Heap.get?_push_of_some _ (Heap.get?_push_of_some _ ho1)
  have k0 : (((s.heap.update a (Obj.mapSeq fun _ => (#[] : Array Value))).push (seqObj "tuple" vs.toArray 0)).push (seqObj "list" #[] 0)).get? kS = some (seqObj "list" #[] 0) := by rw [← hkk]; exact Heap.get?_push_size _ rfl
  have nkS : ∀ o, s.heap.get? kS = some o → False := fun o e => by
    have := Heap.lt_size e
    rw [hkS] at this
    exact Nat.not_lt.mpr (Nat.le_succ _) this
  show wpAny (model prog w) A (PyProof.Rows.ksk_rest a (.builtin "sum") false vs.toArray e1 (.ref kS)) P E { s with heap := ((s.heap.update a (Obj.mapSeq fun _ => (#[] : Array Value))).push (seqObj "tuple" vs.toArray 0)).push (seqObj "list" #[] 0) }
  unfold PyProof.Rows.ksk_rest
  refine wpAny_bind (wpAny_rule ?_)
  first
    | rw [List.forIn_toArray]
    | (rw [← Array.forIn_toList]; simp only [List.toList_toArray])
    | rw [← Array.forIn_toList]
  refine wpAny_bind (PyProof.Rows.ksk_fold (fun i s' => ∃ h' tk kA e ts, s' = { s with heap := h', toks := tk } ∧ (∀ b o, b ≠ a → s.heap.get? b = some o → h'.get? b = some o) ∧ h'.get? a = some (seqObj "list" #[] e1) ∧ h'.get? kS = some (seqObj "list" kA e) ∧
      ts.length = i ∧ kA.toList = List.zipWith (fun v t => Value.int (κ v) t) (vs.take i) ts) vs 0 _ ⟨_, s.toks, #[], 0, [], rfl, kp0, a0, k0, rfl, rfl⟩ ?step ?done)
  case step =>
    rintro j x s' hx ⟨h', tk, kA, e, ts, rfl, kp, na, nk, hts, hkA⟩
    simp only [Nat.zero_add] at hts hkA ⊢
    have hj : j < vs.length := (List.getElem?_eq_some_iff.mp hx).1
    obtain ⟨ns, tup, hsum⟩ := hp x (List.mem_of_getElem? hx)
    have hks : kA.size = j := by
      rw [← Array.length_toList, hkA, List.length_zipWith, List.length_take]
      omega
    have tup' : TS.TupInts h' x ns := tup.keeps fun b o e c => kp b o (fun z => by
      rw [z, ho] at e
      cases e
      exact absurd (Value.type.inj c) (by decide)) e
    refine wpAny_bind (wpAny_attempt (sum_tup hh tup' fun h2 tk2 t2 hk2 => ?_))
    dsimp only
    have nk2 := hk2 _ _ nk
    have na2 := hk2 _ _ na
    obtain ⟨c2, hc2⟩ : ∃ c2, (h2.update kS (Obj.mapSeq (·.push (Value.int ns.sum t2)))).get? kS = some (seqObj "list" (kA.push (.int ns.sum t2)) c2) := ⟨_, get?_update_seq nk2 (·.push (Value.int ns.sum t2))⟩
    refine wpAny_bind (listUpdate_at nk2 rfl ?_ (by omega) (Nat.le_trans (Nat.le_of_eq (Array.size_push ..)) (by omega)))
    refine wpAny_pure ⟨rfl, _, _, kA.push (.int ns.sum t2), c2, ts ++ [t2], rfl, fun b o hb e => ?_, ?_, hc2, by rw [List.length_append, hts]; rfl, ?_⟩
    · refine (Heap.get?_update_ne _ _ _ _ (fun z => ?_)).trans (hk2 _ _ (kp b o hb e))
      rw [z] at e
      exact nkS o e
    · exact (Heap.get?_update_ne _ _ _ _ hka.symm).trans na2
    · have et : vs.take (j + 1) = vs.take j ++ [x] := by rw [List.take_add_one, hx]; rfl
      rw [et, List.zipWith_append (by rw [List.length_take]; omega), ← hkA, ← hsum]
      simp
  case done =>
    rintro s' ⟨h', tk, kA, e, ts, rfl, kp, na, nk, hts, hkA⟩
    rw [Nat.zero_add] at hts hkA
    rw [List.take_of_length_le (Nat.le_refl _)] at hkA
    have ekA : kA = (List.zipWith (fun v t => Value.int (κ v) t) vs ts).toArray := by rw [← hkA, Array.toArray_toList]
    have hks : kA.size = vs.length := by rw [ekA, List.size_toArray, List.length_zipWith]; omega
    have ezip : (kA.zip vs.toArray).toList = (List.zipWith (fun v t => Value.int (κ v) t) vs ts).zip vs := by rw [PyProof.Rows.ksk_zip, hkA]
    have hzl : ((List.zipWith (fun v t => Value.int (κ v) t) vs ts).zip vs).map (·.2) = vs := List.map_snd_zip (by rw [List.length_zipWith]; omega)
    try dsimp only
    refine wpAny_bind (listItems_at nk rfl ?_)
    show wpAny (model prog w) A (PyProof.Rows.ksk_end a false vs.toArray e1 (.ref kS) kA) P E { s with heap := h', toks := tk }
    -- the end, whatever stands sorted
    have tail : ∀ st : SortSt, failedOf st = none → Srtd (fun p q : Keyed => decide (κ p.2 < κ q.2)) (arrOf st).toList → Stb (fun p q : Keyed => decide (κ p.2 < κ q.2)) (arrOf st).toList ((List.zipWith (fun v t => Value.int (κ v) t) vs ts).zip vs) →
        wpAny (model prog w) A (PyProof.Rows.ksk_tail a false e1 (.ref kS) st) P E { s with heap := h', toks := tk } := fun st hfl hs hb => by
      have O : Swo (fun v u : Value => decide (κ v < κ u)) := ⟨fun x y h => by
        have := of_decide_eq_true h
        exact decide_eq_false (by omega), fun x y z h1 h2 => by
        have := of_decide_eq_false h1
        have := of_decide_eq_false h2
        exact decide_eq_false (by omega)⟩
      have hs2 : Srtd (fun v u : Value => decide (κ v < κ u)) ((arrOf st).toList.map (·.2)) := srtd_map (f := fun p : Keyed => p.2) hs
      have hb2 : Stb (fun v u : Value => decide (κ v < κ u)) ((arrOf st).toList.map (·.2)) vs := by
        have := Stb.map O (fun p : Keyed => p.2) hb
        rw [hzl] at this
        exact this
      have hsz : (arrOf st).size = vs.length := by
        have := hb2.len
        rw [List.length_map, Array.length_toList] at this
        exact this
      have s1 := Heap.SameBut.update h' kS (Obj.mapSeq fun _ => (#[] : Array Value))
      have na1 : (h'.update kS (Obj.mapSeq fun _ => (#[] : Array Value))).get? a = some (seqObj "list" #[] e1) := (s1.2 a hka.symm).trans na
      obtain ⟨c2, hc2⟩ : ∃ c2, ((h'.update kS (Obj.mapSeq fun _ => (#[] : Array Value))).update a (Obj.mapSeq fun _ => (arrOf st).map (·.2))).get? a = some (seqObj "list" ((arrOf st).map (·.2)) c2) := ⟨_, get?_update_seq na1 fun _ => (arrOf st).map (·.2)⟩
      unfold PyProof.Rows.ksk_tail
      try dsimp only
      refine wpAny_bind (listUpdate_at nk rfl ?_ (by omega) (Nat.zero_le _))
      refine wpAny_bind (wpAny_letGo ?_)
      refine wpAny_bind (seqEpoch_at na1 rfl ?_)
      refine wpAny_bind (listUpdate_at na1 rfl ?_ (Nat.zero_le _) (by
        show ((arrOf st).map (·.2)).size ≤ _
        rw [Array.size_map]
        omega))
      rw [hfl]
      simp only [bne_self_eq_false, Bool.false_eq_true, if_false]
      refine wpAny_pure (h _ _ _ hs2 hb2 (fun b o hb e => ?_) ⟨c2, ?_⟩)
      · refine (Heap.get?_update_ne _ _ _ _ hb).trans ((Heap.get?_update_ne _ _ _ _ (fun z => ?_)).trans (kp b o hb e))
        rw [z] at e
        exact nkS o e
      · rw [hc2]
        have : ((arrOf st).toList.map (·.2)).toArray = (arrOf st).map (·.2) := by
          rw [← Array.toList_map, Array.toArray_toList]
        rw [this]
    unfold PyProof.Rows.ksk_end
    try dsimp only
    rw [if_neg (by decide)]
    simp only [pure_bind, Bool.false_eq_true, if_false]
    by_cases h2 : vs.toArray.size < 2
    · rw [if_pos h2, if_pos h2]
      refine wpAny_bind (wpAny_pure ?_)
      refine tail (SortSt.mk' general' (kA.zip vs.toArray) #[] 7 none) rfl ?_ ?_
      · show Srtd _ (kA.zip vs.toArray).toList
        rw [ezip]
        rw [List.size_toArray] at h2
        have hl : ((List.zipWith (fun v t => Value.int (κ v) t) vs ts).zip vs).length < 2 := by
          rw [List.length_zip, List.length_zipWith]
          omega
        match q : (List.zipWith (fun v t => Value.int (κ v) t) vs ts).zip vs, hl with
        | [], _ => exact List.Pairwise.nil
        | [x], _ => exact List.pairwise_singleton _ _
        | _ :: _ :: _, h => exact absurd h (by simp)
      · show Stb _ (kA.zip vs.toArray).toList _
        rw [ezip]
        exact Stb.refl _
    · rw [if_neg h2, if_neg h2]
      rw [List.size_toArray] at h2
      have hkind : keyKind' kA = pure oneType' := by
        rw [ekA]
        exact int_kind (by omega) (by omega)
      rw [hkind]
      refine wpAny_bind (wpAny_pure ?_)
      have O2 : Swo (fun p q : Keyed => decide (κ p.2 < κ q.2)) := ⟨fun x y h => by
        have := of_decide_eq_true h
        exact decide_eq_false (by omega), fun x y z h1 h2 => by
        have := of_decide_eq_false h1
        have := of_decide_eq_false h2
        exact decide_eq_false (by omega)⟩
      refine wpAny_bind (wpAny_mono (wpS_sortO (st0 := SortSt.mk' oneType' (kA.zip vs.toArray) #[] 7 none) (P := fun p => ∃ t, p.1 = Value.int (κ p.2) t)
        (Q := fun _ st' => Srtd (fun p q : Keyed => decide (κ p.2 < κ q.2)) (arrOf st').toList ∧ Stb (fun p q : Keyed => decide (κ p.2 < κ q.2)) (arrOf st').toList (kA.zip vs.toArray).toList ∧ failedOf st' = none) O2 (fun p q hp hq => ?_) rfl ?_ rfl rfl fun st' a1 a2 a3 => ⟨a1, a2, a3⟩) ?_ fun _ _ e => e)
      · obtain ⟨t, e1⟩ := hp
        obtain ⟨u, e2⟩ := hq
        rw [e1, e2]
        exact PySem.W.kat_lt_int ⟨rfl, rfl⟩
      · intro p hp
        have hp' : p ∈ (kA.zip vs.toArray).toList := hp
        rw [ezip] at hp'
        exact zip_keys (by omega) p hp'
      · rintro ⟨⟨⟩, st'⟩ s' ⟨rfl, hs, hb, hf⟩
        rw [ezip] at hb
        exact tail st' hf hs hb
theorem sorted_sum {l : Addr} {vs : List Value} {κ : Value → Int} {Q : Value → Shared → Prop} (hh : A.handled = none) (hl : s.heap.IsList l vs.toArray) (hz : vs.length < sizeLine) (hp : ∀ v ∈ vs, ∃ ns, TS.TupInts s.heap v ns ∧ κ v = ns.sum)
    (h : ∀ (h' : Heap) (d : Addr) (tk : Nat) (out : List Value), Srtd (fun v u => decide (κ v < κ u)) out → Stb (fun v u => decide (κ v < κ u)) out vs → (∀ b o, s.heap.get? b = some o → h'.get? b = some o) → s.heap.objs.size ≤ d → (∃ n, h'.get? d = some (seqObj "list" out.toArray n)) → Q (.ref d) { s with heap := h', toks := tk }) :
    wpAny (model prog w) A (call (.builtin "sorted") [.ref l] [(Str.ofString "key", .builtin "sum")]) Q E s := by
  refine call_function_entry_kw kind_sorted plain_sorted entry_sorted (PyProof.Rows.ksk_s1 _ _) ?_
  unfold Builtin.«sorted»
  refine wpAny_bind (m := checkCount "sorted" 1 1 _) (wpAny_pure ?_)
  refine wpAny_bind (collect_list hl ?_ (by omega))
  refine wpAny_bind (wpAny_newList ?_ (by omega))
  have hsz : ((s.heap.push (seqObj "list" #[] 0)).update s.heap.objs.size (Obj.mapSeq (· ++ vs.toArray))).objs.size = s.heap.objs.size + 1 := by
    rw [Heap.size_update, size_push']
  have hoL : (((s.heap.push (seqObj "list" #[] 0)).update s.heap.objs.size (Obj.mapSeq (· ++ vs.toArray))).push (seqObj "list" vs.toArray 0)).get? (s.heap.objs.size + 1) = some (seqObj "list" vs.toArray 0) := by
    rw [← hsz]; exact Heap.get?_push_size _ rfl
  have keep : ∀ b o, s.heap.get? b = some o → b ≠ s.heap.objs.size + 1 ∧ (((s.heap.push (seqObj "list" #[] 0)).update s.heap.objs.size (Obj.mapSeq (· ++ vs.toArray))).push (seqObj "list" vs.toArray 0)).get? b = some o := fun b o q => by
    have hlt : b < s.heap.objs.size := Heap.lt_size q
    refine ⟨Nat.ne_of_lt (Nat.lt_succ_of_lt hlt), Heap.get?_push_of_some _ ?_⟩
    rw [Heap.get?_update_ne _ _ _ _ (Nat.ne_of_lt hlt)]
    exact Heap.get?_push_of_some _ q
  show wpAny _ _ _ _ _ { s with heap := ((s.heap.push (seqObj "list" #[] 0)).update s.heap.objs.size (Obj.mapSeq (· ++ vs.toArray))).push (seqObj "list" vs.toArray 0) }
  rw [hsz]
  refine wpAny_bind (wpAny_holding (wpAny_call_entry_kw slot_list_sort ⟨_, hoL, rfl⟩ entry_list_sort ?body (PyProof.Rows.ksk_l1 _ _)))
  case body =>
    show wpAny (model prog w) A.in1.in1 (Builtin.«list.sort» ⟨[.ref (s.heap.objs.size + 1)], [(Str.ofString "key", .builtin "sum")]⟩) _ _ _
    rw [PyProof.Rows.ksk_t4]
    refine sort_sum (κ := κ) (s := { s with heap := ((s.heap.push (seqObj "list" #[] 0)).update s.heap.objs.size (Obj.mapSeq (· ++ vs.toArray))).push (seqObj "list" vs.toArray 0) }) hh hoL hz (fun v hv => ?_) fun h' tk out hs hb kp hn => ⟨_, rfl, ?_⟩
    · obtain ⟨ns, t, e⟩ := hp v hv
      exact ⟨ns, t.keeps fun b o q _ => (keep b o q).2, e⟩
    · exact wpAny_pure ⟨_, rfl, h h' _ tk out hs hb (fun b o q => kp b o (keep b o q).1 (keep b o q).2) (Nat.le_succ _) hn⟩
end
end Tw

/-! Tw22: sorted as rules of our layer. -/
namespace Tw
open PySem PySem.Spec PyProof.Rows L2 PyProof SrtO
def vInt : V → Int
  | .int i => i
  | _ => 0
/-- the ints of the tuple at x -/
def rowV (H : Hp) : V → List Int
  | .ref t => match H t with
    | some (.tup vs) => vs.map vInt
    | _ => []
  | _ => []
theorem rowV_of {H : Hp} {t : Addr} {ns : List Int} (h : H t = some (.tup (ns.map V.int))) : rowV H (.ref t) = ns := by
  show (match H t with | some (.tup vs) => vs.map vInt | _ => []) = ns
  rw [h]
  show (ns.map V.int).map vInt = ns
  rw [List.map_map]
  exact List.map_id'' (fun _ => rfl) ns
def RowsV (H : Hp) (n : Nat) (xs : List V) : Prop := ∀ x ∈ xs, ∃ (t : Addr) (ns : List Int), x = V.ref t ∧ H t = some (.tup (ns.map V.int)) ∧ ns.length = n
def rSortedA (K : PySem.W.Frag) : List V → Hp → VK → Prop := fun vs H Q => ∃ (a : Addr) (xs : List V) (n : Nat), vs = [V.ref a] ∧ SqL K H a xs ∧ 1 ≤ n ∧ RowsV H n xs ∧ ∀ p, H p = none → Q (.ref p) (upd H p (.lst (isort (fun x y => lexL (rowV H x) (rowV H y)) xs)))
def rSortedSum (K : PySem.W.Frag) : List V → Hp → VK → Prop := fun vs H Q => ∃ (a : Addr) (xs : List V) (n : Nat), vs = [V.ref a] ∧ SqL K H a xs ∧ xs.length < sizeLine ∧ RowsV H n xs ∧ ∀ p, H p = none → Q (.ref p) (upd H p (.lst (isort (fun x y => sumLt (rowV H x) (rowV H y)) xs)))
section
variable {X : Cx}
theorem ints_vals : ∀ {us : List Value} {ns : List Int}, Vals (ns.map V.int) us → IntsAre us ns
  | _, [], r => by cases r; exact IntsAre.nil
  | _, n :: ns, r => by
    cases r with
    | cons a t =>
      obtain ⟨tk, rfl⟩ := a
      exact IntsAre.cons _ _ (ints_vals t)
theorem tup_at {pins : List (Addr × Obj)} {s : Shared} {σ : L2.St} {H : Hp} (I : Inv X pins σ H s) {t : Addr} {ns : List Int} (ht : H t = some (.tup (ns.map V.int))) : TS.TupInts s.heap (.ref t) ns := by
  obtain ⟨_, its, rv, o, ho, hc, n, hd⟩ := I.hok _ _ ht
  exact ⟨t, its.toArray, rfl, ⟨o, ho, hc, n, hd⟩, ints_vals rv⟩
theorem callSorted : CallR X (.builtin "sorted") (rSortedA X.K) := by
  intro pins s σ H vs us Q I r h
  obtain ⟨a, xs, n, rfl, hs, hn, hx, q⟩ := h
  obtain ⟨its, rv, hl, hz⟩ := I.list hs
  obtain ⟨u, rfl, ru⟩ := vals1 r
  obtain rfl : u = Value.ref a := ru
  obtain ⟨e1, e2⟩ := refs_back rv fun x m => by
    obtain ⟨t, _, e, _⟩ := hx x m
    exact ⟨t, e⟩
  refine sorted_rows (n := n) (k := fun u => rowV H (backV u)) hn hl.isList (by rw [← rv.length]; exact hz) (fun v hv => ?_) fun h' d out h1 h2 kp hd hn => ?_
  · obtain ⟨t, rfl⟩ := e2 v hv
    have hm : V.ref t ∈ xs := by rw [e1]; exact List.mem_map.mpr ⟨_, hv, rfl⟩
    obtain ⟨t', ns, e, ht, hl⟩ := hx _ hm
    cases e
    have : rowV H (backV (Value.ref t)) = ns := rowV_of ht
    show TS.TupInts s.heap (Value.ref t) (rowV H (backV (Value.ref t))) ∧ (rowV H (backV (Value.ref t))).length = n
    rw [this]
    exact ⟨tup_at I ht, hl⟩
  · have h3 : ∀ u ∈ out, ∃ a, u = Value.ref a := fun u hu => e2 u (h2.perm.mem_iff.mp hu)
    obtain ⟨n, hn⟩ := hn
    have eo : out.map backV = isort (fun x y => lexL (rowV H x) (rowV H y)) xs := by
      have e3 := isort_uniq (swo_pull lexL_swo fun u => rowV H (backV u)) h1 h2
      rw [e3, isort_map (lt := fun x y => lexL (rowV H x) (rowV H y)) backV, ← e1]
    refine ⟨.ref d, upd H d (.lst (out.map backV)), I.laid (t' := s.toks) kp hd ⟨?_, out, n, vals_back h3, hn⟩, rfl, ?_⟩
    · rw [eo, isort_len]
      exact hz
    · rw [eo]
      exact q d (I.hok.fresh hd)
theorem call_sortedSum (hc : X.calm = true) {pins : List (Addr × Obj)} {s : Shared} {σ : L2.St} {H : Hp} {vs : List V} {us : List Value} {Q : VK} {E : Value → Shared → Prop} (I : Inv X pins σ H s) (r : Vals vs us) (h : rSortedSum X.K vs H Q) :
    wpAny (model X.prog X.w) X.A (call (.builtin "sorted") us [(Str.ofString "key", .builtin "sum")]) (EP X pins σ Q) E s := by
  obtain ⟨a, xs, n, rfl, hs, hlt, hx, q⟩ := h
  obtain ⟨its, rv, hl, hz⟩ := I.list hs
  obtain ⟨u, rfl, ru⟩ := vals1 r
  obtain rfl : u = Value.ref a := ru
  obtain ⟨e1, e2⟩ := refs_back rv fun x m => by
    obtain ⟨t, _, e, _⟩ := hx x m
    exact ⟨t, e⟩
  refine sorted_sum (κ := fun u => (rowV H (backV u)).sum) (I.ok.hd hc) hl.isList (by rw [← rv.length]; exact hlt) (fun v hv => ?_) fun h' d tk out h1 h2 kp hd hn => ?_
  · obtain ⟨t, rfl⟩ := e2 v hv
    have hm : V.ref t ∈ xs := by rw [e1]; exact List.mem_map.mpr ⟨_, hv, rfl⟩
    obtain ⟨t', ns, e, ht, hl⟩ := hx _ hm
    cases e
    have : rowV H (backV (Value.ref t)) = ns := rowV_of ht
    exact ⟨ns, tup_at I ht, by rw [this]⟩
  · have h3 : ∀ u ∈ out, ∃ a, u = Value.ref a := fun u hu => e2 u (h2.perm.mem_iff.mp hu)
    obtain ⟨n, hn⟩ := hn
    have eo : out.map backV = isort (fun x y => sumLt (rowV H x) (rowV H y)) xs := by
      have e3 := isort_uniq (swo_pull sumLt_swo fun u => rowV H (backV u)) h1 h2
      rw [e3, isort_map (lt := fun x y => sumLt (rowV H x) (rowV H y)) backV, ← e1]
    refine ⟨.ref d, upd H d (.lst (out.map backV)), I.laid (t' := tk) kp hd ⟨?_, out, n, vals_back h3, hn⟩, rfl, ?_⟩
    · rw [eo, isort_len]
      exact hz
    · rw [eo]
      exact q d (I.hok.fresh hd)
/-- sorted(e, key=sum) -/
theorem pe_sortedSum {e : Expr} {p p2 kp pos : Pos} {t : TA} (hc : X.calm = true) (hg : Gl X "sorted") (hm : X.mg "sorted" = none) (hg2 : Gl X "sum") (hm2 : X.mg "sum" = none) (ha : PA X [e] t) 
    (he : backTo pos (starEach [e] X.env) = (false, eval e X.env) :: backTo pos (starEach [] X.env) := by rfl) (hpl : (backTo pos (starEach [e] X.env)).any (·.1) = false := by rfl) :
    PE X (.Call (.Name "sorted" p) [e] [⟨some "key", .Name "sum" p2, kp⟩] pos) (tCB (rSortedSum X.K) t) := by
  refine ⟨fun pins s σ H Q I h => ?_⟩
  refine wpAny_Call_Name_kw (ld_blt I hg hm (u := .builtin "sorted") (by decide +kernel) ?_)
  refine PyProof.Rows.callWith_kw (thn (ha.run pos pins s σ H _ I h) fun us s1 ⟨vs, H1, I1, r1, q1⟩ => ?_) he hpl rfl rfl
  show wpAny _ _ (evalAll [(do let v ← eval (.Name "sum" p2) X.env; standAt pos; pure v)]) _ _ s1
  refine wpAny_evalAll_cons (wpAny_bind (ld_blt I1 hg2 hm2 (u := .builtin "sum") (by decide +kernel) (wpAny_bind (wpAny_standAt (wpAny_pure ?_)))))
  refine wpAny_evalAll_nil ?_
  exact call_sortedSum hc I1 r1 q1
end

/-! ### over data -/
section
variable {K : PySem.W.Frag}
theorem rows_rall {I H : Hp} (s : Same I H) {n : Nat} : ∀ {hs : List (List Int)} {vs : List V}, RpAll K I vs (hs.map rowD) → (∀ h ∈ hs, h.length = n) → RowsV H n vs ∧ vs.map (rowV H) = hs
  | [], vs, r, _ => by
    cases r
    exact ⟨fun x hx => (List.not_mem_nil hx).elim, rfl⟩
  | h :: hs, _, r, hl => by
    cases r with
    | cons a t =>
      obtain ⟨h1, h2⟩ := rows_rall s t fun x hx => hl x (List.mem_cons_of_mem _ hx)
      cases a with
      | tup ha ra =>
        have e := rall_ints ra
        subst e
        have ha' := s _ _ ha
        refine ⟨fun x hx => ?_, ?_⟩
        · rcases List.mem_cons.mp hx with rfl | hx
          · exact ⟨_, h, rfl, ha', hl h List.mem_cons_self⟩
          · exact h1 x hx
        · rw [List.map_cons, rowV_of ha', h2]
theorem rall_at {I : Hp} {vs : List V} {ds : List PyData} (r : RpAll K I vs ds) : ∀ v ∈ vs, ∃ d ∈ ds, Rp K I v d := by
  intro v hv
  induction vs generalizing ds with
  | nil => cases hv
  | cons x t ih =>
    cases r with
    | cons a b =>
      rcases List.mem_cons.mp hv with rfl | hv
      · exact ⟨_, List.mem_cons_self, a⟩
      · obtain ⟨d, hd, q⟩ := ih b hv
        exact ⟨d, List.mem_cons_of_mem _ hd, q⟩
/-- values whose rows are these -/
theorem rall_of_rows {I H : Hp} (s : Same I H) : ∀ {vs : List V} {hs : List (List Int)}, (∀ v ∈ vs, ∃ d, Rp K I v (rowD d)) → vs.map (rowV H) = hs → RpAll K I vs (hs.map rowD)
  | [], hs, _, e => by
    subst e
    exact .nil
  | v :: vs, hs, h, e => by
    subst e
    obtain ⟨d, r⟩ := h v List.mem_cons_self
    have ed : rowV H v = d := by
      cases r with
      | tup ha ra =>
        have e := rall_ints ra
        subst e
        exact rowV_of (s _ _ ha)
    rw [List.map_cons, List.map_cons, ed]
    exact .cons r (rall_of_rows s (fun x hx => h x (List.mem_cons_of_mem _ hx)) rfl)
theorem rc_sortedRows {hs : List (List Int)} {n : Nat} (hn : 1 ≤ n) (hl : ∀ h ∈ hs, h.length = n) : RAN K (rSortedA K) [.list (hs.map rowD)] ((isort lexL hs).map rowD) := fun H I vs s r Q q => by
  cases r with
  | cons rx rr =>
    cases rr
    cases rx with
    | lst ha ra =>
      obtain ⟨h1, h2⟩ := rows_rall s ra hl
      refine ⟨_, _, n, rfl, .of (s _ _ ha), hn, h1, fun p hp => ?_⟩
      refine q p H I _ (Nx.refl s) hp ?_
      refine rall_of_rows s (fun v hv => ?_) ?_
      · obtain ⟨d, hd, r⟩ := rall_at ra v ((isort_perm _ _).mem_iff.mp hv)
        obtain ⟨h, _, rfl⟩ := List.mem_map.mp hd
        exact ⟨h, r⟩
      · rw [isort_map (rowV H), h2]
theorem rc_sortedSum {hs : List (List Int)} {n : Nat} (hz : hs.length < sizeLine) (hl : ∀ h ∈ hs, h.length = n) : RAN K (rSortedSum K) [.list (hs.map rowD)] ((isort sumLt hs).map rowD) := fun H I vs s r Q q => by
  cases r with
  | cons rx rr =>
    cases rr
    cases rx with
    | lst ha ra =>
      obtain ⟨h1, h2⟩ := rows_rall s ra hl
      refine ⟨_, _, n, rfl, .of (s _ _ ha), by rw [ra.length, List.length_map]; exact hz, h1, fun p hp => ?_⟩
      refine q p H I _ (Nx.refl s) hp ?_
      refine rall_of_rows s (fun v hv => ?_) ?_
      · obtain ⟨d, hd, r⟩ := rall_at ra v ((isort_perm _ _).mem_iff.mp hv)
        obtain ⟨h, _, rfl⟩ := List.mem_map.mp hd
        exact ⟨h, r⟩
      · rw [isort_map (rowV H), h2]
end
end Tw

/-! Tw23: in plain Lean: sills, runs over a goal, walls. -/
namespace Tw
open SrtO

/-! ### the least of some hoards -/
def overOne (h : List Int) (some_ : List (List Int)) : Bool := some_.any fun x => overB h x
def pickF (made : List (List Int)) (h : List Int) : List (List Int) := if overOne h made then made else made ++ [h]
def leastF (hs : List (List Int)) : List (List Int) := isort lexL ((isort sumLt hs).foldl pickF [])
section
variable {n : Nat}
theorem over_tr {a b c : List Int} (ra : RowP n a) (rb : RowP n b) (rc : RowP n c) (h1 : overB a b = true) (h2 : overB b c = true) : overB a c = true :=
  (over_hN ra rc).mpr fun k => Nat.le_trans ((over_hN rb rc).mp h2 k) ((over_hN ra rb).mp h1 k)
theorem over_anti {a b : List Int} (ra : RowP n a) (rb : RowP n b) (h1 : overB a b = true) (h2 : overB b a = true) : a = b :=
  row_ext ra rb fun k => Nat.le_antisymm ((over_hN rb ra).mp h2 k) ((over_hN ra rb).mp h1 k)
theorem sum_mono : ∀ {a b : List Int}, a.length = b.length → (∀ k, k < b.length → b.getD k 0 ≤ a.getD k 0) → b.sum ≤ a.sum
  | [], [], _, _ => Int.le_refl _
  | x :: a, y :: b, hl, h => by
    have h0 := h 0 (by simp)
    have ih := sum_mono (a := a) (b := b) (by simpa using hl) fun k hk => by
      have := h (k + 1) (by simpa using hk)
      simpa using this
    simp at h0
    rw [List.sum_cons, List.sum_cons]
    omega
  | [], _ :: _, hl, _ => by simp at hl
  | _ :: _, [], hl, _ => by simp at hl
theorem sum_eq : ∀ {a b : List Int}, a.length = b.length → (∀ k, k < b.length → b.getD k 0 ≤ a.getD k 0) → a.sum ≤ b.sum → a = b
  | [], [], _, _, _ => rfl
  | x :: a, y :: b, hl, h, hs => by
    have h0 := h 0 (by simp)
    have h' : ∀ k, k < b.length → b.getD k 0 ≤ a.getD k 0 := fun k hk => by
      have := h (k + 1) (by simpa using hk)
      simpa using this
    have hm := sum_mono (a := a) (b := b) (by simpa using hl) h'
    simp at h0
    rw [List.sum_cons, List.sum_cons] at hs
    have e1 : x = y := by omega
    rw [e1, sum_eq (by simpa using hl) h' (by omega)]
  | [], _ :: _, hl, _, _ => by simp at hl
  | _ :: _, [], hl, _, _ => by simp at hl
/-- what has been picked of a list that rises by sums -/
structure Picked (n : Nat) (seen made : List (List Int)) : Prop where
  sub : ∀ x ∈ made, x ∈ seen
  cov : ∀ x ∈ seen, overOne x made = true
  anti : made.Pairwise fun x y => overB y x = false ∧ overB x y = false
theorem picked_step {seen made : List (List Int)} {h : List Int} (hr : ∀ x ∈ seen ++ [h], RowP n x) (hs : ∀ x ∈ seen, x.sum ≤ h.sum) (P : Picked n seen made) : Picked n (seen ++ [h]) (pickF made h) := by
  have rh : RowP n h := hr h (List.mem_append_right _ (List.mem_singleton_self _))
  unfold pickF
  cases hc : overOne h made with
  | true =>
    rw [if_pos rfl]
    refine ⟨fun x hx => List.mem_append_left _ (P.sub x hx), fun x hx => ?_, P.anti⟩
    rcases List.mem_append.mp hx with q | q
    · exact P.cov x q
    · rw [List.mem_singleton.mp q]
      exact hc
  | false =>
    rw [if_neg (by decide)]
    have no : ∀ x ∈ made, overB h x = false := fun x hx => by
      cases q : overB h x with
      | false => rfl
      | true =>
        have := List.any_eq_false.mp hc x hx
        exact absurd q this
    refine ⟨fun x hx => ?_, fun x hx => ?_, ?_⟩
    · rcases List.mem_append.mp hx with q | q
      · exact List.mem_append_left _ (P.sub x q)
      · exact List.mem_append_right _ q
    · rcases List.mem_append.mp hx with q | q
      · obtain ⟨y, hy, ho⟩ := List.any_eq_true.mp (P.cov x q)
        exact List.any_eq_true.mpr ⟨y, List.mem_append_left _ hy, ho⟩
      · rw [List.mem_singleton.mp q]
        exact List.any_eq_true.mpr ⟨h, List.mem_append_right _ (List.mem_singleton_self _), over_self rh⟩
    · refine List.pairwise_append.mpr ⟨P.anti, List.pairwise_singleton _ _, fun x hx y hy => ?_⟩
      rw [List.mem_singleton.mp hy]
      refine ⟨no x hx, ?_⟩
      cases q : overB x h with
      | false => rfl
      | true =>
        have rx := hr x (List.mem_append_left _ (P.sub x hx))
        have e : x = h := sum_eq (by rw [rx.1, rh.1]) (overB_iff.mp q) (hs x (P.sub x hx))
        have := no x hx
        rw [e, over_self rh] at this
        cases this
theorem picked_all {hs : List (List Int)} (hr : ∀ x ∈ hs, RowP n x) (hp : hs.Pairwise fun x y => x.sum ≤ y.sum) : ∀ k, k ≤ hs.length → Picked n (hs.take k) ((hs.take k).foldl pickF [])
  | 0, _ => ⟨fun x hx => by simp at hx, fun x hx => by simp at hx, List.Pairwise.nil⟩
  | k + 1, h => by
    have ih := picked_all hr hp k (by omega)
    have hk : hs[k]? = some hs[k] := List.getElem?_eq_getElem (by omega)
    rw [take_more hk, List.foldl_append]
    refine picked_step (h := hs[k]) (fun x hx => ?_) (fun x hx => ?_) ih
    · rw [← take_more hk] at hx
      exact hr x (List.mem_of_mem_take hx)
    · obtain ⟨i, hi, rfl⟩ := List.getElem_of_mem hx
      rw [List.length_take] at hi
      rw [List.getElem_take]
      exact List.pairwise_iff_getElem.mp hp i k (by omega) (by omega) (by omega)
structure LeastOk (n : Nat) (hs made : List (List Int)) : Prop where
  sub : ∀ x ∈ made, x ∈ hs
  cov : ∀ x ∈ hs, overOne x made = true
  anti : made.Pairwise fun x y => overB y x = false ∧ overB x y = false
  rise : made.Pairwise fun x y => lexL x y = true
theorem lexL_ne : ∀ {a b : List Int}, a.length = b.length → lexL b a = false → a ≠ b → lexL a b = true
  | [], [], _, _, h => absurd rfl h
  | x :: a, y :: b, hl, h1, h2 => by
    unfold lexL at h1 ⊢
    by_cases e : x = y
    · subst e
      rw [if_pos rfl] at h1 ⊢
      exact lexL_ne (by simpa using hl) h1 fun q => h2 (by rw [q])
    · rw [if_neg (Ne.symm e)] at h1
      rw [if_neg e]
      have := of_decide_eq_false h1
      exact decide_eq_true (by omega)
  | [], _ :: _, hl, _, _ => by simp at hl
  | _ :: _, [], hl, _, _ => by simp at hl
theorem least_ok {hs : List (List Int)} (hr : ∀ x ∈ hs, RowP n x) : LeastOk n hs (leastF hs) := by
  have hsr : ∀ x ∈ isort sumLt hs, RowP n x := fun x hx => hr x ((isort_perm _ _).mem_iff.mp hx)
  have hsp : (isort sumLt hs).Pairwise fun x y => x.sum ≤ y.sum := (isort_srtd sumLt_swo hs).imp fun {x y} h => by
    have := of_decide_eq_false h
    omega
  have P := picked_all hsr hsp (isort sumLt hs).length (Nat.le_refl _)
  rw [List.take_of_length_le (Nat.le_refl _)] at P
  have pm : ∀ x, x ∈ leastF hs ↔ x ∈ (isort sumLt hs).foldl pickF [] := fun x => (isort_perm _ _).mem_iff
  refine ⟨fun x hx => (isort_perm _ _).mem_iff.mp (P.sub x ((pm x).mp hx)), fun x hx => ?_, ?_, ?_⟩
  · obtain ⟨y, hy, ho⟩ := List.any_eq_true.mp (P.cov x ((isort_perm _ _).mem_iff.mpr hx))
    exact List.any_eq_true.mpr ⟨y, (pm y).mpr hy, ho⟩
  · exact ((isort_perm lexL _).pairwise_iff (fun {x y} h => ⟨h.2, h.1⟩)).mpr P.anti
  · have hs1 := isort_srtd lexL_swo ((isort sumLt hs).foldl pickF [])
    have hs2 : (leastF hs).Pairwise fun x y => overB y x = false ∧ overB x y = false := ((isort_perm lexL _).pairwise_iff (fun {x y} h => ⟨h.2, h.1⟩)).mpr P.anti
    refine (hs1.and hs2).imp_of_mem ?_
    intro x y hx hy ⟨h1, h2, _⟩
    have rx := hsr x (P.sub x ((pm x).mp hx))
    have ry := hsr y (P.sub y ((pm y).mp hy))
    refine lexL_ne (by rw [rx.1, ry.1]) h1 fun e => ?_
    rw [e, over_self ry] at h2
    cases h2
end

/-! ### what was met: runs, walls -/
section
variable {n : Nat} {ms : MvS} {g : List Int} {G : Nat}
noncomputable def metH (ms : MvS) (g : List Int) : List (List Int) := (metF ms g).map (·.h)
noncomputable def sillF (ms : MvS) (g : List Int) : List (List Int) := leastF (metH ms g)
theorem met_rows (H : Hy n ms g G) : ∀ x ∈ metH ms g, RowP n x := fun x hx => by
  obtain ⟨y, hy, rfl⟩ := List.mem_map.mp hx
  exact (met_done H).rows y hy
theorem met_len (H : Hy n ms g G) : (metF ms g).length ≤ bndN := (met_done H).count H
/-- of each that was met and each move: what must be before is over one that was met -/
theorem met_closed (H : Hy n ms g G) {y : MItem} (hy : y ∈ metF ms g) {m : Nat} (hm : m < ms.length) : ∃ x ∈ metF ms g, overB (befM ms m y.h) x.h = true ∧ x.r.length ≤ y.r.length + 1 := by
  obtain ⟨a, ha, rfl⟩ := List.getElem_of_mem hy
  exact (met_done H).closed a _ m (List.getElem?_eq_getElem ha) hm (.inl (Nat.lt_of_lt_of_le ha (met_stop H)))
theorem met_reach (H : Hy n ms g G) (r : List Nat) (hm : ∀ m ∈ r, m < ms.length) : ∃ x ∈ metF ms g, x.r.length ≤ r.length ∧ ∀ k, hN x.h k ≤ preR (tkN ms) (gvN ms) r (hN g) k :=
  (met_done H).reach H (B := r.length) (fun a y ey _ => Nat.lt_of_lt_of_le (List.getElem?_eq_some_iff.mp ey).1 (met_stop H)) r hm (Nat.le_refl _)
theorem met_goal (H : Hy n ms g G) : g ∈ metH ms g := List.mem_map.mpr ⟨_, List.mem_of_getElem? (met_done H).first, rfl⟩
theorem bef_mono (H : Hy n ms g G) {m : Nat} (hm : m < ms.length) {a b : List Int} (ra : RowP n a) (rb : RowP n b) (h : overB a b = true) : overB (befM ms m a) (befM ms m b) = true := by
  refine (over_hN (H.bef_row hm ra) (H.bef_row hm rb)).mpr fun k => ?_
  rw [H.bef_hN hm ra, H.bef_hN hm rb]
  exact pre_le _ _ ((over_hN ra rb).mp h k)
theorem one_of {h : List Int} {l : List (List Int)} {x : List Int} (hx : x ∈ l) (ho : overB h x = true) : overOne h l = true := List.any_eq_true.mpr ⟨x, hx, ho⟩
/-- a fence: hoards, rising, none over another one, the goal over one, closed backwards -/
structure Fence (n : Nat) (ms : MvS) (g : List Int) (hs : List (List Int)) : Prop where
  rows : ∀ x ∈ hs, RowP n x
  goal : overOne g hs = true
  rise : hs.Pairwise fun x y => lexL x y = true
  anti : hs.Pairwise fun x y => overB y x = false ∧ overB x y = false
  back : ∀ x ∈ hs, ∀ m, m < ms.length → overOne (befM ms m x) hs = true
theorem sill_fence (H : Hy n ms g G) : Fence n ms g (sillF ms g) := by
  have L := least_ok (met_rows H)
  have hr : ∀ x ∈ sillF ms g, RowP n x := fun x hx => met_rows H x (L.sub x hx)
  refine ⟨hr, L.cov g (met_goal H), L.rise, L.anti, fun x hx m hm => ?_⟩
  obtain ⟨y, hy, rfl⟩ := List.mem_map.mp (L.sub x hx)
  obtain ⟨z, hz, ho, _⟩ := met_closed H hy hm
  have hzm : z.h ∈ metH ms g := List.mem_map.mpr ⟨z, hz, rfl⟩
  obtain ⟨u, hu, ho2⟩ := List.any_eq_true.mp (L.cov z.h hzm)
  exact one_of hu (over_tr (H.bef_row hm (hr _ hx)) (met_rows H _ hzm) (hr u hu) ho ho2)
/-- the first that was met and is under the start -/
noncomputable def hitF (ms : MvS) (st g : List Int) : Option MItem := (metF ms g).find? fun x => overB st x.h
theorem hit_none {st : List Int} (h : hitF ms st g = none) : overOne st (metH ms g) = false := by
  unfold overOne metH
  rw [List.any_map, List.any_eq_false]
  intro x hx
  have := List.find?_eq_none.mp h x hx
  exact this
theorem hit_wall (H : Hy n ms g G) {st : List Int} (h : hitF ms st g = none) : overOne st (sillF ms g) = false := by
  cases q : overOne st (sillF ms g) with
  | false => rfl
  | true =>
    obtain ⟨y, hy, ho⟩ := List.any_eq_true.mp q
    have := one_of ((least_ok (met_rows H)).sub y hy) ho
    rw [hit_none h] at this
    cases this
/-- no run of fewer moves -/
theorem hit_short (H : Hy n ms g G) {st : List Int} (rs : RowP n st) {x : MItem} (h : hitF ms st g = some x) (r : List Nat) (hm : ∀ m ∈ r, m < ms.length) (hr : ∀ k, preR (tkN ms) (gvN ms) r (hN g) k ≤ hN st k) : x.r.length ≤ r.length := by
  obtain ⟨y, hy, l1, c1⟩ := met_reach H r hm
  have ho : overB st y.h = true := (over_hN rs ((met_done H).rows y hy)).mpr fun k => Nat.le_trans (c1 k) (hr k)
  obtain ⟨as, bs, e, hno⟩ := (List.find?_eq_some_iff_append.mp h).2
  have hm := (met_done H).mono
  rw [e] at hm hy
  rcases List.mem_append.mp hy with q | q
  · have := hno y q
    rw [ho] at this
    cases this
  · rcases List.mem_cons.mp q with rfl | q
    · exact l1
    · have := (List.pairwise_cons.mp (List.pairwise_append.mp hm).2.1).1 y q
      omega
theorem hit_some (H : Hy n ms g G) {st : List Int} (rs : RowP n st) {r : List Nat} (hm : ∀ m ∈ r, m < ms.length) (hr : ∀ k, preR (tkN ms) (gvN ms) r (hN g) k ≤ hN st k) : ∃ x, hitF ms st g = some x := by
  obtain ⟨y, hy, _, c1⟩ := met_reach H r hm
  have ho : overB st y.h = true := (over_hN rs ((met_done H).rows y hy)).mpr fun k => Nat.le_trans (c1 k) (hr k)
  cases e : hitF ms st g with
  | some x => exact ⟨x, rfl⟩
  | none =>
    have := List.find?_eq_none.mp e y hy
    exact absurd ho this
theorem hit_run (H : Hy n ms g G) {st : List Int} (rs : RowP n st) {x : MItem} (h : hitF ms st g = some x) : (∀ m ∈ x.r, m < ms.length) ∧ ∀ k, preR (tkN ms) (gvN ms) x.r (hN g) k ≤ hN st k := by
  have hx := List.mem_of_find?_eq_some h
  have ho : overB st x.h = true := List.find?_some (p := fun x : MItem => overB st x.h) h
  have hr := (met_done H).run x hx
  refine ⟨hr.2, fun k => ?_⟩
  rw [← hr.1]
  exact (over_hN rs ((met_done H).rows x hx)).mp ho k
/-- a run leads over -/
theorem led_row (H : Hy n ms g G) {m : Nat} (hm : m < ms.length) {h : List Int} (rh : RowP n h) (ho : overB h (mvA ms m).1 = true) : RowP n (ledR h (mvA ms m).1 (mvA ms m).2) := by
  refine ⟨by rw [led_len]; exact rh.1, fun x hx => ?_⟩
  unfold ledR at hx
  obtain ⟨j, hj, rfl⟩ := List.mem_map.mp hx
  have hj' := List.mem_range.mp hj
  have h1 := overB_iff.mp ho j (by rw [(H.rows _ (H.mv hm)).1, ← rh.1]; exact hj')
  have h2 := H.gv0 hm j
  omega
theorem run_leads (H : Hy n ms g G) : ∀ (r : List Nat) (st : List Int), RowP n st → (∀ m ∈ r, m < ms.length) → (∀ k, preR (tkN ms) (gvN ms) r (hN g) k ≤ hN st k) → ∃ e, walkR ms st r = some e ∧ RowP n e ∧ overB e g = true
  | [], st, rs, _, h => ⟨st, rfl, rs, (over_hN rs H.g_row).mpr h⟩
  | m :: r, st, rs, hm, h => by
    have hm0 := hm m List.mem_cons_self
    have hrow := H.rows _ (H.mv hm0)
    have rt : RowP n (mvA ms m).1 := ⟨hrow.1, fun x hx => (hrow.2.2.1 x hx).1⟩
    have hstep : ∀ k, tkN ms m k + (preR (tkN ms) (gvN ms) r (hN g) k - gvN ms m k) ≤ hN st k := h
    have ho : overB st (mvA ms m).1 = true := (over_hN rs rt).mpr fun k => by
      have := hstep k
      show ((mvA ms m).1.getD k 0).toNat ≤ hN st k
      have e : tkN ms m k = ((mvA ms m).1.getD k 0).toNat := rfl
      omega
    have rl := led_row H hm0 rs ho
    obtain ⟨e, h1, h2, h3⟩ := run_leads H r _ rl (fun p hp => hm p (List.mem_cons_of_mem _ hp)) fun k => by
      have hk := hstep k
      by_cases hkn : k < n
      · show _ ≤ ((ledR st _ _).getD k 0).toNat
        rw [led_get (by rw [rs.1]; exact hkn)]
        have a1 : tkN ms m k = ((mvA ms m).1.getD k 0).toNat := rfl
        have a2 : gvN ms m k = ((mvA ms m).2.getD k 0).toNat := rfl
        have a3 : hN st k = (st.getD k 0).toNat := rfl
        have t0 := H.tk0 hm0 k
        have v0 := H.gv0 hm0 k
        have s0 := rs.nn k
        omega
      · have z1 : gvN ms m k = 0 := by
          unfold gvN
          rw [getD_out (by rw [hrow.2.1]; omega)]
          rfl
        rw [rs.out (by omega)] at hk
        rw [rl.out (by omega)]
        omega
    refine ⟨e, ?_, h2, h3⟩
    unfold walkR
    rw [List.foldlM_cons]
    have es : stepR ms st m = some (ledR st (mvA ms m).1 (mvA ms m).2) := by
      unfold stepR
      have em : ms[m]? = some (mvA ms m) := by
        unfold mvA
        rw [List.getD_eq_getElem?_getD, List.getElem?_eq_getElem hm0]
        rfl
      rw [em]
      show (if overB st (mvA ms m).1 = true then _ else _) = _
      rw [if_pos ho]
    rw [es]
    exact h1
end
end Tw

/-! Tw24: rows among rows; lists of rows compared. -/
namespace Tw
open PySem PySem.Spec PyProof.Rows L2 PyProof
theorem units65 {k : Nat} {A : Around} (r : Room k A) : A.units + 65 < cLine := by have := r.un; omega
theorem lay_rows : ∀ hs : List (List Int), PyData.canLayAll0 (hs.map rowD) = true
  | [] => rfl
  | x :: hs => by
    show (PyData.canLayAll0 (x.map .int) && PyData.canLayAll0 (hs.map rowD)) = true
    rw [lay_ints, lay_rows hs]
    rfl
theorem depth_rows : ∀ hs : List (List Int), PyData.depthAll (hs.map rowD) ≤ 1
  | [] => by decide
  | x :: hs => by
    have h1 := depth_rows hs
    have h2 := depth_ints x
    show max (PyData.depthAll (x.map .int) + 1) (PyData.depthAll (hs.map rowD)) ≤ 1
    omega
theorem shaped_rows (hs : List (List Int)) : SeqAt.shaped (.list (hs.map rowD)) = true := shaped_of (lay_rows hs) (by
  have := depth_rows hs
  show PyData.depthAll (hs.map rowD) + 1 ≤ 64
  omega)
theorem any_rows (x : List Int) : ∀ ys : List (List Int), ((ys.map rowD).any fun z => PyData.eqv z (rowD x)) = ys.contains x
  | [] => rfl
  | y :: ys => by
    rw [List.map_cons, List.any_cons, List.contains_cons, any_rows x ys, eqv_row]
    by_cases h : y = x
    · subst h
      simp
    · have h2 : (x == y) = false := beq_eq_false_iff_ne.mpr (Ne.symm h)
      rw [decide_eq_false h, h2]
section
variable {K : PySem.W.Frag}
theorem rd_notInRows {x : List Int} {ys : List (List Int)} : R2D K (rNotInD K) (rowD x) (.list (ys.map rowD)) (.bool (!ys.contains x)) := fun H I v u s r1 r2 Q q => by
  refine ⟨rowD x, ys.map rowD, (r1.mono s).dp (lay_ints x), (r2.mono s).dp (lay_rows ys), shaped_row x, shaped_rows ys, ?_⟩
  have e := any_rows x ys
  rw [e]
  exact q _ H I (Nx.refl s) (.bl _)
end
end Tw

/-! Tw25: in plain Lean: sums, vectors of whole numbers, how many can be independent. -/
namespace Tw
def sumN : Nat → (Nat → Int) → Int
  | 0, _ => 0
  | n + 1, f => sumN n f + f n
theorem sumN_congr {f g : Nat → Int} : ∀ {n : Nat}, (∀ k, k < n → f k = g k) → sumN n f = sumN n g
  | 0, _ => rfl
  | n + 1, h => by
    unfold sumN
    rw [sumN_congr (n := n) fun k hk => h k (by omega), h n (by omega)]
theorem sumN_zero : ∀ {n : Nat} {f : Nat → Int}, (∀ k, k < n → f k = 0) → sumN n f = 0
  | 0, _, _ => rfl
  | n + 1, f, h => by
    unfold sumN
    rw [sumN_zero (n := n) fun k hk => h k (by omega), h n (by omega)]
    rfl
theorem sumN_add (f g : Nat → Int) : ∀ n : Nat, sumN n (fun k => f k + g k) = sumN n f + sumN n g
  | 0 => rfl
  | n + 1 => by
    show sumN n (fun k => f k + g k) + (f n + g n) = (sumN n f + f n) + (sumN n g + g n)
    rw [sumN_add f g n]
    omega
theorem sumN_mul (c : Int) (f : Nat → Int) : ∀ n : Nat, sumN n (fun k => c * f k) = c * sumN n f
  | 0 => by unfold sumN; rw [Int.mul_zero]
  | n + 1 => by
    show sumN n (fun k => c * f k) + c * f n = c * (sumN n f + f n)
    rw [sumN_mul c f n, Int.mul_add]
theorem sumN_neg (f : Nat → Int) : ∀ n : Nat, sumN n (fun k => - f k) = - sumN n f
  | 0 => rfl
  | n + 1 => by
    show sumN n (fun k => - f k) + (- f n) = - (sumN n f + f n)
    rw [sumN_neg f n]
    omega
theorem sumN_swap (f : Nat → Nat → Int) (n : Nat) : ∀ m : Nat, sumN m (fun i => sumN n (fun j => f i j)) = sumN n (fun j => sumN m (fun i => f i j))
  | 0 => (sumN_zero fun _ _ => rfl).symm
  | m + 1 => by
    show sumN m (fun i => sumN n (fun j => f i j)) + sumN n (fun j => f m j) = sumN n (fun j => sumN m (fun i => f i j) + f m j)
    rw [sumN_swap f n m, sumN_add]
theorem sumN_nn {f : Nat → Int} : ∀ {n : Nat}, (∀ k, k < n → 0 ≤ f k) → 0 ≤ sumN n f
  | 0, _ => Int.le_refl _
  | n + 1, h => by
    unfold sumN
    have := sumN_nn (n := n) fun k hk => h k (by omega)
    have := h n (by omega)
    omega
theorem sumN_none {f : Nat → Int} : ∀ {n : Nat}, (∀ k, k < n → 0 ≤ f k) → sumN n f = 0 → ∀ k, k < n → f k = 0
  | 0, _, _, k, hk => by omega
  | n + 1, h, hs, k, hk => by
    unfold sumN at hs
    have h1 := sumN_nn (n := n) fun k hk => h k (by omega)
    have h2 := h n (by omega)
    by_cases e : k = n
    · subst e; omega
    · exact sumN_none (n := n) (fun k hk => h k (by omega)) (by omega) k (by omega)
theorem sumN_one {f : Nat → Int} {j : Nat} : ∀ {n : Nat}, j < n → (∀ k, k < n → k ≠ j → f k = 0) → sumN n f = f j
  | 0, h, _ => by omega
  | n + 1, h, hz => by
    unfold sumN
    by_cases e : j = n
    · subst e
      rw [sumN_zero fun k hk => hz k (by omega) (by omega), Int.zero_add]
    · rw [sumN_one (n := n) (by omega) fun k hk => hz k (by omega), hz n (by omega) (by omega), Int.add_zero]
theorem sumN_two {f : Nat → Int} {i j : Nat} {n : Nat} (hi : i < n) (hj : j < n) (hij : i ≠ j) (hz : ∀ k, k < n → k ≠ i → k ≠ j → f k = 0) : sumN n f = f i + f j := by
  have e : sumN n f = sumN n (fun k => (if k = i then f k else 0) + (if k = i then 0 else f k)) := sumN_congr fun k _ => by
    by_cases h : k = i <;> simp [h]
  rw [e, sumN_add, sumN_one (j := i) hi (fun k _ h => if_neg h), sumN_one (j := j) hj (fun k hk h => by
    by_cases q : k = i
    · rw [if_pos q]
    · rw [if_neg q]
      exact hz k hk q h), if_pos rfl, if_neg (Ne.symm hij)]
theorem sumN_more {f : Nat → Int} {n : Nat} : ∀ {m : Nat}, (∀ k, n ≤ k → k < n + m → f k = 0) → sumN (n + m) f = sumN n f
  | 0, _ => rfl
  | m + 1, h => by
    show sumN (n + m) f + f (n + m) = _
    rw [sumN_more (m := m) fun k a b => h k a (by omega), h (n + m) (by omega) (by omega), Int.add_zero]
theorem sumN_split (f : Nat → Int) (a : Nat) : ∀ b : Nat, sumN (a + b) f = sumN a f + sumN b (fun i => f (a + i))
  | 0 => by
    show sumN a f = sumN a f + 0
    omega
  | b + 1 => by
    show sumN (a + b) f + f (a + b) = sumN a f + (sumN b _ + f (a + b))
    rw [sumN_split f a b]
    omega
/-- all but the p-th -/
theorem sumN_skip (f : Nat → Int) : ∀ {n p : Nat}, p < n + 1 → sumN (n + 1) f = sumN n (fun i => f (if i < p then i else i + 1)) + f p
  | 0, p, h => by
    have : p = 0 := by omega
    subst this
    rfl
  | n + 1, p, h => by
    by_cases e : p = n + 1
    · subst e
      show sumN (n + 1) f + f (n + 1) = _
      congr 1
      exact sumN_congr fun k hk => by rw [if_pos hk]
    · have ih := sumN_skip f (n := n) (p := p) (by omega)
      show sumN (n + 1) f + f (n + 1) = (sumN n (fun i => f (if i < p then i else i + 1)) + f (if n < p then n else n + 1)) + f p
      rw [ih, if_neg (by omega)]
      omega
/-- one more vector than places: they depend on one another -/
theorem depend : ∀ (k : Nat) (v : Nat → Nat → Int), ∃ c : Nat → Int, (∃ i, i < k + 1 ∧ c i ≠ 0) ∧ ∀ j, j < k → sumN (k + 1) (fun i => c i * v i j) = 0
  | 0, v => ⟨fun _ => 1, ⟨0, by omega, by decide⟩, fun j hj => by omega⟩
  | k + 1, v => by
    by_cases hall : ∀ i, i < k + 2 → v i k = 0
    · obtain ⟨c, ⟨i, hi, hc⟩, hs⟩ := depend k v
      refine ⟨fun i => if i < k + 1 then c i else 0, ⟨i, by omega, by (try dsimp only); rw [if_pos hi]; exact hc⟩, fun j hj => ?_⟩
      show sumN (k + 1) _ + (if k + 1 < k + 1 then c (k + 1) else 0) * v (k + 1) j = 0
      rw [if_neg (by omega), Int.zero_mul, Int.add_zero]
      by_cases e : j = k
      · subst e
        exact sumN_zero fun i hi => by rw [hall i (by omega), Int.mul_zero]
      · exact (sumN_congr fun i hi => by (try dsimp only); rw [if_pos hi]).trans (hs j (by omega))
    · obtain ⟨p, hp, ha⟩ : ∃ p, p < k + 2 ∧ v p k ≠ 0 := by
        apply Classical.byContradiction
        intro hno
        exact hall fun i hi => by
          apply Classical.byContradiction
          intro h
          exact hno ⟨i, hi, h⟩
      obtain ⟨c, ⟨i0, hi0, hc⟩, hs⟩ := depend k fun i j => v p k * v (if i < p then i else i + 1) j - v (if i < p then i else i + 1) k * v p j
      refine ⟨fun i => if i = p then - sumN (k + 1) (fun i => c i * v (if i < p then i else i + 1) k) else v p k * c (if i < p then i else i - 1), ⟨if i0 < p then i0 else i0 + 1, by split <;> omega, ?_⟩, fun j hj => ?_⟩
      · have e1 : (if i0 < p then i0 else i0 + 1) ≠ p := by split <;> omega
        have e2 : (if (if i0 < p then i0 else i0 + 1) < p then (if i0 < p then i0 else i0 + 1) else (if i0 < p then i0 else i0 + 1) - 1) = i0 := by
          by_cases h : i0 < p
          · simp [h]
          · rw [if_neg h, if_neg (by omega)]
            omega
        try dsimp only
        rw [if_neg e1, e2]
        exact Int.mul_ne_zero ha hc
      · rw [sumN_skip _ hp]
        try dsimp only
        rw [if_pos rfl]
        have e3 : sumN (k + 1) (fun i => (if (if i < p then i else i + 1) = p then - sumN (k + 1) (fun i => c i * v (if i < p then i else i + 1) k) else v p k * c (if (if i < p then i else i + 1) < p then (if i < p then i else i + 1) else (if i < p then i else i + 1) - 1)) * v (if i < p then i else i + 1) j) = sumN (k + 1) (fun i => c i * (v p k * v (if i < p then i else i + 1) j)) := sumN_congr fun i hi => by
          have e1 : (if i < p then i else i + 1) ≠ p := by split <;> omega
          have e2 : (if (if i < p then i else i + 1) < p then (if i < p then i else i + 1) else (if i < p then i else i + 1) - 1) = i := by
            by_cases h : i < p
            · simp [h]
            · rw [if_neg h, if_neg (by omega)]
              omega
          try dsimp only
          rw [if_neg e1, e2, Int.mul_comm (v p k) (c i), Int.mul_assoc]
        rw [e3]
        -- what the elimination tells at j; at the last place it is nought by itself
        have e4 : sumN (k + 1) (fun i => c i * (v p k * v (if i < p then i else i + 1) j - v (if i < p then i else i + 1) k * v p j)) = 0 := by
          by_cases e : j = k
          · subst e
            exact sumN_zero fun i hi => by
              try dsimp only
              rw [Int.mul_comm (v p j), Int.sub_self, Int.mul_zero]
          · exact hs j (by omega)
        have e5 : sumN (k + 1) (fun i => c i * (v p k * v (if i < p then i else i + 1) j - v (if i < p then i else i + 1) k * v p j)) = sumN (k + 1) (fun i => c i * (v p k * v (if i < p then i else i + 1) j)) + - (sumN (k + 1) (fun i => c i * v (if i < p then i else i + 1) k) * v p j) := by
          rw [Int.mul_comm (sumN _ _) (v p j), ← sumN_mul, ← sumN_neg, ← sumN_add]
          refine sumN_congr fun i _ => ?_
          try dsimp only
          rw [Int.mul_sub, Int.sub_eq_add_neg, ← Int.mul_assoc (c i) (v _ k) (v p j), Int.mul_comm (c i * v _ k) (v p j)]
        rw [e5] at e4
        rw [Int.neg_mul]
        exact e4
theorem depend' {m k : Nat} (h : k < m) (v : Nat → Nat → Int) : ∃ c : Nat → Int, (∃ i, i < m ∧ c i ≠ 0) ∧ ∀ j, j < k → sumN m (fun i => c i * v i j) = 0 := by
  obtain ⟨c, ⟨i, hi, hc⟩, hs⟩ := depend k v
  obtain ⟨d, rfl⟩ := Nat.le.dest (show k + 1 ≤ m from h)
  refine ⟨fun i => if i < k + 1 then c i else 0, ⟨i, by omega, by (try dsimp only); rw [if_pos hi]; exact hc⟩, fun j hj => ?_⟩
  rw [sumN_more fun i h1 h2 => by (try dsimp only); rw [if_neg (by omega), Int.zero_mul]]
  exact (sumN_congr fun i hi => by (try dsimp only); rw [if_pos hi]).trans (hs j hj)
/-- no sum of them, but for the one without any, is nought -/
def Indep (a N : Nat) (u : Nat → Nat → Int) : Prop := ∀ c : Nat → Int, (∀ j, j < N → sumN a (fun i => c i * u i j) = 0) → ∀ i, i < a → c i = 0
def dotN (N : Nat) (x y : Nat → Int) : Int := sumN N (fun k => x k * y k)
theorem dot_comm (N : Nat) (x y : Nat → Int) : dotN N x y = dotN N y x := sumN_congr fun k _ => Int.mul_comm _ _
theorem dot_sum_right (N a : Nat) (x : Nat → Int) (c : Nat → Int) (u : Nat → Nat → Int) : dotN N x (fun j => sumN a (fun i => c i * u i j)) = sumN a (fun i => c i * dotN N x (u i)) := by
  unfold dotN
  have e : sumN N (fun k => x k * sumN a (fun i => c i * u i k)) = sumN N (fun k => sumN a (fun i => x k * (c i * u i k))) := sumN_congr fun k _ => (sumN_mul _ _ _).symm
  rw [e, sumN_swap]
  refine sumN_congr fun i _ => ?_
  try dsimp only
  rw [← sumN_mul]
  exact sumN_congr fun k _ => by (try dsimp only); rw [← Int.mul_assoc, Int.mul_comm (x k) (c i), Int.mul_assoc]
/-- each with a place of its own -/
theorem indep_own {a N : Nat} {u : Nat → Nat → Int} (col : Nat → Nat) (hc : ∀ i, i < a → col i < N) (h1 : ∀ i, i < a → u i (col i) ≠ 0) (h0 : ∀ i i', i < a → i' < a → i' ≠ i → u i' (col i) = 0) : Indep a N u := fun c hs i hi => by
  have h := hs (col i) (hc i hi)
  rw [sumN_one (j := i) hi fun k hk hki => by rw [h0 i k hi hk hki, Int.mul_zero]] at h
  rcases Int.mul_eq_zero.mp h with q | q
  · exact q
  · exact absurd q (h1 i hi)
theorem dot_self {N : Nat} {x : Nat → Int} (h : dotN N x x = 0) : ∀ j, j < N → x j = 0 := fun j hj => by
  have := sumN_none (f := fun k => x k * x k) (fun k _ => by
    rcases Int.le_total 0 (x k) with q | q
    · exact Int.mul_nonneg q q
    · exact Int.mul_nonneg_of_nonpos_of_nonpos q q) h j hj
  rcases Int.mul_eq_zero.mp this with q | q <;> exact q
/-- two independent families that stand at right angles have no more vectors than there are places -/
theorem orth_count {a b N : Nat} {u v : Nat → Nat → Int} (hu : Indep a N u) (hv : Indep b N v) (ho : ∀ i j, i < a → j < b → dotN N (u i) (v j) = 0) : a + b ≤ N := by
  rcases Nat.lt_or_ge N (a + b) with h | h
  · exfalso
    obtain ⟨c, ⟨i, hi, hc⟩, hs⟩ := depend' h fun i => if i < a then u i else v (i - a)
    have split : ∀ j, j < N → sumN a (fun i => c i * u i j) + sumN b (fun i => c (a + i) * v i j) = 0 := fun j hj => by
      have h1 := hs j hj
      rw [sumN_split] at h1
      rw [← h1]
      congr 1
      · exact sumN_congr fun i hi => by (try dsimp only); rw [if_pos hi]
      · exact sumN_congr fun i hi => by (try dsimp only); rw [if_neg (by omega), show a + i - a = i by omega]
    have hx : dotN N (fun j => sumN a (fun i => c i * u i j)) (fun j => sumN a (fun i => c i * u i j)) = 0 := by
      have e : dotN N (fun j => sumN a (fun i => c i * u i j)) (fun j => sumN a (fun i => c i * u i j)) = - dotN N (fun j => sumN a (fun i => c i * u i j)) (fun j => sumN b (fun i => c (a + i) * v i j)) := by
        unfold dotN
        rw [← sumN_neg]
        refine sumN_congr fun j hj => ?_
        have h1 : sumN a (fun i => c i * u i j) = - sumN b (fun i => c (a + i) * v i j) := by
          have := split j hj
          omega
        rw [← Int.mul_neg, ← h1]
      rw [e, dot_sum_right]
      rw [sumN_zero fun i hi => by
        rw [dot_comm, dot_sum_right, sumN_zero fun k hk => by rw [dot_comm, ho k i hk hi, Int.mul_zero], Int.mul_zero]]
      rfl
    have h0 := dot_self hx
    by_cases hia : i < a
    · exact hc (hu c h0 i hia)
    · have := hv (fun i => c (a + i)) (fun j hj => by
        have h1 := split j hj
        have h2 := h0 j hj
        try dsimp only at h2
        omega) (i - a) (by omega)
      rw [show a + (i - a) = i by omega] at this
      exact hc this
  · exact h
end Tw

/-! Tw26: in plain Lean: rows without a common divisor, elimination, grounds. -/
namespace Tw
def vec (r : List Int) : Nat → Int := fun k => r.getD k 0
def gcdL (r : List Int) : Nat := r.foldl (fun g x => Nat.gcd g x.natAbs) 0
def firstL (r : List Int) : Int := r.foldl (fun f x => if f = 0 then x else f) 0
def sgnL (r : List Int) : Int := if firstL r < 0 then -(gcdL r : Int) else gcdL r
def plainF (r : List Int) : List Int := if gcdL r = 0 then r else r.map fun x => x.fdiv (sgnL r)
theorem gfold_dvd : ∀ (r : List Int) (g : Nat), r.foldl (fun g x => Nat.gcd g x.natAbs) g ∣ g ∧ ∀ x ∈ r, r.foldl (fun g x => Nat.gcd g x.natAbs) g ∣ x.natAbs
  | [], g => ⟨Nat.dvd_refl _, by simp⟩
  | y :: r, g => by
    obtain ⟨h1, h2⟩ := gfold_dvd r (Nat.gcd g y.natAbs)
    refine ⟨Nat.dvd_trans h1 (Nat.gcd_dvd_left _ _), fun x hx => ?_⟩
    rcases List.mem_cons.mp hx with rfl | hx
    · exact Nat.dvd_trans h1 (Nat.gcd_dvd_right _ _)
    · exact h2 x hx
theorem gcdL_dvd {r : List Int} {x : Int} (hx : x ∈ r) : gcdL r ∣ x.natAbs := (gfold_dvd r 0).2 x hx
theorem gcdL_zero {r : List Int} (h : gcdL r = 0) : ∀ x ∈ r, x = 0 := fun x hx => by
  have := gcdL_dvd hx
  rw [h] at this
  have := Nat.eq_zero_of_zero_dvd this
  omega
theorem gfold_mul (c : Int) : ∀ (r : List Int) (g : Nat), (r.map (c * ·)).foldl (fun g x => Nat.gcd g x.natAbs) (c.natAbs * g) = c.natAbs * r.foldl (fun g x => Nat.gcd g x.natAbs) g
  | [], g => rfl
  | y :: r, g => by
    rw [List.map_cons, List.foldl_cons, List.foldl_cons, Int.natAbs_mul, Nat.gcd_mul_left, gfold_mul c r]
theorem gcdL_mul (c : Int) (r : List Int) : gcdL (r.map (c * ·)) = c.natAbs * gcdL r := by
  have := gfold_mul c r 0
  rw [Nat.mul_zero] at this
  exact this
theorem ffold_stay : ∀ (r : List Int) (f : Int), f ≠ 0 → r.foldl (fun f x => if f = 0 then x else f) f = f
  | [], _, _ => rfl
  | y :: r, f, h => by
    rw [List.foldl_cons, if_neg h]
    exact ffold_stay r f h
theorem firstL_at : ∀ {r : List Int} {q : Nat}, q < r.length → r.getD q 0 ≠ 0 → (∀ k, k < q → r.getD k 0 = 0) → firstL r = r.getD q 0
  | [], q, h, _, _ => by simp at h
  | y :: r, 0, _, h, _ => by
    have h : y ≠ 0 := h
    show r.foldl _ (if (0 : Int) = 0 then y else 0) = y
    rw [if_pos rfl]
    exact ffold_stay r y h
  | y :: r, q + 1, hl, h, h0 => by
    have hy : y = 0 := h0 0 (by omega)
    show r.foldl _ (if (0 : Int) = 0 then y else 0) = (y :: r).getD (q + 1) 0
    rw [if_pos rfl, hy]
    exact firstL_at (r := r) (q := q) (by simpa using hl) (by simpa using h) fun k hk => by
      have := h0 (k + 1) (by omega)
      simpa using this
theorem sgn_abs (r : List Int) : (sgnL r).natAbs = gcdL r := by
  unfold sgnL
  split <;> omega
theorem vec_out {r : List Int} {k : Nat} (h : r.length ≤ k) : vec r k = 0 := by
  unfold vec
  rw [List.getD_eq_getElem?_getD, List.getElem?_eq_none_iff.mpr h]
  rfl
theorem vec_mem {r : List Int} {k : Nat} (h : k < r.length) : vec r k ∈ r := by
  unfold vec
  rw [List.getD_eq_getElem?_getD, List.getElem?_eq_getElem h]
  exact List.getElem_mem h
theorem vec_map {r : List Int} {f : Int → Int} (h0 : f 0 = 0) (k : Nat) : vec (r.map f) k = f (vec r k) := by
  unfold vec
  rw [List.getD_eq_getElem?_getD, List.getD_eq_getElem?_getD, List.getElem?_map]
  cases r[k]? with
  | none => exact h0.symm
  | some x => rfl
theorem vec_ext {a b : List Int} (hl : a.length = b.length) (h : ∀ k, k < a.length → vec a k = vec b k) : a = b := by
  apply List.ext_getElem hl
  intro k h1 h2
  have := h k h1
  unfold vec at this
  rw [List.getD_eq_getElem?_getD, List.getD_eq_getElem?_getD, List.getElem?_eq_getElem h1, List.getElem?_eq_getElem h2] at this
  exact this
theorem plain_len (r : List Int) : (plainF r).length = r.length := by
  unfold plainF
  split
  · rfl
  · rw [List.length_map]
/-- the row is so many times the plain one -/
structure Plain (r : List Int) (c : Int) : Prop where
  ne : c ≠ 0
  eq : ∀ k, vec r k = c * vec (plainF r) k
  one : (∃ k, vec r k ≠ 0) → gcdL (plainF r) = 1
  pos : ∀ q, vec r q ≠ 0 → (∀ k, k < q → vec r k = 0) → 0 < vec (plainF r) q
theorem plain_ok (r : List Int) : ∃ c, Plain r c := by
  by_cases hg : gcdL r = 0
  · have e : plainF r = r := by unfold plainF; rw [if_pos hg]
    have hz : ∀ k, vec r k = 0 := fun k => by
      by_cases hk : k < r.length
      · exact gcdL_zero hg _ (vec_mem hk)
      · exact vec_out (by omega)
    refine ⟨1, by decide, fun k => by rw [e, Int.one_mul], fun ⟨k, hk⟩ => absurd (hz k) hk, fun q hq _ => absurd (hz q) hq⟩
  · have hc : sgnL r ≠ 0 := fun z => hg (by rw [← sgn_abs, z]; rfl)
    have e : plainF r = r.map fun x => x.fdiv (sgnL r) := by unfold plainF; rw [if_neg hg]
    have hv : ∀ k, vec (plainF r) k = (vec r k).fdiv (sgnL r) := fun k => by
      rw [e, vec_map (f := fun x => x.fdiv (sgnL r)) (Int.zero_fdiv _)]
    have hd : ∀ k, sgnL r ∣ vec r k := fun k => by
      by_cases hk : k < r.length
      · have := gcdL_dvd (vec_mem hk)
        rw [← sgn_abs] at this
        exact Int.natAbs_dvd_natAbs.mp this
      · rw [vec_out (by omega)]
        exact Int.dvd_zero _
    have heq : ∀ k, vec r k = sgnL r * vec (plainF r) k := fun k => by
      obtain ⟨b, hb⟩ := hd k
      rw [hv k, hb, Int.mul_fdiv_cancel_left _ hc]
    refine ⟨sgnL r, hc, heq, fun _ => ?_, fun q hq h0 => ?_⟩
    · have em : r = (plainF r).map (sgnL r * ·) := vec_ext (by rw [List.length_map, plain_len]) fun k _ => by
        rw [vec_map (f := fun x => sgnL r * x) (Int.mul_zero _)]
        exact heq k
      have hm := gcdL_mul (sgnL r) (plainF r)
      rw [← em, sgn_abs] at hm
      have hp : 0 < gcdL r := by omega
      exact (Nat.mul_eq_left (by omega)).mp hm.symm
    · have hql : q < r.length := by
        rcases Nat.lt_or_ge q r.length with h | h
        · exact h
        · exact absurd (vec_out h) hq
      have hf := firstL_at hql hq h0
      have h1 := heq q
      have hf : firstL r = vec r q := hf
      unfold sgnL at h1
      rw [hf] at h1
      have hp : (0 : Int) < gcdL r := by omega
      split at h1
      · rename_i hneg
        rcases Int.lt_trichotomy (vec (plainF r) q) 0 with a | a | a
        · exfalso
          have := Int.mul_pos hp (show 0 < - vec (plainF r) q by omega)
          rw [Int.mul_neg] at this
          rw [Int.neg_mul] at h1
          omega
        · rw [a, Int.mul_zero] at h1
          exact absurd h1 hq
        · exact a
      · rename_i hneg
        rcases Int.lt_trichotomy (vec (plainF r) q) 0 with a | a | a
        · exfalso
          have := Int.mul_pos hp (show 0 < - vec (plainF r) q by omega)
          rw [Int.mul_neg] at this
          omega
        · rw [a, Int.mul_zero] at h1
          exact absurd h1 hq
        · exact a
theorem plain_small {r : List Int} {b : Nat} (h : ∀ x ∈ r, x.natAbs < 2 ^ b) : ∀ x ∈ plainF r, x.natAbs < 2 ^ b := fun x hx => by
  obtain ⟨k, hk, rfl⟩ := List.getElem_of_mem hx
  obtain ⟨c, P⟩ := plain_ok r
  have hk' : k < r.length := by rw [plain_len] at hk; exact hk
  have e : vec (plainF r) k = (plainF r)[k] := by
    unfold vec
    rw [List.getD_eq_getElem?_getD, List.getElem?_eq_getElem hk]
    rfl
  have h1 := h _ (vec_mem hk')
  rw [P.eq k, e, Int.natAbs_mul] at h1
  have hc : 1 ≤ c.natAbs := by
    have := P.ne
    omega
  have : (plainF r)[k].natAbs ≤ c.natAbs * (plainF r)[k].natAbs := Nat.le_mul_of_pos_left _ hc
  omega
/-- one row less another one, each so often that a place is nought -/
def combL (r o : List Int) (p : Nat) : List Int := (List.range r.length).map fun k => r.getD k 0 * o.getD p 0 - o.getD k 0 * r.getD p 0
def easeF (r o : List Int) (p : Nat) : List Int := plainF (combL r o p)
theorem comb_len (r o : List Int) (p : Nat) : (combL r o p).length = r.length := by
  unfold combL
  rw [List.length_map, List.length_range]
theorem comb_vec {r o : List Int} {p : Nat} (h : o.length ≤ r.length) (k : Nat) : vec (combL r o p) k = vec r k * vec o p - vec o k * vec r p := by
  by_cases hk : k < r.length
  · unfold vec combL
    rw [List.getD_eq_getElem?_getD, List.getElem?_map, List.getElem?_range hk]
    rfl
  · rw [vec_out (r := combL r o p) (k := k) (by rw [comb_len]; omega), vec_out (r := r) (k := k) (by omega), vec_out (r := o) (k := k) (by omega), Int.zero_mul, Int.zero_mul]
    rfl
theorem ease_len (r o : List Int) (p : Nat) : (easeF r o p).length = r.length := by
  unfold easeF
  rw [plain_len, comb_len]
/-! ### elimination -/
def headStep (p : Nat) (s : List (List Int) × List (List Int)) : List (List Int) × List (List Int) := match s.2.filter (fun r => decide (r.getD p 0 ≠ 0)) with
  | [] => s
  | f :: _ => (s.1.map (fun r => easeF r (plainF f) p) ++ [plainF f], s.2.map fun r => easeF r (plainF f) p)
def headsS (R : List (List Int)) : Nat → List (List Int) × List (List Int)
  | 0 => ([], R)
  | p + 1 => headStep p (headsS R p)
def headsF (N : Nat) (R : List (List Int)) : List (List Int) := (headsS R N).1
structure HI (N : Nat) (R : List (List Int)) (p : Nat) (made left : List (List Int)) (ps : List Nat) : Prop where
  lm : ∀ r ∈ made, r.length = N
  ll : ∀ r ∈ left, r.length = N
  z : ∀ r ∈ left, ∀ k, k < p → vec r k = 0
  pl : ps.length = made.length
  pp : ps.Pairwise (· < ·)
  pb : ∀ q ∈ ps, q < p
  hd : ∀ (i : Nat) r q, made[i]? = some r → ps[i]? = some q → 0 < vec r q ∧ (∀ k, k < q → vec r k = 0) ∧ gcdL r = 1
  ow : ∀ (i j : Nat) r q, made[i]? = some r → ps[j]? = some q → i ≠ j → vec r q = 0
  or : ∀ x : Nat → Int, (∀ r ∈ R, dotN N x (vec r) = 0) ↔ (∀ r ∈ made, dotN N x (vec r) = 0) ∧ ∀ r ∈ left, dotN N x (vec r) = 0
theorem dot_scale {N : Nat} {x : Nat → Int} {r s : List Int} {c : Int} (h : ∀ k, vec r k = c * vec s k) : dotN N x (vec r) = c * dotN N x (vec s) := by
  unfold dotN
  rw [← sumN_mul]
  exact sumN_congr fun k _ => by
    rw [h k, ← Int.mul_assoc, Int.mul_comm (x k) c, Int.mul_assoc]
theorem dot_comb {N : Nat} {x : Nat → Int} {r o : List Int} {p : Nat} (h : o.length ≤ r.length) : dotN N x (vec (combL r o p)) = vec o p * dotN N x (vec r) - vec r p * dotN N x (vec o) := by
  unfold dotN
  rw [← sumN_mul, ← sumN_mul, Int.sub_eq_add_neg, ← sumN_neg, ← sumN_add]
  exact sumN_congr fun k _ => by
    rw [comb_vec h, Int.mul_sub, Int.sub_eq_add_neg]
    congr 1
    · rw [← Int.mul_assoc, Int.mul_comm (vec o p)]
    · congr 1
      rw [← Int.mul_assoc, Int.mul_comm (vec r p)]
theorem HI.start {N : Nat} {R : List (List Int)} (h : ∀ r ∈ R, r.length = N) : HI N R 0 [] R [] :=
  ⟨by simp, h, fun r hr k hk => by omega, rfl, List.Pairwise.nil, by simp, fun i r q e => by simp at e, fun i j r q e => by simp at e, fun x => ⟨fun h => ⟨by simp, h⟩, fun h => h.2⟩⟩
theorem HI.step {N : Nat} {R : List (List Int)} {p : Nat} {made left : List (List Int)} {ps : List Nat} (I : HI N R p made left ps) (hp : p < N) :
    ∃ ps', HI N R (p + 1) (headStep p (made, left)).1 (headStep p (made, left)).2 ps' := by
  unfold headStep
  cases hf : left.filter (fun r => decide (r.getD p 0 ≠ 0)) with
  | nil =>
    refine ⟨ps, I.lm, I.ll, fun r hr k hk => ?_, I.pl, I.pp, fun q hq => by have := I.pb q hq; omega, I.hd, I.ow, I.or⟩
    by_cases e : k = p
    · subst e
      have := List.filter_eq_nil_iff.mp hf r hr
      apply Classical.byContradiction
      intro h
      exact this (decide_eq_true h)
    · exact I.z r hr k (by omega)
  | cons f fs =>
    show ∃ ps', HI N R (p + 1) (made.map (fun r => easeF r (plainF f) p) ++ [plainF f]) (left.map fun r => easeF r (plainF f) p) ps'
    have hfm : f ∈ left ∧ decide (f.getD p 0 ≠ 0) = true := List.mem_filter.mp (by rw [hf]; exact List.mem_cons_self)
    have hfl := I.ll f hfm.1
    have hfp : vec f p ≠ 0 := of_decide_eq_true hfm.2
    have hfz := I.z f hfm.1
    obtain ⟨c, P⟩ := plain_ok f
    have hl : (plainF f).length = N := by rw [plain_len, hfl]
    have hhp : 0 < vec (plainF f) p := P.pos p hfp hfz
    have hhz : ∀ k, k < p → vec (plainF f) k = 0 := fun k hk => by
      have := P.eq k
      rw [hfz k hk] at this
      rcases Int.mul_eq_zero.mp this.symm with q | q
      · exact absurd q P.ne
      · exact q
    have hg1 : gcdL (plainF f) = 1 := P.one ⟨p, hfp⟩
    generalize hh : plainF f = head at hl hhp hhz hg1 ⊢
    -- a row, eased
    have eas : ∀ r : List Int, r.length = N → ∃ d, d ≠ 0 ∧ (∀ k, d * vec (easeF r head p) k = vec r k * vec head p - vec head k * vec r p) ∧ (∀ q, vec r q * vec head p - vec head q * vec r p ≠ 0 → (∀ k, k < q → vec r k * vec head p - vec head k * vec r p = 0) → 0 < vec (easeF r head p) q ∧ gcdL (easeF r head p) = 1) := fun r hr => by
      obtain ⟨d, Q⟩ := plain_ok (combL r head p)
      have hle : head.length ≤ r.length := by omega
      refine ⟨d, Q.ne, fun k => by rw [← comb_vec hle]; exact (Q.eq k).symm, fun q h1 h2 => ?_⟩
      rw [← comb_vec hle] at h1
      exact ⟨Q.pos q h1 fun k hk => by rw [comb_vec hle]; exact h2 k hk, Q.one ⟨q, h1⟩⟩
    have ez : ∀ r : List Int, r.length = N → ∀ k, vec r k * vec head p - vec head k * vec r p = 0 → vec (easeF r head p) k = 0 := fun r hr k h => by
      obtain ⟨d, hd, he, _⟩ := eas r hr
      have := he k
      rw [h] at this
      rcases Int.mul_eq_zero.mp this with q | q
      · exact absurd q hd
      · exact q
    have ezp : ∀ r : List Int, r.length = N → vec (easeF r head p) p = 0 := fun r hr => ez r hr p (by rw [Int.mul_comm, Int.sub_self])
    have edot : ∀ (x : Nat → Int) (r : List Int), r.length = N → dotN N x (vec head) = 0 → (dotN N x (vec (easeF r head p)) = 0 ↔ dotN N x (vec r) = 0) := fun x r hr h0 => by
      obtain ⟨d, hd, he, _⟩ := eas r hr
      have hle : head.length ≤ r.length := by omega
      have e1 : dotN N x (vec (combL r head p)) = d * dotN N x (vec (easeF r head p)) := dot_scale fun k => by rw [comb_vec hle]; exact (he k).symm
      rw [dot_comb hle, h0, Int.mul_zero, Int.sub_zero] at e1
      constructor
      · intro h
        rw [h, Int.mul_zero] at e1
        rcases Int.mul_eq_zero.mp e1 with q | q
        · omega
        · exact q
      · intro h
        rw [h, Int.mul_zero] at e1
        rcases Int.mul_eq_zero.mp e1.symm with q | q
        · exact absurd q hd
        · exact q
    have getm : ∀ {i : Nat} {r : List Int}, (made.map (fun r => easeF r head p) ++ [head])[i]? = some r → (∃ s, made[i]? = some s ∧ r = easeF s head p) ∨ (i = made.length ∧ r = head) := fun {i r} e => by
      by_cases hi : i < made.length
      · rw [List.getElem?_append_left (by rw [List.length_map]; exact hi), List.getElem?_map, List.getElem?_eq_getElem hi] at e
        exact .inl ⟨_, List.getElem?_eq_getElem hi, (Option.some.inj e).symm⟩
      · have hil := (List.getElem?_eq_some_iff.mp e).1
        rw [List.length_append, List.length_map, List.length_singleton] at hil
        have : i = made.length := by omega
        subst this
        rw [List.getElem?_append_right (by rw [List.length_map]; exact Nat.le_refl _), List.length_map, Nat.sub_self] at e
        exact .inr ⟨rfl, (Option.some.inj e).symm⟩
    have getp : ∀ {i q : Nat}, (ps ++ [p])[i]? = some q → ps[i]? = some q ∨ (i = made.length ∧ q = p) := fun {i q} e => by
      by_cases hi : i < ps.length
      · rw [List.getElem?_append_left hi] at e
        exact .inl e
      · have hil := (List.getElem?_eq_some_iff.mp e).1
        rw [List.length_append, List.length_singleton] at hil
        have : i = ps.length := by omega
        subst this
        rw [List.getElem?_append_right (Nat.le_refl _), Nat.sub_self] at e
        exact .inr ⟨I.pl, (Option.some.inj e).symm⟩
    refine ⟨ps ++ [p], fun r hr => ?_, fun r hr => ?_, fun r hr k hk => ?_, by rw [List.length_append, List.length_append, List.length_map, I.pl]; rfl, ?_, fun q hq => ?_, fun i r q e1 e2 => ?_, fun i j r q e1 e2 hij => ?_, fun x => ?_⟩
    · rcases List.mem_append.mp hr with q | q
      · obtain ⟨s, hs, rfl⟩ := List.mem_map.mp q
        rw [ease_len, I.lm s hs]
      · rw [List.mem_singleton.mp q, hl]
    · obtain ⟨s, hs, rfl⟩ := List.mem_map.mp hr
      rw [ease_len, I.ll s hs]
    · obtain ⟨s, hs, rfl⟩ := List.mem_map.mp hr
      by_cases e : k = p
      · subst e
        exact ezp s (I.ll s hs)
      · exact ez s (I.ll s hs) k (by rw [I.z s hs k (by omega), hhz k (by omega), Int.zero_mul, Int.zero_mul]; rfl)
    · exact List.pairwise_append.mpr ⟨I.pp, List.pairwise_singleton _ _, fun a ha b hb => by rw [List.mem_singleton.mp hb]; exact I.pb a ha⟩
    · rcases List.mem_append.mp hq with h | h
      · have := I.pb q h
        omega
      · rw [List.mem_singleton.mp h]
        omega
    · rcases getm e1 with ⟨s, hs, rfl⟩ | ⟨h1, rfl⟩
      · rcases getp e2 with h2 | ⟨h2, _⟩
        · have hsm := List.mem_of_getElem? hs
          obtain ⟨a1, a2, a3⟩ := I.hd i s q hs h2
          have hq := I.pb q (List.mem_of_getElem? h2)
          have hhq := hhz q hq
          obtain ⟨d, hd, he, hpos⟩ := eas s (I.lm s hsm)
          have e0 : ∀ k, k < q → vec s k * vec head p - vec head k * vec s p = 0 := fun k hk => by
            rw [a2 k hk, hhz k (by omega), Int.zero_mul, Int.zero_mul]
            rfl
          have e1 : vec s q * vec head p - vec head q * vec s p ≠ 0 := by
            rw [hhq, Int.zero_mul, Int.sub_zero]
            exact Int.mul_ne_zero (by omega) (by omega)
          obtain ⟨b1, b2⟩ := hpos q e1 e0
          exact ⟨b1, fun k hk => ez s (I.lm s hsm) k (e0 k hk), b2⟩
        · have := (List.getElem?_eq_some_iff.mp hs).1
          omega
      · rcases getp e2 with h2 | ⟨_, rfl⟩
        · have := (List.getElem?_eq_some_iff.mp h2).1
          rw [I.pl] at this
          omega
        · exact ⟨hhp, hhz, hg1⟩
    · rcases getm e1 with ⟨s, hs, rfl⟩ | ⟨h1, rfl⟩
      · have hsm := List.mem_of_getElem? hs
        rcases getp e2 with h2 | ⟨_, rfl⟩
        · have hq := I.pb q (List.mem_of_getElem? h2)
          exact ez s (I.lm s hsm) q (by rw [I.ow i j s q hs h2 hij, hhz q hq, Int.zero_mul, Int.zero_mul]; rfl)
        · exact ezp s (I.lm s hsm)
      · rcases getp e2 with h2 | ⟨h2, _⟩
        · exact hhz q (I.pb q (List.mem_of_getElem? h2))
        · omega
    · rw [I.or x]
      have hfd : dotN N x (vec f) = c * dotN N x (vec head) := by
        refine dot_scale fun k => ?_
        rw [← hh]
        exact P.eq k
      constructor
      · rintro ⟨m1, m2⟩
        have h0 : dotN N x (vec head) = 0 := by
          have := m2 f hfm.1
          rw [hfd] at this
          rcases Int.mul_eq_zero.mp this with q | q
          · exact absurd q P.ne
          · exact q
        refine ⟨fun r hr => ?_, fun r hr => ?_⟩
        · rcases List.mem_append.mp hr with q | q
          · obtain ⟨s, hs, rfl⟩ := List.mem_map.mp q
            exact (edot x s (I.lm s hs) h0).mpr (m1 s hs)
          · rw [List.mem_singleton.mp q]
            exact h0
        · obtain ⟨s, hs, rfl⟩ := List.mem_map.mp hr
          exact (edot x s (I.ll s hs) h0).mpr (m2 s hs)
      · rintro ⟨m1, m2⟩
        have h0 : dotN N x (vec head) = 0 := m1 head (List.mem_append_right _ (List.mem_singleton_self _))
        exact ⟨fun r hr => (edot x r (I.lm r hr) h0).mp (m1 _ (List.mem_append_left _ (List.mem_map.mpr ⟨r, hr, rfl⟩))), fun r hr => (edot x r (I.ll r hr) h0).mp (m2 _ (List.mem_map.mpr ⟨r, hr, rfl⟩))⟩
theorem heads_inv {N : Nat} {R : List (List Int)} (h : ∀ r ∈ R, r.length = N) : ∀ p, p ≤ N → ∃ ps, HI N R p (headsS R p).1 (headsS R p).2 ps
  | 0, _ => ⟨[], HI.start h⟩
  | p + 1, hp => by
    obtain ⟨ps, I⟩ := heads_inv h p (by omega)
    exact I.step (by omega)
/-- a ground: the rows' first places rise, each nought in all other rows; no common divisor; the same stands at right angles -/
structure Ground (N : Nat) (R H : List (List Int)) (ps : List Nat) : Prop where
  len : ∀ r ∈ H, r.length = N
  pl : ps.length = H.length
  pp : ps.Pairwise (· < ·)
  pb : ∀ q ∈ ps, q < N
  hd : ∀ (i : Nat) r q, H[i]? = some r → ps[i]? = some q → 0 < vec r q ∧ (∀ k, k < q → vec r k = 0) ∧ gcdL r = 1
  ow : ∀ (i j : Nat) r q, H[i]? = some r → ps[j]? = some q → i ≠ j → vec r q = 0
  or : ∀ x : Nat → Int, (∀ r ∈ R, dotN N x (vec r) = 0) ↔ ∀ r ∈ H, dotN N x (vec r) = 0
theorem heads_ground {N : Nat} {R : List (List Int)} (h : ∀ r ∈ R, r.length = N) : ∃ ps, Ground N R (headsF N R) ps := by
  obtain ⟨ps, I⟩ := heads_inv h N (Nat.le_refl _)
  refine ⟨ps, I.lm, I.pl, I.pp, I.pb, I.hd, I.ow, fun x => ?_⟩
  rw [I.or x]
  refine ⟨fun h => h.1, fun h => ⟨h, fun r hr => sumN_zero fun k hk => by rw [I.z r hr k hk, Int.mul_zero]⟩⟩
theorem ground_indep {N : Nat} {R H : List (List Int)} {ps : List Nat} (g : Ground N R H ps) : Indep H.length N fun i => vec (H.getD i []) := by
  have get : ∀ {i}, i < H.length → H[i]? = some (H.getD i []) := fun {i} hi => by
    rw [List.getD_eq_getElem?_getD, List.getElem?_eq_getElem hi]
    rfl
  have getp : ∀ {i}, i < H.length → ps[i]? = some (ps.getD i 0) := fun {i} hi => by
    rw [List.getD_eq_getElem?_getD, List.getElem?_eq_getElem (by rw [g.pl]; exact hi)]
    rfl
  refine indep_own (fun i => ps.getD i 0) (fun i hi => g.pb _ (List.mem_of_getElem? (getp hi))) (fun i hi => ?_) (fun i i' hi hi' hne => g.ow i' i _ _ (get hi') (getp hi) hne)
  have := (g.hd i _ _ (get hi) (getp hi)).1
  omega
/-! ### the law's own count -/
def rankStep (p : Nat) (s : Nat × List (List Int)) : Nat × List (List Int) := match s.2.filter (fun r => decide (r.getD p 0 ≠ 0)) with
  | [] => s
  | f :: _ => (s.1 + 1, s.2.map fun r => combL r f p)
def rankS (R : List (List Int)) : Nat → Nat × List (List Int)
  | 0 => (0, R)
  | p + 1 => rankStep p (rankS R p)
def rankF (N : Nat) (R : List (List Int)) : Nat := (rankS R N).1
def Like (N : Nat) (r s : List Int) : Prop := r.length = N ∧ s.length = N ∧ ∃ a b : Int, a ≠ 0 ∧ b ≠ 0 ∧ ∀ k, a * vec r k = b * vec s k
inductive LikeAll (N : Nat) : List (List Int) → List (List Int) → Prop
  | nil : LikeAll N [] []
  | cons {r s : List Int} {R S : List (List Int)} : Like N r s → LikeAll N R S → LikeAll N (r :: R) (s :: S)
theorem Like.refl {N : Nat} {r : List Int} (h : r.length = N) : Like N r r := ⟨h, h, 1, 1, by decide, by decide, fun _ => rfl⟩
theorem LikeAll.refl {N : Nat} : ∀ {R : List (List Int)}, (∀ r ∈ R, r.length = N) → LikeAll N R R
  | [], _ => .nil
  | r :: R, h => .cons (Like.refl (h r List.mem_cons_self)) (LikeAll.refl fun s hs => h s (List.mem_cons_of_mem _ hs))
theorem Like.zero {N : Nat} {r s : List Int} (h : Like N r s) (k : Nat) : (vec r k ≠ 0) ↔ (vec s k ≠ 0) := by
  obtain ⟨_, _, a, b, ha, hb, he⟩ := h
  have := he k
  constructor
  · intro h1 h2
    rw [h2, Int.mul_zero] at this
    rcases Int.mul_eq_zero.mp this with q | q
    · exact ha q
    · exact h1 q
  · intro h1 h2
    rw [h2, Int.mul_zero] at this
    rcases Int.mul_eq_zero.mp this.symm with q | q
    · exact hb q
    · exact h1 q
theorem like_filter {N p : Nat} : ∀ {R S : List (List Int)}, LikeAll N R S → LikeAll N (R.filter fun r => decide (r.getD p 0 ≠ 0)) (S.filter fun r => decide (r.getD p 0 ≠ 0))
  | _, _, .nil => .nil
  | _, _, .cons (r := r) (s := s) h t => by
    have ih := like_filter (p := p) t
    have hz : (r.getD p 0 ≠ 0) ↔ (s.getD p 0 ≠ 0) := h.zero p
    by_cases e : r.getD p 0 ≠ 0
    · rw [List.filter_cons, if_pos (decide_eq_true e), List.filter_cons, if_pos (decide_eq_true (hz.mp e))]
      exact .cons h ih
    · rw [List.filter_cons, if_neg (by rw [decide_eq_false e]; decide), List.filter_cons, if_neg (by rw [decide_eq_false (fun q => e (hz.mpr q))]; decide)]
      exact ih
theorem like_plain {N : Nat} {r s : List Int} (h : Like N r s) : Like N (plainF r) s := by
  obtain ⟨h1, h2, a, b, ha, hb, he⟩ := h
  obtain ⟨c, P⟩ := plain_ok r
  refine ⟨by rw [plain_len]; exact h1, h2, a * c, b, Int.mul_ne_zero ha P.ne, hb, fun k => ?_⟩
  rw [Int.mul_assoc, ← P.eq k]
  exact he k
theorem like_comb {N p : Nat} {r s f h : List Int} (h1 : Like N r s) (h2 : Like N f h) : Like N (combL r f p) (combL s h p) := by
  obtain ⟨l1, l2, a, b, ha, hb, he⟩ := h1
  obtain ⟨l3, l4, c, d, hc, hd, hf⟩ := h2
  refine ⟨by rw [comb_len]; exact l1, by rw [comb_len]; exact l2, a * c, b * d, Int.mul_ne_zero ha hc, Int.mul_ne_zero hb hd, fun k => ?_⟩
  rw [comb_vec (by omega), comb_vec (by omega), Int.mul_sub, Int.mul_sub]
  have e : ∀ i j, a * c * (vec r i * vec f j) = b * d * (vec s i * vec h j) := fun i j => by
    have x1 : a * c * (vec r i * vec f j) = (a * vec r i) * (c * vec f j) := by
      rw [Int.mul_assoc, Int.mul_assoc, Int.mul_left_comm c]
    have x2 : b * d * (vec s i * vec h j) = (b * vec s i) * (d * vec h j) := by
      rw [Int.mul_assoc, Int.mul_assoc, Int.mul_left_comm d]
    rw [x1, x2, he i, hf j]
  rw [e k p, Int.mul_comm (vec f k) (vec r p), Int.mul_comm (vec h k) (vec s p), e p k]
theorem like_map {N p : Nat} {f h : List Int} (hf : Like N f h) : ∀ {R S : List (List Int)}, LikeAll N R S → LikeAll N (R.map fun r => easeF r f p) (S.map fun r => combL r h p)
  | _, _, .nil => .nil
  | _, _, .cons a t => .cons (like_plain (like_comb a hf)) (like_map hf t)
theorem rank_heads {N : Nat} {R : List (List Int)} (h : ∀ r ∈ R, r.length = N) : ∀ p, (headsS R p).1.length = (rankS R p).1 ∧ LikeAll N (headsS R p).2 (rankS R p).2
  | 0 => ⟨rfl, LikeAll.refl h⟩
  | p + 1 => by
    obtain ⟨i1, i2⟩ := rank_heads h p
    show (headStep p (headsS R p)).1.length = (rankStep p (rankS R p)).1 ∧ LikeAll N (headStep p (headsS R p)).2 (rankStep p (rankS R p)).2
    have hf := like_filter (p := p) i2
    unfold headStep rankStep
    generalize (headsS R p).2.filter (fun r => decide (r.getD p 0 ≠ 0)) = A at hf
    generalize (rankS R p).2.filter (fun r => decide (r.getD p 0 ≠ 0)) = B at hf
    cases hf with
    | nil => exact ⟨i1, i2⟩
    | cons a t =>
      refine ⟨?_, like_map (like_plain a) i2⟩
      show (List.map _ _ ++ [_]).length = _
      rw [List.length_append, List.length_map, i1]
      rfl
theorem rank_eq {N : Nat} {R : List (List Int)} (h : ∀ r ∈ R, r.length = N) : rankF N R = (headsF N R).length := (rank_heads h N).1.symm
end Tw

/-! Tw27: in plain Lean: what is at right angles to some rows; how many; how large. -/
namespace Tw
def headOf : List Int → Nat
  | [] => 0
  | x :: r => if x = 0 then headOf r + 1 else 0
theorem headOf_at : ∀ {r : List Int} {q : Nat}, vec r q ≠ 0 → (∀ k, k < q → vec r k = 0) → headOf r = q
  | [], q, h, _ => absurd (vec_out (by simp)) h
  | y :: r, 0, h, _ => by
    have h : y ≠ 0 := h
    unfold headOf
    rw [if_neg h]
  | y :: r, q + 1, h, h0 => by
    have hy : y = 0 := h0 0 (by omega)
    unfold headOf
    rw [if_pos hy, headOf_at (r := r) (q := q) (by unfold vec at h ⊢; simpa using h) fun k hk => by
      have := h0 (k + 1) (by omega)
      unfold vec at this ⊢
      simpa using this]
def wStep (w : Int) (x : List Int × Nat) : Int := w.fdiv (Int.gcd w (x.1.getD x.2 0)) * x.1.getD x.2 0
def wholeF (H : List (List Int)) (ps : List Nat) : Int := (H.zip ps).foldl wStep 1
theorem wstep_ok {w h : Int} (hw : 0 < w) (hh : 0 < h) : 0 < w.fdiv (Int.gcd w h) * h ∧ w ∣ w.fdiv (Int.gcd w h) * h ∧ h ∣ w.fdiv (Int.gcd w h) * h ∧ w.fdiv (Int.gcd w h) * h ≤ w * h := by
  have hg : (Int.gcd w h : Int) ≠ 0 := fun z => by
    have h1 : Int.gcd w h = 0 := by omega
    have := (Int.gcd_eq_zero_iff.mp h1).1
    omega
  have hgp : (0 : Int) < Int.gcd w h := by omega
  obtain ⟨a, ha⟩ := Int.gcd_dvd_left (a := w) (b := h)
  obtain ⟨b, hb⟩ := Int.gcd_dvd_right (a := w) (b := h)
  have e : w.fdiv (Int.gcd w h) = a := by
    have : ((Int.gcd w h : Int) * a).fdiv (Int.gcd w h) = a := Int.mul_fdiv_cancel_left _ hg
    rw [← ha] at this
    exact this
  rw [e]
  have hap : 0 < a := by
    rcases Int.lt_trichotomy a 0 with q | q | q
    · have := Int.mul_neg_of_pos_of_neg hgp q
      omega
    · rw [q, Int.mul_zero] at ha
      omega
    · exact q
  refine ⟨Int.mul_pos hap hh, ⟨b, ?_⟩, Int.dvd_mul_left _ _, ?_⟩
  · rw [ha, Int.mul_assoc, Int.mul_left_comm, ← hb]
  · refine Int.mul_le_mul_of_nonneg_right ?_ (by omega)
    rw [ha]
    have : (1 : Int) * a ≤ (Int.gcd w h : Int) * a := Int.mul_le_mul_of_nonneg_right (by omega) (by omega)
    omega
theorem whole_ok : ∀ (l : List (List Int × Nat)) (w : Int), 0 < w → (∀ x ∈ l, 0 < x.1.getD x.2 0) → 0 < l.foldl wStep w ∧ w ∣ l.foldl wStep w ∧ ∀ x ∈ l, x.1.getD x.2 0 ∣ l.foldl wStep w
  | [], w, hw, _ => ⟨hw, Int.dvd_refl _, by simp⟩
  | y :: l, w, hw, h => by
    have hy := h y List.mem_cons_self
    obtain ⟨a1, a2, a3, _⟩ := wstep_ok hw hy
    obtain ⟨b1, b2, b3⟩ := whole_ok l (wStep w y) a1 fun x hx => h x (List.mem_cons_of_mem _ hx)
    refine ⟨b1, Int.dvd_trans a2 b2, fun x hx => ?_⟩
    rcases List.mem_cons.mp hx with rfl | hx
    · exact Int.dvd_trans a3 b2
    · exact b3 x hx
def nStep (f : Nat) (whole : Int) (s : List Int) (x : List Int × Nat) : List Int := s.set x.2 (-(x.1.getD f 0) * whole.fdiv (x.1.getD x.2 0))
def noughtRow (N : Nat) (H : List (List Int)) (ps : List Nat) (whole : Int) (f : Nat) : List Int := (H.zip ps).foldl (nStep f whole) ((List.replicate N 0).set f whole)
def freeF (N : Nat) (ps : List Nat) : List Nat := (List.range N).filter fun f => decide (f ∉ ps)
def madeF (N : Nat) (H : List (List Int)) (ps : List Nat) (whole : Int) : List (List Int) := (freeF N ps).map (noughtRow N H ps whole)
def noughtsF (N : Nat) (R : List (List Int)) : List (List Int) := headsF N (madeF N (headsF N R) ((headsF N R).map headOf) (wholeF (headsF N R) ((headsF N R).map headOf)))
theorem nfold_len (f : Nat) (whole : Int) : ∀ (l : List (List Int × Nat)) (s : List Int), (l.foldl (nStep f whole) s).length = s.length
  | [], s => rfl
  | y :: l, s => by
    rw [List.foldl_cons, nfold_len f whole l]
    unfold nStep
    rw [List.length_set]
theorem nought_len (N : Nat) (H : List (List Int)) (ps : List Nat) (whole : Int) (f : Nat) : (noughtRow N H ps whole f).length = N := by
  unfold noughtRow
  rw [nfold_len, List.length_set, List.length_replicate]
theorem vec_set {s : List Int} {i k : Nat} {v : Int} (hi : i < s.length) : vec (s.set i v) k = if k = i then v else vec s k := by
  unfold vec
  rw [List.getD_eq_getElem?_getD, List.getD_eq_getElem?_getD]
  by_cases h : k = i
  · subst h
    rw [List.getElem?_set_self hi, if_pos rfl]
    rfl
  · rw [List.getElem?_set_ne (Ne.symm h), if_neg h]
theorem nfold_out (f : Nat) (whole : Int) : ∀ (l : List (List Int × Nat)) (s : List Int) (k : Nat), (∀ x ∈ l, x.2 < s.length) → (∀ x ∈ l, x.2 ≠ k) → vec (l.foldl (nStep f whole) s) k = vec s k
  | [], s, k, _, _ => rfl
  | y :: l, s, k, h1, h2 => by
    rw [List.foldl_cons, nfold_out f whole l _ k (fun x hx => by unfold nStep; rw [List.length_set]; exact h1 x (List.mem_cons_of_mem _ hx)) fun x hx => h2 x (List.mem_cons_of_mem _ hx)]
    unfold nStep
    rw [vec_set (h1 y List.mem_cons_self), if_neg (Ne.symm (h2 y List.mem_cons_self))]
theorem nfold_in (f : Nat) (whole : Int) : ∀ (l : List (List Int × Nat)) (s : List Int) (x : List Int × Nat), (∀ x ∈ l, x.2 < s.length) → (l.map (·.2)).Nodup → x ∈ l → vec (l.foldl (nStep f whole) s) x.2 = -(x.1.getD f 0) * whole.fdiv (x.1.getD x.2 0)
  | [], s, x, _, _, h => by cases h
  | y :: l, s, x, h1, h2, h => by
    rw [List.foldl_cons]
    have hl : ∀ x ∈ l, x.2 < (nStep f whole s y).length := fun x hx => by unfold nStep; rw [List.length_set]; exact h1 x (List.mem_cons_of_mem _ hx)
    rw [List.map_cons] at h2
    obtain ⟨n1, n2⟩ := List.nodup_cons.mp h2
    rcases List.mem_cons.mp h with rfl | h
    · rw [nfold_out f whole l _ _ hl fun z hz e => n1 (List.mem_map.mpr ⟨z, hz, e⟩)]
      unfold nStep
      rw [vec_set (h1 x List.mem_cons_self), if_pos rfl]
    · exact nfold_in f whole l _ x hl n2 h
section
variable {N : Nat} {R H : List (List Int)} {ps : List Nat}
theorem Ground.heads (g : Ground N R H ps) : H.map headOf = ps := by
  apply List.ext_getElem (by rw [List.length_map, g.pl])
  intro i h1 h2
  rw [List.length_map] at h1
  rw [List.getElem_map]
  obtain ⟨a, b, _⟩ := g.hd i _ _ (List.getElem?_eq_getElem h1) (List.getElem?_eq_getElem h2)
  exact headOf_at (by omega) b
theorem Ground.nodup (g : Ground N R H ps) : ps.Nodup := g.pp.imp fun {a b} h e => by omega
theorem Ground.pivots (g : Ground N R H ps) : ∀ x ∈ H.zip ps, 0 < x.1.getD x.2 0 := fun x hx => by
  obtain ⟨i, hi, rfl⟩ := List.getElem_of_mem hx
  rw [List.length_zip] at hi
  rw [List.getElem_zip]
  exact (g.hd i _ _ (List.getElem?_eq_getElem (by omega)) (List.getElem?_eq_getElem (by omega))).1
theorem Ground.whole (g : Ground N R H ps) : 0 < wholeF H ps ∧ ∀ x ∈ H.zip ps, x.1.getD x.2 0 ∣ wholeF H ps := by
  obtain ⟨a, _, b⟩ := whole_ok (H.zip ps) 1 (by decide) g.pivots
  exact ⟨a, b⟩
theorem Ground.zip_lt (g : Ground N R H ps) : ∀ x ∈ H.zip ps, x.2 < N := fun x hx => g.pb _ (List.of_mem_zip hx).2
theorem Ground.zip_nodup (g : Ground N R H ps) : ((H.zip ps).map (·.2)).Nodup := by
  rw [List.map_snd_zip (by rw [g.pl]; exact Nat.le_refl _)]
  exact g.nodup
theorem free_mem {f : Nat} : f ∈ freeF N ps ↔ f < N ∧ f ∉ ps := by
  unfold freeF
  rw [List.mem_filter, List.mem_range, decide_eq_true_eq]
/-- the row of a free place: what it holds there, at the heads' places, elsewhere -/
theorem nought_free (g : Ground N R H ps) {f : Nat} (hf : f ∈ freeF N ps) (whole : Int) : vec (noughtRow N H ps whole f) f = whole := by
  obtain ⟨h1, h2⟩ := free_mem.mp hf
  unfold noughtRow
  rw [nfold_out f whole _ _ f (fun x hx => by rw [List.length_set, List.length_replicate]; exact g.zip_lt x hx) fun x hx e => h2 (e ▸ (List.of_mem_zip hx).2), vec_set (by rw [List.length_replicate]; exact h1), if_pos rfl]
theorem nought_head (g : Ground N R H ps) {f i : Nat} {r : List Int} {q : Nat} (hr : H[i]? = some r) (hq : ps[i]? = some q) (whole : Int) : vec (noughtRow N H ps whole f) q = -(vec r f) * whole.fdiv (vec r q) := by
  have hm : (r, q) ∈ H.zip ps := by
    have : (H.zip ps)[i]? = some (r, q) := by rw [List.getElem?_zip_eq_some]; exact ⟨hr, hq⟩
    exact List.mem_of_getElem? this
  unfold noughtRow
  exact nfold_in f whole _ _ (r, q) (fun x hx => by rw [List.length_set, List.length_replicate]; exact g.zip_lt x hx) g.zip_nodup hm
theorem vec_rep (k : Nat) : vec (List.replicate N 0) k = 0 := by
  unfold vec
  rw [List.getD_eq_getElem?_getD, List.getElem?_replicate]
  split <;> rfl
theorem nought_else (g : Ground N R H ps) {f k : Nat} (hf : f ∈ freeF N ps) (hk : k ≠ f) (hkp : k ∉ ps) (whole : Int) : vec (noughtRow N H ps whole f) k = 0 := by
  obtain ⟨h1, h2⟩ := free_mem.mp hf
  unfold noughtRow
  rw [nfold_out f whole _ _ k (fun x hx => by rw [List.length_set, List.length_replicate]; exact g.zip_lt x hx) fun x hx e => hkp (e ▸ (List.of_mem_zip hx).2), vec_set (by rw [List.length_replicate]; exact h1), if_neg hk, vec_rep]
theorem nought_dot (g : Ground N R H ps) {f : Nat} (hf : f ∈ freeF N ps) : ∀ r ∈ H, dotN N (vec (noughtRow N H ps (wholeF H ps) f)) (vec r) = 0 := fun r hr => by
  obtain ⟨i, hi, rfl⟩ := List.getElem_of_mem hr
  have hri : H[i]? = some H[i] := List.getElem?_eq_getElem hi
  have hip : i < ps.length := by rw [g.pl]; exact hi
  have hqi : ps[i]? = some ps[i] := List.getElem?_eq_getElem hip
  obtain ⟨f1, f2⟩ := free_mem.mp hf
  have hq : ps[i] ∈ ps := List.getElem_mem _
  have hne : f ≠ ps[i] := fun e => f2 (e ▸ hq)
  obtain ⟨p1, p2, _⟩ := g.hd i _ _ hri hqi
  unfold dotN
  rw [sumN_two f1 (g.pb _ hq) hne fun k hk k1 k2 => ?_, nought_free g hf, nought_head g hri hqi]
  · obtain ⟨d, hd⟩ := g.whole.2 (H[i], ps[i]) (by
      have : (H.zip ps)[i]? = some (H[i], ps[i]) := by rw [List.getElem?_zip_eq_some]; exact ⟨hri, hqi⟩
      exact List.mem_of_getElem? this)
    have hd : wholeF H ps = vec H[i] ps[i] * d := hd
    have e : (wholeF H ps).fdiv (vec H[i] ps[i]) = d := by rw [hd, Int.mul_fdiv_cancel_left _ (by omega)]
    rw [e, hd, Int.neg_mul, Int.neg_mul, Int.mul_assoc (vec H[i] f) d, Int.mul_comm d, Int.mul_comm (vec H[i] f)]
    omega
  · by_cases hkp : k ∈ ps
    · obtain ⟨j, hj, rfl⟩ := List.getElem_of_mem hkp
      have hij : i ≠ j := fun e => k2 (by subst e; rfl)
      rw [g.ow i j _ _ hri (List.getElem?_eq_getElem hj) hij, Int.mul_zero]
    · rw [nought_else g hf k1 hkp, Int.zero_mul]
theorem free_count (g : Ground N R H ps) : (freeF N ps).length + H.length = N := by
  have h1 : ps.length ≤ ((List.range N).filter fun f => decide (f ∈ ps)).length := sub_len g.nodup fun q hq => List.mem_filter.mpr ⟨List.mem_range.mpr (g.pb q hq), decide_eq_true hq⟩
  have h2 : ((List.range N).filter fun f => decide (f ∈ ps)).length ≤ ps.length := sub_len (List.nodup_range.filter _) fun q hq => of_decide_eq_true (List.mem_filter.mp hq).2
  have h3 : ∀ l : List Nat, (l.filter fun f => decide (f ∈ ps)).length + (l.filter fun f => decide (f ∉ ps)).length = l.length := fun l => by
    induction l with
    | nil => rfl
    | cons x l ih =>
      rw [List.filter_cons, List.filter_cons]
      by_cases q : x ∈ ps
      · rw [if_pos (decide_eq_true q), if_neg (by rw [decide_eq_false (fun z => z q)]; decide), List.length_cons, List.length_cons]
        omega
      · rw [if_neg (by rw [decide_eq_false q]; decide), if_pos (decide_eq_true q), List.length_cons, List.length_cons]
        omega
  have := h3 (List.range N)
  rw [List.length_range] at this
  unfold freeF
  rw [← g.pl]
  omega
theorem made_len (W : Int) : ∀ r ∈ madeF N H ps W, r.length = N := fun r hr => by
  obtain ⟨f, _, rfl⟩ := List.mem_map.mp hr
  exact nought_len ..
theorem nodup_idx {l : List Nat} (h : l.Nodup) {i j a : Nat} (hi : l[i]? = some a) (hj : l[j]? = some a) : i = j := by
  obtain ⟨h1, e1⟩ := List.getElem?_eq_some_iff.mp hi
  obtain ⟨h2, e2⟩ := List.getElem?_eq_some_iff.mp hj
  have hp := List.pairwise_iff_getElem.mp h
  rcases Nat.lt_trichotomy i j with q | q | q
  · exact absurd (e1.trans e2.symm) (hp i j h1 h2 q)
  · exact q
  · exact absurd (e2.trans e1.symm) (hp j i h2 h1 q)
theorem made_indep (g : Ground N R H ps) : Indep (madeF N H ps (wholeF H ps)).length N fun i => vec ((madeF N H ps (wholeF H ps)).getD i []) := by
  have hl : (madeF N H ps (wholeF H ps)).length = (freeF N ps).length := by unfold madeF; rw [List.length_map]
  have get : ∀ {i}, i < (freeF N ps).length → (madeF N H ps (wholeF H ps)).getD i [] = noughtRow N H ps (wholeF H ps) ((freeF N ps).getD i 0) ∧ (freeF N ps).getD i 0 ∈ freeF N ps := fun {i} hi => by
    unfold madeF
    rw [List.getD_eq_getElem?_getD, List.getElem?_map, List.getD_eq_getElem?_getD, List.getElem?_eq_getElem hi]
    exact ⟨rfl, List.getElem_mem _⟩
  rw [hl]
  refine indep_own (fun i => (freeF N ps).getD i 0) (fun i hi => (free_mem.mp (get hi).2).1) (fun i hi => ?_) (fun i i' hi hi' hne => ?_)
  · rw [(get hi).1, nought_free g (get hi).2]
    have := g.whole.1
    omega
  · rw [(get hi').1]
    refine nought_else g (get hi').2 (fun e => ?_) (free_mem.mp (get hi).2).2 _
    have hn : (freeF N ps).Nodup := List.nodup_range.filter _
    have e1 : (freeF N ps)[i]? = some ((freeF N ps).getD i 0) := by rw [List.getD_eq_getElem?_getD, List.getElem?_eq_getElem hi]; rfl
    have e2 : (freeF N ps)[i']? = some ((freeF N ps).getD i' 0) := by rw [List.getD_eq_getElem?_getD, List.getElem?_eq_getElem hi']; rfl
    rw [e] at e1
    exact hne (nodup_idx hn e2 e1)
theorem made_perp (g : Ground N R H ps) : ∀ m ∈ madeF N H ps (wholeF H ps), ∀ r ∈ R, dotN N (vec m) (vec r) = 0 := fun m hm r hr => by
  obtain ⟨f, hf, rfl⟩ := List.mem_map.mp hm
  exact (g.or _).mpr (nought_dot g hf) r hr
end
/-- the ground of what stands at right angles to R -/
theorem noughts_ok {N : Nat} {R : List (List Int)} (h : ∀ r ∈ R, r.length = N) : ∃ qs, (∃ M, Ground N M (noughtsF N R) qs) ∧ (∀ x ∈ noughtsF N R, ∀ r ∈ R, dotN N (vec x) (vec r) = 0) ∧ (noughtsF N R).length + (headsF N R).length = N := by
  obtain ⟨ps, g⟩ := heads_ground h
  have e : noughtsF N R = headsF N (madeF N (headsF N R) ps (wholeF (headsF N R) ps)) := by
    unfold noughtsF
    rw [g.heads]
  obtain ⟨qs, k⟩ := heads_ground (R := madeF N (headsF N R) ps (wholeF (headsF N R) ps)) (made_len _)
  rw [e]
  have hml : (madeF N (headsF N R) ps (wholeF (headsF N R) ps)).length = (freeF N ps).length := by unfold madeF; rw [List.length_map]
  have fc := free_count g
  -- right angles, by the made rows
  have hx : ∀ r ∈ R, ∀ x ∈ headsF N (madeF N (headsF N R) ps (wholeF (headsF N R) ps)), dotN N (vec r) (vec x) = 0 := fun r hr => (k.or (vec r)).mp fun m hm => by
    rw [dot_comm]
    exact made_perp g m hm r hr
  have hH : ∀ r ∈ headsF N R, ∀ x ∈ headsF N (madeF N (headsF N R) ps (wholeF (headsF N R) ps)), dotN N (vec r) (vec x) = 0 := fun r hr => (k.or (vec r)).mp fun m hm => by
    rw [dot_comm]
    obtain ⟨f, hf, rfl⟩ := List.mem_map.mp hm
    exact nought_dot g hf r hr
  refine ⟨qs, ⟨_, k⟩, fun x hx' r hr => by rw [dot_comm]; exact hx r hr x hx', ?_⟩
  have get : ∀ {l : List (List Int)} {i : Nat}, i < l.length → l.getD i [] ∈ l := fun {l i} hi => by
    rw [List.getD_eq_getElem?_getD, List.getElem?_eq_getElem hi]
    exact List.getElem_mem _
  have u1 := orth_count (ground_indep k) (ground_indep g) fun i j hi hj => by
    rw [dot_comm]
    exact hH _ (get hj) _ (get hi)
  -- what stands at right angles to the ground stands so to the made rows, too
  have fc2 := free_count k
  have u2 := orth_count (made_indep k) (made_indep g) fun i j hi hj => made_perp k _ (get hi) _ (get hj)
  have hml2 : (madeF N (headsF N (madeF N (headsF N R) ps (wholeF (headsF N R) ps))) qs (wholeF (headsF N (madeF N (headsF N R) ps (wholeF (headsF N R) ps))) qs)).length = (freeF N qs).length := by unfold madeF; rw [List.length_map]
  rw [hml, hml2] at u2
  omega
/-- as many independent columns as rows -/
theorem rank_le {n m : Nat} {M T : List (List Int)} (hM : ∀ r ∈ M, r.length = n) (hT : ∀ r ∈ T, r.length = m) (lM : M.length = m) (lT : T.length = n) (ht : ∀ i j, i < m → j < n → vec (T.getD j []) i = vec (M.getD i []) j) : (headsF n M).length ≤ (headsF m T).length := by
  obtain ⟨ps, g⟩ := heads_ground hM
  obtain ⟨qs, k⟩ := heads_ground hT
  have get : ∀ {l : List (List Int)} {i : Nat}, i < l.length → l.getD i [] ∈ l := fun {l i} hi => by
    rw [List.getD_eq_getElem?_getD, List.getElem?_eq_getElem hi]
    exact List.getElem_mem _
  have hi : Indep (headsF n M).length m fun i a => dotN n (vec (M.getD a [])) (vec ((headsF n M).getD i [])) := fun c hs i hi => by
    refine ground_indep g c (fun j hj => ?_) i hi
    refine dot_self (N := n) (x := fun j => sumN (headsF n M).length fun i => c i * vec ((headsF n M).getD i []) j) ?_ j hj
    rw [dot_sum_right]
    refine sumN_zero fun i hi => ?_
    have hz := (g.or fun j => sumN (headsF n M).length fun i => c i * vec ((headsF n M).getD i []) j).mp fun r hr => by
      obtain ⟨a, ha, rfl⟩ := List.getElem_of_mem hr
      have e := hs a (by omega)
      have ea : M.getD a [] = M[a] := by rw [List.getD_eq_getElem?_getD, List.getElem?_eq_getElem ha]; rfl
      rw [dot_comm, dot_sum_right, ← ea]
      exact e
    rw [hz _ (get hi), Int.mul_zero]
  have u := orth_count hi (made_indep k) fun i j hi hj => by
    have hw := made_perp k _ (get hj)
    -- sum over a of (M_a . H_i) w_a
    generalize (madeF m (headsF m T) qs (wholeF (headsF m T) qs)).getD j [] = w at hw
    generalize vec ((headsF n M).getD i []) = x
    show sumN m (fun a => dotN n (vec (M.getD a [])) x * vec w a) = 0
    have e1 : sumN m (fun a => dotN n (vec (M.getD a [])) x * vec w a) = sumN m (fun a => sumN n (fun j => vec w a * (vec (M.getD a []) j * x j))) := sumN_congr fun a _ => by
      rw [sumN_mul, Int.mul_comm]
      rfl
    rw [e1, sumN_swap]
    refine sumN_zero fun j hj => ?_
    have e2 : sumN m (fun a => vec w a * (vec (M.getD a []) j * x j)) = sumN m (fun a => x j * (vec w a * vec (T.getD j []) a)) := sumN_congr fun a ha => by
      rw [ht a j ha hj, ← Int.mul_assoc, Int.mul_comm]
    rw [e2, sumN_mul]
    have := hw (T.getD j []) (get (by omega))
    unfold dotN at this
    rw [this, Int.mul_zero]
  have fc := free_count k
  have hml : (madeF m (headsF m T) qs (wholeF (headsF m T) qs)).length = (freeF m qs).length := by unfold madeF; rw [List.length_map]
  rw [hml] at u
  omega
theorem rank_turned {n m : Nat} {M T : List (List Int)} (hM : ∀ r ∈ M, r.length = n) (hT : ∀ r ∈ T, r.length = m) (lM : M.length = m) (lT : T.length = n) (ht : ∀ i j, i < m → j < n → vec (T.getD j []) i = vec (M.getD i []) j) : (headsF n M).length = (headsF m T).length :=
  Nat.le_antisymm (rank_le hM hT lM lT ht) (rank_le hT hM lT lM fun i j hi hj => (ht j i hj hi).symm)

/-! ### how large -/
def Sm (b : Nat) (R : List (List Int)) : Prop := ∀ r ∈ R, ∀ x ∈ r, x.natAbs < 2 ^ b
def bb (b : Nat) : Nat → Nat
  | 0 => b
  | p + 1 => 2 * bb b p + 1
theorem small_vec {r : List Int} {b : Nat} (h : ∀ x ∈ r, x.natAbs < 2 ^ b) (k : Nat) : (r.getD k 0).natAbs < 2 ^ b := by
  by_cases hk : k < r.length
  · exact h _ (vec_mem hk)
  · rw [show r.getD k 0 = 0 from vec_out (by omega)]
    exact Nat.pow_pos (by decide)
theorem sub_small {a b : Int} {k : Nat} (ha : a.natAbs < 2 ^ k) (hb : b.natAbs < 2 ^ k) : (a - b).natAbs < 2 ^ (k + 1) := by
  rw [Nat.pow_succ]
  omega
theorem mul_small {a b : Int} {j k : Nat} (ha : a.natAbs < 2 ^ j) (hb : b.natAbs < 2 ^ k) : (a * b).natAbs < 2 ^ (j + k) := by
  rw [Int.natAbs_mul, Nat.pow_add]
  exact Nat.mul_lt_mul'' ha hb
theorem comb_small {r o : List Int} {p b : Nat} (hr : ∀ x ∈ r, x.natAbs < 2 ^ b) (ho : ∀ x ∈ o, x.natAbs < 2 ^ b) : ∀ x ∈ combL r o p, x.natAbs < 2 ^ (2 * b + 1) := fun x hx => by
  unfold combL at hx
  obtain ⟨k, _, rfl⟩ := List.mem_map.mp hx
  rw [show 2 * b = b + b by omega]
  exact sub_small (mul_small (small_vec hr _) (small_vec ho _)) (mul_small (small_vec ho _) (small_vec hr _))
theorem ease_small {r o : List Int} {p b : Nat} (hr : ∀ x ∈ r, x.natAbs < 2 ^ b) (ho : ∀ x ∈ o, x.natAbs < 2 ^ b) : ∀ x ∈ easeF r o p, x.natAbs < 2 ^ (2 * b + 1) := plain_small (comb_small hr ho)
theorem heads_small {b : Nat} {R : List (List Int)} (h : Sm b R) : ∀ p, Sm (bb b p) (headsS R p).1 ∧ Sm (bb b p) (headsS R p).2
  | 0 => ⟨fun r hr => by simp [headsS] at hr, h⟩
  | p + 1 => by
    obtain ⟨h1, h2⟩ := heads_small h p
    show Sm (2 * bb b p + 1) (headStep p (headsS R p)).1 ∧ Sm (2 * bb b p + 1) (headStep p (headsS R p)).2
    have up : ∀ {L : List (List Int)}, Sm (bb b p) L → Sm (2 * bb b p + 1) L := fun hL r hr x hx => Nat.lt_of_lt_of_le (hL r hr x hx) (Nat.pow_le_pow_right (by decide) (by omega))
    unfold headStep
    cases hf : (headsS R p).2.filter (fun r => decide (r.getD p 0 ≠ 0)) with
    | nil => exact ⟨up h1, up h2⟩
    | cons f fs =>
      have hfm : f ∈ (headsS R p).2 := (List.mem_filter.mp (by rw [hf]; exact List.mem_cons_self)).1
      have hp := plain_small (h2 f hfm)
      refine ⟨fun r hr => ?_, fun r hr => ?_⟩
      · rcases List.mem_append.mp hr with q | q
        · obtain ⟨s, hs, rfl⟩ := List.mem_map.mp q
          exact ease_small (h1 s hs) hp
        · rw [List.mem_singleton.mp q]
          exact fun x hx => Nat.lt_of_lt_of_le (hp x hx) (Nat.pow_le_pow_right (by decide) (by omega))
      · obtain ⟨s, hs, rfl⟩ := List.mem_map.mp hr
        exact ease_small (h2 s hs) hp
theorem whole_small {b : Nat} : ∀ (l : List (List Int × Nat)) (w : Int) (c : Nat), 0 < w → w.natAbs < 2 ^ c → (∀ x ∈ l, 0 < x.1.getD x.2 0 ∧ (x.1.getD x.2 0).natAbs < 2 ^ b) → (l.foldl wStep w).natAbs < 2 ^ (c + l.length * b)
  | [], w, c, _, h, _ => by simpa using h
  | y :: l, w, c, hw, h, hl => by
    obtain ⟨y1, y2⟩ := hl y List.mem_cons_self
    obtain ⟨a1, _, _, a4⟩ := wstep_ok hw y1
    have hs : (wStep w y).natAbs < 2 ^ (c + b) := by
      have := mul_small h y2
      have e : wStep w y = w.fdiv (Int.gcd w (y.1.getD y.2 0)) * y.1.getD y.2 0 := rfl
      rw [e]
      have hp := Int.mul_pos hw y1
      omega
    have ih := whole_small l (wStep w y) (c + b) a1 hs fun x hx => hl x (List.mem_cons_of_mem _ hx)
    rw [List.foldl_cons, List.length_cons, Nat.succ_mul]
    rw [show c + (l.length * b + b) = c + b + l.length * b by omega]
    exact ih
end Tw

/-! Tw28: // by any number that is not nought; lists of lists; what the walks of the elimination need. -/
namespace Tw
open PySem PySem.Spec PyProof.Rows L2 PyProof
/-- a block within a block -/
theorem lookup_rel {env : Env} : ∀ {names : List (Str × NameKind)} {x : Str}, ((match names.lookup x with | some .cell => true | some .free => true | _ => false) = true) → ((match (names.map fun (n, k) => if (k == NameKind.free && env.scope.kind == .function && env.kindOf n == some .cell) then (n, NameKind.cell) else (n, k)).lookup x with | some .cell => true | some .free => true | _ => false) = true)
  | [], x, h => by simp at h
  | (n, k) :: r, x, h => by
    have ih := @lookup_rel env r x
    rw [List.map_cons]
    rw [List.lookup_cons] at h
    by_cases hn : (x == n) = true
    · rw [hn] at h
      by_cases hc : (k == NameKind.free && env.scope.kind == .function && env.kindOf n == some .cell) = true
      · simp only [hc, if_true]
        rw [List.lookup_cons, hn]
      · simp only [hc]
        rw [if_neg (by decide), List.lookup_cons, hn]
        exact h
    · have hn : (x == n) = false := by simpa using hn
      rw [hn] at h
      by_cases hc : (k == NameKind.free && env.scope.kind == .function && env.kindOf n == some .cell) = true
      · simp only [hc, if_true]
        rw [List.lookup_cons, hn]
        exact ih h
      · simp only [hc]
        rw [if_neg (by decide), List.lookup_cons, hn]
        exact ih h
theorem blkOk_rel {N : List Str} {sc scope : Scope} {env : Env} {own : List (Str × Nat)} (h : blkC N sc scope own = true) : BlkOk N (relabel sc env) scope own := by
  refine blkOk_by ?_
  unfold blkC at h ⊢
  rw [Bool.and_eq_true] at h ⊢
  refine ⟨h.1, List.all_eq_true.mpr fun y hy => ?_⟩
  have q := List.all_eq_true.mp h.2 y hy
  cases hk : y.2 with
  | free =>
    rw [hk] at q
    exact lookup_rel q
  | _ => rw [hk] at q; try exact q
def CDivG (_ j : Int) : Prop := j ≠ 0 ∧ j.natAbs.log2 < 9000
def rDivG : R2 := rI CDivG fun i j => .int (i.fdiv j)
section
variable {X : Cx}
theorem opDivG : OpR X (binaryOp .FloorDiv) rDivG := opI fun i j _ _ _ _ _ hc q => floordiv_int hc.1 q (.inl (PyProof.noPylong_of_log2 hc.2))
end
def lstD (r : List Int) : PyData := .list (r.map .int)
def lssD (R : List (List Int)) : PyData := .list (R.map lstD)
theorem lay_lists : ∀ hs : List (List Int), PyData.canLayAll0 (hs.map lstD) = true
  | [] => rfl
  | x :: hs => by
    show (PyData.canLayAll0 (x.map .int) && PyData.canLayAll0 (hs.map lstD)) = true
    rw [lay_ints, lay_lists hs]
    rfl
theorem depth_lists : ∀ hs : List (List Int), PyData.depthAll (hs.map lstD) ≤ 1
  | [] => by decide
  | x :: hs => by
    have h1 := depth_lists hs
    have h2 := depth_ints x
    show max (PyData.depthAll (x.map .int) + 1) (PyData.depthAll (hs.map lstD)) ≤ 1
    omega
theorem shaped_lists (hs : List (List Int)) : SeqAt.shaped (lssD hs) = true := shaped_of (lay_lists hs) (by
  have := depth_lists hs
  show PyData.depthAll (hs.map lstD) + 1 ≤ 64
  omega)
theorem eqv_lst (a b : List Int) : PyData.eqv (lstD a) (lstD b) = decide (a = b) := eqv_ints a b
theorem eqv_lists : ∀ a b : List (List Int), PyData.eqvAll (a.map lstD) (b.map lstD) = decide (a = b)
  | [], [] => rfl
  | [], _ :: _ => rfl
  | _ :: _, [] => rfl
  | x :: a, y :: b => by
    show (PyData.eqv (lstD x) (lstD y) && PyData.eqvAll (a.map lstD) (b.map lstD)) = _
    rw [eqv_lst, eqv_lists a b]
    by_cases h : x = y <;> by_cases h2 : a = b <;> simp [h, h2]
section
variable {K : PySem.W.Frag} {i j : Int}
theorem rd_quoG {b : Nat} (h0 : j ≠ 0) (hb : j.natAbs < 2 ^ b) (h1 : 0 < b) (h9 : b ≤ 9000) : R2D K rDivG (.int i) (.int j) (.int (i.fdiv j)) := fun H I v u s r1 r2 Q q => by
  cases r1; cases r2
  exact ⟨i, j, rfl, rfl, ⟨h0, Nat.lt_of_lt_of_le (PySem.Flt.log2_lt_of h1 hb) h9⟩, q _ H I (Nx.refl s) (.int _)⟩
theorem rd_eqI : R2D K (rEqD K) (.int i) (.int j) (.bool (decide (i = j))) := by
  have := rd_eq (K := K) (x := .int i) (y := .int j) rfl rfl
  rw [eqv_int] at this
  exact this
theorem rd_neI : R2D K (rNeD K) (.int i) (.int j) (.bool (!decide (i = j))) := by
  have := rd_ne (K := K) (x := .int i) (y := .int j) rfl rfl
  rw [eqv_int] at this
  exact this
theorem rd_neL {a b : List (List Int)} : R2D K (rNeD K) (lssD a) (lssD b) (.bool (!decide (a = b))) := by
  have := rd_ne (K := K) (x := lssD a) (y := lssD b) (shaped_lists a) (shaped_lists b)
  rw [show PyData.eqv (lssD a) (lssD b) = decide (a = b) from eqv_lists a b] at this
  exact this
theorem rd_eqR {a b : List Int} : R2D K (rEqD K) (lstD a) (lstD b) (.bool (decide (a = b))) := by
  have := rd_eq (K := K) (x := lstD a) (y := lstD b) (shaped_intsL a) (shaped_intsL b)
  rw [eqv_lst] at this
  exact this
end
theorem lists_get {R : List (List Int)} {i : Nat} {d : PyData} (h : (R.map lstD)[i]? = some d) : ∃ r, R[i]? = some r ∧ d = lstD r := by
  rw [List.getElem?_map] at h
  cases e : R[i]? with
  | none => rw [e] at h; cases h
  | some z =>
    rw [e] at h
    exact ⟨z, rfl, (Option.some.inj h).symm⟩
theorem map_getL (R : List (List Int)) : (List.range R.length).map (fun k => R.getD k []) = R := by
  apply List.ext_getElem?
  intro k
  rw [List.getElem?_map]
  by_cases hk : k < R.length
  · rw [List.getElem?_range hk, Option.map_some, List.getD_eq_getElem?_getD, List.getElem?_eq_getElem hk]
    rfl
  · rw [List.getElem?_eq_none_iff.mpr (by rw [List.length_range]; omega), List.getElem?_eq_none_iff.mpr (by omega)]
    rfl
/-- what is kept of some lists -/
theorem kept_lists (R : List (List Int)) (p : List Int → Bool) : kept R.length (fun i => p (R.getD i [])) (fun i => lstD (R.getD i [])) = (R.filter p).map lstD := by
  unfold kept
  have e := map_getL R
  have e2 : R.filter p = ((List.range R.length).filter fun i => p (R.getD i [])).map fun k => R.getD k [] := by
    conv => lhs; rw [← e]
    rw [List.filter_map]
    rfl
  rw [e2, List.map_map]
  rfl
theorem map_lists {α : Type} {R : List (List Int)} (f : List Int → α) : (List.range R.length).map (fun i => f (R.getD i [])) = R.map f := by
  have e := map_getL R
  conv => rhs; rw [← e]
  rw [List.map_map]
  rfl
theorem map_ints {α : Type} {r : List Int} (f : Int → α) : (List.range r.length).map (fun i => f (r.getD i 0)) = r.map f := by
  have e : (List.range r.length).map (fun k => r.getD k 0) = r := map_getD rfl
  conv => rhs; rw [← e]
  rw [List.map_map]
  rfl
/-! ### the greatest common divisor, step by step -/
theorem gcd_step (c d : Nat) : Nat.gcd d (c % d) = Nat.gcd c d := by
  rw [Nat.gcd_comm d, ← Nat.gcd_rec, Nat.gcd_comm]
theorem abs_eq (a : Int) : (if a < 0 then -a else a) = (a.natAbs : Int) := by
  split <;> omega
theorem gfold_zero : ∀ (r : List Int), (∀ x ∈ r, x = 0) → r.foldl (fun g x => Nat.gcd g x.natAbs) 0 = 0
  | [], _ => rfl
  | x :: r, h => by
    rw [List.foldl_cons, h x List.mem_cons_self]
    exact gfold_zero r fun y hy => h y (List.mem_cons_of_mem _ hy)
theorem gcdL_small {r : List Int} {b : Nat} (h : ∀ x ∈ r, x.natAbs < 2 ^ b) : gcdL r < 2 ^ b := by
  by_cases h0 : ∀ x ∈ r, x = 0
  · rw [show gcdL r = 0 from gfold_zero r h0]
    exact Nat.pow_pos (by decide)
  · obtain ⟨x, hx⟩ := Classical.not_forall.mp h0
    obtain ⟨hx, h1⟩ := Classical.not_imp.mp hx
    exact Nat.lt_of_le_of_lt (Nat.le_of_dvd (by omega) (gcdL_dvd hx)) (h x hx)
/-! ### the head of a row -/
theorem head_zero : ∀ (r : List Int) (k : Nat), k < headOf r → vec r k = 0
  | [], k, h => by simp [headOf] at h
  | x :: r, k, h => by
    unfold headOf at h
    split at h
    · next hx =>
      cases k with
      | zero => exact hx
      | succ k => exact head_zero r k (by omega)
    · omega
theorem head_ne : ∀ (r : List Int), headOf r < r.length → vec r (headOf r) ≠ 0
  | [], h => by simp [headOf] at h
  | x :: r, h => by
    by_cases hx : x = 0
    · have e : headOf (x :: r) = headOf r + 1 := if_pos hx
      rw [e] at h ⊢
      exact head_ne r (by simpa using h)
    · have e : headOf (x :: r) = 0 := if_neg hx
      rw [e]
      exact hx
theorem bb_up (b : Nat) : ∀ {p q : Nat}, p ≤ q → bb b p ≤ bb b q
  | p, 0, h => by rw [show p = 0 by omega]; exact Nat.le_refl _
  | p, q + 1, h => by
    rcases Nat.lt_or_eq_of_le h with h | h
    · have := bb_up b (p := p) (q := q) (by omega)
      show bb b p ≤ 2 * bb b q + 1
      omega
    · rw [h]
      exact Nat.le_refl _
theorem bb_pos {b : Nat} (h : 0 < b) : ∀ p, 0 < bb b p
  | 0 => h
  | p + 1 => Nat.succ_pos _
theorem take_snoc {α β : Type} {l : List α} {i : Nat} {x : α} (h : l[i]? = some x) (f : β → α → β) (s : β) : (l.take (i + 1)).foldl f s = f ((l.take i).foldl f s) x := by
  rw [List.take_add_one, h, Option.toList_some, List.foldl_append]
  rfl
end Tw

/-! Tw29: in plain Lean: how far a search forwards goes in three places before a pump is met. -/
namespace Tw
/-- of the three places: p, and q and r behind it -/
def Three (p q r : Nat) : Prop := p < 3 ∧ q < 3 ∧ r < 3 ∧ p ≠ q ∧ p ≠ r ∧ q ≠ r
theorem Three.all {p q r : Nat} (h : Three p q r) {s : Nat} (hs : s < 3) : s = p ∨ s = q ∨ s = r := by
  obtain ⟨h1, h2, h3, h4, h5, h6⟩ := h
  omega
def Ov3 (y z : Nat → Int) : Prop := ∀ s, s < 3 → z s ≤ y s
section
variable {μ : Type} {t g : μ → Nat → Int} {l : Int} {x : Nat → Nat → Int} {L : Nat}
def En3 (t : μ → Nat → Int) (y : Nat → Int) (m : μ) : Prop := ∀ s, s < 3 → t m s ≤ y s
def Go3 (t g : μ → Nat → Int) (y : Nat → Int) (m : μ) (z : Nat → Int) : Prop := ∀ s, s < 3 → z s = y s - t m s + g m s
/-- what a child of the search's root may be -/
def Safe3 (z x0 : Nat → Int) : Prop := (∀ s, s < 3 → z s = x0 s) ∨ ¬Ov3 z x0
structure P3 (t g : μ → Nat → Int) (l : Int) (x : Nat → Nat → Int) (L : Nat) : Prop where
  t0 : ∀ m s, 0 ≤ t m s ∧ t m s ≤ 2
  g0 : ∀ m s, 0 ≤ g m s
  l01 : l = 0 ∨ l = 1
  up : ∀ m p q r, Three p q r → g m r - t m r + l * (g m p - t m p + (g m q - t m q)) ≤ 2
  nn : ∀ i, i ≤ L → ∀ s, s < 3 → 0 ≤ x i s
  st : ∀ s, s < 3 → x 0 s ≤ 2
  step : ∀ i, i < L → ∃ m, En3 t (x i) m ∧ Go3 t g (x i) m (x (i + 1))
  bad : ∀ i j, i < j → j ≤ L → ¬Ov3 (x j) (x i)
  ex : ∀ i, i + 4 ≤ L → ∀ m, En3 t (x i) m → ∀ y, Go3 t g (x i) m y → Safe3 y (x 0) ∧ ∀ m', En3 t y m' → ∀ z, Go3 t g y m' z → Safe3 z (x 0)
/-- two places hold many: the third holds less than at the start, and no move that can be made gains there -/
theorem P3.root (P : P3 t g l x L) {p q r i : Nat} (h : Three p q r) (hi : i + 4 ≤ L) (hq : 7 ≤ x i q) (hr : 7 ≤ x i r) : x i p < x 0 p ∧ ∀ m, t m p ≤ x i p → g m p ≤ t m p := by
  obtain ⟨lp, lq, lr, n1, n2, n3⟩ := h
  have h : Three p q r := ⟨lp, lq, lr, n1, n2, n3⟩
  have s1 := P.st p lp
  have s2 := P.st q lq
  have s3 := P.st r lr
  have hi0 : 0 < i := Nat.pos_of_ne_zero fun e => by subst e; omega
  have low : x i p < x 0 p := by
    refine Classical.byContradiction fun z => P.bad 0 i hi0 (by omega) fun s hs => ?_
    rcases h.all hs with rfl | rfl | rfl <;> omega
  refine ⟨low, fun m hm => ?_⟩
  have tp := P.t0 m p
  have tq := P.t0 m q
  have tr := P.t0 m r
  have gp := P.g0 m p
  have gq := P.g0 m q
  have gr := P.g0 m r
  have xp := P.nn i (by omega) p lp
  refine Classical.byContradiction fun hg => ?_
  have en : En3 t (x i) m := fun s hs => by rcases h.all hs with rfl | rfl | rfl <;> omega
  obtain ⟨a1, a2⟩ := P.ex i hi m en (fun s => x i s - t m s + g m s) fun _ _ => rfl
  have yp : x i p - t m p + g m p < x 0 p := by
    rcases a1 with e | e
    · have := e q lq
      simp only at this
      omega
    · refine Classical.byContradiction fun z => e fun s hs => ?_
      rcases h.all hs with rfl | rfl | rfl <;> simp only <;> omega
  have en2 : En3 t (fun s => x i s - t m s + g m s) m := fun s hs => by rcases h.all hs with rfl | rfl | rfl <;> simp only <;> omega
  rcases a2 m en2 (fun s => x i s - t m s + g m s - t m s + g m s) fun _ _ => rfl with e | e
  · have := e q lq
    simp only at this
    omega
  · refine e fun s hs => ?_
    rcases h.all hs with rfl | rfl | rfl <;> simp only <;> omega
/-! ### while at most one place holds many -/
def Zone (x : Nat → Nat → Int) (i : Nat) : Prop := ∀ q r, q < 3 → r < 3 → q ≠ r → ¬(7 ≤ x i q ∧ 7 ≤ x i r)
def Hh (l : Int) (x : Nat → Nat → Int) (p q r i : Nat) : Int := x i r + l * (x i p + x i q)
theorem P3.h_up (P : P3 t g l x L) {p q r i : Nat} (h : Three p q r) (hi : i < L) : Hh l x p q r (i + 1) ≤ Hh l x p q r i + 2 := by
  obtain ⟨m, _, hg⟩ := P.step i hi
  have u := P.up m p q r h
  obtain ⟨lp, lq, lr, _⟩ := h
  have e1 := hg p lp
  have e2 := hg q lq
  have e3 := hg r lr
  unfold Hh
  rcases P.l01 with rfl | rfl <;> omega
theorem P3.down (P : P3 t g l x L) {i s : Nat} (hi : i < L) (hs : s < 3) : x i s - 2 ≤ x (i + 1) s := by
  obtain ⟨m, _, hg⟩ := P.step i hi
  have := hg s hs
  have := P.t0 m s
  have := P.g0 m s
  omega
def pairsS : List (Int × Int) := (List.range 7).flatMap fun a => ((List.range 7).filter fun b => decide (a < 2 ∨ b < 2)).map fun b => ((a : Nat), (b : Nat))
theorem pairs_len24 : pairsS.length = 24 := by decide +kernel
theorem pairs_in {a b : Int} (h0 : 0 ≤ a) (h1 : 0 ≤ b) (h2 : a ≤ 6) (h3 : b ≤ 6) (h : a < 2 ∨ b < 2) : (a, b) ∈ pairsS := by
  unfold pairsS
  refine List.mem_flatMap.mpr ⟨a.toNat, List.mem_range.mpr (by omega), List.mem_map.mpr ⟨b.toNat, List.mem_filter.mpr ⟨List.mem_range.mpr (by omega), decide_eq_true (by omega)⟩, ?_⟩⟩
  rw [Int.toNat_of_nonneg h0, Int.toNat_of_nonneg h1]
def seenS (x : Nat → Nat → Int) (p q r : Nat) : Nat → List (Int × Int)
  | 0 => []
  | i + 1 => if 7 ≤ x (i + 1) r ∧ (x (i + 1) p, x (i + 1) q) ∉ seenS x p q r i then (x (i + 1) p, x (i + 1) q) :: seenS x p q r i else seenS x p q r i
theorem seen_nodup (p q r : Nat) : ∀ i, (seenS x p q r i).Nodup
  | 0 => List.nodup_nil
  | i + 1 => by
    unfold seenS
    split
    · next h => exact List.nodup_cons.mpr ⟨h.2, seen_nodup p q r i⟩
    · exact seen_nodup p q r i
theorem seen_up (p q r : Nat) {u : Int × Int} : ∀ {i j : Nat}, i ≤ j → u ∈ seenS x p q r i → u ∈ seenS x p q r j
  | i, 0, h, hu => by rw [show i = 0 by omega] at hu; exact hu
  | i, j + 1, h, hu => by
    rcases Nat.lt_or_eq_of_le h with h | h
    · have := seen_up p q r (i := i) (j := j) (by omega) hu
      unfold seenS
      split
      · exact List.mem_cons_of_mem _ this
      · exact this
    · rw [← h]
      exact hu
theorem seen_len_up (p q r : Nat) : ∀ {i j : Nat}, i ≤ j → (seenS x p q r i).length ≤ (seenS x p q r j).length
  | i, 0, h => by rw [show i = 0 by omega]; exact Nat.le_refl _
  | i, j + 1, h => by
    rcases Nat.lt_or_eq_of_le h with h | h
    · have := seen_len_up p q r (i := i) (j := j) (by omega)
      conv => rhs; unfold seenS
      split
      · rw [List.length_cons]
        omega
      · exact this
    · rw [← h]
      exact Nat.le_refl _
theorem seen_from (p q r : Nat) {u : Int × Int} : ∀ {i : Nat}, u ∈ seenS x p q r i → ∃ j, j ≤ i ∧ 0 < j ∧ 7 ≤ x j r ∧ u = (x j p, x j q)
  | 0, h => by simp [seenS] at h
  | i + 1, h => by
    unfold seenS at h
    split at h
    · next hc =>
      rcases List.mem_cons.mp h with rfl | h
      · exact ⟨i + 1, Nat.le_refl _, by omega, hc.1, rfl⟩
      · obtain ⟨j, h1, h2⟩ := seen_from p q r h
        exact ⟨j, by omega, h2⟩
    · obtain ⟨j, h1, h2⟩ := seen_from p q r h
      exact ⟨j, by omega, h2⟩
theorem P3.seen_pairs (P : P3 t g l x L) {p q r i : Nat} (h : Three p q r) (hi : i ≤ L) (hz : ∀ j, j ≤ i → Zone x j) : (seenS x p q r i).length ≤ 24 := by
  rw [← pairs_len24]
  obtain ⟨lp, lq, lr, n1, n2, n3⟩ := h
  have h : Three p q r := ⟨lp, lq, lr, n1, n2, n3⟩
  refine sub_len (seen_nodup p q r i) fun u hu => ?_
  obtain ⟨j, h1, h2, h3, rfl⟩ := seen_from p q r hu
  have z1 := hz j h1 p r lp lr n2
  have z2 := hz j h1 q r lq lr n3
  have s1 := P.st p lp
  have s2 := P.st q lq
  have s3 := P.st r lr
  have b1 := P.nn j (by omega) p lp
  have b2 := P.nn j (by omega) q lq
  refine pairs_in b1 b2 (by omega) (by omega) ?_
  refine Classical.byContradiction fun z => P.bad 0 j h2 (by omega) fun s hs => ?_
  rcases h.all hs with rfl | rfl | rfl <;> omega
theorem P3.zone_h (P : P3 t g l x L) {p q r : Nat} (h : Three p q r) : ∀ {i : Nat}, i ≤ L → (∀ j, j ≤ i → Zone x j) → 7 ≤ x i r → Hh l x p q r i ≤ 20 + 2 * ((seenS x p q r i).length : Int) := by
  intro i
  induction i using Nat.strongRecOn with
  | _ i ih =>
    intro hi hz h7
    obtain ⟨lp, lq, lr, n1, n2, n3⟩ := h
    have h : Three p q r := ⟨lp, lq, lr, n1, n2, n3⟩
    cases i with
    | zero =>
      have := P.st r lr
      omega
    | succ i =>
      by_cases hs : (x (i + 1) p, x (i + 1) q) ∈ seenS x p q r i
      · obtain ⟨j, h1, h2, h3, e⟩ := seen_from p q r hs
        have ep : x (i + 1) p = x j p := congrArg Prod.fst e
        have eq : x (i + 1) q = x j q := congrArg Prod.snd e
        have hb : x (i + 1) r < x j r := by
          refine Classical.byContradiction fun z => P.bad j (i + 1) (by omega) hi fun s hs => ?_
          rcases h.all hs with rfl | rfl | rfl <;> omega
        have := ih j (by omega) (by omega) (fun k hk => hz k (by omega)) h3
        have up := seen_len_up (x := x) p q r (i := j) (j := i + 1) (by omega)
        unfold Hh at this ⊢
        rw [ep, eq]
        omega
      · have e : seenS x p q r (i + 1) = (x (i + 1) p, x (i + 1) q) :: seenS x p q r i := by
          conv => lhs; unfold seenS
          exact if_pos ⟨h7, hs⟩
        have hup := P.h_up h (i := i) (by omega)
        rw [e, List.length_cons]
        by_cases h6 : 7 ≤ x i r
        · have := ih i (by omega) (by omega) (fun k hk => hz k (by omega)) h6
          omega
        · have z1 := hz (i + 1) (Nat.le_refl _) p r lp lr n2
          have z2 := hz (i + 1) (Nat.le_refl _) q r lq lr n3
          have z3 := hz i (by omega) p q lp lq n1
          have d1 := P.down (i := i) (s := p) (by omega) lp
          have d2 := P.down (i := i) (s := q) (by omega) lq
          have : Hh l x p q r i ≤ 20 := by
            unfold Hh
            have c1 := P.nn i (by omega) p lp
            have c2 := P.nn i (by omega) q lq
            rcases P.l01 with rfl | rfl <;> omega
          omega
theorem Three.swap {p q r : Nat} (h : Three p q r) : Three p r q := by
  unfold Three at *
  omega
theorem Three.rot {p q r : Nat} (h : Three p q r) : Three q r p := by
  unfold Three at *
  omega
theorem P3.zone_all (P : P3 t g l x L) {i : Nat} (hi : i ≤ L) (hz : ∀ j, j ≤ i → Zone x j) {p q r : Nat} (h : Three p q r) : Hh l x p q r i ≤ 68 := by
  have key : ∀ {p q r : Nat}, Three p q r → 7 ≤ x i r → Hh l x p q r i ≤ 68 := fun h h7 => by
    have a := P.zone_h h hi hz h7
    have b := P.seen_pairs h hi hz
    omega
  by_cases h7 : 7 ≤ x i r
  · exact key h h7
  · have k1 := key (p := q) (q := r) (r := p) h.rot
    have k2 := key (p := p) (q := r) (r := q) h.swap
    have b1 := P.nn i hi p h.1
    have b2 := P.nn i hi q h.2.1
    have b3 := P.nn i hi r h.2.2.1
    unfold Hh at k1 k2 ⊢
    rcases P.l01 with e | e
    · rw [e]
      omega
    · rw [e] at k1 k2 ⊢
      by_cases z1 : 7 ≤ x i p
      · have := k1 z1
        omega
      · by_cases z2 : 7 ≤ x i q
        · have := k2 z2
          omega
        · omega
theorem P3.h_pos (P : P3 t g l x L) {i : Nat} (hi : i ≤ L) {p q r : Nat} (h : Three p q r) : x i r ≤ Hh l x p q r i := by
  have b1 := P.nn i hi p h.1
  have b2 := P.nn i hi q h.2.1
  unfold Hh
  rcases P.l01 with e | e <;> rw [e] <;> omega
/-! ### while the low place stays -/
theorem P3.phase (P : P3 t g l x L) {p q r s : Nat} (h : Three p q r) : ∀ (d : Nat), s + d ≤ L → (∀ j, s ≤ j → j ≤ s + d → x j p = x s p) →
    ∃ o, s ≤ o ∧ o ≤ s + d ∧ (∀ j, s ≤ j → j ≤ s + d → x o q ≤ x j q) ∧ (o = s + d ∨ x (s + d) r < x o r) ∧ x o r + l * x o q ≤ x s r + l * x s q + 2 * (x s q - x o q)
  | 0, _, _ => ⟨s, Nat.le_refl _, Nat.le_refl _, fun j h1 h2 => by rw [show j = s by omega]; exact Int.le_refl _, .inl rfl, by omega⟩
  | d + 1, hL, hp => by
    obtain ⟨o, o1, o2, o3, o4, o5⟩ := P3.phase P h d (by omega) fun j h1 h2 => hp j h1 (by omega)
    have ep : x (s + d + 1) p = x s p := hp (s + d + 1) (by omega) (by omega)
    have eo : x o p = x s p := hp o o1 (by omega)
    have ed : x (s + d) p = x s p := hp (s + d) (by omega) (by omega)
    by_cases hn : x o q ≤ x (s + d + 1) q
    · refine ⟨o, o1, by omega, fun j h1 h2 => ?_, .inr ?_, o5⟩
      · rcases Nat.lt_or_eq_of_le h2 with h2 | h2
        · exact o3 j h1 (by omega)
        · rw [h2]
          exact hn
      · refine Classical.byContradiction fun z => P.bad o (s + d + 1) (by omega) (by omega) fun u hu => ?_
        have z : x o r ≤ x (s + d + 1) r := by
          rw [show s + (d + 1) = s + d + 1 by omega] at z
          omega
        rcases h.all hu with e | e | e <;> rw [e] <;> omega
    · refine ⟨s + d + 1, by omega, by omega, fun j h1 h2 => ?_, .inl rfl, ?_⟩
      · rcases Nat.lt_or_eq_of_le h2 with h2 | h2
        · have := o3 j h1 (by omega)
          omega
        · rw [show j = s + d + 1 by omega]
          exact Int.le_refl _
      · have hu := P.h_up h (i := s + d) (by omega)
        have hd := P.down (i := s + d) (s := q) (by omega) h.2.1
        have hm := o3 (s + d) (by omega) (by omega)
        have o4' : x (s + d) r < x o r ∨ x (s + d) r = x o r ∧ x (s + d) q = x o q := by
          rcases o4 with e | e
          · exact .inr ⟨by rw [e], by rw [e]⟩
          · exact .inl e
        unfold Hh at hu
        rw [ep, ed] at hu
        rcases P.l01 with e | e
        · rw [e] at hu o5 ⊢
          omega
        · rw [e] at hu o5 ⊢
          omega
theorem P3.phase_r (P : P3 t g l x L) {p q r s e : Nat} (h : Three p q r) (hs : s ≤ e) (he : e ≤ L) (hp : ∀ j, s ≤ j → j ≤ e → x j p = x s p) : x e r ≤ x s r + l * x s q + 2 * x s q := by
  obtain ⟨o, o1, o2, o3, o4, o5⟩ := P.phase h (e - s) (s := s) (by omega) fun j h1 h2 => hp j h1 (by omega)
  rw [show s + (e - s) = e by omega] at o2 o4
  have n1 := P.nn o (by omega) q h.2.1
  have n2 := P.nn s (by omega) q h.2.1
  have : x e r ≤ x o r := by
    rcases o4 with z | z
    · rw [z]
      exact Int.le_refl _
    · omega
  rcases P.l01 with z | z <;> rw [z] at o5 ⊢ <;> omega
/-- where a tree path without a pump ends -/
def In3 (y : Nat → Int) : Prop := (∀ s, s < 3 → y s ≤ 80) ∨ ∃ p q r, Three p q r ∧ y p ≤ 1 ∧ y q ≤ 853 ∧ y r ≤ 853
theorem three_of {r : Nat} (h : r < 3) : ∃ p q, Three p q r := by
  rcases (show r = 0 ∨ r = 1 ∨ r = 2 by omega) with rfl | rfl | rfl
  · exact ⟨1, 2, by unfold Three; omega⟩
  · exact ⟨0, 2, by unfold Three; omega⟩
  · exact ⟨0, 1, by unfold Three; omega⟩
theorem P3.h_more (P : P3 t g l x L) {p q r i : Nat} (h : Three p q r) : ∀ d : Nat, i + d ≤ L → Hh l x p q r (i + d) ≤ Hh l x p q r i + 2 * (d : Int)
  | 0, _ => by simp
  | d + 1, hd => by
    have a := P3.h_more P (i := i) h d (by omega)
    have b := P.h_up h (i := i + d) (by omega)
    rw [show i + (d + 1) = i + d + 1 by omega]
    omega
theorem P3.bound (P : P3 t g l x L) : In3 (x L) := by
  by_cases hz : ∀ j, j ≤ L → Zone x j
  · refine .inl fun s hs => ?_
    obtain ⟨p, q, h⟩ := three_of hs
    have a := P.zone_all (Nat.le_refl _) hz h
    have b := P.h_pos (Nat.le_refl _) h
    omega
  · -- the first hoard at which two places hold many
    have ex : ∃ i, i ≤ L ∧ ¬Zone x i := by
      obtain ⟨i, hi⟩ := Classical.not_forall.mp hz
      obtain ⟨h1, h2⟩ := Classical.not_imp.mp hi
      exact ⟨i, h1, h2⟩
    obtain ⟨i, ⟨hi, hn⟩, hf⟩ : ∃ i, (i ≤ L ∧ ¬Zone x i) ∧ ∀ j, j < i → Zone x j := by
      obtain ⟨i, hi⟩ := ex
      clear hz
      induction i using Nat.strongRecOn with
      | _ i ih =>
        by_cases hj : ∃ j, j < i ∧ ¬Zone x j
        · obtain ⟨j, h1, h2⟩ := hj
          exact ih j h1 ⟨by omega, h2⟩
        · exact ⟨i, hi, fun j hji => Classical.byContradiction fun z => hj ⟨j, hji, z⟩⟩
    have h70 : ∀ {p q r : Nat}, Three p q r → Hh l x p q r i ≤ 70 := fun {p q r} h => by
      cases i with
      | zero =>
        exfalso
        refine hn fun q r hq hr _ z => ?_
        have := P.st q hq
        omega
      | succ i =>
        have a := P.zone_all (i := i) (by omega) (fun j hj => hf j (by omega)) h
        have b := P.h_up h (i := i) (by omega)
        omega
    by_cases h4 : i + 4 ≤ L
    · obtain ⟨q, hq⟩ := Classical.not_forall.mp hn
      obtain ⟨r, hr⟩ := Classical.not_forall.mp hq
      obtain ⟨lq, hr⟩ := Classical.not_imp.mp hr
      obtain ⟨lr, hr⟩ := Classical.not_imp.mp hr
      obtain ⟨nqr, hr⟩ := Classical.not_imp.mp hr
      have h7 := Classical.not_not.mp hr
      obtain ⟨p, h⟩ : ∃ p, Three p q r := by
        refine ⟨3 - q - r, ?_⟩
        unfold Three
        omega
      obtain ⟨low, stay⟩ := P.root h h4 h7.1 h7.2
      have s0 := P.st p h.1
      have fall : ∀ d, i + d ≤ L → x (i + d) p ≤ x i p ∧ (i + d < L → x (i + d + 1) p ≤ x (i + d) p) := by
        intro d
        induction d with
        | zero =>
          intro hd
          refine ⟨Int.le_refl _, fun hl => ?_⟩
          obtain ⟨m, en, go⟩ := P.step (i + 0) hl
          have := stay m (en p h.1)
          have := go p h.1
          omega
        | succ d ih =>
          intro hd
          obtain ⟨a, b⟩ := ih (by omega)
          have b := b (by omega)
          refine ⟨by rw [show i + (d + 1) = i + d + 1 by omega]; omega, fun hl => ?_⟩
          obtain ⟨m, en, go⟩ := P.step (i + (d + 1)) hl
          have e1 := en p h.1
          have := stay m (by rw [show i + (d + 1) = i + d + 1 by omega] at e1; omega)
          have := go p h.1
          omega
      have low2 : ∀ j, i ≤ j → j ≤ L → x j p ≤ x i p := fun j h1 h2 => by
        have := (fall (j - i) (by omega)).1
        rw [show i + (j - i) = j by omega] at this
        exact this
      have fall2 : ∀ j, i ≤ j → j < L → x (j + 1) p ≤ x j p := fun j h1 h2 => by
        have := (fall (j - i) (by omega)).2
        rw [show i + (j - i) = j by omega] at this
        exact this h2
      have iq : x i q ≤ 70 := Int.le_trans (P.h_pos hi h.swap) (h70 h.swap)
      have ir : x i r ≤ 70 := Int.le_trans (P.h_pos hi h) (h70 h)
      have kr : x i r + l * x i q ≤ 70 := by
        have := h70 h
        have b := P.nn i hi p h.1
        unfold Hh at this
        rcases P.l01 with e | e <;> rw [e] at this ⊢ <;> omega
      have kq : x i q + l * x i r ≤ 70 := by
        have := h70 h.swap
        have b := P.nn i hi p h.1
        unfold Hh at this
        rcases P.l01 with e | e <;> rw [e] at this ⊢ <;> omega
      have one : ∀ e, i ≤ e → e ≤ L → (∀ j, i ≤ j → j ≤ e → x j p = x i p) → x e r ≤ 210 ∧ x e q ≤ 210 := fun e h1 h2 hc => by
        have a := P.phase_r h h1 h2 hc
        have b := P.phase_r h.swap h1 h2 hc
        omega
      have lowL := low2 L hi (Nat.le_refl _)
      by_cases hc : ∀ j, i ≤ j → j ≤ L → x j p = x i p
      · obtain ⟨a, b⟩ := one L hi (Nat.le_refl _) hc
        exact .inr ⟨p, q, r, h, by omega, by omega, by omega⟩
      · -- the low place falls once
        obtain ⟨k, ⟨k1, k2, k3⟩, kf⟩ : ∃ k, (i ≤ k ∧ k ≤ L ∧ x k p ≠ x i p) ∧ ∀ j, i ≤ j → j < k → x j p = x i p := by
          have ex : ∃ k, i ≤ k ∧ k ≤ L ∧ x k p ≠ x i p := by
            obtain ⟨k, hk⟩ := Classical.not_forall.mp hc
            obtain ⟨k1, hk⟩ := Classical.not_imp.mp hk
            obtain ⟨k2, k3⟩ := Classical.not_imp.mp hk
            exact ⟨k, k1, k2, k3⟩
          obtain ⟨k, hk⟩ := ex
          clear hc
          induction k using Nat.strongRecOn with
          | _ k ih =>
            by_cases hj : ∃ j, i ≤ j ∧ j < k ∧ x j p ≠ x i p
            · obtain ⟨j, h1, h2, h3⟩ := hj
              exact ih j h2 ⟨h1, by omega, h3⟩
            · exact ⟨k, hk, fun j h1 h2 => Classical.byContradiction fun z => hj ⟨j, h1, h2, z⟩⟩
        have ki : i < k := Nat.lt_of_le_of_ne k1 fun e => by rw [← e] at k3; exact k3 rfl
        have kn := P.nn k k2 p h.1
        have kl := low2 k k1 k2
        have xi := P.nn i hi p h.1
        have k0 : x k p = 0 := by omega
        obtain ⟨a, b⟩ := one (k - 1) (by omega) (by omega) fun j h1 h2 => kf j h1 (by omega)
        have ep : x (k - 1) p = x i p := kf (k - 1) (by omega) (by omega)
        have ur := P.h_up h (i := k - 1) (by omega)
        have uq := P.h_up h.swap (i := k - 1) (by omega)
        have dr := P.down (i := k - 1) (s := r) (by omega) h.2.2.1
        have dq := P.down (i := k - 1) (s := q) (by omega) h.2.1
        rw [show k - 1 + 1 = k by omega] at ur uq dr dq
        have stay0 : ∀ d, k + d ≤ L → x (k + d) p = 0 := by
          intro d
          induction d with
          | zero => intro _; exact k0
          | succ d ih =>
            intro hd
            have a := ih (by omega)
            have b := fall2 (k + d) (by omega) (by omega)
            have c := P.nn (k + d + 1) (by omega) p h.1
            rw [show k + (d + 1) = k + d + 1 by omega]
            omega
        have cons : ∀ j, k ≤ j → j ≤ L → x j p = x k p := fun j h1 h2 => by
          have := stay0 (j - k) (by omega)
          rw [show k + (j - k) = j by omega] at this
          omega
        have fr := P.phase_r h k2 (Nat.le_refl _) cons
        have fq := P.phase_r h.swap k2 (Nat.le_refl _) cons
        unfold Hh at ur uq
        refine .inr ⟨p, q, r, h, by omega, ?_, ?_⟩
        · rcases P.l01 with e | e
          · rw [e] at ur uq fq fr
            omega
          · rw [e] at ur uq fq fr
            omega
        · rcases P.l01 with e | e
          · rw [e] at ur uq fq fr
            omega
          · rw [e] at ur uq fq fr
            omega
    · refine .inl fun s hs => ?_
      obtain ⟨p, q, h⟩ := three_of hs
      have a := P.h_more h (i := i) (L - i) (by omega)
      rw [show i + (L - i) = L by omega] at a
      have b := P.h_pos (Nat.le_refl _) h
      have c := h70 h
      omega
end
end Tw

/-! Tw30: in plain Lean: a search by breadth: depths, paths, what is found. -/
namespace Tw
/-- how deep an index lies, by its parents -/
def dep (par : Nat → Nat) (i : Nat) : Nat := if h : par i < i then dep par (par i) + 1 else 0
theorem dep_zero (par : Nat → Nat) : dep par 0 = 0 := by
  unfold dep
  rw [dif_neg (by omega)]
theorem dep_succ {par : Nat → Nat} {i : Nat} (h : par i < i) : dep par i = dep par (par i) + 1 := by
  conv => lhs; unfold dep
  rw [dif_pos h]
/-- the one n steps up -/
def itr (par : Nat → Nat) : Nat → Nat → Nat
  | 0, i => i
  | n + 1, i => itr par n (par i)
theorem itr_succ (par : Nat → Nat) : ∀ (n i : Nat), itr par (n + 1) i = par (itr par n i)
  | 0, i => rfl
  | n + 1, i => itr_succ par n (par i)
/-- a search: N found, those below a explored; `go i m` : the index found for move m at i -/
structure Srch {α μ : Type} (f : Nat → α) (par : Nat → Nat) (by_ : Nat → μ) (N a : Nat) (st : α → μ → α → Prop) : Prop where
  one : 0 < N
  lt : ∀ i, 0 < i → i < N → par i < i
  at_ : ∀ i, 0 < i → i < N → par i ≤ a
  mono : ∀ i k, 0 < i → i ≤ k → k < N → par i ≤ par k
  made : ∀ i, 0 < i → i < N → st (f (par i)) (by_ i) (f i)
  exp : ∀ i, i < a → i < N → ∀ m y, st (f i) m y → ∃ q, q < N ∧ f q = y ∧ (q = 0 ∨ par q ≤ i)
  nod : ∀ i k, i < N → k < N → f i = f k → i = k
section
variable {α μ : Type} {f : Nat → α} {par : Nat → Nat} {by_ : Nat → μ} {N a : Nat} {st : α → μ → α → Prop}
theorem Srch.dep_mono (S : Srch f par by_ N a st) : ∀ {k i : Nat}, i ≤ k → k < N → dep par i ≤ dep par k := by
  intro k
  induction k using Nat.strongRecOn with
  | _ k ih =>
    intro i hik hk
    rcases Nat.eq_zero_or_pos i with rfl | hi
    · rw [dep_zero]
      exact Nat.zero_le _
    · have h1 := S.lt i hi (by omega)
      have h2 := S.lt k (by omega) hk
      have h3 := S.mono i k hi hik hk
      rw [dep_succ h1, dep_succ h2]
      have := ih (par k) h2 h3 (by omega)
      omega
/-- a run of k moves -/
inductive RunN (st : α → μ → α → Prop) (x0 : α) : Nat → α → Prop
  | nil : RunN st x0 0 x0
  | snoc {k : Nat} {y z : α} {m : μ} : RunN st x0 k y → st y m z → RunN st x0 (k + 1) z
/-- with one of depth d about, what fewer moves lead to is found, no deeper than that -/
theorem Srch.complete (S : Srch f par by_ N a st) {i : Nat} (hi : i < N) : ∀ {k : Nat} {y : α}, RunN st (f 0) k y → k < dep par i → ∃ q, q < N ∧ f q = y ∧ dep par q ≤ k := by
  intro k y h
  induction h with
  | nil => intro _; exact ⟨0, S.one, rfl, by rw [dep_zero]; exact Nat.le_refl _⟩
  | @snoc k y z m _ hs ih =>
    intro hk
    obtain ⟨r, r1, r2, r3⟩ := ih (by omega)
    have hi0 : 0 < i := Nat.pos_of_ne_zero fun e => by rw [e, dep_zero] at hk; omega
    have hl := S.lt i hi0 hi
    have hd := dep_succ hl
    have hra : r < par i := by
      refine Nat.lt_of_not_le fun z => ?_
      have := S.dep_mono z r1
      omega
    have hpa := S.at_ i hi0 hi
    obtain ⟨q, q1, q2, q3⟩ := S.exp r (by omega) r1 m z (by rw [r2]; exact hs)
    refine ⟨q, q1, q2, ?_⟩
    rcases q3 with rfl | q3
    · rw [dep_zero]
      exact Nat.zero_le _
    · rcases Nat.eq_zero_or_pos q with rfl | hq
      · rw [dep_zero]
        exact Nat.zero_le _
      · rw [dep_succ (S.lt q hq q1)]
        have := S.dep_mono q3 r1
        omega
/-- the path to i: what stands at depth k on it -/
def onP (f : Nat → α) (par : Nat → Nat) (i k : Nat) : α := f (itr par (dep par i - k) i)
theorem Srch.itr_dep (S : Srch f par by_ N a st) {i : Nat} (hi : i < N) : ∀ {n : Nat}, n ≤ dep par i → itr par n i < N ∧ dep par (itr par n i) = dep par i - n
  | 0, _ => ⟨hi, rfl⟩
  | n + 1, h => by
    obtain ⟨h1, h2⟩ := Srch.itr_dep S hi (n := n) (by omega)
    rw [itr_succ]
    have h0 : 0 < itr par n i := Nat.pos_of_ne_zero fun e => by rw [e, dep_zero] at h2; omega
    have hl := S.lt _ h0 h1
    refine ⟨by omega, ?_⟩
    rw [dep_succ hl] at h2
    omega
theorem Srch.dep0 (S : Srch f par by_ N a st) {i : Nat} (hi : i < N) (h : dep par i = 0) : i = 0 := by
  refine Classical.byContradiction fun z => ?_
  rw [dep_succ (S.lt i (by omega) hi)] at h
  omega
theorem Srch.path_zero (S : Srch f par by_ N a st) {i : Nat} (hi : i < N) : itr par (dep par i) i = 0 := by
  obtain ⟨h1, h2⟩ := S.itr_dep hi (Nat.le_refl _)
  exact S.dep0 h1 (by omega)
/-- the indices on the path -/
def pathI (par : Nat → Nat) (i k : Nat) : Nat := itr par (dep par i - k) i
theorem Srch.path_par (S : Srch f par by_ N a st) {i k : Nat} (hi : i < N) (hk : k < dep par i) : pathI par i (k + 1) < N ∧ 0 < pathI par i (k + 1) ∧ par (pathI par i (k + 1)) = pathI par i k ∧ dep par (pathI par i (k + 1)) = k + 1 := by
  unfold pathI
  obtain ⟨h1, h2⟩ := S.itr_dep hi (n := dep par i - (k + 1)) (by omega)
  refine ⟨h1, Nat.pos_of_ne_zero fun e => by rw [e, dep_zero] at h2; omega, ?_, by omega⟩
  rw [← itr_succ par, show dep par i - (k + 1) + 1 = dep par i - k by omega]
theorem Srch.path_end (i : Nat) : pathI par i (dep par i) = i := by
  unfold pathI
  rw [Nat.sub_self]
  rfl
theorem Srch.path_start (S : Srch f par by_ N a st) {i : Nat} (hi : i < N) : pathI par i 0 = 0 := by
  unfold pathI
  exact S.path_zero hi
theorem Srch.path_lt (S : Srch f par by_ N a st) {i : Nat} (hi : i < N) : ∀ {k : Nat}, k ≤ dep par i → pathI par i k < N ∧ dep par (pathI par i k) = k
  | 0, _ => by
    rw [S.path_start hi, dep_zero]
    exact ⟨S.one, rfl⟩
  | k + 1, h => by
    obtain ⟨h1, _, _, h2⟩ := S.path_par hi (k := k) (by omega)
    exact ⟨h1, h2⟩
/-- what lies two or more steps above the end is explored -/
theorem Srch.path_exp (S : Srch f par by_ N a st) {i k : Nat} (hi : i < N) (hk : k + 2 ≤ dep par i) : pathI par i k < a := by
  obtain ⟨h1, h2, h3, h4⟩ := S.path_par hi (k := k + 1) (by omega)
  obtain ⟨g1, g2, g3, g4⟩ := S.path_par hi (k := k) (by omega)
  have := S.at_ _ h2 h1
  have := S.lt _ g2 g1
  omega
/-- so is what follows on one four or more steps above the end -/
theorem Srch.child_exp (S : Srch f par by_ N a st) {i k q : Nat} (hi : i < N) (hk : k + 4 ≤ dep par i) (hq : q < N) (h : q = 0 ∨ par q ≤ pathI par i k) : q < a := by
  obtain ⟨h1, h2, h3, h4⟩ := S.path_par hi (k := k + 1) (by omega)
  obtain ⟨g1, g2, g3, g4⟩ := S.path_par hi (k := k) (by omega)
  have he := S.path_exp hi (k := k + 2) (by omega)
  have hl := S.lt _ g2 g1
  have ee : k + 1 + 1 = k + 2 := rfl
  rw [ee] at h1 h2 h3
  rcases Nat.eq_zero_or_pos q with rfl | hq0
  · omega
  · rcases h with rfl | h
    · omega
    · refine Nat.lt_of_not_le fun z => ?_
      have := S.mono _ q h2 (by omega) hq
      omega
end
end Tw

/-! Tw31: in plain Lean: a search in a net that falls into two parts. -/
namespace Tw
def StR (ms : MvS) (x : List Int) (m : Nat) (y : List Int) : Prop := ∃ mv, ms[m]? = some mv ∧ overB x mv.1 = true ∧ y = ledR x mv.1 mv.2
/-- the moves touch places of A alone, or none of A -/
structure Spl (n : Nat) (ms : MvS) (A : Nat → Bool) : Prop where
  len : ∀ mv ∈ ms, mv.1.length = n ∧ mv.2.length = n
  two : ∀ mv ∈ ms, (∀ s, s < n → A s = false → mv.1.getD s 0 = 0 ∧ mv.2.getD s 0 = 0) ∨ ∀ s, s < n → A s = true → mv.1.getD s 0 = 0 ∧ mv.2.getD s 0 = 0
/-- y at the places of A, x0 at the others -/
def mixR (n : Nat) (A : Nat → Bool) (y x0 : List Int) : List Int := (List.range n).map fun s => if A s then y.getD s 0 else x0.getD s 0
theorem mix_len {n : Nat} {A : Nat → Bool} {y x0 : List Int} : (mixR n A y x0).length = n := by
  unfold mixR
  rw [List.length_map, List.length_range]
theorem mix_get {n s : Nat} {A : Nat → Bool} {y x0 : List Int} (h : s < n) : (mixR n A y x0).getD s 0 = if A s then y.getD s 0 else x0.getD s 0 := getD_map_range h
theorem rowE {n : Nat} {a b : List Int} (ha : a.length = n) (hb : b.length = n) (h : ∀ s, s < n → a.getD s 0 = b.getD s 0) : a = b := vec_ext (by omega) fun k hk => h k (by omega)
section
variable {n : Nat} {ms : MvS} {A : Nat → Bool} {x0 : List Int}
theorem mix_step (P : Spl n ms A) (h0 : ∀ x ∈ x0, 0 ≤ x) {x y : List Int} {m : Nat} {mv : List Int × List Int} (hx : x.length = n) (hm : ms[m]? = some mv) (ho : overB x mv.1 = true) (hy : y = ledR x mv.1 mv.2)
    (ha : ∀ s, s < n → A s = false → mv.1.getD s 0 = 0 ∧ mv.2.getD s 0 = 0) : StR ms (mixR n A x x0) m (mixR n A y x0) := by
  obtain ⟨l1, l2⟩ := P.len mv (List.mem_of_getElem? hm)
  refine ⟨mv, hm, overB_iff.mpr fun s hs => ?_, ?_⟩
  · rw [mix_get (by omega)]
    cases e : A s with
    | true => exact overB_iff.mp ho s hs
    | false =>
      rw [(ha s (by omega) e).1]
      rcases getD_mem_or (l := x0) s with q | q
      · exact h0 _ q
      · show 0 ≤ x0.getD s 0
        omega
  · refine rowE mix_len (by rw [led_len, mix_len]) fun s hs => ?_
    rw [led_get (by rw [mix_len]; exact hs), mix_get hs, mix_get hs]
    cases e : A s with
    | true =>
      rw [hy, if_pos rfl, if_pos rfl, led_get (by omega)]
    | false =>
      have := ha s hs e
      rw [if_neg (by decide), if_neg (by decide)]
      omega
theorem mix_stay (P : Spl n ms A) {x y : List Int} {m : Nat} {mv : List Int × List Int} (hx : x.length = n) (hm : ms[m]? = some mv) (hy : y = ledR x mv.1 mv.2)
    (ha : ∀ s, s < n → A s = true → mv.1.getD s 0 = 0 ∧ mv.2.getD s 0 = 0) : mixR n A y x0 = mixR n A x x0 := by
  obtain ⟨l1, l2⟩ := P.len mv (List.mem_of_getElem? hm)
  refine rowE mix_len mix_len fun s hs => ?_
  rw [mix_get hs, mix_get hs]
  cases e : A s with
  | true =>
    have := ha s hs e
    rw [if_pos rfl, if_pos rfl, hy, led_get (by omega)]
    omega
  | false => rfl
variable {f : Nat → List Int} {par by_ : Nat → Nat} {N a : Nat}
theorem Srch.rows (P : Spl n ms A) (S : Srch f par by_ N a (StR ms)) (h0 : (f 0).length = n) : ∀ {i : Nat}, i < N → (f i).length = n := by
  intro i
  induction i using Nat.strongRecOn with
  | _ i ih =>
    intro hi
    rcases Nat.eq_zero_or_pos i with rfl | hp
    · exact h0
    · obtain ⟨mv, _, _, e⟩ := S.made i hp hi
      rw [e, led_len]
      exact ih _ (S.lt i hp hi) (by have := S.lt i hp hi; omega)
/-- the moves of A alone, along a path -/
theorem Srch.part (P : Spl n ms A) (S : Srch f par by_ N a (StR ms)) (h0 : (f 0).length = n) (hn : ∀ x ∈ f 0, 0 ≤ x) : ∀ {i : Nat}, i < N → ∃ c, c ≤ dep par i ∧ RunN (StR ms) (f 0) c (mixR n A (f i) (f 0)) ∧
    (c = dep par i → ∀ k, k < dep par i → ∀ mv, ms[by_ (pathI par i (k + 1))]? = some mv → ∀ s, s < n → A s = false → mv.1.getD s 0 = 0 ∧ mv.2.getD s 0 = 0) := by
  intro i
  induction i using Nat.strongRecOn with
  | _ i ih =>
    intro hi
    rcases Nat.eq_zero_or_pos i with rfl | hp
    · refine ⟨0, Nat.zero_le _, ?_, fun _ k hk => ?_⟩
      · have e : mixR n A (f 0) (f 0) = f 0 := rowE mix_len h0 fun s hs => by
          rw [mix_get hs]
          split <;> rfl
        rw [e]
        exact .nil
      · rw [dep_zero] at hk
        omega
    · have hl := S.lt i hp hi
      obtain ⟨c, c1, c2, c3⟩ := ih _ hl (by omega)
      obtain ⟨mv, m1, m2, m3⟩ := S.made i hp hi
      have hd := dep_succ hl
      have hx := S.rows P h0 (i := par i) (by omega)
      rcases P.two mv (List.mem_of_getElem? m1) with ha | ha
      · refine ⟨c + 1, by omega, .snoc c2 (mix_step P hn hx m1 m2 m3 ha), fun e k hk => ?_⟩
        have e2 : c = dep par (par i) := by omega
        -- the last step, or one of the parent's path
        rcases Nat.lt_or_eq_of_le (show k ≤ dep par (par i) by omega) with hk2 | hk2
        · have ep : pathI par i (k + 1) = pathI par (par i) (k + 1) := by
            unfold pathI
            rw [show dep par i - (k + 1) = dep par (par i) - (k + 1) + 1 by omega]
            rfl
          rw [ep]
          exact c3 e2 k hk2
        · have ep : pathI par i (k + 1) = i := by
            unfold pathI
            rw [show dep par i - (k + 1) = 0 by omega]
            rfl
          rw [ep]
          intro mv' hm' s hs hA
          rw [m1] at hm'
          cases hm'
          exact ha s hs hA
      · refine ⟨c, by omega, by rw [mix_stay P hx m1 m3 ha]; exact c2, fun e => by omega⟩
/-- the part of A stands in the list by itself, and its path has moves of A alone -/
theorem Srch.alone (P : Spl n ms A) (S : Srch f par by_ N a (StR ms)) (h0 : (f 0).length = n) (hn : ∀ x ∈ f 0, 0 ≤ x) {i : Nat} (hi : i < N) : ∃ q, q < N ∧ f q = mixR n A (f i) (f 0) ∧
    ∀ k, k < dep par q → ∀ mv, ms[by_ (pathI par q (k + 1))]? = some mv → ∀ s, s < n → A s = false → mv.1.getD s 0 = 0 ∧ mv.2.getD s 0 = 0 := by
  have ex : ∃ q, q < N ∧ f q = mixR n A (f i) (f 0) := by
    obtain ⟨c, c1, c2, c3⟩ := S.part P h0 hn hi
    rcases Nat.lt_or_eq_of_le c1 with h | h
    · obtain ⟨q, q1, q2, _⟩ := S.complete hi c2 h
      exact ⟨q, q1, q2⟩
    · -- no other move on the path: it is i itself
      have c3 := c3 h
      refine ⟨i, hi, rowE (S.rows P h0 hi) mix_len fun s hs => ?_⟩
      rw [mix_get hs]
      cases e : A s with
      | true => rfl
      | false =>
        rw [if_neg (by decide)]
        have key : ∀ k, k ≤ dep par i → (f (pathI par i k)).getD s 0 = (f 0).getD s 0 := by
          intro k
          induction k with
          | zero =>
            intro _
            rw [S.path_start hi]
          | succ k ih =>
            intro hk
            obtain ⟨g1, g2, g3, _⟩ := S.path_par hi (k := k) (by omega)
            obtain ⟨mv, m1, m2, m3⟩ := S.made _ g2 g1
            have z := c3 k (by omega) mv m1 s hs e
            rw [g3] at m3
            have hpl := S.path_lt hi (k := k) (by omega)
            rw [m3, led_get (by rw [S.rows P h0 hpl.1]; exact hs), z.1, z.2, ih (by omega)]
            omega
        have := key (dep par i) (Nat.le_refl _)
        rw [Srch.path_end] at this
        exact this
  obtain ⟨q, q1, q2⟩ := ex
  refine ⟨q, q1, q2, ?_⟩
  obtain ⟨c, c1, c2, c3⟩ := S.part P h0 hn q1
  rcases Nat.lt_or_eq_of_le c1 with h | h
  · exfalso
    obtain ⟨r, r1, r2, r3⟩ := S.complete q1 c2 h
    have e : mixR n A (f q) (f 0) = f q := by
      rw [q2]
      refine rowE mix_len mix_len fun s hs => ?_
      rw [mix_get hs, mix_get hs]
      split <;> rfl
    rw [e] at r2
    have := S.nod r q r1 q1 r2
    rw [this] at r3
    omega
  · exact c3 h
end
end Tw

/-! Tw32: in plain Lean: a part of at most three places in a search: where its paths end. -/
namespace Tw
def BadS (f : Nat → List Int) (par : Nat → Nat) (N : Nat) : Prop := ∀ q, q < N → ∀ k, k < dep par q → overB (f q) (f (pathI par q k)) = false
theorem itr_add (par : Nat → Nat) : ∀ (m n i : Nat), itr par m (itr par n i) = itr par (n + m) i
  | m, 0, i => by rw [Nat.zero_add]; rfl
  | m, n + 1, i => by
    rw [show n + 1 + m = n + m + 1 by omega]
    exact itr_add par m n (par i)
section
variable {n : Nat} {ms : MvS} {A : Nat → Bool} {f : Nat → List Int} {par by_ : Nat → Nat} {N a : Nat} {cs : Nat → Nat} {l : Int}
theorem path_path {α μ : Type} {f : Nat → α} {by_ : Nat → μ} {st : α → μ → α → Prop} (S : Srch f par by_ N a st) {q j k : Nat} (hq : q < N) (hj : j ≤ dep par q) (hk : k ≤ j) : pathI par (pathI par q j) k = pathI par q k := by
  obtain ⟨_, h2⟩ := S.path_lt hq hj
  have e : pathI par (pathI par q j) k = itr par (j - k) (pathI par q j) := by
    show itr par (dep par (pathI par q j) - k) (pathI par q j) = _
    rw [h2]
  rw [e]
  unfold pathI
  rw [itr_add, show dep par q - j + (j - k) = dep par q - k by omega]
/-- A's moves -/
def AMv (n : Nat) (ms : MvS) (A : Nat → Bool) : Type := { mv : List Int × List Int // mv ∈ ms ∧ ∀ s, s < n → A s = false → mv.1.getD s 0 = 0 ∧ mv.2.getD s 0 = 0 }
structure Sized (n : Nat) (ms : MvS) (x0 : List Int) : Prop where
  t0 : ∀ mv ∈ ms, ∀ x ∈ mv.1, 0 ≤ x ∧ x ≤ 2
  g0 : ∀ mv ∈ ms, ∀ x ∈ mv.2, 0 ≤ x
  x0 : ∀ x ∈ x0, 0 ≤ x ∧ x ≤ 2
theorem getD_bnd {r : List Int} {b : Int} (hb : 0 ≤ b) (h : ∀ x ∈ r, 0 ≤ x ∧ x ≤ b) (k : Nat) : 0 ≤ r.getD k 0 ∧ r.getD k 0 ≤ b := by
  rcases getD_mem_or (l := r) k with q | q
  · exact h _ q
  · rw [q]
    exact ⟨Int.le_refl _, hb⟩
theorem getD_pos {r : List Int} (h : ∀ x ∈ r, 0 ≤ x) (k : Nat) : 0 ≤ r.getD k 0 := by
  rcases getD_mem_or (l := r) k with q | q
  · exact h _ q
  · rw [q]
    exact Int.le_refl _
theorem led_nn {x : List Int} {mv : List Int × List Int} (hl : mv.1.length = x.length) (hg : ∀ v ∈ mv.2, 0 ≤ v) (ho : overB x mv.1 = true) : ∀ v ∈ ledR x mv.1 mv.2, 0 ≤ v := fun v hv => by
  unfold ledR at hv
  obtain ⟨k, hk, rfl⟩ := List.mem_map.mp hv
  have hk := List.mem_range.mp hk
  have := overB_iff.mp ho k (by omega)
  have := getD_pos hg k
  omega
theorem Srch.nn (P : Spl n ms A) (S : Srch f par by_ N a (StR ms)) (Z : Sized n ms (f 0)) (h0 : (f 0).length = n) : ∀ {i : Nat}, i < N → ∀ x ∈ f i, 0 ≤ x := by
  intro i hi
  rcases Nat.eq_zero_or_pos i with rfl | hp
  · exact fun x hx => (Z.x0 x hx).1
  · obtain ⟨mv, m1, m2, m3⟩ := S.made i hp hi
    have hl := S.lt i hp hi
    rw [m3]
    refine led_nn ?_ (Z.g0 mv (List.mem_of_getElem? m1)) m2
    rw [(P.len mv (List.mem_of_getElem? m1)).1, S.rows P h0 (by omega)]
/-- a search's path of A's moves alone, read at three places -/
theorem Srch.p3 (P : Spl n ms A) (S : Srch f par by_ N a (StR ms)) (B : BadS f par N) (Z : Sized n ms (f 0)) (h0 : (f 0).length = n)
    (hc : ∀ s, s < n → A s = true → ∃ u, u < 3 ∧ cs u = s) (hl : l = 0 ∨ l = 1)
    (hup : ∀ mv ∈ ms, (∀ s, s < n → A s = false → mv.1.getD s 0 = 0 ∧ mv.2.getD s 0 = 0) → ∀ p q r, Three p q r → mv.2.getD (cs r) 0 - mv.1.getD (cs r) 0 + l * (mv.2.getD (cs p) 0 - mv.1.getD (cs p) 0 + (mv.2.getD (cs q) 0 - mv.1.getD (cs q) 0)) ≤ 2)
    {q : Nat} (hq : q < N) (hal : ∀ k, k < dep par q → ∀ mv, ms[by_ (pathI par q (k + 1))]? = some mv → ∀ s, s < n → A s = false → mv.1.getD s 0 = 0 ∧ mv.2.getD s 0 = 0) :
    P3 (μ := AMv n ms A) (fun m s => m.1.1.getD (cs s) 0) (fun m s => m.1.2.getD (cs s) 0) l (fun k s => (f (pathI par q k)).getD (cs s) 0) (dep par q) := by
  have rows : ∀ {i}, i < N → (f i).length = n := fun h => S.rows P h0 h
  -- off A nothing changes
  have off : ∀ k, k ≤ dep par q → ∀ s, s < n → A s = false → (f (pathI par q k)).getD s 0 = (f 0).getD s 0 := by
    intro k
    induction k with
    | zero => intro _ s _ _; rw [S.path_start hq]
    | succ k ih =>
      intro hk s hs hA
      obtain ⟨g1, g2, g3, _⟩ := S.path_par hq (k := k) (by omega)
      obtain ⟨mv, m1, m2, m3⟩ := S.made _ g2 g1
      have z := hal k (by omega) mv m1 s hs hA
      rw [g3] at m3
      rw [m3, led_get (by rw [rows (S.path_lt hq (k := k) (by omega)).1]; exact hs), z.1, z.2, ih (by omega) s hs hA]
      omega
  -- over one another at the three places: so all
  have ov : ∀ {y z : List Int}, y.length = n → z.length = n → (∀ s, s < n → A s = false → y.getD s 0 = z.getD s 0) → Ov3 (fun s => y.getD (cs s) 0) (fun s => z.getD (cs s) 0) → overB y z = true := fun {y z} hy hz he h3 => overB_iff.mpr fun s hs => by
    cases e : A s with
    | false => rw [he s (by omega) e]; exact Int.le_refl _
    | true =>
      obtain ⟨u, hu, rfl⟩ := hc s (by omega) e
      exact h3 u hu
  have led3 : ∀ {y : List Int} (m : AMv n ms A) (s : Nat), y.length = n → (ledR y m.1.1 m.1.2).getD (cs s) 0 = y.getD (cs s) 0 - m.1.1.getD (cs s) 0 + m.1.2.getD (cs s) 0 := fun {y} m s hy => by
    by_cases h : cs s < n
    · exact led_get (by omega)
    · obtain ⟨a1, a2⟩ := P.len m.1 m.2.1
      have o : ∀ {r : List Int}, r.length = n → r.getD (cs s) 0 = 0 := fun {r} hr => by
        rw [List.getD_eq_getElem?_getD, List.getElem?_eq_none_iff.mpr (by omega)]
        rfl
      rw [o (by rw [led_len]; exact hy), o hy, o a1, o a2]
      rfl
  have en : ∀ {y : List Int} (m : AMv n ms A), y.length = n → (∀ v ∈ y, 0 ≤ v) → En3 (fun (m : AMv n ms A) s => m.1.1.getD (cs s) 0) (fun s => y.getD (cs s) 0) m → overB y m.1.1 = true := fun {y} m hy hn h => overB_iff.mpr fun s hs => by
    have a1 := (P.len m.1 m.2.1).1
    cases e : A s with
    | false =>
      rw [(m.2.2 s (by omega) e).1]
      exact getD_pos hn s
    | true =>
      obtain ⟨u, hu, rfl⟩ := hc s (by omega) e
      exact h u hu
  -- a child of an explored one that has x0 off A
  have child : ∀ {i : Nat}, i < a → i < N → (∀ s, s < n → A s = false → (f i).getD s 0 = (f 0).getD s 0) → ∀ (m : AMv n ms A), En3 (fun (m : AMv n ms A) s => m.1.1.getD (cs s) 0) (fun s => (f i).getD (cs s) 0) m →
      ∃ r, r < N ∧ (r = 0 ∨ par r ≤ i) ∧ (∀ s, (f r).getD (cs s) 0 = (f i).getD (cs s) 0 - m.1.1.getD (cs s) 0 + m.1.2.getD (cs s) 0) ∧ (∀ s, s < n → A s = false → (f r).getD s 0 = (f 0).getD s 0) ∧ Safe3 (fun s => (f r).getD (cs s) 0) (fun s => (f 0).getD (cs s) 0) := fun {i} ha hi ho m he => by
    have hov := en m (rows hi) (S.nn P Z h0 hi) he
    obtain ⟨j, hj⟩ := List.getElem?_of_mem m.2.1
    obtain ⟨r, r1, r2, r3⟩ := S.exp i ha hi j _ ⟨m.1, hj, hov, rfl⟩
    have hoff : ∀ s, s < n → A s = false → (f r).getD s 0 = (f 0).getD s 0 := fun s hs hA => by
      have z := m.2.2 s hs hA
      rw [r2, led_get (by rw [rows hi]; exact hs), z.1, z.2, ho s hs hA]
      omega
    refine ⟨r, r1, r3, fun s => by rw [r2]; exact led3 m s (rows hi), hoff, ?_⟩
    rcases Nat.eq_zero_or_pos r with rfl | hr
    · exact .inl fun _ _ => rfl
    · refine .inr fun h3 => ?_
      have hd : 0 < dep par r := by rw [dep_succ (S.lt r hr r1)]; omega
      have := B r r1 0 hd
      rw [S.path_start r1, ov (rows r1) h0 hoff h3] at this
      cases this
  have st0 : ∀ s, (f (pathI par q 0)).getD s 0 = (f 0).getD s 0 := fun s => by rw [S.path_start hq]
  refine ⟨fun m s => getD_bnd (by decide) (Z.t0 m.1 m.2.1) _, fun m s => getD_pos (Z.g0 m.1 m.2.1) _, hl, fun m p q r h => hup m.1 m.2.1 m.2.2 p q r h, fun i hi s _ => getD_pos (S.nn P Z h0 (S.path_lt hq hi).1) _, fun s _ => ?_, fun i hi => ?_, fun i j hij hj h3 => ?_, fun i hi m he y hy => ?_⟩
  · show (f (pathI par q 0)).getD (cs s) 0 ≤ 2
    rw [st0]
    exact (getD_bnd (by decide) Z.x0 _).2
  · obtain ⟨g1, g2, g3, _⟩ := S.path_par hq hi
    obtain ⟨mv, m1, m2, m3⟩ := S.made _ g2 g1
    rw [g3] at m2 m3
    have hm := List.mem_of_getElem? m1
    have hrow := rows (S.path_lt hq (k := i) (by omega)).1
    let m : AMv n ms A := ⟨mv, hm, hal i hi mv m1⟩
    refine ⟨m, fun s _ => ?_, fun s _ => by
      show (f (pathI par q (i + 1))).getD (cs s) 0 = _
      rw [m3]
      exact led3 m s hrow⟩
    show mv.1.getD (cs s) 0 ≤ (f (pathI par q i)).getD (cs s) 0
    by_cases hs : cs s < n
    · exact overB_iff.mp m2 _ (by rw [(P.len mv hm).1]; exact hs)
    · rw [List.getD_eq_getElem?_getD, List.getElem?_eq_none_iff.mpr (by rw [(P.len mv hm).1]; omega)]
      exact getD_pos (S.nn P Z h0 (S.path_lt hq (k := i) (by omega)).1) _
  · have hjl := S.path_lt hq hj
    have hil := S.path_lt hq (k := i) (by omega)
    have b := B _ hjl.1 i (by rw [hjl.2]; exact hij)
    rw [path_path S hq hj (by omega), ov (rows hjl.1) (rows hil.1) (fun s hs hA => by rw [off j hj s hs hA, off i (by omega) s hs hA]) h3] at b
    cases b
  · have hpl := S.path_lt hq (k := i) (by omega)
    obtain ⟨r, r1, r2, r3, r4, r5⟩ := child (S.path_exp hq (by omega)) hpl.1 (off i (by omega)) m he
    have ey : ∀ s, s < 3 → y s = (f r).getD (cs s) 0 := fun s hs => by rw [hy s hs, r3 s]
    have tr : ∀ {y : Nat → Int} {r : Nat}, (∀ s, s < 3 → y s = (f r).getD (cs s) 0) → Safe3 (fun s => (f r).getD (cs s) 0) (fun s => (f 0).getD (cs s) 0) → Safe3 y fun s => (f (pathI par q 0)).getD (cs s) 0 := fun {y r} e h => by
      rcases h with h | h
      · exact .inl fun s hs => by
          show y s = (f (pathI par q 0)).getD (cs s) 0
          rw [e s hs, st0]
          exact h s hs
      · exact .inr fun z => h fun s hs => by
          have this : (f (pathI par q 0)).getD (cs s) 0 ≤ y s := z s hs
          rw [e s hs, st0] at this
          exact this
    refine ⟨tr ey r5, fun m' he' z hz => ?_⟩
    have hra := S.child_exp hq (k := i) (by omega) r1 r2
    obtain ⟨r', _, _, q3, _, q5⟩ := child hra r1 r4 m' fun s hs => by
      have := he' s hs
      rw [ey s hs] at this
      exact this
    exact tr (fun s hs => by rw [hz s hs, ey s hs, q3 s]) q5
end
end Tw

/-! Tw33: in plain Lean: how many a search finds before a pump, in a net of two parts. -/
namespace Tw
abbrev Tri := Int × Int × Int
def boxL (a b c : Nat) : List Tri := (List.range a).flatMap fun x => (List.range b).flatMap fun y => (List.range c).map fun z => ((x : Nat), (y : Nat), (z : Nat))
theorem flatK {α β : Type} {f : α → List β} {k : Nat} : ∀ {l : List α}, (∀ x ∈ l, (f x).length = k) → (l.flatMap f).length = l.length * k
  | [], _ => by simp
  | x :: l, h => by
    rw [List.flatMap_cons, List.length_append, h x List.mem_cons_self, flatK fun y hy => h y (List.mem_cons_of_mem _ hy), List.length_cons, Nat.succ_mul, Nat.add_comm]
theorem box_len (a b c : Nat) : (boxL a b c).length = a * (b * c) := by
  unfold boxL
  rw [flatK (k := b * c), List.length_range]
  intro x _
  rw [flatK (k := c), List.length_range]
  intro y _
  rw [List.length_map, List.length_range]
theorem box_in {a b c : Nat} {x y z : Int} (h0 : 0 ≤ x ∧ 0 ≤ y ∧ 0 ≤ z) (h : x < a ∧ y < b ∧ z < c) : ((x, y, z) : Tri) ∈ boxL a b c := by
  unfold boxL
  refine List.mem_flatMap.mpr ⟨x.toNat, List.mem_range.mpr (by omega), List.mem_flatMap.mpr ⟨y.toNat, List.mem_range.mpr (by omega), List.mem_map.mpr ⟨z.toNat, List.mem_range.mpr (by omega), ?_⟩⟩⟩
  rw [Int.toNat_of_nonneg h0.1, Int.toNat_of_nonneg h0.2.1, Int.toNat_of_nonneg h0.2.2]
def box3 : List Tri := boxL 81 81 81 ++ (boxL 2 854 854 ++ (boxL 854 2 854 ++ boxL 854 854 2))
theorem box3_len : box3.length = 4907337 := by
  unfold box3
  rw [List.length_append, List.length_append, List.length_append, box_len, box_len, box_len, box_len]
theorem box3_in {y : Nat → Int} (h0 : ∀ s, s < 3 → 0 ≤ y s) (h : In3 y) : ((y 0, y 1, y 2) : Tri) ∈ box3 := by
  have a := h0 0 (by omega)
  have b := h0 1 (by omega)
  have c := h0 2 (by omega)
  unfold box3
  rcases h with h | ⟨p, q, r, ht, h1, h2, h3⟩
  · have := h 0 (by omega)
    have := h 1 (by omega)
    have := h 2 (by omega)
    exact List.mem_append_left _ (box_in ⟨a, b, c⟩ (by omega))
  · refine List.mem_append_right _ ?_
    have hp := ht.1
    rcases (show p = 0 ∨ p = 1 ∨ p = 2 by omega) with rfl | rfl | rfl
    · rcases (show (q = 1 ∧ r = 2) ∨ (q = 2 ∧ r = 1) by unfold Three at ht; omega) with ⟨rfl, rfl⟩ | ⟨rfl, rfl⟩ <;> exact List.mem_append_left _ (box_in ⟨a, b, c⟩ (by omega))
    · rcases (show (q = 0 ∧ r = 2) ∨ (q = 2 ∧ r = 0) by unfold Three at ht; omega) with ⟨rfl, rfl⟩ | ⟨rfl, rfl⟩ <;> exact List.mem_append_right _ (List.mem_append_left _ (box_in ⟨a, b, c⟩ (by omega)))
    · rcases (show (q = 0 ∧ r = 1) ∨ (q = 1 ∧ r = 0) by unfold Three at ht; omega) with ⟨rfl, rfl⟩ | ⟨rfl, rfl⟩ <;> exact List.mem_append_right _ (List.mem_append_right _ (box_in ⟨a, b, c⟩ (by omega)))
/-- what a part is worth: where its paths may end -/
def keyR (cs : Nat → Nat) (y : List Int) : Tri := (y.getD (cs 0) 0, y.getD (cs 1) 0, y.getD (cs 2) 0)
section
variable {n : Nat} {ms : MvS} {A : Nat → Bool} {f : Nat → List Int} {par by_ : Nat → Nat} {N a : Nat} {cs : Nat → Nat} {l : Int}
/-- the places that cs reads, of a part A: those of A, or none -/
structure Reads (n : Nat) (A : Nat → Bool) (cs : Nat → Nat) : Prop where
  all : ∀ s, s < n → A s = true → ∃ u, u < 3 ∧ cs u = s
  own : ∀ u, u < 3 → cs u < n → A (cs u) = true
def UpA (n : Nat) (ms : MvS) (A : Nat → Bool) (cs : Nat → Nat) (l : Int) : Prop := (l = 0 ∨ l = 1) ∧ ∀ mv ∈ ms, (∀ s, s < n → A s = false → mv.1.getD s 0 = 0 ∧ mv.2.getD s 0 = 0) → ∀ p q r, Three p q r → mv.2.getD (cs r) 0 - mv.1.getD (cs r) 0 + l * (mv.2.getD (cs p) 0 - mv.1.getD (cs p) 0 + (mv.2.getD (cs q) 0 - mv.1.getD (cs q) 0)) ≤ 2
theorem key_mix (R : Reads n A cs) {y x0 : List Int} (hy : y.length = n) : keyR cs (mixR n A y x0) = keyR cs y := by
  have one : ∀ u, u < 3 → (mixR n A y x0).getD (cs u) 0 = y.getD (cs u) 0 := fun u hu => by
    by_cases h : cs u < n
    · rw [mix_get h, R.own u hu h, if_pos rfl]
    · rw [List.getD_eq_getElem?_getD, List.getElem?_eq_none_iff.mpr (by rw [mix_len]; omega), List.getD_eq_getElem?_getD, List.getElem?_eq_none_iff.mpr (by omega)]
  unfold keyR
  rw [one 0 (by omega), one 1 (by omega), one 2 (by omega)]
theorem Srch.key3 (P : Spl n ms A) (S : Srch f par by_ N a (StR ms)) (B : BadS f par N) (Z : Sized n ms (f 0)) (h0 : (f 0).length = n) (R : Reads n A cs) (U : UpA n ms A cs l) {i : Nat} (hi : i < N) : keyR cs (f i) ∈ box3 := by
  obtain ⟨q, q1, q2, q3⟩ := S.alone P h0 (fun x hx => (Z.x0 x hx).1) hi
  have p3 := S.p3 P B Z h0 R.all U.1 U.2 q1 q3
  have b := box3_in (fun s hs => p3.nn _ (Nat.le_refl _) s hs) p3.bound
  rw [← key_mix R (x0 := f 0) (S.rows P h0 hi), ← q2]
  simp only [Srch.path_end] at b
  exact b
/-- two places: the third of cs lies outside -/
theorem Srch.key2 (P : Spl n ms A) (S : Srch f par by_ N a (StR ms)) (B : BadS f par N) (Z : Sized n ms (f 0)) (h0 : (f 0).length = n) (R : Reads n A cs) (U : UpA n ms A cs l) (hd : n ≤ cs 2) {i : Nat} (hi : i < N) : keyR cs (f i) ∈ boxL 9 9 1 := by
  obtain ⟨q, q1, q2, q3⟩ := S.alone P h0 (fun x hx => (Z.x0 x hx).1) hi
  have p3 := S.p3 P B Z h0 R.all U.1 U.2 q1 q3
  have z : ∀ k, k ≤ dep par q → (f (pathI par q k)).getD (cs 2) 0 = 0 := fun k hk => by
    rw [List.getD_eq_getElem?_getD, List.getElem?_eq_none_iff.mpr (by rw [S.rows P h0 (S.path_lt q1 hk).1]; exact hd)]
    rfl
  have t1 : Three 2 0 1 := by unfold Three; omega
  have c : ∀ j, 0 ≤ j → j ≤ dep par q → (fun k s => (f (pathI par q k)).getD (cs s) 0) j 2 = (fun k s => (f (pathI par q k)).getD (cs s) 0) 0 2 := fun j _ hj => by
    show (f (pathI par q j)).getD (cs 2) 0 = (f (pathI par q 0)).getD (cs 2) 0
    rw [z j hj, z 0 (Nat.zero_le _)]
  have a1 := p3.phase_r t1 (Nat.zero_le _) (Nat.le_refl _) c
  have a2 := p3.phase_r t1.swap (Nat.zero_le _) (Nat.le_refl _) c
  have s0 := p3.st 0 (by omega)
  have s1 := p3.st 1 (by omega)
  have n0 := p3.nn _ (Nat.le_refl _) 0 (by omega)
  have n1 := p3.nn _ (Nat.le_refl _) 1 (by omega)
  have m0 := p3.nn 0 (Nat.zero_le _) 0 (by omega)
  have m1 := p3.nn 0 (Nat.zero_le _) 1 (by omega)
  have z2 := z _ (Nat.le_refl _)
  simp only [Srch.path_end] at a1 a2 n0 n1 z2
  rw [← key_mix R (x0 := f 0) (S.rows P h0 hi), ← q2]
  refine box_in ⟨n0, n1, by rw [z2]; exact Int.le_refl _⟩ ?_
  rcases U.1 with e | e <;> rw [e] at a1 a2 <;> omega
/-- one place -/
theorem Srch.key1 (P : Spl n ms A) (S : Srch f par by_ N a (StR ms)) (B : BadS f par N) (Z : Sized n ms (f 0)) (h0 : (f 0).length = n) (R : Reads n A cs) (h1 : n ≤ cs 1) (h2 : n ≤ cs 2) {i : Nat} (hi : i < N) : keyR cs (f i) ∈ boxL 3 1 1 := by
  obtain ⟨q, q1, q2, q3⟩ := S.alone P h0 (fun x hx => (Z.x0 x hx).1) hi
  have out : ∀ {k}, n ≤ k → (f q).getD k 0 = 0 := fun {k} h => by
    rw [List.getD_eq_getElem?_getD, List.getElem?_eq_none_iff.mpr (by rw [S.rows P h0 q1]; exact h)]
    rfl
  have low : (f q).getD (cs 0) 0 ≤ 2 := by
    have b0 := (getD_bnd (by decide) Z.x0 (cs 0)).2
    rcases Nat.eq_zero_or_pos q with rfl | hq
    · exact b0
    · have hd : 0 < dep par q := by rw [dep_succ (S.lt q hq q1)]; omega
      have b := B q q1 0 hd
      rw [S.path_start q1] at b
      refine Classical.byContradiction fun z => ?_
      have : overB (f q) (f 0) = true := overB_iff.mpr fun s hs => by
        cases e : A s with
        | false =>
          rw [q2, mix_get (by omega), e, if_neg (by decide)]
          exact Int.le_refl _
        | true =>
          obtain ⟨u, hu, rfl⟩ := R.all s (by omega) e
          rcases (show u = 0 ∨ u = 1 ∨ u = 2 by omega) with rfl | rfl | rfl
          · omega
          · omega
          · omega
      rw [this] at b
      cases b
  rw [← key_mix R (x0 := f 0) (S.rows P h0 hi), ← q2]
  have nn := getD_pos (S.nn P Z h0 q1) (cs 0)
  unfold keyR
  rw [out h1, out h2]
  exact box_in ⟨nn, by decide, by decide⟩ (by omega)
/-- found: no more than the two parts' ends together -/
theorem found_le {LA LB : List Tri} {ca cb : Nat → Nat} (hr : ∀ i, i < N → (f i).length = n) (nod : ∀ i k, i < N → k < N → f i = f k → i = k) (hall : ∀ s, s < n → ∃ u, u < 3 ∧ (ca u = s ∨ cb u = s))
    (ha : ∀ i, i < N → keyR ca (f i) ∈ LA) (hb : ∀ i, i < N → keyR cb (f i) ∈ LB) : N ≤ LA.length * LB.length := by
  have e : (LA.flatMap fun x => LB.map fun y => (x, y)).length = LA.length * LB.length := flatK fun x _ => List.length_map ..
  rw [← e]
  have l : ((List.range N).map fun i => (keyR ca (f i), keyR cb (f i))).length = N := by rw [List.length_map, List.length_range]
  conv => lhs; rw [← l]
  refine sub_len ?_ fun u hu => ?_
  · refine List.pairwise_map.mpr (List.Pairwise.imp_of_mem (R := fun i k => i ≠ k) (fun {i k} hi hk hne e => hne ?_) List.nodup_range)
    have hi := List.mem_range.mp hi
    have hk := List.mem_range.mp hk
    have e1 : keyR ca (f i) = keyR ca (f k) := congrArg Prod.fst e
    have e2 : keyR cb (f i) = keyR cb (f k) := congrArg Prod.snd e
    have g : ∀ {c : Nat → Nat}, keyR c (f i) = keyR c (f k) → ∀ u, u < 3 → (f i).getD (c u) 0 = (f k).getD (c u) 0 := fun {c} h u hu => by
      unfold keyR at h
      rcases (show u = 0 ∨ u = 1 ∨ u = 2 by omega) with rfl | rfl | rfl
      · exact congrArg Prod.fst h
      · exact congrArg (fun x => x.2.1) h
      · exact congrArg (fun x => x.2.2) h
    refine nod i k hi hk (rowE (hr i hi) (hr k hk) fun s hs => ?_)
    obtain ⟨u, hu, q | q⟩ := hall s hs
    · rw [← q]
      exact g e1 u hu
    · rw [← q]
      exact g e2 u hu
  · obtain ⟨i, hi, rfl⟩ := List.mem_map.mp hu
    have hi := List.mem_range.mp hi
    exact List.mem_flatMap.mpr ⟨_, ha i hi, List.mem_map.mpr ⟨_, hb i hi, rfl⟩⟩
end
end Tw

/-! Tw34: a dict of the def's own, its keys rows of whole numbers: {row: 0}, row not in d, d[row] = number. -/
namespace Tw
open PySem PySem.Spec PyProof.Rows L2 PyProof
theorem units1 {k : Nat} {A : Around} (r : Room k A) : A.units + 1 < cLine := by have := r.un; omega
theorem subDict_one {prog : Program} {w : World} {A : Around} {E : Value → Shared → Prop} {s : Shared} {pairs : List (Sem Value × Sem Value)} {Q : Addr → Shared → Prop} (hlen : pairs.length ≤ 15)
    (h : wpAny (model prog w) A (evalPairs pairs) (fun vs s1 => ∃ kv vv, vs = [(kv, vv)] ∧ wpAny (model prog w) A (dictSet s.heap.objs.size kv vv) (fun _ s2 => Q s.heap.objs.size s2) E s1) E
      { s with heap := s.heap.push { cls := .type "dict", data := .dict #[] } }) : wpAny (model prog w) A (subDict pairs) Q E s := by
  unfold subDict
  refine wpAny_bind (wpAny_alloc ?_)
  refine wpAny_bind (wpAny_holding ?_)
  rw [if_pos hlen]
  refine wpAny_bind (wpAny_mono h (fun vs s₁ h₁ => ?_) fun _ _ e => e)
  obtain ⟨kv, vv, rfl, hq⟩ := h₁
  refine wpAny_holding ?_
  rw [List.forIn_cons]
  refine wpAny_bind (wpAny_bind (wpAny_bind (wpAny_mono hq (fun _ s2 h2 => ?_) fun _ _ e => e)))
  refine wpAny_pure ?_
  show wpAny _ _ (forIn [] PUnit.unit _) _ _ _
  rw [List.forIn_nil]
  exact wpAny_pure (wpAny_pure (wpAny_pure h2))
/-- {k: v}, k a tuple -/
def tDisp1 (tk tv : TE) : TE := fun σ H Q => ∀ p, H p = none → tk σ (upd H p (.dT [])) fun x H1 => tv σ H1 fun y H2 => ∃ (k : List Key) (b : Addr), x = .ref b ∧ H2 b = some (.tup (k.map kV)) ∧ H2 p = some (.dT []) ∧ Q (.ref p) (upd H2 p (.dT [(k, y)]))
theorem pe_disp1 {X : Cx} {pos : Pos} {k v : Expr} {tk tv : TE} (hu : X.A.units + 1 < cLine) (hk : PE X k tk) (hv : PE X v tv) : PE X (.Dict [some k] [v] pos) (tDisp1 tk tv) := by
  refine ⟨fun pins s σ H Q I q => ?_⟩
  have hn := I.hok.fresh (Nat.le_refl s.heap.objs.size)
  have I1 := I.laid (a := s.heap.objs.size) (o := .dT []) (h' := s.heap.push { cls := .type "dict", data := .dict #[] }) (t' := s.toks) (fun _ _ q => Heap.get?_push_of_some _ q) (Nat.le_refl _) (dt_empty s.heap I.big)
  rw [arm_eval_Dict, zip_pairTrees [some k] [v] X.env pos rfl rfl, dictDisplay_pairs (pairTrees [some k] [v] X.env pos) (by simp [pairTrees]) (by simp [pairTrees])]
  refine wpAny_bind (wpAny_standAt (wpAny_bind (subDict_one (by simp [pairTrees]) ?_)))
  refine thn ((pps_cons hk hv pps_nil).run pins _ σ _ (fun ps H2 => match ps with | [(x, y)] => ∃ (k : List Key) (b : Addr), x = .ref b ∧ H2 b = some (.tup (k.map kV)) ∧ H2 s.heap.objs.size = some (.dT []) ∧ Q (.ref s.heap.objs.size) (upd H2 s.heap.objs.size (.dT [(k, y)])) | _ => False) I1 (q _ hn)) fun ws s2 ⟨ps, H2, I2, rel, qq⟩ => ?_
  · match ps, qq with
    | [(x, y)], ⟨ks, b, ex, eb, ed, q2⟩ =>
    subst ex
    cases rel with
    | @cons a0 pq as0 bs0 h1 h2 =>
      cases h2
      obtain ⟨u, r⟩ := pq
      obtain ⟨ru, rr⟩ := h1
      cases (show u = Value.ref b from ru)
      refine ⟨_, _, rfl, ?_⟩
      obtain ⟨z, hd, xs, rl, dd⟩ := dt_of I2.hok ed
      have hz : xs.length ≤ sizeLine := by rw [← Paired.length rl]; exact z
      refine wpAny_dictSet_heap (hsz := hz) (show X.A.units < cLine from by omega) (key_of I2.hok eb) dd fun h' dd' hs => wpAny_pure ⟨.ref s.heap.objs.size, _, ?_, rfl, q2⟩
      obtain ⟨q, es, ep, hq, h2, h3, h4, _, h5⟩ := dd'
      refine d_write I2 (by rw [ed]; exact True.intro) hs ⟨q, hq⟩ ⟨by show 1 ≤ sizeLine; decide, hd, _, (KT.put rl ks eb rr).keeps fun c ys ec => ?_, q, es, ep, hq, h2, h3, h4, h5⟩
      rw [upd_ne (ne_of ec ed (fun z => nomatch z))]
      exact ec
section
variable {K : PySem.W.Frag} {E : XK} {δ : List Sl} {P : Out → Prop}
theorem rp_row {I : Hp} {v : V} {r : List Int} (h : Rp K I v (rowD r)) : ∃ b, v = .ref b ∧ I b = some (.tup ((r.map (Sum.inl : Int → Key)).map kV)) := by
  cases h with
  | tup hs ra =>
    rename_i a xs
    have e : ∀ {xs : List V} {r : List Int}, RpAll K I xs (r.map .int) → xs = (r.map (Sum.inl : Int → Key)).map kV := by
      intro xs r
      induction r generalizing xs with
      | nil => intro q; cases q; rfl
      | cons x r ih =>
        intro q
        cases q with
        | cons q1 q2 =>
          cases q1
          rw [ih q2]
          rfl
    exact ⟨a, rfl, by rw [hs, e ra]⟩
/-- a slot takes a new dict of its own -/
theorem RelS.makeD {G H I : Hp} {σ : L2.St} (r : RelS K G H I σ δ) {i : Nat} {p : Addr} {kvs : List (List Int × V)} (s : Same I H) (g : Same G H) (h : H p = Option.none) :
    RelS K G (upd H p (dicO kvs)) I (σ.set i (some (.ref p))) (δ.set i (.dic kvs)) where
  len := by rw [List.length_set, List.length_set, r.len]
  d := fun j y e => by
    rcases set_get e with ⟨rfl, hl, e'⟩ | ⟨hn, e'⟩
    · cases e'
    · obtain ⟨u, h1, h2⟩ := r.d j y e'
      exact ⟨u, by rw [List.getElem?_set_ne (Ne.symm hn)]; exact h1, h2⟩
  own := fun j ys e => by
    rcases set_get e with ⟨rfl, hl, e'⟩ | ⟨hn, e'⟩
    · cases e'
    · obtain ⟨p', vs', h1, h2, h3, h4, h5⟩ := r.own j ys e'
      exact ⟨p', vs', by rw [List.getElem?_set_ne (Ne.symm hn)]; exact h1, h2, h3, by rw [upd_ne (ne_of_none h4 h)]; exact h4, h5⟩
  sep := fun j k ys zs a hn e1 e2 f1 f2 => by
    rcases set_get e1 with ⟨rfl, hl, e'⟩ | ⟨n1, e1'⟩
    · cases e'
    · rcases set_get e2 with ⟨rfl, hl2, e''⟩ | ⟨n2, e2'⟩
      · cases e''
      · rw [List.getElem?_set_ne (Ne.symm n1)] at f1
        rw [List.getElem?_set_ne (Ne.symm n2)] at f2
        exact r.sep j k ys zs a hn e1' e2' f1 f2
  dic := fun j ks e => by
    rcases set_get e with ⟨rfl, hl, e'⟩ | ⟨hn, e'⟩
    · cases e'
      exact ⟨p, by rw [List.getElem?_set_self (by rw [r.len]; exact hl)], g.free h, s.free h, upd_same⟩
    · obtain ⟨p', h1, h2, h3, h4⟩ := r.dic j ks e'
      exact ⟨p', by rw [List.getElem?_set_ne (Ne.symm hn)]; exact h1, h2, h3, by rw [upd_ne (ne_of_none h4 h)]; exact h4⟩
  sepd := fun j k ys zs a hn e1 e2 f1 f2 => by
    rcases set_get e1 with ⟨rfl, hl, e'⟩ | ⟨n1, e1'⟩
    · rcases set_get e2 with ⟨rfl, hl2, e''⟩ | ⟨n2, e2'⟩
      · exact hn rfl
      · obtain ⟨p', h1, h2, h3, h4⟩ := r.dic k zs e2'
        rw [List.getElem?_set_self (by rw [r.len]; exact hl)] at f1
        rw [List.getElem?_set_ne (Ne.symm n2), h1] at f2
        cases f1
        cases f2
        rw [h] at h4
        cases h4
    · rcases set_get e2 with ⟨rfl, hl2, e''⟩ | ⟨n2, e2'⟩
      · obtain ⟨p', h1, h2, h3, h4⟩ := r.dic j ys e1'
        rw [List.getElem?_set_self (by rw [r.len]; exact hl2)] at f2
        rw [List.getElem?_set_ne (Ne.symm n1), h1] at f1
        cases f1
        cases f2
        rw [h] at h4
        cases h4
      · rw [List.getElem?_set_ne (Ne.symm n1)] at f1
        rw [List.getElem?_set_ne (Ne.symm n2)] at f2
        exact r.sepd j k ys zs a hn e1' e2' f1 f2
/-- its own dict is changed -/
theorem RelS.writeD {G H I : Hp} {σ : L2.St} (r : RelS K G H I σ δ) {i : Nat} {p : Addr} {ks ls : List (List Int × V)} (e : δ[i]? = some (.dic ks)) (f : σ[i]? = some (some (.ref p))) :
    RelS K G (upd H p (dicO ls)) I σ (δ.set i (.dic ls)) where
  len := by rw [List.length_set, r.len]
  d := fun j y e1 => by
    rcases set_get e1 with ⟨rfl, hl, e'⟩ | ⟨hn, e'⟩
    · cases e'
    · exact r.d j y e'
  own := fun j zs e1 => by
    rcases set_get e1 with ⟨rfl, hl, e'⟩ | ⟨hn, e'⟩
    · cases e'
    · obtain ⟨p', vs', h1, h2, h3, h4, h5⟩ := r.own j zs e'
      obtain ⟨p2, g1, g2, g3, g4⟩ := r.dic i ks e
      rw [f] at g1
      cases g1
      refine ⟨p', vs', h1, h2, h3, ?_, h5⟩
      rw [upd_ne (show p' ≠ p from fun z => by rw [z, g4] at h4; cases h4)]
      exact h4
  sep := fun j k as bs a hn e1 e2 f1 f2 => by
    rcases set_get e1 with ⟨rfl, hl, e'⟩ | ⟨n1, e1'⟩
    · cases e'
    · rcases set_get e2 with ⟨rfl, hl2, e''⟩ | ⟨n2, e2'⟩
      · cases e''
      · exact r.sep j k as bs a hn e1' e2' f1 f2
  dic := fun j ms e1 => by
    rcases set_get e1 with ⟨rfl, hl, e'⟩ | ⟨hn, e'⟩
    · cases e'
      obtain ⟨p', h1, h2, h3, h4⟩ := r.dic j ks e
      rw [f] at h1
      cases h1
      exact ⟨p, f, h2, h3, upd_same⟩
    · obtain ⟨p', h1, h2, h3, h4⟩ := r.dic j ms e'
      refine ⟨p', h1, h2, h3, ?_⟩
      rw [upd_ne (show p' ≠ p from fun z => r.sepd i j ks ms p (Ne.symm hn) e e' f (by rw [← z]; exact h1))]
      exact h4
  sepd := fun j k as bs a hn e1 e2 f1 f2 => by
    rcases set_get e1 with ⟨rfl, hl, e'⟩ | ⟨n1, e1'⟩
    · rcases set_get e2 with ⟨rfl, hl2, e''⟩ | ⟨n2, e2'⟩
      · exact hn rfl
      · exact r.sepd j k ks bs a hn e e2' f1 f2
    · rcases set_get e2 with ⟨rfl, hl2, e''⟩ | ⟨n2, e2'⟩
      · exact r.sepd j k as ks a hn e1' e f1 f2
      · exact r.sepd j k as bs a hn e1' e2' f1 f2
theorem inl_inj {a b : List Int} (e : a.map (Sum.inl : Int → Key) = b.map Sum.inl) : a = b := List.map_inj_right (fun x y h => Sum.inl.inj h) |>.mp e
theorem valV_dic (r : List Int) : ∀ kvs : List (List Int × V), (valV (kvs.map fun kv => (kv.1.map (Sum.inl : Int → Key), kv.2)) (r.map Sum.inl)).isSome = (kvs.map (·.1)).contains r
  | [] => rfl
  | kv :: kvs => by
    rw [List.map_cons, List.map_cons, List.contains_cons, ← valV_dic r kvs]
    by_cases h : kv.1 = r
    · rw [valV_pos (show (kv.1.map (Sum.inl : Int → Key), kv.2).1 = r.map Sum.inl from by rw [h])]
      rw [h, beq_self_eq_true]
      rfl
    · rw [valV_neg (fun e => h (inl_inj e)), beq_eq_false_iff_ne.mpr (Ne.symm h), Bool.false_or]
theorem as_setD {i j : Nat} {r : List Int} (h : δ[i]? = some (.d (rowD r))) (k : P (.nx (δ.set j (.dic [(r, .int 0)])))) : As K E (tAsg (tDisp1 (tVar i) (tC (.int 0))) (gName j)) δ P := fun G I0 σ H I D n rl c => by
  intro p hp
  obtain ⟨v, h1, h2⟩ := rl.d i _ h
  obtain ⟨b, rfl, hb⟩ := rp_row h2
  have hbH : H b = some (.tup ((r.map (Sum.inl : Int → Key)).map kV)) := n.s _ _ hb
  refine ⟨.ref b, h1, _, b, rfl, by rw [upd_ne (ne_of_none hbH hp)]; exact hbH, upd_same, ?_⟩
  rw [upd_upd]
  exact c.nx _ _ _ I k (n.trans (Nx.own n.s hp)) (rl.makeD (kvs := [(r, .int 0)]) n.s n.h hp)
theorem et_notinD {i j : Nat} {r : List Int} {kvs : List (List Int × V)} (h : δ[i]? = some (.d (rowD r))) (hd : δ[j]? = some (.dic kvs)) : EvT K (tB (tDNotIn (tVar i) (tVar j))) δ (!(kvs.map (·.1)).contains r) := fun G σ H I s g rl Q q => by
  obtain ⟨v, h1, h2⟩ := rl.d i _ h
  obtain ⟨b, rfl, hb⟩ := rp_row h2
  obtain ⟨p, g1, g2, g3, g4⟩ := rl.dic j _ hd
  refine ⟨.ref b, h1, .ref p, g1, p, _, rfl, DGet.t g4 (s _ _ hb), _, rfl, ?_⟩
  rw [valV_dic]
  exact q H I (Nx.refl s)
theorem as_putD {i j : Nat} {r : List Int} {kvs : List (List Int × V)} {tv : TE} {n : Int} (h : δ[i]? = some (.d (rowD r))) (hd : δ[j]? = some (.dic kvs)) (hv : Ev K tv δ (.int n)) (hz : kvs.length < sizeLine) (hn : (kvs.map (·.1)).contains r = false)
    (k : P (.nx (δ.set j (.dic (kvs ++ [(r, .int n)]))))) : As K E (sDPut (tVar j) (tVar i) tv) δ P := fun G I0 σ H I D nx rl c => by
  refine hv G σ H I nx.s nx.h rl _ fun v H1 I1 n1 rv => ?_
  cases rv
  have r1 := rl.next n1
  obtain ⟨v, h1, h2⟩ := r1.d i _ h
  obtain ⟨b, rfl, hb⟩ := rp_row h2
  obtain ⟨p, g1, g2, g3, g4⟩ := r1.dic j _ hd
  have n2 := nx.trans n1
  refine ⟨.ref p, g1, .ref b, h1, p, _, rfl, DPut.t g4 (n2.s _ _ hb) (by rw [List.length_map]; exact hz), ?_⟩
  have e : valV (kvs.map fun kv => (kv.1.map (Sum.inl : Int → Key), kv.2)) (r.map Sum.inl) = none := by
    have := valV_dic r kvs
    rw [hn] at this
    cases q : valV (kvs.map fun kv => (kv.1.map (Sum.inl : Int → Key), kv.2)) (r.map Sum.inl) with
    | none => rfl
    | some x => rw [q] at this; cases this
  rw [putK_new _ e]
  have e2 : HO.dT ((kvs.map fun kv => (kv.1.map (Sum.inl : Int → Key), kv.2)) ++ [(r.map Sum.inl, V.int n)]) = dicO (kvs ++ [(r, .int n)]) := by
    unfold dicO
    rw [List.map_append]
    rfl
  rw [e2]
  refine c.nx _ _ _ I1 k ⟨fun q o eb => ?_, n2.i, fun q o eb => ?_, n2.f⟩ (r1.writeD hd g1)
  · rw [upd_ne (ne_of_none eb g2)]
    exact n2.h q o eb
  · rw [upd_ne (ne_of_none eb g3)]
    exact n2.s q o eb
end
end Tw

/-! Tw35: in plain Lean: the search forwards as the program makes it. -/
namespace Tw
theorem dep_congr {p q : Nat → Nat} : ∀ {i : Nat}, (∀ j, j ≤ i → p j = q j) → dep p i = dep q i := by
  intro i
  induction i using Nat.strongRecOn with
  | _ i ih =>
    intro h
    by_cases hp : p i < i
    · have e := h i (Nat.le_refl _)
      have hq : q i < i := by omega
      rw [dep_succ hp, dep_succ hq, ih _ hp fun j hj => h j (by omega), e]
    · have e := h i (Nat.le_refl _)
      have hq : ¬q i < i := by omega
      unfold dep
      rw [dif_neg hp, dif_neg hq]
theorem itr_congr {p q : Nat → Nat} : ∀ {n i : Nat}, (∀ j, j ≤ i → p j = q j ∧ p j ≤ j) → itr p n i = itr q n i
  | 0, _, _ => rfl
  | n + 1, i, h => by
    show itr p n (p i) = itr q n (q i)
    rw [← (h i (Nat.le_refl _)).1]
    have := (h i (Nat.le_refl _)).2
    exact itr_congr fun j hj => h j (by omega)
section
variable {α μ : Type} {f f' : Nat → α} {par par' : Nat → Nat} {by_ by' : Nat → μ} {N a : Nat} {st : α → μ → α → Prop}
theorem Srch.snoc (S : Srch f par by_ N a st) (e : ∀ i, i < N → f' i = f i ∧ par' i = par i ∧ by' i = by_ i) (ha : a < N) (hp : par' N = a) (hs : st (f a) (by' N) (f' N)) (hn : ∀ i, i < N → f i ≠ f' N) : Srch f' par' by' (N + 1) a st where
  one := by omega
  lt := fun i h0 h1 => by
    rcases Nat.lt_or_ge i N with h | h
    · rw [(e i h).2.1]
      exact S.lt i h0 h
    · rw [show i = N by omega, hp]
      exact ha
  at_ := fun i h0 h1 => by
    rcases Nat.lt_or_ge i N with h | h
    · rw [(e i h).2.1]
      exact S.at_ i h0 h
    · rw [show i = N by omega, hp]
      exact Nat.le_refl _
  mono := fun i k h0 h1 h2 => by
    rcases Nat.lt_or_ge k N with h | h
    · rw [(e i (by omega)).2.1, (e k h).2.1]
      exact S.mono i k h0 h1 h
    · rw [show k = N by omega, hp]
      rcases Nat.lt_or_ge i N with h | h
      · rw [(e i h).2.1]
        exact S.at_ i h0 h
      · rw [show i = N by omega, hp]
        exact Nat.le_refl _
  made := fun i h0 h1 => by
    rcases Nat.lt_or_ge i N with h | h
    · rw [(e i h).2.1, (e i h).2.2, (e i h).1, (e _ (by have := S.lt i h0 h; omega)).1]
      exact S.made i h0 h
    · rw [show i = N by omega, hp, (e a ha).1]
      exact hs
  exp := fun i h0 h1 m y h => by
    rw [(e i (by omega)).1] at h
    obtain ⟨q, q1, q2, q3⟩ := S.exp i h0 (by omega) m y h
    exact ⟨q, by omega, by rw [(e q q1).1]; exact q2, by rw [(e q q1).2.1]; exact q3⟩
  nod := fun i k hi hk h => by
    rcases Nat.lt_or_ge i N with h1 | h1
    · rcases Nat.lt_or_ge k N with h2 | h2
      · rw [(e i h1).1, (e k h2).1] at h
        exact S.nod i k h1 h2 h
      · rw [show k = N by omega, (e i h1).1] at h
        exact absurd h (hn i h1)
    · rcases Nat.lt_or_ge k N with h2 | h2
      · rw [show i = N by omega, (e k h2).1] at h
        exact absurd h.symm (hn k h2)
      · omega
theorem Srch.up (S : Srch f par by_ N a st) (h : ∀ m y, st (f a) m y → ∃ q, q < N ∧ f q = y ∧ (q = 0 ∨ par q ≤ a)) : Srch f par by_ N (a + 1) st where
  one := S.one
  lt := S.lt
  at_ := fun i h0 h1 => by have := S.at_ i h0 h1; omega
  mono := S.mono
  made := S.made
  exp := fun i h0 h1 m y hs => by
    rcases Nat.lt_or_ge i a with q | q
    · exact S.exp i q h1 m y hs
    · have e : i = a := by omega
      subst e
      exact h m y hs
  nod := S.nod
end
/-! ### the list -/
structure GNode where
  h : List Int
  p : Option (Nat × Nat)
def gn0 : GNode := ⟨[], none⟩
def gH (F : List GNode) (i : Nat) : List Int := (F.getD i gn0).h
def parO : Option (Nat × Nat) → Nat
  | some (_, a) => a
  | none => 0
def movO : Option (Nat × Nat) → Nat
  | some (m, _) => m
  | none => 0
def gP (F : List GNode) (i : Nat) : Nat := parO (F.getD i gn0).p
def gM (F : List GNode) (i : Nat) : Nat := movO (F.getD i gn0).p
theorem gn_old {F : List GNode} {x : GNode} {i : Nat} (h : i < F.length) : (F ++ [x]).getD i gn0 = F.getD i gn0 := by
  rw [List.getD_eq_getElem?_getD, List.getElem?_append_left h, ← List.getD_eq_getElem?_getD]
theorem gn_new {F : List GNode} {x : GNode} : (F ++ [x]).getD F.length gn0 = x := by
  rw [List.getD_eq_getElem?_getD, List.getElem?_append_right (Nat.le_refl _), Nat.sub_self]
  rfl
def wayF (F : List GNode) (i : Nat) : List Nat := (List.range (dep (gP F) i + 1)).map (pathI (gP F) i)
def pumpF (F : List GNode) (i : Nat) : Option Nat := (List.range (dep (gP F) i)).find? fun k => overB (gH F i) (gH F (pathI (gP F) i k))
abbrev GSt := List GNode × Option Nat
def stepG (ms : MvS) (a : Nat) (s : GSt) (m : Nat) : GSt :=
  if s.2.isSome then s else
  if overB (gH s.1 a) (mvA ms m).1 then
    (if (s.1.map (·.h)).contains (ledR (gH s.1 a) (mvA ms m).1 (mvA ms m).2) then s
    else (s.1 ++ [⟨ledR (gH s.1 a) (mvA ms m).1 (mvA ms m).2, some (m, a)⟩], pumpF (s.1 ++ [⟨ledR (gH s.1 a) (mvA ms m).1 (mvA ms m).2, some (m, a)⟩]) s.1.length))
  else s
def goA (ms : MvS) (F : List GNode) (a : Nat) : GSt := (List.range ms.length).foldl (stepG ms a) (F, none)
def stepO (ms : MvS) (s : GSt × Nat) : GSt × Nat := if s.1.2.isSome = true ∨ s.1.1.length ≤ s.2 then s else (goA ms s.1.1 s.2, s.2 + 1)
def goS (ms : MvS) (x0 : List Int) : Nat → GSt × Nat
  | 0 => (([⟨x0, none⟩], none), 0)
  | k + 1 => stepO ms (goS ms x0 k)
structure GI (ms : MvS) (x0 : List Int) (F : List GNode) (a done : Nat) : Prop where
  S : Srch (gH F) (gP F) (gM F) F.length a (StR ms)
  par : ∀ i x, F[i]? = some x → (i = 0 ∧ x = ⟨x0, none⟩) ∨ ∃ m b, x.p = some (m, b) ∧ m < ms.length ∧ b < i ∧ 0 < i
  dn : ∀ m, m < done → ∀ y, StR ms (gH F a) m y → ∃ q, q < F.length ∧ gH F q = y ∧ (q = 0 ∨ gP F q ≤ a)
theorem gn_at {F : List GNode} {i : Nat} {x : GNode} (h : F[i]? = some x) : F.getD i gn0 = x := by
  rw [List.getD_eq_getElem?_getD, h]
  rfl
section
variable {ms : MvS} {x0 : List Int} {F : List GNode} {a m : Nat}
theorem GI.start : GI ms x0 [⟨x0, none⟩] 0 0 where
  S := {
    one := Nat.zero_lt_one
    lt := fun i h0 h1 => by
      have h1 : i < 1 := h1
      omega
    at_ := fun i h0 h1 => by
      have h1 : i < 1 := h1
      omega
    mono := fun i k h0 h1 h2 => by
      have h2 : k < 1 := h2
      omega
    made := fun i h0 h1 => by
      have h1 : i < 1 := h1
      omega
    exp := fun i h0 => by omega
    nod := fun i k h1 h2 _ => by
      have h1 : i < 1 := h1
      have h2 : k < 1 := h2
      omega }
  par := fun i x e => by
    cases i with
    | zero => exact .inl ⟨rfl, (Option.some.inj e).symm⟩
    | succ i => cases i <;> cases e
  dn := fun m h => by omega
theorem bad_start : BadS (gH [⟨x0, none⟩]) (gP [⟨x0, none⟩]) ([⟨x0, none⟩] : List GNode).length := fun q hq k hk => by
  have hq : q < 1 := hq
  rw [show q = 0 by omega, dep_zero] at hk
  omega
theorem GI.zero (I : GI ms x0 F a m) : gH F 0 = x0 := by
  have h := I.S.one
  rcases I.par 0 F[0] (List.getElem?_eq_getElem h) with ⟨_, e⟩ | ⟨_, _, _, _, h, _⟩
  · unfold gH
    rw [gn_at (List.getElem?_eq_getElem h), e]
  · omega
theorem GI.parle (I : GI ms x0 F a m) : ∀ j, gP F j ≤ j := fun j => by
  unfold gP
  rcases Nat.lt_or_ge j F.length with h | h
  · rw [gn_at (List.getElem?_eq_getElem h)]
    rcases I.par j F[j] (List.getElem?_eq_getElem h) with ⟨rfl, e⟩ | ⟨m, b, e, _, h, _⟩
    · rw [e]
      exact Nat.le_refl _
    · rw [e]
      show b ≤ j
      omega
  · rw [List.getD_eq_getElem?_getD, List.getElem?_eq_none_iff.mpr h]
    exact Nat.zero_le _
theorem gH_len {n : Nat} {A : Nat → Bool} (P : Spl n ms A) (I : GI ms x0 F a m) (h0 : x0.length = n) {i : Nat} (hi : i < F.length) : (gH F i).length = n := I.S.rows P (by rw [I.zero]; exact h0) hi
/-- where a pump is seen: two on a path, the later over the earlier and another -/
def PumpAt (ms : MvS) (F : List GNode) : Prop := ∃ k, pumpF F (F.length - 1) = some k
theorem GI.step (I : GI ms x0 F a m) (hB : BadS (gH F) (gP F) F.length) (ha : a < F.length) (hm : m < ms.length) :
    GI ms x0 (stepG ms a (F, none) m).1 a (m + 1) ∧ ((stepG ms a (F, none) m).2 = none → BadS (gH (stepG ms a (F, none) m).1) (gP (stepG ms a (F, none) m).1) (stepG ms a (F, none) m).1.length) ∧
    (∀ k, (stepG ms a (F, none) m).2 = some k → pumpF (stepG ms a (F, none) m).1 ((stepG ms a (F, none) m).1.length - 1) = some k) ∧ F.length ≤ (stepG ms a (F, none) m).1.length ∧ (stepG ms a (F, none) m).1.length ≤ F.length + 1 := by
  have hmv : ms[m]? = some (mvA ms m) := by
    unfold mvA
    rw [List.getD_eq_getElem?_getD, List.getElem?_eq_getElem hm]
    rfl
  unfold stepG
  rw [if_neg (by simp)]
  cases hov : overB (gH F a) (mvA ms m).1 with
  | false =>
    rw [if_neg (by decide)]
    refine ⟨⟨I.S, I.par, fun j hj y hy => ?_⟩, fun _ => hB, (fun k e => by cases e), Nat.le_refl _, Nat.le_succ _⟩
    rcases Nat.lt_or_ge j m with q | q
    · exact I.dn j q y hy
    · have e : j = m := by omega
      subst e
      obtain ⟨mv, h1, h2, _⟩ := hy
      rw [hmv] at h1
      cases h1
      rw [hov] at h2
      cases h2
  | true =>
    rw [if_pos rfl]
    generalize ho : ledR (gH F a) (mvA ms m).1 (mvA ms m).2 = o
    cases hc : (F.map (·.h)).contains o with
    | true =>
      rw [if_pos rfl]
      refine ⟨⟨I.S, I.par, fun j hj y hy => ?_⟩, fun _ => hB, (fun k e => by cases e), Nat.le_refl _, Nat.le_succ _⟩
      rcases Nat.lt_or_ge j m with q | q
      · exact I.dn j q y hy
      · have e : j = m := by omega
        subst e
        obtain ⟨mv, h1, h2, h3⟩ := hy
        rw [hmv] at h1
        cases h1
        rw [ho] at h3
        subst h3
        obtain ⟨x, hx, e⟩ := List.mem_map.mp (List.contains_iff_mem.mp hc)
        obtain ⟨q, hq, rfl⟩ := List.getElem_of_mem hx
        refine ⟨q, hq, by unfold gH; rw [gn_at (List.getElem?_eq_getElem hq)]; exact e, ?_⟩
        rcases Nat.eq_zero_or_pos q with z | z
        · exact .inl z
        · exact .inr (I.S.at_ q z hq)
    | false =>
      rw [if_neg (by decide)]
      have hno : ∀ i, i < F.length → gH F i ≠ o := fun i hi e => by
        have : o ∈ F.map (·.h) := List.mem_map.mpr ⟨F[i], List.getElem_mem hi, by
          rw [← e]
          unfold gH
          rw [gn_at (List.getElem?_eq_getElem hi)]⟩
        rw [List.contains_iff_mem.mpr this] at hc
        cases hc
      have old : ∀ i, i < F.length → gH (F ++ [⟨o, some (m, a)⟩]) i = gH F i ∧ gP (F ++ [⟨o, some (m, a)⟩]) i = gP F i ∧ gM (F ++ [⟨o, some (m, a)⟩]) i = gM F i := fun i hi => by
        unfold gH gP gM
        rw [gn_old hi]
        exact ⟨rfl, rfl, rfl⟩
      have nH : gH (F ++ [⟨o, some (m, a)⟩]) F.length = o := by unfold gH; rw [gn_new]
      have nP : gP (F ++ [⟨o, some (m, a)⟩]) F.length = a := by unfold gP; rw [gn_new]; rfl
      have nM : gM (F ++ [⟨o, some (m, a)⟩]) F.length = m := by unfold gM; rw [gn_new]; rfl
      have hl : (F ++ [(⟨o, some (m, a)⟩ : GNode)]).length = F.length + 1 := by rw [List.length_append]; rfl
      have S' : Srch (gH (F ++ [⟨o, some (m, a)⟩])) (gP (F ++ [⟨o, some (m, a)⟩])) (gM (F ++ [⟨o, some (m, a)⟩])) (F.length + 1) a (StR ms) := I.S.snoc old ha nP (by
        rw [nM, nH]
        exact ⟨_, hmv, hov, ho.symm⟩) (by rw [nH]; exact hno)
      refine ⟨⟨by rw [hl]; exact S', fun i x e => ?_, fun j hj y hy => ?_⟩, fun hp => ?_, fun k e => ?_, by dsimp only; omega, by dsimp only; omega⟩
      · rcases Nat.lt_or_ge i F.length with h | h
        · rw [List.getElem?_append_left h] at e
          exact I.par i x e
        · have hi := (List.getElem?_eq_some_iff.mp e).1
          rw [hl] at hi
          have ei : i = F.length := by omega
          subst ei
          rw [List.getElem?_append_right (Nat.le_refl _), Nat.sub_self] at e
          cases e
          exact .inr ⟨m, a, rfl, hm, ha, by omega⟩
      · rw [(old a ha).1] at hy
        rcases Nat.lt_or_ge j m with q | q
        · obtain ⟨r, r1, r2, r3⟩ := I.dn j q y hy
          exact ⟨r, by show r < (F ++ [(⟨o, some (m, a)⟩ : GNode)]).length; omega, by rw [(old r r1).1]; exact r2, by rw [(old r r1).2.1]; exact r3⟩
        · have e : j = m := by omega
          subst e
          obtain ⟨mv, h1, h2, h3⟩ := hy
          rw [hmv] at h1
          cases h1
          exact ⟨F.length, by show F.length < (F ++ [(⟨o, some (j, a)⟩ : GNode)]).length; omega, by rw [nH, h3, ho], .inr (by rw [nP]; exact Nat.le_refl _)⟩
      · rw [hl]
        intro q hq k hk
        rcases Nat.lt_or_ge q F.length with h | h
        · have hle : ∀ j, j ≤ q → gP (F ++ [⟨o, some (m, a)⟩]) j = gP F j ∧ gP (F ++ [⟨o, some (m, a)⟩]) j ≤ j := fun j hj => by
            rw [(old j (by omega)).2.1]
            exact ⟨rfl, I.parle j⟩
          have ed : dep (gP (F ++ [⟨o, some (m, a)⟩])) q = dep (gP F) q := dep_congr fun j hj => (hle j hj).1
          rw [ed] at hk
          have ep : pathI (gP (F ++ [⟨o, some (m, a)⟩])) q k = pathI (gP F) q k := by
            unfold pathI
            rw [ed, itr_congr hle]
          rw [ep, (old q h).1, (old _ (I.S.path_lt h (Nat.le_of_lt hk)).1).1]
          exact hB q h k hk
        · have e : q = F.length := by omega
          subst e
          have := List.find?_eq_none.mp hp k (List.mem_range.mpr hk)
          simpa using this
      · rw [hl, Nat.add_sub_cancel]
        exact e
theorem stepG_some {s : GSt} (h : s.2.isSome = true) (m : Nat) : stepG ms a s m = s := by
  unfold stepG
  rw [if_pos h]
theorem fold_some {s : GSt} (h : s.2.isSome = true) : ∀ l : List Nat, l.foldl (stepG ms a) s = s
  | [] => rfl
  | x :: l => by
    rw [List.foldl_cons, stepG_some h]
    exact fold_some h l
def foldG (ms : MvS) (F : List GNode) (a j : Nat) : GSt := (List.range j).foldl (stepG ms a) (F, none)
theorem foldG_succ (ms : MvS) (F : List GNode) (a j : Nat) : foldG ms F a (j + 1) = stepG ms a (foldG ms F a j) j := by
  unfold foldG
  rw [List.range_succ, List.foldl_append]
  rfl
theorem fold_pre {j : Nat} (h : (foldG ms F a j).2.isSome = true) : ∀ d, foldG ms F a (j + d) = foldG ms F a j
  | 0 => rfl
  | d + 1 => by
    rw [← Nat.add_assoc, foldG_succ, fold_pre h d, stepG_some h]
/-- what is known of a state -/
structure GOk (ms : MvS) (x0 : List Int) (s : GSt) (a done : Nat) : Prop where
  I : s.2 = none → GI ms x0 s.1 a done ∧ a < s.1.length
  B : s.2 = none → BadS (gH s.1) (gP s.1) s.1.length
  pump : ∀ k, s.2 = some k → ∃ d, GI ms x0 s.1 a d ∧ pumpF s.1 (s.1.length - 1) = some k
theorem GI.fold (I : GI ms x0 F a 0) (hB : BadS (gH F) (gP F) F.length) (ha : a < F.length) : ∀ j, j ≤ ms.length → GOk ms x0 (foldG ms F a j) a j
  | 0, _ => ⟨fun _ => ⟨I, ha⟩, fun _ => hB, (fun k e => by cases e)⟩
  | j + 1, h => by
    have ih := GI.fold I hB ha j (by omega)
    rw [foldG_succ]
    cases e : (foldG ms F a j).2 with
    | some k =>
      rw [stepG_some (by rw [e]; rfl)]
      exact ⟨fun z => (by rw [e] at z; cases z), fun z => (by rw [e] at z; cases z), ih.pump⟩
    | none =>
      have e2 : foldG ms F a j = ((foldG ms F a j).1, none) := by rw [← e]
      obtain ⟨J, hal⟩ := ih.I e
      obtain ⟨q1, q2, q3, q4, q5⟩ := J.step (ih.B e) hal h
      rw [e2]
      exact ⟨fun _ => ⟨q1, by omega⟩, q2, fun k ek => ⟨_, q1, q3 k ek⟩⟩
theorem goA_eq (ms : MvS) (F : List GNode) (a : Nat) : goA ms F a = foldG ms F a ms.length := rfl
theorem GI.next {d : Nat} (I : GI ms x0 F a d) (hd : ms.length ≤ d) : GI ms x0 F (a + 1) 0 := ⟨I.S.up fun m y hs => I.dn m (by
  obtain ⟨mv, h, _⟩ := hs
  have := (List.getElem?_eq_some_iff.mp h).1
  omega) y hs, I.par, fun m h => by omega⟩
/-- while no pump is seen the one that is looked at is the k-th -/
theorem go_ok (ms : MvS) (x0 : List Int) : ∀ k, ((goS ms x0 k).1.2 = none → GI ms x0 (goS ms x0 k).1.1 (goS ms x0 k).2 0 ∧ BadS (gH (goS ms x0 k).1.1) (gP (goS ms x0 k).1.1) (goS ms x0 k).1.1.length ∧ ((goS ms x0 k).2 = k ∨ (goS ms x0 k).1.1.length ≤ (goS ms x0 k).2)) ∧
    ∀ p, (goS ms x0 k).1.2 = some p → ∃ a d, GI ms x0 (goS ms x0 k).1.1 a d ∧ pumpF (goS ms x0 k).1.1 ((goS ms x0 k).1.1.length - 1) = some p
  | 0 => ⟨fun _ => ⟨GI.start, bad_start, .inl rfl⟩, (fun k e => by cases e)⟩
  | k + 1 => by
    have ih := go_ok ms x0 k
    have eq : goS ms x0 (k + 1) = stepO ms (goS ms x0 k) := rfl
    rw [eq]
    unfold stepO
    by_cases hs : (goS ms x0 k).1.2.isSome = true ∨ (goS ms x0 k).1.1.length ≤ (goS ms x0 k).2
    · rw [if_pos hs]
      refine ⟨fun e => ?_, ih.2⟩
      obtain ⟨h1, h2, h3⟩ := ih.1 e
      rcases hs with q | q
      · rw [e] at q
        cases q
      · exact ⟨h1, h2, .inr q⟩
    · rw [if_neg hs]
      have e : (goS ms x0 k).1.2 = none := by
        cases q : (goS ms x0 k).1.2 with
        | none => rfl
        | some p => exact absurd (.inl (by rw [q]; rfl)) hs
      obtain ⟨h1, h2, h3⟩ := ih.1 e
      have hlt : (goS ms x0 k).2 < (goS ms x0 k).1.1.length := Nat.lt_of_not_le fun z => hs (.inr z)
      have G := h1.fold h2 hlt ms.length (Nat.le_refl _)
      rw [goA_eq]
      refine ⟨fun z => ?_, fun p z => ?_⟩
      · refine ⟨(G.I z).1.next (Nat.le_refl _), G.B z, .inl ?_⟩
        show (goS ms x0 k).2 + 1 = k + 1
        omega
      · obtain ⟨d, q1, q2⟩ := G.pump p z
        exact ⟨_, d, q1, q2⟩
/-! ### it ends -/
theorem go_ex : ∃ b : Nat, b = 14722011 := ⟨_, rfl⟩
noncomputable def goN : Nat := Classical.choose go_ex
theorem goN_val : goN = 14722011 := Classical.choose_spec go_ex
def GoB (ms : MvS) (x0 : List Int) : Prop := ∀ (f : Nat → List Int) (par by_ : Nat → Nat) (N a : Nat), Srch f par by_ N a (StR ms) → BadS f par N → f 0 = x0 → N ≤ goN
noncomputable def goF (ms : MvS) (x0 : List Int) : GSt := (goS ms x0 (goN + 1)).1
theorem go_stop (H : GoB ms x0) : (goS ms x0 (goN + 1)).1.2.isSome = true ∨ (goS ms x0 (goN + 1)).1.1.length ≤ (goS ms x0 (goN + 1)).2 := by
  cases e : (goS ms x0 (goN + 1)).1.2 with
  | some p => exact .inl rfl
  | none =>
    obtain ⟨h1, h2, h3⟩ := (go_ok ms x0 (goN + 1)).1 e
    rcases h3 with h3 | h3
    · have := H _ _ _ _ _ h1.S h2 h1.zero
      exact .inr (by omega)
    · exact .inr h3
theorem go_stay {k : Nat} (h : (goS ms x0 k).1.2.isSome = true ∨ (goS ms x0 k).1.1.length ≤ (goS ms x0 k).2) : ∀ d, goS ms x0 (k + d) = goS ms x0 k
  | 0 => rfl
  | d + 1 => by
    show stepO ms (goS ms x0 (k + d)) = _
    rw [go_stay h d]
    unfold stepO
    rw [if_pos h]
theorem go_same (H : GoB ms x0) {k : Nat} (h : (goS ms x0 k).1.2.isSome = true ∨ (goS ms x0 k).1.1.length ≤ (goS ms x0 k).2) : (goS ms x0 k).1 = goF ms x0 := by
  unfold goF
  rcases Nat.le_total k (goN + 1) with q | q
  · obtain ⟨d, e⟩ := Nat.le.dest q
    rw [← e, go_stay h d]
  · obtain ⟨d, rfl⟩ := Nat.le.dest q
    rw [go_stay (go_stop H) d]
/-- in the end: a pump, or all looked at -/
theorem go_pump (ms : MvS) (x0 : List Int) {p : Nat} (h : (goF ms x0).2 = some p) : ∃ a d, GI ms x0 (goF ms x0).1 a d ∧ pumpF (goF ms x0).1 ((goF ms x0).1.length - 1) = some p := (go_ok ms x0 _).2 p h
theorem go_all (H : GoB ms x0) (h : (goF ms x0).2 = none) : ∃ a, GI ms x0 (goF ms x0).1 a 0 ∧ (goF ms x0).1.length ≤ a ∧ (goF ms x0).1.length ≤ goN := by
  obtain ⟨h1, h2, h3⟩ := (go_ok ms x0 (goN + 1)).1 h
  refine ⟨_, h1, ?_, H _ _ _ _ _ h1.S h2 h1.zero⟩
  rcases go_stop H with q | q
  · have h' : (goS ms x0 (goN + 1)).1.2 = none := h
    rw [h'] at q
    cases q
  · exact q
/-- a net and a beginning whose search ends -/
structure GH (n : Nat) (ms : MvS) (x0 : List Int) : Prop where
  rows : ∀ m ∈ ms, m.1.length = n ∧ m.2.length = n
  xl : x0.length = n
  n1 : 1 ≤ n
  n6 : n ≤ 6
  m10 : ms.length ≤ 10
  nn : ∀ v ∈ x0, 0 ≤ v
  bnd : GoB ms x0
theorem GH.spl {n : Nat} (H : GH n ms x0) : Spl n ms fun _ => true := ⟨H.rows, fun _ _ => .inl fun _ _ h => by cases h⟩
theorem GI.len {n d : Nat} (I : GI ms x0 F a d) (H : GH n ms x0) {i : Nat} (hi : i < F.length) : (gH F i).length = n := gH_len H.spl I H.xl hi
theorem GI.count {n d : Nat} (I : GI ms x0 F a d) (H : GH n ms x0) (B : BadS (gH F) (gP F) F.length) : F.length ≤ goN := H.bnd _ _ _ _ _ I.S B I.zero
end
end Tw

/-! Tw36: in plain Lean: small nets, alone and beside one another: their searches end. -/
namespace Tw
/-- two nets beside one another -/
def bsdM (n n2 : Nat) (ms ms2 : MvS) : MvS :=
  ms.map (fun m => (m.1 ++ List.replicate n2 0, m.2 ++ List.replicate n2 0)) ++ ms2.map fun m => (List.replicate n 0 ++ m.1, List.replicate n 0 ++ m.2)
/-- a net as the law makes it -/
structure PartN (n : Nat) (ms : MvS) : Prop where
  n1 : 1 ≤ n
  n3 : n ≤ 3
  m4 : ms.length ≤ 4
  rows : ∀ m ∈ ms, m.1.length = n ∧ m.2.length = n
  t0 : ∀ m ∈ ms, ∀ x ∈ m.1, 0 ≤ x ∧ x ≤ 2
  g0 : ∀ m ∈ ms, ∀ x ∈ m.2, 0 ≤ x ∧ x ≤ 9
  up : n = 1 ∨ (∀ m ∈ ms, ∀ x ∈ m.2, x ≤ 2) ∨ ∀ m ∈ ms, m.2.sum ≤ m.1.sum + 2
theorem sum3 : ∀ {r : List Int}, r.length ≤ 3 → r.sum = r.getD 0 0 + r.getD 1 0 + r.getD 2 0
  | [], _ => rfl
  | [a], _ => by simp
  | [a, b], _ => by simp
  | [a, b, c], _ => by simp; omega
  | _ :: _ :: _ :: _ :: _, h => by simp at h
def csO (n o k u : Nat) : Nat := if u < k then o + u else n
def inO (o k s : Nat) : Bool := decide (o ≤ s ∧ s < o + k)
theorem inO_t {o k s : Nat} : inO o k s = true ↔ o ≤ s ∧ s < o + k := by unfold inO; simp
theorem inO_f {o k s : Nat} : inO o k s = false ↔ ¬(o ≤ s ∧ s < o + k) := by unfold inO; simp
theorem reads_o {n o k : Nat} (hk : k ≤ 3) (hn : o + k ≤ n) : Reads n (inO o k) (csO n o k) := ⟨fun s hs h => by
  have := inO_t.mp h
  refine ⟨s - o, by omega, ?_⟩
  unfold csO
  rw [if_pos (by omega)]
  omega, fun u hu h => by
  unfold csO at h ⊢
  split at h
  · rename_i q
    rw [if_pos q]
    exact inO_t.mpr (by omega)
  · omega⟩
/-- the moves at the places o .. o + k - 1 are those of msk, or none -/
def PartAt (ms : MvS) (o k : Nat) (msk : MvS) : Prop := ∀ mv ∈ ms, (∃ m ∈ msk, ∀ u, u < k → mv.1.getD (o + u) 0 = m.1.getD u 0 ∧ mv.2.getD (o + u) 0 = m.2.getD u 0) ∨ ∀ u, u < k → mv.1.getD (o + u) 0 = 0 ∧ mv.2.getD (o + u) 0 = 0
theorem get_out {r : List Int} {k : Nat} (h : r.length ≤ k) : r.getD k 0 = 0 := by
  rw [List.getD_eq_getElem?_getD, List.getElem?_eq_none_iff.mpr h]
  rfl
theorem up_part {n o k : Nat} {ms msk : MvS} (P : PartN k msk) (Q : PartAt ms o k msk) (hr : ∀ mv ∈ ms, mv.1.length = n ∧ mv.2.length = n) : k = 1 ∨ ∃ l, UpA n ms (inO o k) (csO n o k) l := by
  have val : ∀ mv ∈ ms, (∃ m ∈ msk, ∀ u, mv.1.getD (csO n o k u) 0 = m.1.getD u 0 ∧ mv.2.getD (csO n o k u) 0 = m.2.getD u 0) ∨ ∀ u, mv.1.getD (csO n o k u) 0 = 0 ∧ mv.2.getD (csO n o k u) 0 = 0 := fun mv hm => by
    obtain ⟨r1, r2⟩ := hr mv hm
    rcases Q mv hm with ⟨m, m1, m2⟩ | z
    · refine .inl ⟨m, m1, fun u => ?_⟩
      obtain ⟨k1, k2⟩ := P.rows m m1
      unfold csO
      by_cases hu : u < k
      · rw [if_pos hu]
        exact m2 u hu
      · rw [if_neg hu, get_out (r := mv.1) (by omega), get_out (r := mv.2) (by omega), get_out (r := m.1) (by omega), get_out (r := m.2) (by omega)]
        exact ⟨rfl, rfl⟩
    · refine .inr fun u => ?_
      unfold csO
      by_cases hu : u < k
      · rw [if_pos hu]
        exact z u hu
      · rw [if_neg hu, get_out (r := mv.1) (by omega), get_out (r := mv.2) (by omega)]
        exact ⟨rfl, rfl⟩
  rcases P.up with h | h | h
  · exact .inl h
  · refine .inr ⟨0, .inl rfl, fun mv hm _ p q r _ => ?_⟩
    rcases val mv hm with ⟨m, m1, m2⟩ | z
    · rw [(m2 r).1, (m2 r).2]
      have a := (getD_bnd (by decide) (P.t0 m m1) r).1
      have b := (getD_bnd (b := 2) (by decide) (fun x hx => ⟨(P.g0 m m1 x hx).1, h m m1 x hx⟩) r).2
      omega
    · rw [(z r).1, (z r).2]
      omega
  · refine .inr ⟨1, .inr rfl, fun mv hm _ p q r ht => ?_⟩
    have key : mv.2.getD (csO n o k 0) 0 - mv.1.getD (csO n o k 0) 0 + (mv.2.getD (csO n o k 1) 0 - mv.1.getD (csO n o k 1) 0) + (mv.2.getD (csO n o k 2) 0 - mv.1.getD (csO n o k 2) 0) ≤ 2 := by
      rcases val mv hm with ⟨m, m1, m2⟩ | z
      · obtain ⟨k1, k2⟩ := P.rows m m1
        have h3 := P.n3
        have e1 := sum3 (r := m.1) (by omega)
        have e2 := sum3 (r := m.2) (by omega)
        have := h m m1
        rw [(m2 0).1, (m2 0).2, (m2 1).1, (m2 1).2, (m2 2).1, (m2 2).2]
        omega
      · rw [(z 0).1, (z 0).2, (z 1).1, (z 1).2, (z 2).1, (z 2).2]
        omega
    obtain ⟨lp, lq, lr, n1, n2, n3⟩ := ht
    rcases (show p = 0 ∨ p = 1 ∨ p = 2 by omega) with rfl | rfl | rfl
    · rcases (show (q = 1 ∧ r = 2) ∨ (q = 2 ∧ r = 1) by omega) with ⟨rfl, rfl⟩ | ⟨rfl, rfl⟩ <;> omega
    · rcases (show (q = 0 ∧ r = 2) ∨ (q = 2 ∧ r = 0) by omega) with ⟨rfl, rfl⟩ | ⟨rfl, rfl⟩ <;> omega
    · rcases (show (q = 0 ∧ r = 1) ∨ (q = 1 ∧ r = 0) by omega) with ⟨rfl, rfl⟩ | ⟨rfl, rfl⟩ <;> omega
def LK : Nat → List Tri
  | 1 => boxL 3 1 1
  | 2 => boxL 9 9 1
  | _ => box3
theorem lk1 : (LK 1).length = 3 := by show (boxL 3 1 1).length = 3; rw [box_len]
theorem lk2 : (LK 2).length = 81 := by show (boxL 9 9 1).length = 81; rw [box_len]
theorem lk3 : (LK 3).length = 4907337 := box3_len
section
variable {n : Nat} {ms : MvS} {f : Nat → List Int} {par by_ : Nat → Nat} {N a : Nat}
theorem part_key {o k : Nat} (P : Spl n ms (inO o k)) (S : Srch f par by_ N a (StR ms)) (B : BadS f par N) (Z : Sized n ms (f 0)) (h0 : (f 0).length = n) (k1 : 1 ≤ k) (k3 : k ≤ 3) (hn : o + k ≤ n)
    (U : k = 1 ∨ ∃ l, UpA n ms (inO o k) (csO n o k) l) {i : Nat} (hi : i < N) : keyR (csO n o k) (f i) ∈ LK k := by
  have R := reads_o (n := n) k3 hn
  have out : ∀ {u}, k ≤ u → n ≤ csO n o k u := fun {u} h => by
    unfold csO
    rw [if_neg (by omega)]
    exact Nat.le_refl _
  rcases (show k = 1 ∨ k = 2 ∨ k = 3 by omega) with rfl | rfl | rfl
  · exact S.key1 P B Z h0 R (out (by omega)) (out (by omega)) hi
  · rcases U with h | ⟨l, U⟩
    · omega
    · exact S.key2 P B Z h0 R U (out (by omega)) hi
  · rcases U with h | ⟨l, U⟩
    · omega
    · exact S.key3 P B Z h0 R U hi
end
theorem hoard2 {n : Nat} {x : List Int} (h : RowOk n 2 x) : ∀ v ∈ x, 0 ≤ v ∧ v ≤ 2 := h.2
/-- a net alone -/
theorem one_bnd {n : Nat} {ms : MvS} {x0 : List Int} (P : PartN n ms) (h : RowOk n 2 x0) : GoB ms x0 := by
  intro f par by_ N a S B e
  have Sp : Spl n ms (inO 0 n) := ⟨P.rows, fun _ _ => .inl fun s hs hA => by
    have := inO_f.mp hA
    omega⟩
  have Z : Sized n ms (f 0) := ⟨P.t0, fun m hm x hx => (P.g0 m hm x hx).1, by rw [e]; exact h.2⟩
  have h0 : (f 0).length = n := by rw [e]; exact h.1
  have n1 := P.n1
  have n3 := P.n3
  have U := up_part (n := n) (o := 0) P (fun mv hm => .inl ⟨mv, hm, fun u hu => by rw [Nat.zero_add]; exact ⟨rfl, rfl⟩⟩) P.rows
  have hle := found_le (LA := LK n) (LB := [((0 : Int), (0 : Int), (0 : Int))]) (ca := csO n 0 n) (cb := fun _ => n) (fun i hi => S.rows Sp h0 hi) S.nod (fun s hs => ⟨s, by omega, .inl (by unfold csO; rw [if_pos hs, Nat.zero_add])⟩)
    (fun i hi => part_key Sp S B Z h0 n1 n3 (by omega) U hi) (fun i hi => by
      have := S.rows Sp h0 hi
      have z : (f i).getD n 0 = 0 := get_out (by omega)
      show ((f i).getD n 0, (f i).getD n 0, (f i).getD n 0) ∈ _
      rw [z]
      exact List.mem_singleton_self _)
  rw [List.length_singleton, Nat.mul_one] at hle
  rw [goN_val]
  rcases (show n = 1 ∨ n = 2 ∨ n = 3 by omega) with rfl | rfl | rfl
  · rw [lk1] at hle
    omega
  · rw [lk2] at hle
    omega
  · rw [lk3] at hle
    omega
theorem one_gh {n : Nat} {ms : MvS} {x0 : List Int} (P : PartN n ms) (h : RowOk n 2 x0) : GH n ms x0 := ⟨P.rows, h.1, P.n1, by have := P.n3; omega, by have := P.m4; omega, fun v hv => (h.2 v hv).1, one_bnd P h⟩
/-! ### beside one another -/
section
variable {n n2 : Nat} {ms ms2 : MvS}
theorem get_zero (n k : Nat) : (List.replicate n (0 : Int)).getD k 0 = 0 := by
  rw [List.getD_eq_getElem?_getD, List.getElem?_replicate]
  split <;> rfl
theorem get_l {a b : List Int} {k : Nat} (h : k < a.length) : (a ++ b).getD k 0 = a.getD k 0 := by
  rw [List.getD_eq_getElem?_getD, List.getElem?_append_left h, ← List.getD_eq_getElem?_getD]
theorem get_r {a b : List Int} {k : Nat} (h : a.length ≤ k) : (a ++ b).getD k 0 = b.getD (k - a.length) 0 := by
  rw [List.getD_eq_getElem?_getD, List.getElem?_append_right h, ← List.getD_eq_getElem?_getD]
theorem bsd_mem {mv : List Int × List Int} (h : mv ∈ bsdM n n2 ms ms2) : (∃ m ∈ ms, mv = (m.1 ++ List.replicate n2 0, m.2 ++ List.replicate n2 0)) ∨ ∃ m ∈ ms2, mv = (List.replicate n 0 ++ m.1, List.replicate n 0 ++ m.2) := by
  unfold bsdM at h
  rcases List.mem_append.mp h with q | q
  · obtain ⟨m, hm, rfl⟩ := List.mem_map.mp q
    exact .inl ⟨m, hm, rfl⟩
  · obtain ⟨m, hm, rfl⟩ := List.mem_map.mp q
    exact .inr ⟨m, hm, rfl⟩
theorem bsd_rows (P : PartN n ms) (P2 : PartN n2 ms2) : ∀ mv ∈ bsdM n n2 ms ms2, mv.1.length = n + n2 ∧ mv.2.length = n + n2 := fun mv hm => by
  rcases bsd_mem hm with ⟨m, m1, rfl⟩ | ⟨m, m1, rfl⟩
  · obtain ⟨a, b⟩ := P.rows m m1
    simp only [List.length_append, List.length_replicate]
    omega
  · obtain ⟨a, b⟩ := P2.rows m m1
    simp only [List.length_append, List.length_replicate]
    omega
theorem zero_l {m : List Int} (hm : m.length = n) {s : Nat} (h : n ≤ s) : (m ++ List.replicate n2 0).getD s 0 = 0 := by
  rw [get_r (by omega)]
  exact get_zero _ _
theorem zero_r {m : List Int} {s : Nat} (h : s < n) : (List.replicate n 0 ++ m).getD s 0 = 0 := by
  rw [get_l (by rw [List.length_replicate]; exact h)]
  exact get_zero _ _
theorem val_l {m : List Int} (hm : m.length = n) {s : Nat} (h : s < n) : (m ++ List.replicate n2 0).getD s 0 = m.getD s 0 := get_l (by omega)
theorem val_r {m : List Int} {s : Nat} : (List.replicate n 0 ++ m).getD (n + s) 0 = m.getD s 0 := by
  rw [get_r (by rw [List.length_replicate]; omega), List.length_replicate, Nat.add_sub_cancel_left]
theorem val_r' {m : List Int} {s : Nat} (h : n ≤ s) : (List.replicate n 0 ++ m).getD s 0 = m.getD (s - n) 0 := by
  rw [get_r (by rw [List.length_replicate]; omega), List.length_replicate]
theorem bsd_apart (P : PartN n ms) (P2 : PartN n2 ms2) : Apart (n + n2) (bsdM n n2 ms ms2) (ltB n) := fun mv hm => by
  have l : ∀ {p : Nat}, ltB n p = true ↔ p < n := by unfold ltB; simp
  have r : ∀ {p : Nat}, ltB n p = false ↔ n ≤ p := by unfold ltB; simp
  rcases bsd_mem hm with ⟨m, m1, rfl⟩ | ⟨m, m1, rfl⟩
  · obtain ⟨a, b⟩ := P.rows m m1
    exact .inl fun s _ h => ⟨zero_l a (r.mp h), zero_l b (r.mp h)⟩
  · exact .inr fun s _ h => ⟨zero_r (l.mp h), zero_r (l.mp h)⟩
theorem bsd_spl1 (P : PartN n ms) (P2 : PartN n2 ms2) : Spl (n + n2) (bsdM n n2 ms ms2) (inO 0 n) := ⟨bsd_rows P P2, fun mv hm => by
  rcases bsd_mem hm with ⟨m, m1, rfl⟩ | ⟨m, m1, rfl⟩
  · obtain ⟨a, b⟩ := P.rows m m1
    exact .inl fun s _ h => by
      have := inO_f.mp h
      exact ⟨zero_l a (by omega), zero_l b (by omega)⟩
  · exact .inr fun s _ h => by
      have := inO_t.mp h
      exact ⟨zero_r (by omega), zero_r (by omega)⟩⟩
theorem bsd_spl2 (P : PartN n ms) (P2 : PartN n2 ms2) : Spl (n + n2) (bsdM n n2 ms ms2) (inO n n2) := ⟨bsd_rows P P2, fun mv hm => by
  rcases bsd_mem hm with ⟨m, m1, rfl⟩ | ⟨m, m1, rfl⟩
  · obtain ⟨a, b⟩ := P.rows m m1
    exact .inr fun s _ h => by
      have := inO_t.mp h
      exact ⟨zero_l a (by omega), zero_l b (by omega)⟩
  · exact .inl fun s _ h => by
      have := inO_f.mp h
      exact ⟨zero_r (by omega), zero_r (by omega)⟩⟩
theorem bsd_at1 (P : PartN n ms) (P2 : PartN n2 ms2) : PartAt (bsdM n n2 ms ms2) 0 n ms := fun mv hm => by
  rcases bsd_mem hm with ⟨m, m1, rfl⟩ | ⟨m, m1, rfl⟩
  · obtain ⟨a, b⟩ := P.rows m m1
    exact .inl ⟨m, m1, fun u hu => by rw [Nat.zero_add]; exact ⟨val_l a hu, val_l b hu⟩⟩
  · exact .inr fun u hu => by rw [Nat.zero_add]; exact ⟨zero_r hu, zero_r hu⟩
theorem bsd_at2 (P : PartN n ms) (P2 : PartN n2 ms2) : PartAt (bsdM n n2 ms ms2) n n2 ms2 := fun mv hm => by
  rcases bsd_mem hm with ⟨m, m1, rfl⟩ | ⟨m, m1, rfl⟩
  · obtain ⟨a, b⟩ := P.rows m m1
    exact .inr fun u hu => ⟨zero_l a (by omega), zero_l b (by omega)⟩
  · exact .inl ⟨m, m1, fun u hu => ⟨val_r, val_r⟩⟩
theorem bsd_in {mv : List Int × List Int} (hm : mv ∈ bsdM n n2 ms ms2) : (∀ x ∈ mv.1, x = 0 ∨ (∃ m ∈ ms, x ∈ m.1) ∨ ∃ m ∈ ms2, x ∈ m.1) ∧ ∀ x ∈ mv.2, x = 0 ∨ (∃ m ∈ ms, x ∈ m.2) ∨ ∃ m ∈ ms2, x ∈ m.2 := by
  rcases bsd_mem hm with ⟨m, m1, rfl⟩ | ⟨m, m1, rfl⟩
  · exact ⟨fun x hx => by
      rcases List.mem_append.mp hx with q | q
      · exact .inr (.inl ⟨m, m1, q⟩)
      · exact .inl (List.eq_of_mem_replicate q), fun x hx => by
      rcases List.mem_append.mp hx with q | q
      · exact .inr (.inl ⟨m, m1, q⟩)
      · exact .inl (List.eq_of_mem_replicate q)⟩
  · exact ⟨fun x hx => by
      rcases List.mem_append.mp hx with q | q
      · exact .inl (List.eq_of_mem_replicate q)
      · exact .inr (.inr ⟨m, m1, q⟩), fun x hx => by
      rcases List.mem_append.mp hx with q | q
      · exact .inl (List.eq_of_mem_replicate q)
      · exact .inr (.inr ⟨m, m1, q⟩)⟩
theorem bsd_t0 (P : PartN n ms) (P2 : PartN n2 ms2) : ∀ mv ∈ bsdM n n2 ms ms2, ∀ x ∈ mv.1, 0 ≤ x ∧ x ≤ 2 := fun mv hm x hx => by
  rcases (bsd_in hm).1 x hx with rfl | ⟨m, m1, q⟩ | ⟨m, m1, q⟩
  · exact ⟨by decide, by decide⟩
  · exact P.t0 m m1 x q
  · exact P2.t0 m m1 x q
theorem bsd_g0 (P : PartN n ms) (P2 : PartN n2 ms2) : ∀ mv ∈ bsdM n n2 ms ms2, ∀ x ∈ mv.2, 0 ≤ x ∧ x ≤ 9 := fun mv hm x hx => by
  rcases (bsd_in hm).2 x hx with rfl | ⟨m, m1, q⟩ | ⟨m, m1, q⟩
  · exact ⟨by decide, by decide⟩
  · exact P.g0 m m1 x q
  · exact P2.g0 m m1 x q
theorem bsd_len : (bsdM n n2 ms ms2).length = ms.length + ms2.length := by
  unfold bsdM
  rw [List.length_append, List.length_map, List.length_map]
theorem rows_app {x x2 : List Int} {w : Int} (h : RowOk n w x) (h2 : RowOk n2 w x2) : RowOk (n + n2) w (x ++ x2) := ⟨by rw [List.length_append, h.1, h2.1], fun v hv => by
  rcases List.mem_append.mp hv with q | q
  · exact h.2 v q
  · exact h2.2 v q⟩
theorem two_bnd (P : PartN n ms) (P2 : PartN n2 ms2) (h4 : n + n2 ≤ 4) {x x2 : List Int} (h : RowOk n 2 x) (h2 : RowOk n2 2 x2) : GoB (bsdM n n2 ms ms2) (x ++ x2) := by
  intro f par by_ N a S B e
  have hx := rows_app h h2
  have Z : Sized (n + n2) (bsdM n n2 ms ms2) (f 0) := ⟨bsd_t0 P P2, fun m hm x hx => (bsd_g0 P P2 m hm x hx).1, by rw [e]; exact hx.2⟩
  have h0 : (f 0).length = n + n2 := by rw [e]; exact hx.1
  have n1 := P.n1
  have n3 := P.n3
  have m1 := P2.n1
  have m3 := P2.n3
  have U1 := up_part P (bsd_at1 P P2) (bsd_rows P P2)
  have U2 := up_part P2 (bsd_at2 P P2) (bsd_rows P P2)
  have hle := found_le (LA := LK n) (LB := LK n2) (ca := csO (n + n2) 0 n) (cb := csO (n + n2) n n2) (fun i hi => S.rows (bsd_spl1 P P2) h0 hi) S.nod (fun s hs => by
      by_cases q : s < n
      · exact ⟨s, by omega, .inl (by unfold csO; rw [if_pos q, Nat.zero_add])⟩
      · exact ⟨s - n, by omega, .inr (by unfold csO; rw [if_pos (by omega)]; omega)⟩)
    (fun i hi => part_key (bsd_spl1 P P2) S B Z h0 n1 n3 (by omega) U1 hi) (fun i hi => part_key (bsd_spl2 P P2) S B Z h0 m1 m3 (by omega) U2 hi)
  rw [goN_val]
  rcases (show (n = 1 ∧ n2 = 1) ∨ (n = 1 ∧ n2 = 2) ∨ (n = 1 ∧ n2 = 3) ∨ (n = 2 ∧ n2 = 1) ∨ (n = 2 ∧ n2 = 2) ∨ (n = 3 ∧ n2 = 1) by omega) with ⟨rfl, rfl⟩ | ⟨rfl, rfl⟩ | ⟨rfl, rfl⟩ | ⟨rfl, rfl⟩ | ⟨rfl, rfl⟩ | ⟨rfl, rfl⟩ <;> rw [] at hle <;> simp only [lk1, lk2, lk3] at hle <;> omega
theorem two_gh (P : PartN n ms) (P2 : PartN n2 ms2) (h4 : n + n2 ≤ 4) {x x2 : List Int} (h : RowOk n 2 x) (h2 : RowOk n2 2 x2) : GH (n + n2) (bsdM n n2 ms ms2) (x ++ x2) :=
  ⟨bsd_rows P P2, (rows_app h h2).1, by have := P.n1; omega, by omega, by rw [bsd_len]; have := P.m4; have := P2.m4; omega, fun v hv => ((rows_app h h2).2 v hv).1, two_bnd P P2 h4 h h2⟩
/-- the same nets backwards -/
theorem one_hy (P : PartN n ms) {g : List Int} (h : RowOk n 2 g) : Hy n ms g 3 := ⟨fun m hm => ⟨(P.rows m hm).1, (P.rows m hm).2, P.t0 m hm, fun x hx => (P.g0 m hm x hx).1⟩, h.1, fun x hx => ⟨(h.2 x hx).1, by have := (h.2 x hx).2; omega⟩, .inl ⟨P.n1, P.n3, rfl⟩⟩
theorem two_hy (P : PartN n ms) (P2 : PartN n2 ms2) (h4 : n + n2 ≤ 4) {g g2 : List Int} (h : RowOk n 2 g) (h2 : RowOk n2 2 g2) : ∃ G, Hy (n + n2) (bsdM n n2 ms ms2) (g ++ g2) G := by
  have hg := rows_app h h2
  have rows : ∀ m ∈ bsdM n n2 ms ms2, m.1.length = n + n2 ∧ m.2.length = n + n2 ∧ (∀ x ∈ m.1, 0 ≤ x ∧ x ≤ 2) ∧ ∀ x ∈ m.2, 0 ≤ x := fun m hm => ⟨(bsd_rows P P2 m hm).1, (bsd_rows P P2 m hm).2, bsd_t0 P P2 m hm, fun x hx => (bsd_g0 P P2 m hm x hx).1⟩
  have n1 := P.n1
  have m1 := P2.n1
  by_cases q : n + n2 = 4
  · exact ⟨2, rows, hg.1, fun x hx => ⟨(hg.2 x hx).1, (hg.2 x hx).2⟩, .inr ⟨q, .inr ⟨rfl, n, n1, P.n3, bsd_apart P P2⟩⟩⟩
  · exact ⟨3, rows, hg.1, fun x hx => ⟨(hg.2 x hx).1, by have := (hg.2 x hx).2; omega⟩, .inl ⟨by omega, by omega, rfl⟩⟩
end
end Tw

/-! Tw37: in plain Lean: what all and pump mean; nets beside one another. -/
namespace Tw
section
variable {α μ : Type} {st : α → μ → α → Prop}
theorem RunN.trans {x y z : α} {c d : Nat} (h : RunN st x c y) (h2 : RunN st y d z) : ∃ e, RunN st x e z := by
  induction h2 with
  | nil => exact ⟨c, h⟩
  | snoc _ hs ih =>
    obtain ⟨e, he⟩ := ih
    exact ⟨e + 1, .snoc he hs⟩
/-- what can come -/
def Comes (st : α → μ → α → Prop) (x y : α) : Prop := ∃ c, RunN st x c y
theorem Comes.refl (x : α) : Comes st x x := ⟨0, .nil⟩
theorem Comes.step {x y z : α} {m : μ} (h : Comes st x y) (hs : st y m z) : Comes st x z := by
  obtain ⟨c, h⟩ := h
  exact ⟨c + 1, .snoc h hs⟩
theorem Comes.trans {x y z : α} (h : Comes st x y) (h2 : Comes st y z) : Comes st x z := by
  obtain ⟨c, h⟩ := h
  obtain ⟨d, h2⟩ := h2
  exact h.trans h2
theorem Comes.ind {x : α} {P : α → Prop} (h0 : P x) (hs : ∀ y m z, Comes st x y → P y → st y m z → P z) {y : α} (h : Comes st x y) : P y := by
  obtain ⟨c, h⟩ := h
  induction h with
  | nil => exact h0
  | snoc h' hs' ih => exact hs _ _ _ ⟨_, h'⟩ ih hs'
theorem Srch.path_run {f : Nat → α} {par : Nat → Nat} {by_ : Nat → μ} {N a : Nat} (S : Srch f par by_ N a st) {i k : Nat} (hi : i < N) : ∀ {j : Nat}, k ≤ j → j ≤ dep par i → Comes st (f (pathI par i k)) (f (pathI par i j)) := by
  intro j
  induction j with
  | zero =>
    intro h _
    rw [show k = 0 by omega]
    exact Comes.refl _
  | succ j ih =>
    intro h hj
    rcases Nat.lt_or_eq_of_le h with q | q
    · obtain ⟨g1, g2, g3, _⟩ := S.path_par hi (k := j) (by omega)
      have hm := S.made _ g2 g1
      rw [g3] at hm
      exact (ih (by omega) (by omega)).step hm
    · rw [q]
      exact Comes.refl _
end
section
variable {n : Nat} {ms : MvS} {x0 : List Int}
/-- what holds of a net's rows -/
structure RowsN (n : Nat) (ms : MvS) : Prop where
  len : ∀ m ∈ ms, m.1.length = n ∧ m.2.length = n
  g0 : ∀ m ∈ ms, ∀ x ∈ m.2, 0 ≤ x
theorem PartN.rn {n : Nat} {ms : MvS} (P : PartN n ms) : RowsN n ms := ⟨P.rows, fun m hm x hx => (P.g0 m hm x hx).1⟩
theorem st_row (R : RowsN n ms) {x y : List Int} {m : Nat} (h : RowP n x) (hs : StR ms x m y) : RowP n y := by
  obtain ⟨mv, h1, h2, rfl⟩ := hs
  have hm := List.mem_of_getElem? h1
  exact ⟨by rw [led_len]; exact h.1, led_nn (by rw [(R.len mv hm).1, h.1]) (R.g0 mv hm) h2⟩
theorem comes_row (R : RowsN n ms) {x y : List Int} (h : RowP n x) (hc : Comes (StR ms) x y) : RowP n y := hc.ind (P := RowP n) h fun _ _ _ _ hp hs => st_row R hp hs
/-- the same run from more -/
theorem lift_run (R : RowsN n ms) {y z w : List Int} (hy : y.length = n) (hw : w.length = n) (h : ∀ s, s < n → y.getD s 0 ≤ w.getD s 0) (hc : Comes (StR ms) y z) :
    z.length = n ∧ ∃ w', Comes (StR ms) w w' ∧ w'.length = n ∧ ∀ s, s < n → w'.getD s 0 = w.getD s 0 + (z.getD s 0 - y.getD s 0) := by
  refine hc.ind (P := fun z => z.length = n ∧ ∃ w', Comes (StR ms) w w' ∧ w'.length = n ∧ ∀ s, s < n → w'.getD s 0 = w.getD s 0 + (z.getD s 0 - y.getD s 0)) ⟨hy, w, Comes.refl _, hw, fun s _ => by omega⟩ ?_
  rintro a m b _ ⟨ha, w', c1, c2, c3⟩ ⟨mv, h1, h2, rfl⟩
  obtain ⟨l1, l2⟩ := R.len mv (List.mem_of_getElem? h1)
  refine ⟨by rw [led_len]; exact ha, ledR w' mv.1 mv.2, c1.step ⟨mv, h1, overB_iff.mpr fun s hs => ?_, rfl⟩, by rw [led_len]; exact c2, fun s hs => ?_⟩
  · have := overB_iff.mp h2 s hs
    have := c3 s (by omega)
    have := h s (by omega)
    omega
  · rw [led_get (by omega), led_get (by omega), c3 s hs]
    omega
theorem top_of : ∀ (L : List (List Int)) (s : Nat), ∃ M : Int, ∀ x ∈ L, x.getD s 0 < M
  | [], s => ⟨0, by simp⟩
  | y :: L, s => by
    obtain ⟨M, h⟩ := top_of L s
    refine ⟨max M (y.getD s 0 + 1), fun x hx => ?_⟩
    rcases List.mem_cons.mp hx with rfl | hx
    · omega
    · have := h x hx
      omega
/-- all that come lie in a list -/
def Few (ms : MvS) (x0 : List Int) : Prop := ∃ L : List (List Int), ∀ y, Comes (StR ms) x0 y → y ∈ L
theorem pump_more (R : RowsN n ms) {y z : List Int} (hx : x0.length = n) (h1 : Comes (StR ms) x0 y) (h2 : Comes (StR ms) y z) (hy : y.length = n) (hz : z.length = n) (hov : overB z y = true) (hne : z ≠ y) : ¬Few ms x0 := by
  rintro ⟨L, hL⟩
  have hov' := fun s hs => overB_iff.mp hov s hs
  have grow : ∀ j : Nat, ∃ w, Comes (StR ms) x0 w ∧ w.length = n ∧ ∀ s, s < n → w.getD s 0 = y.getD s 0 + (j : Int) * (z.getD s 0 - y.getD s 0) := by
    intro j
    induction j with
    | zero => exact ⟨y, h1, hy, fun s _ => by omega⟩
    | succ j ih =>
      obtain ⟨w, w1, w2, w3⟩ := ih
      obtain ⟨_, w', c1, c2, c3⟩ := lift_run R hy w2 (fun s hs => by
        have h0 := hov' s (by omega)
        have : 0 ≤ (j : Int) * (z.getD s 0 - y.getD s 0) := Int.mul_nonneg (by omega) (by omega)
        have := w3 s hs
        omega) h2
      refine ⟨w', w1.trans c1, c2, fun s hs => ?_⟩
      rw [c3 s hs, w3 s hs, Int.natCast_succ, Int.add_mul, Int.one_mul]
      omega
  have hex : ∃ s, s < n ∧ y.getD s 0 < z.getD s 0 := by
    apply Classical.byContradiction
    intro hno
    refine hne (rowE hz hy fun s hs => ?_)
    have := hov' s (by omega)
    have : ¬y.getD s 0 < z.getD s 0 := fun q => hno ⟨s, hs, q⟩
    omega
  obtain ⟨s, hs, hlt⟩ := hex
  obtain ⟨M, hM⟩ := top_of L s
  obtain ⟨w, w1, w2, w3⟩ := grow (M - y.getD s 0).toNat
  have a := hM w (hL w w1)
  rw [w3 s hs] at a
  have b : ((M - y.getD s 0).toNat : Int) * 1 ≤ ((M - y.getD s 0).toNat : Int) * (z.getD s 0 - y.getD s 0) := Int.mul_le_mul_of_nonneg_left (by omega) (by omega)
  omega
/-- a pump: there is no end -/
theorem go_pump_inf (H : GH n ms x0) (R : RowsN n ms) {p : Nat} (h : (goF ms x0).2 = some p) : ¬Few ms x0 := by
  obtain ⟨a, d, I, hp⟩ := go_pump ms x0 h
  generalize (goF ms x0).1 = F at I hp
  have hN := I.S.one
  have hi : F.length - 1 < F.length := by omega
  have hk := List.mem_range.mp (List.mem_of_find?_eq_some hp)
  have hov : overB (gH F (F.length - 1)) (gH F (pathI (gP F) (F.length - 1) p)) = true := List.find?_some (p := fun k => overB (gH F (F.length - 1)) (gH F (pathI (gP F) (F.length - 1) k))) hp
  have hpl := I.S.path_lt hi (Nat.le_of_lt hk)
  have r1 := I.S.path_run hi (k := 0) (j := p) (Nat.zero_le _) (Nat.le_of_lt hk)
  have r2 := I.S.path_run hi (k := p) (j := dep (gP F) (F.length - 1)) (Nat.le_of_lt hk) (Nat.le_refl _)
  rw [I.S.path_start hi, I.zero] at r1
  rw [Srch.path_end] at r2
  refine pump_more R H.xl r1 r2 (I.len H hpl.1) (I.len H hi) hov fun e => ?_
  have := I.S.nod _ _ hi hpl.1 e
  rw [← this] at hpl
  omega
noncomputable def goL (ms : MvS) (x0 : List Int) : List (List Int) := (goF ms x0).1.map (·.h)
theorem goL_get {F : List GNode} {y : List Int} : y ∈ F.map (·.h) ↔ ∃ i, i < F.length ∧ gH F i = y := by
  constructor
  · intro h
    obtain ⟨x, hx, rfl⟩ := List.mem_map.mp h
    obtain ⟨i, hi, rfl⟩ := List.getElem_of_mem hx
    exact ⟨i, hi, by unfold gH; rw [gn_at (List.getElem?_eq_getElem hi)]⟩
  · rintro ⟨i, hi, rfl⟩
    refine List.mem_map.mpr ⟨F[i], List.getElem_mem hi, ?_⟩
    unfold gH
    rw [gn_at (List.getElem?_eq_getElem hi)]
/-- no pump: just those that come -/
theorem go_all_set (H : GH n ms x0) (h : (goF ms x0).2 = none) (y : List Int) : y ∈ goL ms x0 ↔ Comes (StR ms) x0 y := by
  obtain ⟨a, I, hle, _⟩ := go_all H.bnd h
  unfold goL
  generalize (goF ms x0).1 = F at I hle
  rw [goL_get]
  constructor
  · rintro ⟨i, hi, rfl⟩
    have r := I.S.path_run hi (k := 0) (j := dep (gP F) i) (Nat.zero_le _) (Nat.le_refl _)
    rw [I.S.path_start hi, I.zero, Srch.path_end] at r
    exact r
  · intro hc
    refine hc.ind (P := fun y => ∃ i, i < F.length ∧ gH F i = y) ⟨0, I.S.one, I.zero⟩ ?_
    rintro y m z _ ⟨i, hi, rfl⟩ hs
    obtain ⟨q, q1, q2, _⟩ := I.S.exp i (by omega) hi m z hs
    exact ⟨q, q1, q2⟩
theorem go_nodup (H : GH n ms x0) (h : (goF ms x0).2 = none) : (goL ms x0).Nodup := by
  obtain ⟨a, I, hle, _⟩ := go_all H.bnd h
  unfold goL
  generalize (goF ms x0).1 = F at I hle
  refine List.pairwise_iff_getElem.mpr fun i j hi hj hij e => ?_
  rw [List.length_map] at hi hj
  rw [List.getElem_map, List.getElem_map] at e
  have := I.S.nod i j hi hj (by
    unfold gH
    rw [gn_at (List.getElem?_eq_getElem hi), gn_at (List.getElem?_eq_getElem hj)]
    exact e)
  omega
theorem go_len (H : GH n ms x0) (h : (goF ms x0).2 = none) : (goL ms x0).length ≤ goN := by
  obtain ⟨a, I, _, hle⟩ := go_all H.bnd h
  unfold goL
  rw [List.length_map]
  exact hle
theorem go_few (H : GH n ms x0) (R : RowsN n ms) : (goF ms x0).2 = none ↔ Few ms x0 := by
  constructor
  · exact fun h => ⟨goL ms x0, fun y hy => (go_all_set H h y).mpr hy⟩
  · intro h
    cases e : (goF ms x0).2 with
    | none => rfl
    | some p => exact absurd h (go_pump_inf H R e)
end
/-! ### beside -/
section
variable {n n2 : Nat} {ms ms2 : MvS} {x x2 : List Int}
theorem over_app {u v a b : List Int} (h : u.length = a.length) : overB (u ++ v) (a ++ b) = true ↔ overB u a = true ∧ overB v b = true := by
  rw [overB_iff, overB_iff, overB_iff]
  constructor
  · intro q
    refine ⟨fun k hk => ?_, fun k hk => ?_⟩
    · have := q k (by rw [List.length_append]; omega)
      rw [get_l hk, get_l (by omega)] at this
      exact this
    · have := q (a.length + k) (by rw [List.length_append]; omega)
      rw [get_r (by omega), get_r (by omega), Nat.add_sub_cancel_left, h, Nat.add_sub_cancel_left] at this
      exact this
  · rintro ⟨q1, q2⟩ k hk
    rw [List.length_append] at hk
    by_cases hka : k < a.length
    · rw [get_l hka, get_l (by omega)]
      exact q1 k hka
    · rw [get_r (by omega), get_r (by omega), h]
      exact q2 _ (by omega)
theorem over_zero {v : List Int} (h : ∀ a ∈ v, 0 ≤ a) (k : Nat) : overB v (List.replicate k 0) = true := overB_iff.mpr fun s _ => by
  rw [get_zero]
  exact getD_pos h s
theorem led_app {u v a b c d : List Int} (h : u.length = a.length) (h2 : u.length = c.length) : ledR (u ++ v) (a ++ b) (c ++ d) = ledR u a c ++ ledR v b d := by
  refine rowE (n := u.length + v.length) (by rw [led_len, List.length_append]) (by rw [List.length_append, led_len, led_len]) fun k hk => ?_
  rw [led_get (by rw [List.length_append]; exact hk)]
  by_cases hu : k < u.length
  · rw [get_l hu, get_l (by omega), get_l (by omega), get_l (by rw [led_len]; exact hu), led_get hu]
  · rw [get_r (by omega), get_r (by omega), get_r (by omega), get_r (a := ledR u a c) (by rw [led_len]; omega), led_len, led_get (by omega), h, ← h2, h]
theorem led_zero {v : List Int} (k : Nat) : ledR v (List.replicate k 0) (List.replicate k 0) = v := by
  refine rowE (n := v.length) (led_len ..) rfl fun s hs => ?_
  rw [led_get hs, get_zero]
  omega
theorem bsd_to {u v y : List Int} {m : Nat} (P : PartN n ms) (P2 : PartN n2 ms2) (hu : u.length = n) (hv : v.length = n2) (h : StR (bsdM n n2 ms ms2) (u ++ v) m y) :
    (∃ u' m', StR ms u m' u' ∧ y = u' ++ v) ∨ ∃ v' m', StR ms2 v m' v' ∧ y = u ++ v' := by
  obtain ⟨mv, h1, h2, rfl⟩ := h
  rcases bsd_mem (List.mem_of_getElem? h1) with ⟨m, m1, rfl⟩ | ⟨m, m1, rfl⟩
  · obtain ⟨a, b⟩ := P.rows m m1
    obtain ⟨j, hj⟩ := List.getElem?_of_mem m1
    obtain ⟨q1, q2⟩ := (over_app (by omega)).mp h2
    refine .inl ⟨_, j, ⟨m, hj, q1, rfl⟩, ?_⟩
    show ledR (u ++ v) (m.1 ++ List.replicate n2 0) (m.2 ++ List.replicate n2 0) = _
    rw [led_app (by omega) (by omega), led_zero]
  · obtain ⟨a, b⟩ := P2.rows m m1
    obtain ⟨j, hj⟩ := List.getElem?_of_mem m1
    obtain ⟨q1, q2⟩ := (over_app (by rw [List.length_replicate]; exact hu)).mp h2
    refine .inr ⟨_, j, ⟨m, hj, q2, rfl⟩, ?_⟩
    show ledR (u ++ v) (List.replicate n 0 ++ m.1) (List.replicate n 0 ++ m.2) = _
    rw [led_app (by rw [List.length_replicate]; exact hu) (by rw [List.length_replicate]; exact hu), led_zero]
theorem bsd_one {u v u' : List Int} {m : Nat} (P : PartN n ms) (hu : u.length = n) (hv : RowP n2 v) (h : StR ms u m u') : ∃ m', StR (bsdM n n2 ms ms2) (u ++ v) m' (u' ++ v) := by
  obtain ⟨mv, h1, h2, rfl⟩ := h
  have hm := List.mem_of_getElem? h1
  obtain ⟨a, b⟩ := P.rows mv hm
  have hin : (mv.1 ++ List.replicate n2 0, mv.2 ++ List.replicate n2 0) ∈ bsdM n n2 ms ms2 := List.mem_append_left _ (List.mem_map.mpr ⟨mv, hm, rfl⟩)
  obtain ⟨j, hj⟩ := List.getElem?_of_mem hin
  refine ⟨j, _, hj, (over_app (by omega)).mpr ⟨h2, over_zero hv.2 _⟩, ?_⟩
  show _ = ledR (u ++ v) (mv.1 ++ List.replicate n2 0) (mv.2 ++ List.replicate n2 0)
  rw [led_app (by omega) (by omega), led_zero]
theorem bsd_two {u v v' : List Int} {m : Nat} (P2 : PartN n2 ms2) (hu : RowP n u) (hv : v.length = n2) (h : StR ms2 v m v') : ∃ m', StR (bsdM n n2 ms ms2) (u ++ v) m' (u ++ v') := by
  obtain ⟨mv, h1, h2, rfl⟩ := h
  have hm := List.mem_of_getElem? h1
  obtain ⟨a, b⟩ := P2.rows mv hm
  have hin : (List.replicate n 0 ++ mv.1, List.replicate n 0 ++ mv.2) ∈ bsdM n n2 ms ms2 := List.mem_append_right _ (List.mem_map.mpr ⟨mv, hm, rfl⟩)
  obtain ⟨j, hj⟩ := List.getElem?_of_mem hin
  refine ⟨j, _, hj, (over_app (by rw [List.length_replicate]; exact hu.1)).mpr ⟨over_zero hu.2 _, h2⟩, ?_⟩
  show _ = ledR (u ++ v) (List.replicate n 0 ++ mv.1) (List.replicate n 0 ++ mv.2)
  rw [led_app (by rw [List.length_replicate]; exact hu.1) (by rw [List.length_replicate]; exact hu.1), led_zero]
theorem RowOk.rp {n : Nat} {w : Int} {r : List Int} (h : RowOk n w r) : RowP n r := ⟨h.1, fun x hx => (h.2 x hx).1⟩
theorem bsd_split (P : PartN n ms) (P2 : PartN n2 ms2) (h : RowP n x) (h2 : RowP n2 x2) {y : List Int} (hc : Comes (StR (bsdM n n2 ms ms2)) (x ++ x2) y) : ∃ u v, y = u ++ v ∧ Comes (StR ms) x u ∧ Comes (StR ms2) x2 v := by
  refine hc.ind (P := fun y => ∃ u v, y = u ++ v ∧ Comes (StR ms) x u ∧ Comes (StR ms2) x2 v) ⟨x, x2, rfl, Comes.refl _, Comes.refl _⟩ ?_
  rintro _ m z _ ⟨u, v, rfl, c1, c2⟩ hs
  rcases bsd_to P P2 (comes_row P.rn h c1).1 (comes_row P2.rn h2 c2).1 hs with ⟨u', m', s, rfl⟩ | ⟨v', m', s, rfl⟩
  · exact ⟨u', v, rfl, c1.step s, c2⟩
  · exact ⟨u, v', rfl, c1, c2.step s⟩
theorem bsd_comes (P : PartN n ms) (P2 : PartN n2 ms2) (h : RowP n x) (h2 : RowP n2 x2) {u v : List Int} (c1 : Comes (StR ms) x u) (c2 : Comes (StR ms2) x2 v) : Comes (StR (bsdM n n2 ms ms2)) (x ++ x2) (u ++ v) := by
  have a : Comes (StR (bsdM n n2 ms ms2)) (x ++ x2) (u ++ x2) := c1.ind (P := fun u => Comes (StR (bsdM n n2 ms ms2)) (x ++ x2) (u ++ x2)) (Comes.refl _) fun y m z cy ih hs => by
    obtain ⟨m', s⟩ := bsd_one (ms2 := ms2) P (comes_row P.rn h cy).1 h2 hs
    exact ih.step s
  have hu := comes_row P.rn h c1
  exact c2.ind (P := fun v => Comes (StR (bsdM n n2 ms ms2)) (x ++ x2) (u ++ v)) a fun y m z cy ih hs => by
    obtain ⟨m', s⟩ := bsd_two (ms := ms) P2 hu (comes_row P2.rn h2 cy).1 hs
    exact ih.step s
theorem bsd_rn (P : PartN n ms) (P2 : PartN n2 ms2) : RowsN (n + n2) (bsdM n n2 ms ms2) := ⟨bsd_rows P P2, fun m hm x hx => (bsd_g0 P P2 m hm x hx).1⟩
/-- both lie in a list just where each does -/
theorem bsd_few (P : PartN n ms) (P2 : PartN n2 ms2) (h : RowP n x) (h2 : RowP n2 x2) : Few (bsdM n n2 ms ms2) (x ++ x2) ↔ Few ms x ∧ Few ms2 x2 := by
  constructor
  · rintro ⟨L, hL⟩
    refine ⟨⟨L.map fun y => y.take n, fun y hy => ?_⟩, L.map fun y => y.drop n, fun y hy => ?_⟩
    · have := hL _ (bsd_comes P P2 h h2 hy (Comes.refl _))
      refine List.mem_map.mpr ⟨_, this, ?_⟩
      rw [← (comes_row P.rn h hy).1, List.take_left]
    · have := hL _ (bsd_comes P P2 h h2 (Comes.refl _) hy)
      refine List.mem_map.mpr ⟨_, this, ?_⟩
      rw [← h.1, List.drop_left]
  · rintro ⟨⟨L, hL⟩, L2, hL2⟩
    refine ⟨L.flatMap fun u => L2.map fun v => u ++ v, fun y hy => ?_⟩
    obtain ⟨u, v, rfl, c1, c2⟩ := bsd_split P P2 h h2 hy
    exact List.mem_flatMap.mpr ⟨u, hL u c1, List.mem_map.mpr ⟨v, hL2 v c2, rfl⟩⟩
/-- the pairs -/
def pairL (L L2 : List (List Int)) : List (List Int) := L.flatMap fun u => L2.map fun v => u ++ v
theorem sort_same {l m : List (List Int)} {k : Nat} (h : ∀ x ∈ l, x.length = k) (hl : l.Nodup) (hm : m.Nodup) (e : ∀ x, x ∈ l ↔ x ∈ m) : isort lexL l = isort lexL m := by
  have p : (isort lexL l).Perm (isort lexL m) := (isort_perm lexL l).trans (((List.perm_ext_iff_of_nodup hl hm).mpr e).trans (isort_perm lexL m).symm)
  refine List.Perm.eq_of_pairwise (le := fun a b => lexL b a = false) (fun a b ha hb h1 h2 => ?_) (isort_srtd lexL_swo l) (isort_srtd lexL_swo m) p
  have a1 : a.length = k := h a ((isort_perm lexL l).mem_iff.mp ha)
  have b1 : b.length = k := h b ((e b).mpr ((isort_perm lexL m).mem_iff.mp hb))
  apply Classical.byContradiction
  intro hne
  have := lexL_ne (a := a) (b := b) (by omega) h1 hne
  rw [h2] at this
  cases this
theorem pair_nodup {L L2 : List (List Int)} {k : Nat} (h : ∀ x ∈ L, x.length = k) (hl : L.Nodup) (hm : L2.Nodup) : (pairL L L2).Nodup := by
  unfold pairL
  refine List.pairwise_flatMap.mpr ⟨fun u _ => ?_, List.Pairwise.imp_of_mem ?_ hl⟩
  · refine List.pairwise_map.mpr (hm.imp fun {a b} hab e => hab ?_)
    exact List.append_cancel_left e
  · intro u w hu hw hne y hy z hz e
    obtain ⟨v, _, rfl⟩ := List.mem_map.mp hy
    obtain ⟨v', _, rfl⟩ := List.mem_map.mp hz
    exact hne (List.append_inj_left e (by rw [h u hu, h w hw]))
theorem bsd_list (P : PartN n ms) (P2 : PartN n2 ms2) (H : GH n ms x) (H2 : GH n2 ms2 x2) (H3 : GH (n + n2) (bsdM n n2 ms ms2) (x ++ x2)) (h : RowP n x) (h2 : RowP n2 x2) (e : (goF ms x).2 = none) (e2 : (goF ms2 x2).2 = none) :
    (goF (bsdM n n2 ms ms2) (x ++ x2)).2 = none ∧ isort lexL (goL (bsdM n n2 ms ms2) (x ++ x2)) = isort lexL (pairL (isort lexL (goL ms x)) (isort lexL (goL ms2 x2))) ∧ (pairL (isort lexL (goL ms x)) (isort lexL (goL ms2 x2))).length ≤ goN ∧ ∀ y ∈ pairL (isort lexL (goL ms x)) (isort lexL (goL ms2 x2)), y.length = n + n2 := by
  have e3 : (goF (bsdM n n2 ms ms2) (x ++ x2)).2 = none := (go_few H3 (bsd_rn P P2)).mpr ((bsd_few P P2 h h2).mpr ⟨(go_few H P.rn).mp e, (go_few H2 P2.rn).mp e2⟩)
  have s1 : ∀ y, y ∈ isort lexL (goL ms x) ↔ Comes (StR ms) x y := fun y => by rw [(isort_perm lexL _).mem_iff, go_all_set H e]
  have s2 : ∀ y, y ∈ isort lexL (goL ms2 x2) ↔ Comes (StR ms2) x2 y := fun y => by rw [(isort_perm lexL _).mem_iff, go_all_set H2 e2]
  have d1 : (isort lexL (goL ms x)).Nodup := (isort_perm lexL _).symm.nodup (go_nodup H e)
  have d2 : (isort lexL (goL ms2 x2)).Nodup := (isort_perm lexL _).symm.nodup (go_nodup H2 e2)
  have mem : ∀ y, y ∈ goL (bsdM n n2 ms ms2) (x ++ x2) ↔ y ∈ pairL (isort lexL (goL ms x)) (isort lexL (goL ms2 x2)) := fun y => by
    rw [go_all_set H3 e3]
    constructor
    · intro hc
      obtain ⟨u, v, rfl, c1, c2⟩ := bsd_split P P2 h h2 hc
      exact List.mem_flatMap.mpr ⟨u, (s1 u).mpr c1, List.mem_map.mpr ⟨v, (s2 v).mpr c2, rfl⟩⟩
    · intro hm
      obtain ⟨u, hu, hm⟩ := List.mem_flatMap.mp hm
      obtain ⟨v, hv, rfl⟩ := List.mem_map.mp hm
      exact bsd_comes P P2 h h2 ((s1 u).mp hu) ((s2 v).mp hv)
  have nd := pair_nodup (k := n) (fun y hy => (comes_row P.rn h ((s1 y).mp hy)).1) d1 d2
  have h3 : RowP (n + n2) (x ++ x2) := ⟨by rw [List.length_append, h.1, h2.1], fun v hv => by
    rcases List.mem_append.mp hv with q | q
    · exact h.2 v q
    · exact h2.2 v q⟩
  have lens : ∀ y ∈ goL (bsdM n n2 ms ms2) (x ++ x2), y.length = n + n2 := fun y hy => (comes_row (bsd_rn P P2) h3 ((go_all_set H3 e3 y).mp hy)).1
  refine ⟨e3, sort_same lens (go_nodup H3 e3) nd mem, ?_, fun y hy => lens y ((mem y).mpr hy)⟩
  have := sub_len nd fun y hy => (mem y).mpr hy
  have := go_len H3 e3
  omega
theorem bsd_pump (P : PartN n ms) (P2 : PartN n2 ms2) (H : GH n ms x) (H2 : GH n2 ms2 x2) (H3 : GH (n + n2) (bsdM n n2 ms ms2) (x ++ x2)) (h : RowP n x) (h2 : RowP n2 x2) (e : ¬((goF ms x).2 = none ∧ (goF ms2 x2).2 = none)) : ∃ p, (goF (bsdM n n2 ms ms2) (x ++ x2)).2 = some p := by
  cases q : (goF (bsdM n n2 ms ms2) (x ++ x2)).2 with
  | some p => exact ⟨p, rfl⟩
  | none =>
    obtain ⟨a, b⟩ := (bsd_few P P2 h h2).mp ((go_few H3 (bsd_rn P P2)).mp q)
    exact absurd ⟨(go_few H P.rn).mpr a, (go_few H2 P2.rn).mpr b⟩ e
/-! ### come over -/
/-- a run leads over a goal -/
def CovG (ms : MvS) (st g : List Int) : Prop := ∃ e, Comes (StR ms) st e ∧ overB e g = true
theorem walk_comes : ∀ (r : List Nat) (st e : List Int), walkR ms st r = some e → Comes (StR ms) st e
  | [], st, e, h => by
    cases h
    exact Comes.refl _
  | k :: r, st, e, h => by
    have h : (stepR ms st k).bind (fun h' => walkR ms h' r) = some e := h
    cases q : stepR ms st k with
    | none => rw [q] at h; cases h
    | some h' =>
      rw [q] at h
      obtain ⟨m, m1, m2, m3⟩ := step_some q
      exact (Comes.refl st |>.step (m := k) ⟨m, m1, m2, m3⟩).trans (walk_comes r h' e h)
theorem hit_cov {g st : List Int} {G : Nat} (R : RowsN n ms) (H : Hy n ms g G) (rs : RowP n st) : (hitF ms st g).isSome = true ↔ CovG ms st g := by
  constructor
  · intro h
    obtain ⟨x, hx⟩ := Option.isSome_iff_exists.mp h
    obtain ⟨h1, h2⟩ := hit_run H rs hx
    obtain ⟨e, e1, _, e3⟩ := run_leads H x.r st rs h1 h2
    exact ⟨e, walk_comes _ _ _ e1, e3⟩
  · rintro ⟨e, hc, ho⟩
    have key : ∀ r : List Nat, (∀ m ∈ r, m < ms.length) → (∀ k, preR (tkN ms) (gvN ms) r (hN g) k ≤ hN e k) → ∃ r' : List Nat, (∀ m ∈ r', m < ms.length) ∧ ∀ k, preR (tkN ms) (gvN ms) r' (hN g) k ≤ hN st k := by
      refine hc.ind (P := fun e => ∀ r : List Nat, (∀ m ∈ r, m < ms.length) → (∀ k, preR (tkN ms) (gvN ms) r (hN g) k ≤ hN e k) → ∃ r' : List Nat, (∀ m ∈ r', m < ms.length) ∧ ∀ k, preR (tkN ms) (gvN ms) r' (hN g) k ≤ hN st k) (fun r a b => ⟨r, a, b⟩) ?_
      rintro y m z cy ih ⟨mv, h1, h2, rfl⟩ r hr hle
      have hml : m < ms.length := (List.getElem?_eq_some_iff.mp h1).1
      have em : mvA ms m = mv := by
        unfold mvA
        rw [List.getD_eq_getElem?_getD, h1]
        rfl
      have ry := comes_row R rs cy
      obtain ⟨l1, l2⟩ := R.len mv (List.mem_of_getElem? h1)
      refine ih (m :: r) (fun p hp => ?_) fun k => ?_
      · rcases List.mem_cons.mp hp with rfl | hp
        · exact hml
        · exact hr p hp
      · have q := hle k
        show tkN ms m k + (preR (tkN ms) (gvN ms) r (hN g) k - gvN ms m k) ≤ hN y k
        have et : tkN ms m k = (mv.1.getD k 0).toNat := by unfold tkN; rw [em]
        have eg : gvN ms m k = (mv.2.getD k 0).toNat := by unfold gvN; rw [em]
        have ey : hN y k = (y.getD k 0).toNat := rfl
        have ez : hN (ledR y mv.1 mv.2) k = ((ledR y mv.1 mv.2).getD k 0).toNat := rfl
        have gp := getD_pos (R.g0 mv (List.mem_of_getElem? h1)) k
        by_cases hk : k < n
        · rw [led_get (by rw [ry.1]; exact hk)] at ez
          have := overB_iff.mp h2 k (by omega)
          have := ry.nn k
          have := H.tk0 hml k
          rw [em] at this
          omega
        · rw [get_out (by rw [led_len, ry.1]; omega)] at ez
          rw [get_out (by omega)] at et
          have : (0 : Int).toNat = 0 := rfl
          omega
    obtain ⟨r', r1, r2⟩ := key [] (by simp) ((over_hN (comes_row R rs hc) H.g_row).mp ho)
    obtain ⟨x, hx⟩ := hit_some H rs r1 r2
    rw [hx]
    rfl
theorem bsd_cov (P : PartN n ms) (P2 : PartN n2 ms2) (h : RowP n x) (h2 : RowP n2 x2) {g g2 : List Int} (hg : g.length = n) : CovG (bsdM n n2 ms ms2) (x ++ x2) (g ++ g2) ↔ CovG ms x g ∧ CovG ms2 x2 g2 := by
  constructor
  · rintro ⟨e, hc, ho⟩
    obtain ⟨u, v, rfl, c1, c2⟩ := bsd_split P P2 h h2 hc
    obtain ⟨o1, o2⟩ := (over_app (by rw [(comes_row P.rn h c1).1, hg])).mp ho
    exact ⟨⟨u, c1, o1⟩, v, c2, o2⟩
  · rintro ⟨⟨u, c1, o1⟩, v, c2, o2⟩
    exact ⟨u ++ v, bsd_comes P P2 h h2 c1 c2, (over_app (by rw [(comes_row P.rn h c1).1, hg])).mpr ⟨o1, o2⟩⟩
theorem bsd_hit (P : PartN n ms) (P2 : PartN n2 ms2) (h : RowP n x) (h2 : RowP n2 x2) {g g2 : List Int} {G G2 G3 : Nat} (H : Hy n ms g G) (H2 : Hy n2 ms2 g2 G2) (H3 : Hy (n + n2) (bsdM n n2 ms ms2) (g ++ g2) G3) :
    (hitF (bsdM n n2 ms ms2) (x ++ x2) (g ++ g2)).isSome = ((hitF ms x g).isSome && (hitF ms2 x2 g2).isSome) := by
  have h3 : RowP (n + n2) (x ++ x2) := ⟨by rw [List.length_append, h.1, h2.1], fun v hv => by
    rcases List.mem_append.mp hv with q | q
    · exact h.2 v q
    · exact h2.2 v q⟩
  have e : (hitF (bsdM n n2 ms ms2) (x ++ x2) (g ++ g2)).isSome = true ↔ ((hitF ms x g).isSome && (hitF ms2 x2 g2).isSome) = true := by
    rw [Bool.and_eq_true, hit_cov (bsd_rn P P2) H3 h3, hit_cov P.rn H h, hit_cov P2.rn H2 h2]
    exact bsd_cov P P2 h h2 H.gl
  exact Bool.eq_iff_iff.mpr e
end
end Tw

/-! Tw38: in plain Lean: the nets that the law draws, cut where they are too large. -/
namespace Tw
theorem set_sum : ∀ (g : List Int) (i : Nat), (g.set i (g.getD i 0 + 1)).sum ≤ g.sum + 1
  | [], i => by simp
  | a :: g, 0 => by
    show ((a + 1) :: g).sum ≤ (a :: g).sum + 1
    rw [List.sum_cons, List.sum_cons]
    omega
  | a :: g, i + 1 => by
    have ih := set_sum g i
    show (a :: g.set i (g.getD i 0 + 1)).sum ≤ (a :: g).sum + 1
    rw [List.sum_cons, List.sum_cons]
    omega
theorem pour_sum {size : Int} : ∀ (k : Nat) (g : List Int) (l : Int), (pour size k g l).sum ≤ g.sum + k
  | 0, g, _ => by
    show g.sum ≤ g.sum + (0 : Nat)
    omega
  | k + 1, g, l => by
    unfold pour
    have a := pour_sum (size := size) k (g.set (l % size).toNat (g.getD (l % size).toNat 0 + 1)) (l / size)
    have b := set_sum g (l % size).toNat
    omega
theorem zero_sum : ∀ k : Nat, (List.replicate k (0 : Int)).sum = 0
  | 0 => rfl
  | k + 1 => by
    rw [List.replicate_succ, List.sum_cons, zero_sum k]
    rfl
/-- a drawn move -/
structure MvOk (n : Nat) (even : Bool) (m : List Int × List Int) : Prop where
  l1 : m.1.length = n
  l2 : m.2.length = n
  t : ∀ x ∈ m.1, 0 ≤ x ∧ x ≤ 2
  g : ∀ x ∈ m.2, 0 ≤ x ∧ x ≤ 9
  up : if even then m.2.sum ≤ m.1.sum else ∀ x ∈ m.2, x ≤ 2
theorem mv_ok (ns : List Int) (at_ : Int) {n : Nat} (hn : n ≤ 4) (even : Bool) : MvOk n even (moveF tab0 ns at_ n even) := by
  have h1 := (move_ok (tab := tab0) (w := 2) (W := 9) rfl (by decide) ns at_ n even (by decide) (fun _ => by omega) (by decide)).2
  have t1 : RowOk n 2 (tabRow tab0 (· % 5) (cellsF ns at_ n)) := tab_ok rfl (by decide) fun c a b => ⟨Int.emod_nonneg _ (by decide), Int.emod_lt_of_pos _ (by decide)⟩
  have t2 : RowOk n 2 (tabRow tab0 (· / 5) (cellsF ns at_ n)) := tab_ok rfl (by decide) fun c a b => ⟨by omega, by omega⟩
  refine ⟨t1.1, h1.1, t1.2, h1.2, ?_⟩
  cases even with
  | false => exact fun x hx => (t2.2 x hx).2
  | true =>
    show (pour n (tabRow tab0 (· % 5) (cellsF ns at_ n)).sum.toNat (List.replicate n 0) (mixedF ns (at_ + 4) 65536)).sum ≤ (tabRow tab0 (· % 5) (cellsF ns at_ n)).sum
    have a := pour_sum (size := n) (tabRow tab0 (· % 5) (cellsF ns at_ n)).sum.toNat (List.replicate n 0) (mixedF ns (at_ + 4) 65536)
    have b := (sum_le _ t1.2).1
    rw [zero_sum] at a
    omega
theorem mvs_ok (ns : List Int) (at_ : Int) : ∀ m ∈ movesF tab0 ns at_, MvOk (sizeF ns at_) (evenF ns at_) m := fun m hm => by
  unfold movesF at hm
  obtain ⟨k, _, rfl⟩ := List.mem_map.mp hm
  exact mv_ok ns _ (size_ok ns at_).2 _
theorem mvs_len (ns : List Int) (at_ : Int) : (movesF tab0 ns at_).length ≤ 4 := by
  unfold movesF
  rw [List.length_map, List.length_range]
  exact many_ok ns at_
def tkM (k : Nat) (ms : MvS) : MvS := ms.map fun m => (m.1.take k, m.2.take k)
theorem tkM_len (k : Nat) (ms : MvS) : (tkM k ms).length = ms.length := List.length_map ..
theorem part_all {n : Nat} {even : Bool} {ms : MvS} (h : ∀ m ∈ ms, MvOk n even m) (hl : ms.length ≤ 4) (n1 : 1 ≤ n) (n3 : n ≤ 3) : PartN n ms := ⟨n1, n3, hl, fun m hm => ⟨(h m hm).l1, (h m hm).l2⟩, fun m hm => (h m hm).t, fun m hm => (h m hm).g, by
  cases even with
  | false => exact .inr (.inl fun m hm => (h m hm).up)
  | true => exact .inr (.inr fun m hm => by have : m.2.sum ≤ m.1.sum := (h m hm).up; omega)⟩
theorem take_in {r : List Int} {k : Nat} {x : Int} (h : x ∈ r.take k) : x ∈ r := List.mem_of_mem_take h
theorem take_sum : ∀ (r : List Int) (k : Nat), (∀ x ∈ r, 0 ≤ x) → (r.take k).sum ≤ r.sum
  | [], k, _ => by simp
  | a :: r, 0, h => by
    have h1 := h a List.mem_cons_self
    have ih := take_sum r 0 fun x hx => h x (List.mem_cons_of_mem _ hx)
    rw [List.take_zero] at ih ⊢
    rw [List.sum_cons]
    have : ([] : List Int).sum = 0 := rfl
    omega
  | a :: r, k + 1, h => by
    have ih := take_sum r k fun x hx => h x (List.mem_cons_of_mem _ hx)
    rw [List.take_succ_cons, List.sum_cons, List.sum_cons]
    omega
theorem sum_cut : ∀ {r : List Int}, r.length = 4 → (∀ x ∈ r, 0 ≤ x ∧ x ≤ 2) → r.sum ≤ (r.take 3).sum + 2
  | [a, b, c, d], _, h => by
    have := h d (by simp)
    show ([a, b, c, d] : List Int).sum ≤ ([a, b, c] : List Int).sum + 2
    rw [List.sum_cons, List.sum_cons, List.sum_cons, List.sum_cons, List.sum_cons, List.sum_cons, List.sum_cons]
    have : ([] : List Int).sum = 0 := rfl
    omega
  | [], h, _ => by simp at h
  | [_], h, _ => by simp at h
  | [_, _], h, _ => by simp at h
  | [_, _, _], h, _ => by simp at h
  | _ :: _ :: _ :: _ :: _ :: _, h, _ => by simp at h
theorem part_cut3 {even : Bool} {ms : MvS} (h : ∀ m ∈ ms, MvOk 4 even m) (hl : ms.length ≤ 4) : PartN 3 (tkM 3 ms) := by
  have each : ∀ m' ∈ tkM 3 ms, ∃ m, MvOk 4 even m ∧ m' = (m.1.take 3, m.2.take 3) := fun m' hm => by
    obtain ⟨m, ho, rfl⟩ := List.mem_map.mp hm
    exact ⟨m, h m ho, rfl⟩
  refine ⟨by decide, by decide, by rw [tkM_len]; exact hl, fun m' hm => ?_, fun m' hm x hx => ?_, fun m' hm x hx => ?_, ?_⟩
  · obtain ⟨m, ho, rfl⟩ := each m' hm
    have := ho.l1
    have := ho.l2
    simp only [List.length_take]
    omega
  · obtain ⟨m, ho, rfl⟩ := each m' hm
    exact ho.t x (take_in hx)
  · obtain ⟨m, ho, rfl⟩ := each m' hm
    exact ho.g x (take_in hx)
  · cases even with
    | false =>
      refine .inr (.inl fun m' hm x hx => ?_)
      obtain ⟨m, ho, rfl⟩ := each m' hm
      exact ho.up x (take_in hx)
    | true =>
      refine .inr (.inr fun m' hm => ?_)
      obtain ⟨m, ho, rfl⟩ := each m' hm
      have a := take_sum m.2 3 fun x hx => (ho.g x hx).1
      have b : m.2.sum ≤ m.1.sum := ho.up
      have c := sum_cut ho.l1 ho.t
      show (m.2.take 3).sum ≤ (m.1.take 3).sum + 2
      omega
theorem part_cut1 {n : Nat} {even : Bool} {ms : MvS} (h : ∀ m ∈ ms, MvOk n even m) (n1 : 1 ≤ n) : PartN 1 (tkM 1 (ms.take 2)) := by
  have each : ∀ m' ∈ tkM 1 (ms.take 2), ∃ m, MvOk n even m ∧ m' = (m.1.take 1, m.2.take 1) := fun m' hm => by
    obtain ⟨m, ho, rfl⟩ := List.mem_map.mp hm
    exact ⟨m, h m (List.mem_of_mem_take ho), rfl⟩
  refine ⟨by decide, by decide, by rw [tkM_len, List.length_take]; omega, fun m' hm => ?_, fun m' hm x hx => ?_, fun m' hm x hx => ?_, .inl rfl⟩
  · obtain ⟨m, ho, rfl⟩ := each m' hm
    have := ho.l1
    have := ho.l2
    simp only [List.length_take]
    omega
  · obtain ⟨m, ho, rfl⟩ := each m' hm
    exact ho.t x (take_in hx)
  · obtain ⟨m, ho, rfl⟩ := each m' hm
    exact ho.g x (take_in hx)
/-- the law's first net, its second -/
def oneN (ns : List Int) : Nat × MvS := if sizeF ns 0 = 4 then (3, tkM 3 (movesF tab0 ns 0)) else (sizeF ns 0, movesF tab0 ns 0)
def othN (ns : List Int) : Nat × MvS := if sizeF ns 0 + sizeF ns 24 > 4 then (1, tkM 1 ((movesF tab0 ns 24).take 2)) else (sizeF ns 24, movesF tab0 ns 24)
theorem one_part (ns : List Int) : PartN (oneN ns).1 (oneN ns).2 := by
  have h := mvs_ok ns 0
  have hl := mvs_len ns 0
  have hz := size_ok ns 0
  unfold oneN
  by_cases q : sizeF ns 0 = 4
  · rw [if_pos q]
    rw [q] at h
    exact part_cut3 h hl
  · rw [if_neg q]
    exact part_all h hl hz.1 (by show sizeF ns 0 ≤ 3; omega)
theorem oth_part (ns : List Int) : PartN (othN ns).1 (othN ns).2 := by
  have h := mvs_ok ns 24
  have hl := mvs_len ns 24
  have hz := size_ok ns 24
  have hz0 := size_ok ns 0
  unfold othN
  by_cases q : sizeF ns 0 + sizeF ns 24 > 4
  · rw [if_pos q]
    exact part_cut1 h hz.1
  · rw [if_neg q]
    exact part_all h hl hz.1 (by show sizeF ns 24 ≤ 3; omega)
theorem both_four (ns : List Int) : (oneN ns).1 + (othN ns).1 ≤ 4 := by
  have hz := size_ok ns 24
  have hz0 := size_ok ns 0
  unfold oneN othN
  split <;> split <;> (show _ + _ ≤ 4) <;> simp only <;> omega
/-! ### as data -/
theorem net_ok9' {n : Nat} {ms : MvS} (n1 : 1 ≤ n) (n6 : n ≤ 6) (hm : ms.length ≤ 10) (hr : ∀ m ∈ ms, m.1.length = n ∧ m.2.length = n) (ht : ∀ m ∈ ms, ∀ x ∈ m.1, 0 ≤ x ∧ x ≤ 2) (hg : ∀ m ∈ ms, ∀ x ∈ m.2, 0 ≤ x ∧ x ≤ 9) : NetOk n 9 ms :=
  ⟨n1, n6, hm, fun m h => ⟨⟨(hr m h).1, fun x hx => ⟨(ht m h x hx).1, by have := (ht m h x hx).2; omega⟩⟩, (hr m h).2, hg m h⟩⟩
end Tw


namespace Tw
open PySem PySem.Spec PyProof.Rows L2


def F_is_whole (ds : List PyData) (o : Out) : Prop := ∃ d, ds = [d] ∧ NoScr d ∧ o = .rt (.bool (isInt d))
theorem len_is_whole : ∀ ds o, F_is_whole ds o → ds.length = 1 := fun _ _ ⟨_, h, _⟩ => by rw [h]; rfl

/-! is_whole: slots 0 thing (1) -/
def t_is_whole (K : PySem.W.Frag) (E : XK)  : TS :=
    (tRet (tAndV (tCB (rIsi K) (tCons (tVar 0) (tCons (tC (.ty "int")) tNil))) (tNotV (tCB (rIsi K) (tCons (tVar 0) (tCons (tC (.ty "bool")) tNil))))))

theorem sem_is_whole {K : PySem.W.Frag} {E : XK} {ds : List PyData} {o : Out} (h : F_is_whole ds o) : As K E (t_is_whole K E) (slots0 1 ds) (finP o) := by
  obtain ⟨d, rfl, hn, rfl⟩ := h
  obtain ⟨b, h1, c, h2, e⟩ := kit_int d hn
  exact as_ret (ev_to (ev_andV (ev_isi (ev_var rfl) h1 hn) (fun _ => ev_notV (ev_isi (ev_var rfl) h2 hn))) (by rw [e])) rfl

def F_between (ds : List PyData) (o : Out) : Prop := ∃ d l m, ds = [d, .int l, .int m] ∧ NoScr d ∧ o = .rt (.bool (inB d l m))
theorem len_between : ∀ ds o, F_between ds o → ds.length = 3 := fun _ _ ⟨_, _, _, h, _⟩ => by rw [h]; rfl
/-! between: slots 0 thing, 1 low, 2 most (3) -/
def t_between (K : PySem.W.Frag) (E : XK)  : TS :=
    (tRet (tAndV (tCallS (SpD K F_is_whole) (WE (fun cls d _ H => E cls d H)) (tCons (tVar 0) tNil)) (tAndV (tOp (rLeA K) (tVar 1) (tVar 0)) (tOp (rLeA K) (tVar 0) (tVar 2)))))

theorem sem_between {K : PySem.W.Frag} {E : XK} {ds : List PyData} {o : Out} (h : F_between ds o) : As K E (t_between K E) (slots0 3 ds) (finP o) := by
  obtain ⟨d, l, m, rfl, hn, rfl⟩ := h
  cases hd : isInt d with
  | true =>
    cases d with
    | int i =>
      exact as_ret (ev_andV (a := true) (ev_call (ea_cons (ev_var rfl) ea_nil) ⟨_, rfl, hn, rfl⟩) fun _ => ev_andV (ev_op (ev_var rfl) (ev_var rfl) rd_le) fun _ => ev_op (ev_var rfl) (ev_var rfl) rd_le) rfl
    | _ => cases hd
  | false =>
    have e : inB d l m = false := by cases d <;> first | rfl | cases hd
    refine as_ret (ev_to (ev_andV (a := false) (b := true) (ev_call (ea_cons (ev_var rfl) ea_nil) ⟨_, rfl, hn, by rw [hd]⟩) fun z => by cases z) (by rw [e]; rfl)) rfl

def tokB (s : Int) : PyData → Bool
  | .tuple ds => decide ((ds.length : Int) = s) && ds.all fun d => inB d 0 9
  | _ => false
def F_are_tokens (ds : List PyData) (o : Out) : Prop := ∃ d s, ds = [d, .int s] ∧ cln d = true ∧ o = .rt (.bool (tokB s d))
theorem len_are_tokens : ∀ ds o, F_are_tokens ds o → ds.length = 2 := fun _ _ ⟨_, _, h, _⟩ => by rw [h]; rfl
/-! are_tokens: slots 0 thing, 1 size, 2 number (3) -/
def t_are_tokens (K : PySem.W.Frag) (E : XK)  : TS :=
    (tSeq (tIfS (tOr (tNot (tB (tCB (rIsi K) (tCons (tVar 0) (tCons (tC (.ty "tuple")) tNil))))) (tTest (tOp (rNeD K) (tCB (rLenA K) (tCons (tVar 0) tNil)) (tVar 1)))) (tRet (tC (.bl false))) tNext)
    (tSeq (tFor (iTup K (tVar 0)) (gName 2) (tIfS (tNot (tB (tCallS (SpD K F_between) (WE (fun cls d _ H => E cls d H)) (tCons (tVar 2) (tCons (tC (.int 0)) (tCons (tC (.int 9)) tNil)))))) (tRet (tC (.bl false))) tNext))
    (tRet (tC (.bl true)))))

theorem sem_are_tokens {K : PySem.W.Frag} {E : XK} {ds : List PyData} {o : Out} (h : F_are_tokens ds o) : As K E (t_are_tokens K E) (slots0 3 ds) (finP o) := by
  obtain ⟨d, s, rfl, hc, rfl⟩ := h
  obtain ⟨b, hb, hy, hn⟩ := kit_tup d (cln_no hc)
  cases b with
  | false =>
    refine as_seq (as_if (et_or (a := true) (b := true) (et_not (a := false) (et_B (ev_isi (ev_var rfl) hb (cln_no hc)))) fun z => by cases z) (fun _ => as_ret ev_bl ?_) (fun z => by cases z))
    show Out.rt _ = Out.rt _
    have : tokB s d = false := by cases d <;> first | rfl | exact absurd rfl (hn rfl _)
    rw [this]
  | true =>
    obtain ⟨xs, rfl⟩ := hy rfl
    refine as_seq (as_if (et_or (a := false) (et_not (a := true) (et_B (ev_isi (ev_var rfl) hb (cln_no hc)))) fun _ => et_test (ev_op (ev_cb (ea_cons (ev_var rfl) ea_nil) rc_lenT) (ev_var rfl) (rd_ne rfl rfl))) (fun hlen => as_ret ev_bl ?_) (fun hlen => as_next ?_))
    · rw [eqv_int] at hlen
      have e : ¬ (xs.length : Int) = s := by simpa using hlen
      show Out.rt (.bool (decide ((xs.length : Int) = s) && _)) = Out.rt _
      rw [decide_eq_false e]
      rfl
    · rw [eqv_int] at hlen
      have e : (xs.length : Int) = s := by simpa using hlen
      refine as_search (fun i => !inB (xs.getD i .none) 0 9) (ei_tup (ev_var rfl)) (fun δ' => ∃ z, δ' = [.d (.tuple xs), .d (.int s), z]) ⟨_, rfl⟩ (fun i d δ' hd hf _ => ?_) (fun δ' _ => ev_bl) (fun δ' _ => ev_bl) ?_
      · obtain ⟨z, rfl⟩ := hf
        refine ag_name ⟨?_, _, rfl⟩
        rw [item_eq hd]
        exact et_not (et_B (ev_call (ea_cons (ev_var rfl) (ea_cons ev_int (ea_cons ev_int ea_nil))) ⟨d, 0, 9, rfl, cln_no (clnAll_get (show clnAll xs = true from hc) hd), rfl⟩))
      · show Out.rt (.bool (decide ((xs.length : Int) = s) && _)) = Out.rt _
        rw [decide_eq_true e, search_all, range_all (f := fun d => inB d 0 9)]
        rfl

def mvB (s : Int) : PyData → Bool
  | .tuple [t, g] => tokB s t && tokB s g
  | _ => false
def mvsB (s : Int) : PyData → Bool
  | .tuple ms => decide (ms.length ≤ 10) && ms.all (mvB s)
  | _ => false
def netB : PyData → Bool
  | .tuple [.int s, b] => inB (.int s) 1 6 && mvsB s b
  | _ => false
def F_is_net (ds : List PyData) (o : Out) : Prop := ∃ d, ds = [d] ∧ cln d = true ∧ o = .rt (.bool (netB d))
theorem len_is_net : ∀ ds o, F_is_net ds o → ds.length = 1 := fun _ _ ⟨_, h, _⟩ => by rw [h]; rfl
/-- two items, or another number -/
theorem two_or (xs : List PyData) : (∃ a b, xs = [a, b]) ∨ xs.length ≠ 2 := by
  match xs with
  | [] => exact .inr (by decide)
  | [_] => exact .inr (by simp)
  | [a, b] => exact .inl ⟨a, b, rfl⟩
  | _ :: _ :: _ :: _ => exact .inr (by simp)
theorem mvB_no {s : Int} {d : PyData} (h : ∀ a b, d ≠ .tuple [a, b]) : mvB s d = false := by
  cases d with
  | tuple xs =>
    rcases two_or xs with ⟨a, b, rfl⟩ | h2
    · exact absurd rfl (h a b)
    · match xs with
      | [] => rfl
      | [_] => rfl
      | [a, b] => exact absurd rfl h2
      | _ :: _ :: _ :: _ => rfl
  | _ => rfl
theorem netB_no {d : PyData} (h : ∀ a b, d ≠ .tuple [a, b]) : netB d = false := by
  cases d with
  | tuple xs =>
    match xs with
    | [] => rfl
    | [a] => cases a <;> rfl
    | [a, b] => exact absurd rfl (h a b)
    | a :: _ :: _ :: _ => cases a <;> rfl
  | _ => rfl
theorem netB_two {a b : PyData} (h : inB a 1 6 = false) : netB (.tuple [a, b]) = false := by
  cases a <;> first | rfl | (show (_ && _) = false; rw [h]; rfl)
theorem eqv_two (n : Nat) : PyData.eqv (.int n) (.int 2) = decide (n = 2) := eqv_nat n 2
/-! is_net: slots 0 thing, 1 move (2) -/
def t_is_net (K : PySem.W.Frag) (E : XK)  : TS :=
    (tSeq (tIfS (tOr (tNot (tB (tCB (rIsi K) (tCons (tVar 0) (tCons (tC (.ty "tuple")) tNil))))) (tOr (tTest (tOp (rNeD K) (tCB (rLenA K) (tCons (tVar 0) tNil)) (tC (.int 2)))) (tNot (tB (tCallS (SpD K F_between) (WE (fun cls d _ H => E cls d H)) (tCons (tOp (rIx K) (tVar 0) (tC (.int 0))) (tCons (tC (.int 1)) (tCons (tC (.int 6)) tNil)))))))) (tRet (tC (.bl false))) tNext)
    (tSeq (tIfS (tOr (tNot (tB (tCB (rIsi K) (tCons (tOp (rIx K) (tVar 0) (tC (.int 1))) (tCons (tC (.ty "tuple")) tNil))))) (tTest (tOp rGtA (tCB (rLenA K) (tCons (tOp (rIx K) (tVar 0) (tC (.int 1))) tNil)) (tC (.int 10))))) (tRet (tC (.bl false))) tNext)
    (tSeq (tFor (iTup K (tOp (rIx K) (tVar 0) (tC (.int 1)))) (gName 1) (tSeq (tIfS (tOr (tNot (tB (tCB (rIsi K) (tCons (tVar 1) (tCons (tC (.ty "tuple")) tNil))))) (tTest (tOp (rNeD K) (tCB (rLenA K) (tCons (tVar 1) tNil)) (tC (.int 2))))) (tRet (tC (.bl false))) tNext)
    (tIfS (tOr (tNot (tB (tCallS (SpD K F_are_tokens) (WE (fun cls d _ H => E cls d H)) (tCons (tOp (rIx K) (tVar 1) (tC (.int 0))) (tCons (tOp (rIx K) (tVar 0) (tC (.int 0))) tNil))))) (tNot (tB (tCallS (SpD K F_are_tokens) (WE (fun cls d _ H => E cls d H)) (tCons (tOp (rIx K) (tVar 1) (tC (.int 1))) (tCons (tOp (rIx K) (tVar 0) (tC (.int 0))) tNil)))))) (tRet (tC (.bl false))) tNext)))
    (tRet (tC (.bl true))))))

theorem sem_is_net {K : PySem.W.Frag} {E : XK} {ds : List PyData} {o : Out} (h : F_is_net ds o) : As K E (t_is_net K E) (slots0 2 ds) (finP o) := by
  obtain ⟨d, rfl, hc, rfl⟩ := h
  obtain ⟨b, hb, hy, hn⟩ := kit_tup d (cln_no hc)
  cases b with
  | false =>
    refine as_seq (as_if (et_or (a := true) (b := true) (et_not (a := false) (et_B (ev_isi (ev_var rfl) hb (cln_no hc)))) fun z => by cases z) (fun _ => as_ret ev_bl ?_) (fun z => by cases z))
    show Out.rt _ = Out.rt _
    rw [netB_no fun a b => hn rfl _]
  | true =>
    obtain ⟨xs, rfl⟩ := hy rfl
    rcases two_or xs with ⟨a, b, rfl⟩ | h2
    · have hca : cln a = true := clnAll_get (ds := [a, b]) (i := 0) hc rfl
      have hcb : cln b = true := clnAll_get (ds := [a, b]) (i := 1) hc rfl
      cases hin : inB a 1 6 with
      | false =>
        refine as_seq (as_if (et_or (a := false) (b := true) (et_not (a := true) (et_B (ev_isi (ev_var rfl) hb (cln_no hc)))) fun _ => et_or (a := false) (b := true) (et_test (ev_op (ev_cb (ea_cons (ev_var rfl) ea_nil) rc_lenT) ev_int (rd_ne rfl rfl))) fun _ => et_not (a := false) (et_B (ev_call (ea_cons (ev_op (ev_var rfl) ev_int (rd_ixT rfl)) (ea_cons ev_int (ea_cons ev_int ea_nil))) ⟨a, 1, 6, rfl, cln_no hca, by rw [hin]⟩))) (fun _ => as_ret ev_bl ?_) (fun z => by cases z))
        show Out.rt _ = Out.rt _
        rw [netB_two hin]
      | true =>
        obtain ⟨s, rfl⟩ : ∃ s, a = .int s := by cases a <;> first | exact ⟨_, rfl⟩ | cases hin
        refine as_seq (as_if (b := false) (et_or (a := false) (b := false) (et_not (a := true) (et_B (ev_isi (ev_var rfl) hb (cln_no hc)))) fun _ => et_or (a := false) (b := false) (et_test (ev_op (ev_cb (ea_cons (ev_var rfl) ea_nil) rc_lenT) ev_int (rd_ne rfl rfl))) fun _ => et_not (a := true) (et_B (ev_call (ea_cons (ev_op (ev_var rfl) ev_int (rd_ixT rfl)) (ea_cons ev_int (ea_cons ev_int ea_nil))) ⟨_, 1, 6, rfl, cln_no hca, by rw [hin]⟩))) (fun z => by cases z) (fun _ => as_next ?_))
        have eN : netB (.tuple [.int s, b]) = mvsB s b := by
          show (_ && _) = _
          rw [hin, Bool.true_and]
        rw [eN]
        obtain ⟨b2, hb2, hy2, hn2⟩ := kit_tup b (cln_no hcb)
        have hmv : ∀ {δ : List Sl}, δ[0]? = some (.d (.tuple [.int s, b])) → Ev K (tOp (rIx K) (tVar 0) (tC (.int 1))) δ b := fun q => ev_op (ev_var q) ev_int (rd_ixT rfl)
        cases b2 with
        | false =>
          refine as_seq (as_if (et_or (a := true) (b := true) (et_not (a := false) (et_B (ev_isi (hmv rfl) hb2 (cln_no hcb)))) fun z => by cases z) (fun _ => as_ret ev_bl ?_) (fun z => by cases z))
          show Out.rt _ = Out.rt _
          have : mvsB s b = false := by cases b <;> first | rfl | exact absurd rfl (hn2 rfl _)
          rw [this]
        | true =>
          obtain ⟨ms, rfl⟩ := hy2 rfl
          refine as_seq (as_if (et_or (a := false) (et_not (a := true) (et_B (ev_isi (hmv rfl) hb2 (cln_no hcb)))) fun _ => et_test (ev_op (ev_cb (ea_cons (hmv rfl) ea_nil) rc_lenT) ev_int rd_gt)) (fun hlen => as_ret ev_bl ?_) (fun hlen => as_next ?_))
          · have e : (10 : Int) < ms.length := by simpa using hlen
            show Out.rt (.bool (decide (ms.length ≤ 10) && _)) = Out.rt _
            rw [decide_eq_false (by omega)]
            rfl
          · have e : ¬ (10 : Int) < ms.length := by simpa using hlen
            have eM : mvsB s (.tuple ms) = ms.all (mvB s) := by
              show (decide (ms.length ≤ 10) && _) = _
              rw [decide_eq_true (by omega), Bool.true_and]
            rw [eM]
            refine as_seq (as_for (ei_tup (hmv rfl)) (fun i δ' => ∃ z, δ' = [.d (.tuple [.int s, .tuple ms]), z] ∧ ∀ j y, j < i → ms[j]? = some y → mvB s y = true) ⟨_, rfl, fun j y hj => by omega⟩ (fun i y δ' hy' hp => ?_) (fun δ' hp => ?_))
            · obtain ⟨z, rfl, hp⟩ := hp
              have hyc : cln y = true := clnAll_get (show clnAll ms = true from hcb) hy'
              have hym : y ∈ ms := List.mem_of_getElem? hy'
              have bad : mvB s y = false → ms.all (mvB s) = false := fun q => by
                rw [List.all_eq_false]
                exact ⟨y, hym, by rw [q]; decide⟩
              obtain ⟨b3, hb3, hy3, hn3⟩ := kit_tup y (cln_no hyc)
              cases b3 with
              | false =>
                refine ag_name (as_seq (as_if (et_or (a := true) (b := true) (et_not (a := false) (et_B (ev_isi (ev_var rfl) hb3 (cln_no hyc)))) fun z => by cases z) (fun _ => as_ret ev_bl ?_) (fun z => by cases z)))
                show Out.rt _ = Out.rt _
                rw [bad (mvB_no fun a b => hn3 rfl _)]
              | true =>
                obtain ⟨ys, rfl⟩ := hy3 rfl
                rcases two_or ys with ⟨t, g, rfl⟩ | h3
                · have hct : cln t = true := clnAll_get (ds := [t, g]) (i := 0) hyc rfl
                  have hcg : cln g = true := clnAll_get (ds := [t, g]) (i := 1) hyc rfl
                  refine ag_name (as_seq (as_if (b := false) (et_or (a := false) (b := false) (et_not (a := true) (et_B (ev_isi (ev_var rfl) hb3 (cln_no hyc)))) fun _ => et_test (ev_op (ev_cb (ea_cons (ev_var rfl) ea_nil) rc_lenT) ev_int (rd_ne rfl rfl))) (fun z => by cases z) (fun _ => as_next ?_)))
                  refine as_if (et_or (et_not (et_B (ev_call (ea_cons (ev_op (ev_var rfl) ev_int (rd_ixT rfl)) (ea_cons (ev_op (ev_var rfl) ev_int (rd_ixT rfl)) ea_nil)) ⟨t, s, rfl, hct, rfl⟩))) fun _ => et_not (et_B (ev_call (ea_cons (ev_op (ev_var rfl) ev_int (rd_ixT rfl)) (ea_cons (ev_op (ev_var rfl) ev_int (rd_ixT rfl)) ea_nil)) ⟨g, s, rfl, hcg, rfl⟩))) (fun hq => as_ret ev_bl ?_) (fun hq => as_next ⟨_, rfl, fun j w hj hw => ?_⟩)
                  · show Out.rt _ = Out.rt _
                    rw [bad]
                    show (tokB s t && tokB s g) = false
                    revert hq
                    cases tokB s t <;> cases tokB s g <;> simp
                  · rcases Nat.lt_or_eq_of_le (Nat.le_of_lt_succ hj) with q | q
                    · exact hp j w q hw
                    · subst q
                      rw [hy'] at hw
                      cases hw
                      show (tokB s t && tokB s g) = true
                      revert hq
                      cases tokB s t <;> cases tokB s g <;> simp
                · refine ag_name (as_seq (as_if (b := true) (et_to (et_or (a := false) (et_not (a := true) (et_B (ev_isi (ev_var rfl) hb3 (cln_no hyc)))) fun _ => et_test (ev_op (ev_cb (ea_cons (ev_var rfl) ea_nil) rc_lenT) ev_int (rd_ne rfl rfl))) (by rw [eqv_two, decide_eq_false h3]; rfl)) (fun _ => as_ret ev_bl ?_) (fun z => by cases z)))
                  show Out.rt _ = Out.rt _
                  rw [bad (mvB_no fun a b e => h3 (by cases e; rfl))]
            · obtain ⟨z, rfl, hp⟩ := hp
              refine as_ret ev_bl ?_
              show Out.rt _ = Out.rt _
              have : ms.all (mvB s) = true := by
                rw [List.all_eq_true]
                intro y hy'
                obtain ⟨j, hj, e⟩ := List.getElem_of_mem hy'
                exact hp j y hj (by rw [List.getElem?_eq_getElem hj, e])
              rw [this]
    · refine as_seq (as_if (b := true) (et_to (et_or (a := false) (b := true) (et_not (a := true) (et_B (ev_isi (ev_var rfl) hb (cln_no hc)))) fun _ => et_or (a := true) (b := true) (et_to (et_test (ev_op (ev_cb (ea_cons (ev_var rfl) ea_nil) rc_lenT) ev_int (rd_ne rfl rfl))) (by rw [eqv_two, decide_eq_false h2]; rfl)) fun z => by cases z) rfl) (fun _ => as_ret ev_bl ?_) (fun z => by cases z))
      show Out.rt _ = Out.rt _
      rw [netB_no fun a b e => h2 (by cases e; rfl)]

def F_checked (a_NoNet : Addr) (ds : List PyData) (o : Out) : Prop := ∃ d, ds = [d] ∧ cln d = true ∧ o = if netB d then .rt d else .ex (.ref a_NoNet)
theorem len_checked (a_NoNet : Addr) : ∀ ds o, F_checked a_NoNet ds o → ds.length = 1 := fun _ _ ⟨_, h, _⟩ => by rw [h]; rfl
theorem tokB_row {n : Nat} {r : List Int} (h : RowOk n 9 r) : tokB n (rowD r) = true := by
  show (decide (((r.map PyData.int).length : Int) = n) && (r.map PyData.int).all fun d => inB d 0 9) = true
  rw [List.length_map, decide_eq_true (by rw [h.1]), Bool.true_and, List.all_map, List.all_eq_true]
  intro x hx
  have := h.2 x hx
  show (decide ((0 : Int) ≤ x) && decide (x ≤ 9)) = true
  rw [decide_eq_true this.1, decide_eq_true this.2]
  rfl
theorem netB_net {n : Nat} {ms : List (List Int × List Int)} (h : NetOk n 9 ms) : netB (netD n ms) = true := by
  have h1 := h.pos
  have h2 := h.top
  show ((decide ((1 : Int) ≤ (n : Int)) && decide ((n : Int) ≤ 6)) && (decide ((ms.map moveD).length ≤ 10) && (ms.map moveD).all (mvB n))) = true
  rw [List.length_map, decide_eq_true (by omega), decide_eq_true (by omega), decide_eq_true h.many, List.all_map]
  show (true && (true && _)) = true
  rw [Bool.true_and, Bool.true_and, List.all_eq_true]
  intro m hm
  obtain ⟨a, b⟩ := h.rows m hm
  show (tokB n (rowD m.1) && tokB n (rowD m.2)) = true
  rw [tokB_row a, tokB_row b]
  rfl
/-! checked: slots 0 net (1) -/
def t_checked (K : PySem.W.Frag) (E : XK) (a_NoNet : Addr) : TS :=
    (tSeq (tIfS (tNot (tB (tCallS (SpD K F_is_net) (WE (fun cls d _ H => E cls d H)) (tCons (tVar 0) tNil)))) (tRz E (.ref a_NoNet)) tNext)
    (tRet (tVar 0)))

theorem sem_checked {K : PySem.W.Frag} {E : XK} (a_NoNet : Addr) {ds : List PyData} {o : Out} (h : F_checked a_NoNet ds o) : As K E (t_checked K E a_NoNet) (slots0 1 ds) (finP o) := by
  obtain ⟨d, rfl, hc, rfl⟩ := h
  refine as_seq (as_if (et_not (et_B (ev_call (ea_cons (ev_var rfl) ea_nil) ⟨d, rfl, hc, rfl⟩))) (fun hb => as_raise ?_) (fun hb => as_next (as_ret (ev_var rfl) ?_)))
  · have e : netB d = false := by simpa using hb
    rw [e]
    rfl
  · have e : netB d = true := by simpa using hb
    rw [e]
    rfl

def F_is_hoard (ds : List PyData) (o : Out) : Prop := ∃ n ms d, ds = [netD n ms, d] ∧ cln d = true ∧ o = .rt (.bool (hoardB n d))
theorem len_is_hoard : ∀ ds o, F_is_hoard ds o → ds.length = 2 := fun _ _ ⟨_, _, _, h, _⟩ => by rw [h]; rfl


theorem nat_test {K : PySem.W.Frag} {δ : List Sl} {i : Nat} {d : PyData} {W : WX} (h : δ[i]? = some (.d d)) (hc : cln d = true) :
    EvT K (tOr (tNot (tB (tCallS (SpD K F_is_whole) (WE W) (tCons (tVar i) tNil)))) (tTest (tOp rLtA (tVar i) (tC (.int 0))))) δ (!natB d) := by
  cases e : isInt d with
  | true =>
    cases d with
    | int z =>
      refine et_to (et_or (a := false) (et_not (a := true) (et_B (ev_call (ea_cons (ev_var h) ea_nil) ⟨_, rfl, cln_no hc, rfl⟩))) fun _ => et_test (ev_op (ev_var h) ev_int rd_lt)) ?_
      show (false || decide (z < 0)) = !decide (0 ≤ z)
      by_cases hz : 0 ≤ z
      · rw [decide_eq_true hz, decide_eq_false (by omega)]; rfl
      · rw [decide_eq_false hz, decide_eq_true (by omega)]; rfl
    | _ => cases e
  | false =>
    refine et_to (et_or (a := true) (b := true) (et_not (a := false) (et_B (ev_call (ea_cons (ev_var h) ea_nil) ⟨_, rfl, cln_no hc, by rw [e]⟩))) fun z => by cases z) ?_
    cases d <;> first | rfl | cases e
/-! is_hoard: slots 0 net, 1 thing, 2 number (3) -/
def t_is_hoard (K : PySem.W.Frag) (E : XK)  : TS :=
    (tSeq (tIfS (tOr (tNot (tB (tCB (rIsi K) (tCons (tVar 1) (tCons (tC (.ty "tuple")) tNil))))) (tTest (tOp (rNeD K) (tCB (rLenA K) (tCons (tVar 1) tNil)) (tOp (rIx K) (tVar 0) (tC (.int 0)))))) (tRet (tC (.bl false))) tNext)
    (tSeq (tFor (iTup K (tVar 1)) (gName 2) (tIfS (tOr (tNot (tB (tCallS (SpD K F_is_whole) (WE (fun cls d _ H => E cls d H)) (tCons (tVar 2) tNil)))) (tTest (tOp rLtA (tVar 2) (tC (.int 0))))) (tRet (tC (.bl false))) tNext))
    (tRet (tC (.bl true)))))

theorem sem_is_hoard {K : PySem.W.Frag} {E : XK} {ds : List PyData} {o : Out} (h : F_is_hoard ds o) : As K E (t_is_hoard K E) (slots0 3 ds) (finP o) := by
  obtain ⟨n, ms, d, rfl, hc, rfl⟩ := h
  obtain ⟨b, hb, hy, hn⟩ := kit_tup d (cln_no hc)
  cases b with
  | false =>
    refine as_seq (as_if (et_or (a := true) (b := true) (et_not (a := false) (et_B (ev_isi (ev_var rfl) hb (cln_no hc)))) fun z => by cases z) (fun _ => as_ret ev_bl ?_) (fun z => by cases z))
    show Out.rt _ = Out.rt _
    rw [hoardB_no (hn rfl)]
  | true =>
    obtain ⟨xs, rfl⟩ := hy rfl
    refine as_seq (as_if (et_or (a := false) (et_not (a := true) (et_B (ev_isi (ev_var rfl) hb (cln_no hc)))) fun _ => et_test (ev_op (ev_cb (ea_cons (ev_var rfl) ea_nil) rc_lenT) (net_size rfl) (rd_ne rfl rfl))) (fun hlen => as_ret ev_bl ?_) (fun hlen => as_next ?_))
    · have e : ¬ xs.length = n := by
        rw [eqv_nat] at hlen
        simpa using hlen
      show Out.rt (.bool (decide (xs.length = n) && _)) = Out.rt _
      rw [decide_eq_false e]
      rfl
    · have e : xs.length = n := by
        rw [eqv_nat] at hlen
        simpa using hlen
      refine as_search (fun i => !natB (xs.getD i .none)) (ei_tup (ev_var rfl)) (fun δ' => ∃ z, δ' = [.d (netD n ms), .d (.tuple xs), z]) ⟨_, rfl⟩ (fun i d δ' hd hf _ => ?_) (fun δ' _ => ev_bl) (fun δ' _ => ev_bl) ?_
      · obtain ⟨z, rfl⟩ := hf
        refine ag_name ⟨?_, _, rfl⟩
        rw [item_eq hd]
        exact nat_test rfl (clnAll_get hc hd)
      · show Out.rt (.bool (decide (xs.length = n) && _)) = Out.rt _
        rw [decide_eq_true e, any_not]
        cases (List.range xs.length).all fun i => natB (xs.getD i .none) <;> rfl

def F_need_hoard (a_NoHoard : Addr) (ds : List PyData) (o : Out) : Prop := ∃ n ms d, ds = [netD n ms, d] ∧ cln d = true ∧ o = if hoardB n d then .rt .none else .ex (.ref a_NoHoard)
theorem len_need_hoard (a_NoHoard : Addr) : ∀ ds o, F_need_hoard a_NoHoard ds o → ds.length = 2 := fun _ _ ⟨_, _, _, h, _⟩ => by rw [h]; rfl
/-! need_hoard: slots 0 net, 1 thing (2) -/
def t_need_hoard (K : PySem.W.Frag) (E : XK) (a_NoHoard : Addr) : TS :=
    (tIfS (tNot (tB (tCallS (SpD K F_is_hoard) (WE (fun cls d _ H => E cls d H)) (tCons (tVar 0) (tCons (tVar 1) tNil))))) (tRz E (.ref a_NoHoard)) tNext)

theorem sem_need_hoard {K : PySem.W.Frag} {E : XK} (a_NoHoard : Addr) {ds : List PyData} {o : Out} (h : F_need_hoard a_NoHoard ds o) : As K E (t_need_hoard K E a_NoHoard) (slots0 2 ds) (finP o) := by
  obtain ⟨n, ms, d, rfl, hn, rfl⟩ := h
  refine as_if (et_not (et_B (ev_call (ea_cons (ev_var rfl) (ea_cons (ev_var rfl) ea_nil)) ⟨n, ms, d, rfl, hn, rfl⟩))) (fun hb => as_raise ?_) (fun hb => as_next ?_)
  · have e : hoardB n d = false := by simpa using hb
    rw [e]
    rfl
  · have e : hoardB n d = true := by simpa using hb
    rw [e]
    rfl

def F_over (ds : List PyData) (o : Out) : Prop := ∃ a b, ds = [rowD a, rowD b] ∧ a.length = b.length ∧ o = .rt (.bool (overB a b))
theorem len_over : ∀ ds o, F_over ds o → ds.length = 2 := fun _ _ ⟨_, _, h, _⟩ => by rw [h]; rfl
/-! over: slots 0 one, 1 other, 2 a, 3 b (4) -/
def t_over (K : PySem.W.Frag) (E : XK)  : TS :=
    (tSeq (tFor (iZip2 K (tCons (tVar 0) (tCons (tVar 1) tNil))) (gTup K 2 (gCons (gName 2) (gCons (gName 3) gNil))) (tIfS (tTest (tOp rLtA (tVar 2) (tVar 3))) (tRet (tC (.bl false))) tNext))
    (tRet (tC (.bl true))))

theorem sem_over {K : PySem.W.Frag} {E : XK} {ds : List PyData} {o : Out} (h : F_over ds o) : As K E (t_over K E) (slots0 4 ds) (finP o) := by
  obtain ⟨a, b, rfl, h1, rfl⟩ := h
  refine as_search (fun i => !decide (b.getD i 0 ≤ a.getD i 0)) (ei_zip2 false false (ea_cons (ev_var (x := rowD a) rfl) (ea_cons (ev_var (x := rowD b) rfl) ea_nil))) (fun δ' => ∃ z w, δ' = [.d (rowD a), .d (rowD b), z, w]) ⟨_, _, rfl⟩ (fun i d δ' hd hf _ => ?_) (fun δ' _ => ev_bl) (fun δ' _ => ev_bl) ?_
  · obtain ⟨z, w, rfl⟩ := hf
    obtain ⟨x, y, g1, g2, rfl⟩ := pairs_get hd
    obtain ⟨p, hp, rfl⟩ := row_get' g1
    obtain ⟨q, hq, rfl⟩ := row_get' g2
    refine ag_tup2 ⟨?_, _, _, rfl⟩
    rw [List.getD_eq_getElem?_getD, List.getD_eq_getElem?_getD, hp, hq, ← lt_not_le]
    exact et_test (ev_op (ev_var rfl) (ev_var rfl) rd_lt)
  · rw [pairs_len, List.length_map, List.length_map, h1, Nat.min_self, search_all]
    rfl

def F_led (ds : List PyData) (o : Out) : Prop := ∃ n ms h k m, ds = [netD n ms, rowD h, .int (k : Nat)] ∧ ms[k]? = some m ∧ h.length = n ∧ m.1.length = n ∧ m.2.length = n ∧ n ≤ 100 ∧ o = .rt (rowD (ledR h m.1 m.2))
theorem len_led : ∀ ds o, F_led ds o → ds.length = 3 := fun _ _ ⟨_, _, _, _, _, h, _⟩ => by rw [h]; rfl
/-! led: slots 0 net, 1 hoard, 2 move, 3 takes, 4 gives, 5 a, 6 b, 7 c (8) -/
def t_led (K : PySem.W.Frag) (E : XK)  : TS :=
    (tSeq (tAsg (tOp (rIx K) (tOp (rIx K) (tVar 0) (tC (.int 1))) (tVar 2)) (gTup K 2 (gCons (gName 3) (gCons (gName 4) gNil))))
    (tRet (tCB (rTupA K) (tCons (tLc (iZip3 K (tCons (tVar 1) (tCons (tVar 3) (tCons (tVar 4) tNil)))) (gTup K 3 (gCons (gName 5) (gCons (gName 6) (gCons (gName 7) gNil)))) tYes (tOp (rAddA K) (tOp rMinus (tVar 5) (tVar 6)) (tVar 7)) [5, 6, 7]) tNil))))

theorem sem_led {K : PySem.W.Frag} {E : XK} {ds : List PyData} {o : Out} (h : F_led ds o) : As K E (t_led K E) (slots0 8 ds) (finP o) := by
  obtain ⟨n, ms, h, k, ⟨tk, gv⟩, rfl, hm, h1, h2, h3, h4, rfl⟩ := h
  simp only at h2 h3
  refine as_seq (as_set2 (x := rowD tk) (y := rowD gv) (net_move rfl rfl hm) (as_ret (ev_to (ev_cb (ea_cons (en_map (fun i => .int (h.getD i 0 - tk.getD i 0 + gv.getD i 0)) (ei_zip3 false false false (ea_cons (ev_var (x := rowD h) rfl) (ea_cons (ev_var (x := rowD tk) rfl) (ea_cons (ev_var (x := rowD gv) rfl) ea_nil)))) ?_ (gw3 5 6 7) (fun i d hd => ?_)).ev ea_nil) rc_tup) ?_) rfl))
  · rw [triples_len, List.length_map]
    exact small_line (by omega)
  · obtain ⟨x, y, z, g1, g2, g3, rfl⟩ := triples_get hd
    obtain ⟨a, ha, rfl⟩ := row_get' g1
    obtain ⟨b, hb, rfl⟩ := row_get' g2
    obtain ⟨c, hc, rfl⟩ := row_get' g3
    refine ag_tup3 ?_
    rw [List.getD_eq_getElem?_getD, List.getD_eq_getElem?_getD, List.getD_eq_getElem?_getD, ha, hb, hc]
    exact ev_op (ev_op (ev_var rfl) (ev_var rfl) rd_minus) (ev_var rfl) rd_plus
  · rw [triples_len, List.length_map, List.length_map, List.length_map]
    unfold rowD ledR
    rw [List.map_map]
    have e : min h.length (min tk.length gv.length) = h.length := by omega
    rw [e]
    rfl

def besideM (n n2 : Nat) (ms ms2 : List (List Int × List Int)) : List (List Int × List Int) :=
  ms.map (fun m => (m.1 ++ List.replicate n2 0, m.2 ++ List.replicate n2 0)) ++ ms2.map fun m => (List.replicate n 0 ++ m.1, List.replicate n 0 ++ m.2)
def Short (ms : List (List Int × List Int)) : Prop := ms.length ≤ 100 ∧ ∀ m ∈ ms, m.1.length ≤ 100 ∧ m.2.length ≤ 100
def F_beside (a_TooBig : Addr) (ds : List PyData) (o : Out) : Prop := ∃ n n2 ms ms2, ds = [netD n ms, netD n2 ms2] ∧ n ≤ 100 ∧ n2 ≤ 100 ∧ Short ms ∧ Short ms2 ∧
  o = if n + n2 > 6 ∨ ms.length + ms2.length > 10 then .ex (.ref a_TooBig) else .rt (netD (n + n2) (besideM n n2 ms ms2))
theorem len_beside (a_TooBig : Addr) : ∀ ds o, F_beside a_TooBig ds o → ds.length = 2 := fun _ _ ⟨_, _, _, _, h, _⟩ => by rw [h]; rfl
theorem ev_catR {K : PySem.W.Frag} {δ : List Sl} {ta tb : TE} {a b : List Int} (ha : Ev K ta δ (rowD a)) (hb : Ev K tb δ (rowD b)) (h1 : a.length ≤ 1000) (h2 : b.length ≤ 1000) : Ev K (tOp (rAddA K) ta tb) δ (rowD (a ++ b)) :=
  ev_to (ev_op (x := .tuple (a.map .int)) (y := .tuple (b.map .int)) ha hb (rd_cat (by rw [List.length_map, List.length_map]; exact small_line (by omega)))) (by unfold rowD; rw [List.map_append])
theorem ev_zeros {K : PySem.W.Frag} {δ : List Sl} {tn : TE} {n : Nat} (hn : Ev K tn δ (.int n)) (hl : n ≤ 100) : Ev K (tOp (rMulT K) (tTup (tCons (tC (.int 0)) tNil)) tn) δ (rowD (List.replicate n 0)) :=
  ev_to (ev_op (ev_tup (xs := [.int 0]) (ea_cons ev_int ea_nil) (by decide)) hn (rd_repT (by simp) (by omega) (by omega) (by show 1 ≤ 1000; decide))) (by
    rw [Int.toNat_natCast]
    unfold rowD
    rw [List.map_replicate]
    simp)
/-! beside: slots 0 one, 1 other, 2 ahead, 3 back, 4 moves, 5 takes, 6 gives (7) -/
def t_beside (K : PySem.W.Frag) (E : XK) (a_TooBig : Addr) : TS :=
    (tSeq (tIfS (tOr (tTest (tOp rGtA (tOp (rAddA K) (tOp (rIx K) (tVar 0) (tC (.int 0))) (tOp (rIx K) (tVar 1) (tC (.int 0)))) (tC (.int 6)))) (tTest (tOp rGtA (tOp (rAddA K) (tCB (rLenA K) (tCons (tOp (rIx K) (tVar 0) (tC (.int 1))) tNil)) (tCB (rLenA K) (tCons (tOp (rIx K) (tVar 1) (tC (.int 1))) tNil))) (tC (.int 10))))) (tRz E (.ref a_TooBig)) tNext)
    (tSeq (tAsg (tOp (rMulT K) (tTup (tCons (tC (.int 0)) tNil)) (tOp (rIx K) (tVar 0) (tC (.int 0)))) (gName 2))
    (tSeq (tAsg (tOp (rMulT K) (tTup (tCons (tC (.int 0)) tNil)) (tOp (rIx K) (tVar 1) (tC (.int 0)))) (gName 3))
    (tSeq (tAsg (tLc (iTup K (tOp (rIx K) (tVar 0) (tC (.int 1)))) (gTup K 2 (gCons (gName 5) (gCons (gName 6) gNil))) tYes (tTup (tCons (tOp (rAddA K) (tVar 5) (tVar 3)) (tCons (tOp (rAddA K) (tVar 6) (tVar 3)) tNil))) [5, 6]) (gName 4))
    (tSeq (tDrop (tBM K "list" rExtend (tVar 4) (tCons (tLc (iTup K (tOp (rIx K) (tVar 1) (tC (.int 1)))) (gTup K 2 (gCons (gName 5) (gCons (gName 6) gNil))) tYes (tTup (tCons (tOp (rAddA K) (tVar 2) (tVar 5)) (tCons (tOp (rAddA K) (tVar 2) (tVar 6)) tNil))) [5, 6]) tNil)))
    (tRet (tTup (tCons (tOp (rAddA K) (tOp (rIx K) (tVar 0) (tC (.int 0))) (tOp (rIx K) (tVar 1) (tC (.int 0)))) (tCons (tCB (rTupA K) (tCons (tVar 4) tNil)) tNil)))))))))

theorem sem_beside {K : PySem.W.Frag} {E : XK} (a_TooBig : Addr) {ds : List PyData} {o : Out} (h : F_beside a_TooBig ds o) : As K E (t_beside K E a_TooBig) (slots0 7 ds) (finP o) := by
  obtain ⟨n, n2, ms, ms2, rfl, h1, h2, s1, s2, rfl⟩ := h
  have l1 := s1.1
  have l2 := s2.1
  refine as_seq (as_if (et_or (et_test (ev_op (ev_op (net_size rfl) (net_size rfl) rd_plus) ev_int rd_gt)) fun _ => et_test (ev_op (ev_op (ev_cb (ea_cons (net_moves rfl) ea_nil) rc_lenT) (ev_cb (ea_cons (net_moves rfl) ea_nil) rc_lenT) rd_plus) ev_int rd_gt)) (fun hb => as_raise ?_) (fun hb => as_next ?_))
  · rw [List.length_map, List.length_map, Bool.or_eq_true, decide_eq_true_eq, decide_eq_true_eq] at hb
    rw [if_pos (by omega)]
    rfl
  rw [List.length_map, List.length_map, Bool.or_eq_false_iff, decide_eq_false_iff_not, decide_eq_false_iff_not] at hb
  rw [if_neg (by omega)]
  refine as_seq (as_set (x := rowD (List.replicate n 0)) (ev_zeros (net_size rfl) h1) ?_)
  refine as_seq (as_set (x := rowD (List.replicate n2 0)) (ev_zeros (net_size rfl) h2) ?_)
  refine as_to (δ1 := [.d (netD n ms), .d (netD n2 ms2), .d (rowD (List.replicate n 0)), .d (rowD (List.replicate n2 0)), .own ((ms.map (fun m => (m.1 ++ List.replicate n2 0, m.2 ++ List.replicate n2 0))).map moveD), .no, .no]) (as_setN (en_to (en_map (fun i => moveD ((ms.getD i ([], [])).1 ++ List.replicate n2 0, (ms.getD i ([], [])).2 ++ List.replicate n2 0)) (ei_tup (net_moves rfl)) (by rw [List.length_map]; exact small_line (by omega)) (gw2 5 6) (fun i d hd => ?_)) ?_) rfl) ?_
  · obtain ⟨m, hm, rfl⟩ := moves_get hd
    rw [List.getD_eq_getElem?_getD, hm, Option.getD_some]
    obtain ⟨z1, z2⟩ := s1.2 m (List.mem_of_getElem? hm)
    exact ag_tup2 (x := rowD m.1) (y := rowD m.2) (ev_tup (ea_cons (ev_catR (ev_var rfl) (ev_var rfl) (by omega) (by rw [List.length_replicate]; omega)) (ea_cons (ev_catR (ev_var rfl) (ev_var rfl) (by omega) (by rw [List.length_replicate]; omega)) ea_nil)) (by show 2 ≤ sizeLine; decide))
  · rw [List.length_map, map_range ms ([], []) fun m => moveD (m.1 ++ List.replicate n2 0, m.2 ++ List.replicate n2 0), List.map_map]
    rfl
  refine as_to (δ1 := [.d (netD n ms), .d (netD n2 ms2), .d (rowD (List.replicate n 0)), .d (rowD (List.replicate n2 0)), .own ((besideM n n2 ms ms2).map moveD), .no, .no]) (as_ext (i := 4) (ys := (ms2.map fun m => (List.replicate n 0 ++ m.1, List.replicate n 0 ++ m.2)).map moveD) rfl (en_to (en_map (fun i => moveD (List.replicate n 0 ++ (ms2.getD i ([], [])).1, List.replicate n 0 ++ (ms2.getD i ([], [])).2)) (ei_tup (net_moves rfl)) (by rw [List.length_map]; exact small_line (by omega)) (gw2 5 6) (fun i d hd => ?_)) ?_) ?_ ?_) ?_
  · obtain ⟨m, hm, rfl⟩ := moves_get hd
    rw [List.getD_eq_getElem?_getD, hm, Option.getD_some]
    obtain ⟨z1, z2⟩ := s2.2 m (List.mem_of_getElem? hm)
    exact ag_tup2 (x := rowD m.1) (y := rowD m.2) (ev_tup (ea_cons (ev_catR (ev_var rfl) (ev_var rfl) (by rw [List.length_replicate]; omega) (by omega)) (ea_cons (ev_catR (ev_var rfl) (ev_var rfl) (by rw [List.length_replicate]; omega) (by omega)) ea_nil)) (by show 2 ≤ sizeLine; decide))
  · rw [List.length_map, map_range ms2 ([], []) fun m => moveD (List.replicate n 0 ++ m.1, List.replicate n 0 ++ m.2), List.map_map]
    rfl
  · rw [List.length_map, List.length_map, List.length_map, List.length_map]
    exact small_line (by omega)
  · unfold besideM
    rw [List.map_append]
    rfl
  refine as_freeze (i := 4) rfl (as_ret (ev_tup (xs := [.int ((n : Int) + n2), .tuple ((besideM n n2 ms ms2).map moveD)]) (ea_cons (ev_op (net_size rfl) (net_size rfl) rd_plus) (ea_cons (ev_cb (ea_cons (ev_var rfl) ea_nil) rc_tup) ea_nil)) (by show 2 ≤ sizeLine; decide)) ?_)
  show Out.rt (PyData.tuple [.int ((n + n2 : Nat) : Int), _]) = _
  rw [Int.natCast_add]

/-- the least row from which a move leads over a goal -/
def befR (takes gives goal : List Int) : List Int := (List.range goal.length).map fun k => takes.getD k 0 + (if goal.getD k 0 - gives.getD k 0 > 0 then goal.getD k 0 - gives.getD k 0 else 0)
def F_before (ds : List PyData) (o : Out) : Prop := ∃ n ms k m g, ds = [netD n ms, .int (k : Nat), rowD g] ∧ ms[k]? = some m ∧ m.1.length = n ∧ m.2.length = n ∧ g.length = n ∧ n ≤ 6 ∧ o = .rt (rowD (befR m.1 m.2 g))
theorem len_before : ∀ ds o, F_before ds o → ds.length = 3 := fun _ _ ⟨_, _, _, _, _, h, _⟩ => by rw [h]; rfl

/-! before: slots 0 net, 1 move, 2 goal, 3 takes, 4 gives, 5 a, 6 b, 7 c (8) -/
def t_before (K : PySem.W.Frag) (E : XK)  : TS :=
    (tSeq (tAsg (tOp (rIx K) (tOp (rIx K) (tVar 0) (tC (.int 1))) (tVar 1)) (gTup K 2 (gCons (gName 3) (gCons (gName 4) gNil))))
    (tRet (tCB (rTupA K) (tCons (tLc (iZip3 K (tCons (tVar 3) (tCons (tVar 4) (tCons (tVar 2) tNil)))) (gTup K 3 (gCons (gName 5) (gCons (gName 6) (gCons (gName 7) gNil)))) tYes (tOp (rAddA K) (tVar 5) (tCB rMax2A (tCons (tC (.int 0)) (tCons (tOp rMinus (tVar 7) (tVar 6)) tNil)))) [5, 6, 7]) tNil))))

theorem sem_before {K : PySem.W.Frag} {E : XK} {ds : List PyData} {o : Out} (h : F_before ds o) : As K E (t_before K E) (slots0 8 ds) (finP o) := by
  obtain ⟨n, ms, k, m, g, rfl, hm, h1, h2, h3, h6, rfl⟩ := h
  obtain ⟨takes, gives⟩ := m
  refine as_seq (as_set2 (x := rowD takes) (y := rowD gives) (net_move rfl rfl hm) (as_ret (ev_to (ev_cb (ea_cons (en_map (fun i => .int (takes.getD i 0 + (if g.getD i 0 - gives.getD i 0 > 0 then g.getD i 0 - gives.getD i 0 else 0))) (ei_zip3 false false false (ea_cons (ev_var (x := rowD takes) rfl) (ea_cons (ev_var (x := rowD gives) rfl) (ea_cons (ev_var (x := rowD g) rfl) ea_nil)))) ?_ (gw3 5 6 7) (fun i d hd => ?_)).ev ea_nil) rc_tup) ?_) rfl))
  · rw [triples_len, List.length_map]
    exact small_line (by simp at h1; omega)
  · obtain ⟨x, y, z, g1, g2, g3, rfl⟩ := triples_get hd
    obtain ⟨a, ha, rfl⟩ := row_get' g1
    obtain ⟨b, hb, rfl⟩ := row_get' g2
    obtain ⟨c, hc, rfl⟩ := row_get' g3
    refine ag_tup3 ?_
    rw [List.getD_eq_getElem?_getD, List.getD_eq_getElem?_getD, List.getD_eq_getElem?_getD, ha, hb, hc]
    exact ev_op (ev_var rfl) (ev_cb (ea_cons ev_int (ea_cons (ev_op (ev_var rfl) (ev_var rfl) rd_minus) ea_nil)) rc_max2) rd_plus
  · rw [triples_len, List.length_map, List.length_map, List.length_map]
    unfold rowD befR
    rw [List.map_map]
    have e : min takes.length (min gives.length g.length) = g.length := by
      simp at h1 h2
      omega
    rw [e]
    rfl

def F_is_over_one (ds : List PyData) (o : Out) : Prop := ∃ (h : List Int) (hs : List (List Int)), ds = [rowD h, .list (hs.map rowD)] ∧ (∀ x ∈ hs, h.length = x.length) ∧ o = .rt (.bool (overOne h hs))
theorem len_is_over_one : ∀ ds o, F_is_over_one ds o → ds.length = 2 := fun _ _ ⟨_, _, h, _⟩ => by rw [h]; rfl
theorem rows_get {hs : List (List Int)} {i : Nat} {d : PyData} (h : (hs.map rowD)[i]? = some d) : ∃ x, hs[i]? = some x ∧ d = rowD x := by
  rw [List.getElem?_map] at h
  cases e : hs[i]? with
  | none => rw [e] at h; cases h
  | some k =>
    rw [e] at h
    exact ⟨k, rfl, (Option.some.inj h).symm⟩
theorem any_range {hs : List (List Int)} {p : List Int → Bool} : ((List.range hs.length).any fun i => p (hs.getD i [])) = hs.any p := by
  cases h : hs.any p with
  | true =>
    obtain ⟨x, hx, hp⟩ := List.any_eq_true.mp h
    obtain ⟨i, hi, rfl⟩ := List.getElem_of_mem hx
    refine List.any_eq_true.mpr ⟨i, List.mem_range.mpr hi, ?_⟩
    rw [List.getD_eq_getElem?_getD, List.getElem?_eq_getElem hi]
    exact hp
  | false =>
    rw [List.any_eq_false] at h ⊢
    intro i hi
    have hi := List.mem_range.mp hi
    rw [List.getD_eq_getElem?_getD, List.getElem?_eq_getElem hi]
    exact h _ (List.getElem_mem hi)
theorem ite_bool (b : Bool) : (if b = true then PyData.bool true else PyData.bool false) = .bool b := by cases b <;> rfl
/-! is_over_one: slots 0 hoard, 1 some, 2 other (3) -/
def t_is_over_one (K : PySem.W.Frag) (E : XK)  : TS :=
    (tSeq (tFor (iList K (tVar 1)) (gName 2) (tIfS (tB (tCallS (SpD K F_over) (WE (fun cls d _ H => E cls d H)) (tCons (tVar 0) (tCons (tVar 2) tNil)))) (tRet (tC (.bl true))) tNext))
    (tRet (tC (.bl false))))

theorem sem_is_over_one {K : PySem.W.Frag} {E : XK} {ds : List PyData} {o : Out} (h : F_is_over_one ds o) : As K E (t_is_over_one K E) (slots0 3 ds) (finP o) := by
  obtain ⟨h, hs, rfl, hl, rfl⟩ := h
  refine as_search (fun i => overB h (hs.getD i [])) (ei_list (xs := hs.map rowD) (ev_var rfl)) (fun δ' => ∃ z, δ' = [.d (rowD h), .d (.list (hs.map rowD)), z]) ⟨_, rfl⟩ (fun i d δ' hd hf _ => ?_) (fun δ' _ => ev_bl) (fun δ' _ => ev_bl) ?_
  · obtain ⟨z, rfl⟩ := hf
    obtain ⟨x, hx, rfl⟩ := rows_get hd
    rw [List.getD_eq_getElem?_getD, hx]
    exact ag_name ⟨et_B (ev_call (ea_cons (ev_var rfl) (ea_cons (ev_var rfl) ea_nil)) ⟨h, x, rfl, hl x (List.mem_of_getElem? hx), rfl⟩), _, rfl⟩
  · rw [List.length_map, any_range, ite_bool]
    rfl

def optN : Option Nat → PyData
  | none => .none
  | some k => .int (k : Nat)
def itD (x : MItem) : PyData := .tuple [rowD x.h, optN (x.p.map (·.1)), optN (x.p.map (·.2))]
def foundD (l : List MItem) : List PyData := l.map itD
def F_met_from (ds : List PyData) (o : Out) : Prop := ∃ n ms g G, ds = [netD n ms, rowD g] ∧ Hy n ms g G ∧ ms.length ≤ 10 ∧ o = .rt (.list (foundD (metF ms g)))
theorem len_met_from : ∀ ds o, F_met_from ds o → ds.length = 2 := fun _ _ ⟨_, _, _, _, h, _⟩ => by rw [h]; rfl
theorem bnd_line : bndN < sizeLine := by rw [bnd_val]; decide
theorem Hy.six {n : Nat} {ms : MvS} {g : List Int} {G : Nat} (H : Hy n ms g G) : 1 ≤ n ∧ n ≤ 6 := by
  rcases H.size with ⟨a, b, _⟩ | ⟨a, _⟩ <;> omega
theorem found_get {l : List MItem} {i : Nat} {d : PyData} (h : (foundD l)[i]? = some d) : ∃ x, l[i]? = some x ∧ d = itD x := by
  unfold foundD at h
  rw [List.getElem?_map] at h
  cases e : l[i]? with
  | none => rw [e] at h; cases h
  | some k =>
    rw [e] at h
    exact ⟨k, rfl, (Option.some.inj h).symm⟩
theorem found_at {l : List MItem} {i : Nat} {x : MItem} (h : l[i]? = some x) : atI (foundD l) (i : Int) = some (itD x) := at_nat (by unfold foundD; rw [List.getElem?_map, h]; rfl)
theorem found_len (l : List MItem) : (foundD l).length = l.length := by unfold foundD; rw [List.length_map]
theorem en_heads {K : PySem.W.Frag} {δ : List Sl} {l : List MItem} {te : TE} {v : Nat} (h : Ev K te δ (.list (foundD l))) (hl : l.length < sizeLine) (hv : v < δ.length) : EvN K (tLc (iList K te) (gName v) tYes (tOp (rIx K) (tVar v) (tC (.int 0))) [v]) δ ((l.map (·.h)).map rowD) := by
  refine en_to (en_map (fun i => rowD (l.getD i item0).h) (ei_list h) (by rw [found_len]; omega) (gw1 v) (fun i d he => ?_)) ?_
  · obtain ⟨x, hx, rfl⟩ := found_get he
    rw [List.getD_eq_getElem?_getD, hx, Option.getD_some]
    refine ag_name (ev_op (x := itD x) (ev_var ?_) ev_int (rd_ixT rfl))
    rw [List.getElem?_set_self]
    show v < (δ.set v .no).length
    rw [List.length_set]
    exact hv
  · rw [found_len, map_range l item0 fun x => rowD x.h, List.map_map]
    rfl
theorem solid_ints : ∀ l : List Int, solid.solidAll (l.map PyData.int) = true
  | [] => rfl
  | x :: l => by
    show (true && solid.solidAll (l.map PyData.int)) = true
    rw [solid_ints l]
    rfl
theorem solid_row (l : List Int) : solid (rowD l) = true := solid_ints l
theorem mv_some {ms : MvS} {m : Nat} (h : m < ms.length) : ms[m]? = some (mvA ms m) := by
  unfold mvA
  rw [List.getD_eq_getElem?_getD, List.getElem?_eq_getElem h]
  rfl
/-! met_from: slots 0 net, 1 goal, 2 found, 3 at, 4 hoard, 5 move, 6 other, 7 row (8) -/
def t_met_from (K : PySem.W.Frag) (E : XK)  : TS :=
    (tSeq (tAsg (tLst (tCons (tTup (tCons (tVar 1) (tCons (tC .non) (tCons (tC .non) tNil)))) tNil)) (gName 2))
    (tSeq (tAsg (tC (.int 0)) (gName 3))
    (tSeq (tWhile (tTest (tOp rLtA (tVar 3) (tCB (rLenA K) (tCons (tVar 2) tNil)))) (tSeq (tAsg (tOp (rIx K) (tOp (rIx K) (tVar 2) (tVar 3)) (tC (.int 0))) (gName 4))
    (tSeq (tFor (iRng1 (tCons (tCB (rLenA K) (tCons (tOp (rIx K) (tVar 0) (tC (.int 1))) tNil)) tNil)) (gName 5) (tSeq (tAsg (tCallS (SpD K F_before) (WE (fun cls d _ H => E cls d H)) (tCons (tVar 0) (tCons (tVar 5) (tCons (tVar 4) tNil)))) (gName 6))
    (tIfS (tNot (tB (tCallS (SpD K F_is_over_one) (WE (fun cls d _ H => E cls d H)) (tCons (tVar 6) (tCons (tLc (iList K (tVar 2)) (gName 7) tYes (tOp (rIx K) (tVar 7) (tC (.int 0))) [7]) tNil))))) (tDrop (tBM K "list" rAppend (tVar 2) (tCons (tTup (tCons (tVar 6) (tCons (tVar 5) (tCons (tVar 3) tNil)))) tNil))) tNext)))
    (tAsg (tOp (rAddA K) (tVar 3) (tC (.int 1))) (gName 3)))))
    (tRet (tVar 2)))))

theorem sem_met_from {K : PySem.W.Frag} {E : XK} {ds : List PyData} {o : Out} (h : F_met_from ds o) : As K E (t_met_from K E) (slots0 8 ds) (finP o) := by
  obtain ⟨n, ms, g, G, rfl, H, hm10, rfl⟩ := h
  have hn := H.six
  have hbl := bnd_line
  refine as_seq (as_setN (xs := foundD [⟨g, none, []⟩]) (en_lst (ea_cons (ev_tup (ea_cons (ev_var (x := rowD g) rfl) (ea_cons ev_non (ea_cons ev_non ea_nil))) (by show 3 ≤ sizeLine; decide)) ea_nil) (by show 1 ≤ sizeLine; decide)) ?_)
  refine as_seq (as_set (ev_int (i := 0)) ?_)
  refine as_seq (as_while (fun m δ' => ∃ (k : Nat) (z4 z5 z6 z7 : Sl), (metS ms g k).2 = k ∧ m = bndN + 1 - k ∧ δ' = [.d (netD n ms), .d (rowD g), .own (foundD (metS ms g k).1), .d (.int (k : Nat)), z4, z5, z6, z7]) (bndN + 1) ⟨0, .no, .no, .no, .no, rfl, rfl, rfl⟩ (fun m δ' hW => ?_))
  obtain ⟨k, z4, z5, z6, z7, hk, rfl, rfl⟩ := hW
  have I := MI.met H k
  have hcnt := I.count H
  rw [hk] at I
  have hnext : k < (metS ms g k).1.length → metS ms g (k + 1) = (stepA ms (metS ms g k).1 k, k + 1) := fun hlt => by
    show stepS ms (metS ms g k) = _
    unfold stepS
    rw [hk, if_pos hlt]
  have hstop : (metS ms g k).1.length ≤ k → (metS ms g k).1 = metF ms g := fun hle => met_same H (by rw [hk]; exact hle)
  generalize hf : (metS ms g k).1 = found at I hcnt hnext hstop
  refine ⟨decide (k < found.length), et_borrow (i := 2) (xs := foundD found) rfl (et_to (et_test (ev_op (ev_var (x := .int (k : Nat)) rfl) (ev_cb (ea_cons (ev_var (x := .list (foundD found)) rfl) ea_nil) rc_lenL) rd_lt)) ?_), fun hb => ?_, fun hb => ?_⟩
  · rw [found_len]
    exact decide_eq_decide.mpr (by omega)
  · have hlt : k < found.length := of_decide_eq_true hb
    have hdk : found[k]? = some found[k] := List.getElem?_eq_getElem hlt
    generalize found[k] = hd at hdk
    have hdr := I.rows hd (List.mem_of_getElem? hdk)
    refine as_seq (as_set (x := rowD hd.h) (ev_borrow (i := 2) (xs := foundD found) rfl (ev_op (x := itD hd) (ev_op (ev_var (x := .list (foundD found)) rfl) (ev_var (x := .int (k : Nat)) rfl) (rd_ixL (found_at hdk))) ev_int (rd_ixT rfl)) (solid_row _)) ?_)
    have hml : (ms.map moveD).length = ms.length := List.length_map ..
    refine as_seq (as_for (ei_rng1 (n := ((ms.map moveD).length : Nat)) (ea_cons (ev_cb (ea_cons (net_moves rfl) ea_nil) rc_lenT) ea_nil) (by omega) (by rw [hml]; omega)) (fun j δ' => ∃ z5 z6 z7, δ' = [.d (netD n ms), .d (rowD g), .own (foundD ((List.range j).foldl (stepM ms k hd) found)), .d (.int (k : Nat)), .d (rowD hd.h), z5, z6, z7]) ⟨_, _, _, rfl⟩ (fun j d δ' hd' hp => ?_) (fun δ' hp => ?_))
    · obtain ⟨z5, z6, z7, rfl⟩ := hp
      obtain ⟨hj, rfl⟩ := nums_get hd'
      have hj : j < ms.length := by rw [hml] at hj; omega
      obtain ⟨J, hJ⟩ := I.all H hdk j (by omega)
      have hfl := J.count H
      have hrr := H.rows _ (H.mv hj)
      have hstep : (List.range (j + 1)).foldl (stepM ms k hd) found = stepM ms k hd ((List.range j).foldl (stepM ms k hd) found) j := by rw [List.range_succ, List.foldl_append]; rfl
      rw [hstep]
      generalize hF : (List.range j).foldl (stepM ms k hd) found = F at J hJ hfl
      rw [Int.zero_add]
      refine ag_name (as_seq (as_set (x := rowD (befM ms j hd.h)) (ev_call (ea_cons (ev_var (x := netD n ms) rfl) (ea_cons (ev_var (x := .int (j : Nat)) rfl) (ea_cons (ev_var (x := rowD hd.h) rfl) ea_nil))) ⟨n, ms, j, mvA ms j, hd.h, rfl, mv_some hj, hrr.1, hrr.2.1, hdr.1, hn.2, rfl⟩) ?_))
      have hbl2 : (befM ms j hd.h).length = n := (H.bef_row hj hdr).1
      refine as_if (b := !overOne (befM ms j hd.h) (F.map (·.h))) (et_not (et_borrow (i := 2) (xs := foundD F) rfl (et_B (ev_call (ea_cons (ev_var (x := rowD (befM ms j hd.h)) rfl) (ea_cons (en_heads (ev_var rfl) (by omega) (by show 7 < 8; decide)).ev ea_nil)) ⟨_, F.map (·.h), rfl, fun x hx => ?_, rfl⟩)))) (fun z => ?_) (fun z => as_next ?_)
      · obtain ⟨y, hy, rfl⟩ := List.mem_map.mp hx
        rw [hbl2, (J.rows y hy).1]
      · have hno : F.any (fun x => overB (befM ms j hd.h) x.h) = false := by
          have : overOne (befM ms j hd.h) (F.map (·.h)) = false := by simpa using z
          unfold overOne at this
          rw [List.any_map] at this
          exact this
        have hS : stepM ms k hd F j = F ++ [⟨befM ms j hd.h, some (j, k), j :: hd.r⟩] := by
          unfold stepM
          rw [hno]
          rfl
        rw [hS]
        refine as_app (xs := foundD F) rfl (ev_tup (ea_cons (ev_var (x := rowD (befM ms j hd.h)) rfl) (ea_cons (ev_var (x := .int (j : Nat)) rfl) (ea_cons (ev_var (x := .int (k : Nat)) rfl) ea_nil))) (by show 3 ≤ sizeLine; decide)) (by rw [found_len]; omega) ⟨.d (.int (j : Nat)), .d (rowD (befM ms j hd.h)), z7, ?_⟩
        unfold foundD
        rw [List.map_append]
        rfl
      · have hno : F.any (fun x => overB (befM ms j hd.h) x.h) = true := by
          have : overOne (befM ms j hd.h) (F.map (·.h)) = true := by simpa using z
          unfold overOne at this
          rw [List.any_map] at this
          exact this
        have hS : stepM ms k hd F j = F := by
          unfold stepM
          rw [hno]
          rfl
        rw [hS]
        exact ⟨_, _, z7, rfl⟩
    · obtain ⟨z5, z6, z7, rfl⟩ := hp
      rw [nums_len]
      have e : (((ms.map moveD).length : Nat) : Int).toNat = ms.length := by rw [hml]; omega
      rw [e]
      have hA : (List.range ms.length).foldl (stepM ms k hd) found = (metS ms g (k + 1)).1 := by
        rw [hnext hlt]
        show _ = stepA ms found k
        unfold stepA
        rw [getD_some hdk]
      rw [hA]
      refine as_set (x := .int ((k + 1 : Nat) : Int)) (ev_op (ev_var (x := .int (k : Nat)) rfl) ev_int rd_plus) ⟨bndN + 1 - (k + 1), by omega, k + 1, .d (rowD hd.h), z5, z6, z7, by rw [hnext hlt], rfl, rfl⟩
  · have hge : found.length ≤ k := by
      rcases Nat.lt_or_ge k found.length with q | q
      · rw [decide_eq_true q] at hb
        cases hb
      · exact q
    rw [← hstop hge]
    exact as_freeze (i := 2) (xs := foundD found) rfl (as_ret (ev_var rfl) rfl)

def rowsL (l : List (List Int)) : PyData := .list (l.map rowD)
def F_least_of (ds : List PyData) (o : Out) : Prop := ∃ n hs, ds = [rowsL hs] ∧ 1 ≤ n ∧ (∀ x ∈ hs, x.length = n) ∧ hs.length < sizeLine ∧ o = .rt (rowsL (leastF hs))
theorem len_least_of : ∀ ds o, F_least_of ds o → ds.length = 1 := fun _ _ ⟨_, _, h, _⟩ => by rw [h]; rfl
theorem pick_sub {hs : List (List Int)} : ∀ {k : Nat} {x : List Int}, x ∈ (hs.take k).foldl pickF [] → x ∈ hs
  | 0, x, h => by simp at h
  | k + 1, x, h => by
    by_cases hk : k < hs.length
    · rw [take_more (List.getElem?_eq_getElem hk), List.foldl_append] at h
      have h : x ∈ pickF ((hs.take k).foldl pickF []) hs[k] := h
      unfold pickF at h
      split at h
      · exact pick_sub h
      · rcases List.mem_append.mp h with q | q
        · exact pick_sub q
        · rw [List.mem_singleton.mp q]
          exact List.getElem_mem hk
    · rw [List.take_of_length_le (by omega)] at h
      have := pick_sub (k := k) (x := x) (hs := hs)
      rw [List.take_of_length_le (by omega)] at this
      exact this h
theorem pick_one (made : List (List Int)) (h : List Int) : (pickF made h).length ≤ made.length + 1 := by
  unfold pickF
  split
  · omega
  · rw [List.length_append, List.length_singleton]
    exact Nat.le_refl _
theorem pick_len {hs : List (List Int)} : ∀ k, ((hs.take k).foldl pickF []).length ≤ hs.length ∧ ((hs.take k).foldl pickF []).length ≤ k
  | 0 => ⟨Nat.zero_le _, Nat.le_refl _⟩
  | k + 1 => by
    have ih := pick_len (hs := hs) k
    by_cases hk : k < hs.length
    · rw [take_more (List.getElem?_eq_getElem hk), List.foldl_append]
      have := pick_one ((hs.take k).foldl pickF []) hs[k]
      exact ⟨show (pickF ((hs.take k).foldl pickF []) hs[k]).length ≤ _ by omega, show (pickF ((hs.take k).foldl pickF []) hs[k]).length ≤ _ by omega⟩
    · rw [List.take_of_length_le (by omega)]
      rw [List.take_of_length_le (by omega)] at ih
      omega
/-! least_of: slots 0 hoards, 1 made, 2 hoard (3) -/
def t_least_of (K : PySem.W.Frag) (E : XK)  : TS :=
    (tSeq (tAsg (tLst tNil) (gName 1))
    (tSeq (tFor (iList K (tCB (rSortedSum K) (tCons (tVar 0) tNil))) (gName 2) (tIfS (tNot (tB (tCallS (SpD K F_is_over_one) (WE (fun cls d _ H => E cls d H)) (tCons (tVar 2) (tCons (tVar 1) tNil))))) (tDrop (tBM K "list" rAppend (tVar 1) (tCons (tVar 2) tNil))) tNext))
    (tRet (tCB (rSortedA K) (tCons (tVar 1) tNil)))))

theorem sem_least_of {K : PySem.W.Frag} {E : XK} {ds : List PyData} {o : Out} (h : F_least_of ds o) : As K E (t_least_of K E) (slots0 3 ds) (finP o) := by
  obtain ⟨n, hs, rfl, hn, hl, hz, rfl⟩ := h
  refine as_seq (as_setN (xs := []) (en_lst ea_nil (Nat.zero_le _)) ?_)
  have hlen := isort_len sumLt hs
  have hsl : ∀ x ∈ isort sumLt hs, x.length = n := fun x hx => hl x ((isort_perm _ _).mem_iff.mp hx)
  unfold leastF
  generalize hS : isort sumLt hs = S at hlen hsl
  refine as_seq (as_for (ei_list (xs := S.map rowD) (ev_to (en_cb (ea_cons (ev_var (x := rowsL hs) rfl) ea_nil) (rc_sortedSum hz hl)).ev (by rw [hS]))) (fun i δ' => ∃ z, δ' = [.d (rowsL hs), .own (((S.take i).foldl pickF []).map rowD), z]) ⟨_, rfl⟩ (fun i d δ' hd hp => ?_) (fun δ' hp => ?_))
  · obtain ⟨z, rfl⟩ := hp
    obtain ⟨x, hx, rfl⟩ := rows_get hd
    have hil : i < S.length := (List.getElem?_eq_some_iff.mp hx).1
    have hpl := pick_len (hs := S) i
    have hstep : (S.take (i + 1)).foldl pickF [] = pickF ((S.take i).foldl pickF []) x := by rw [take_more hx, List.foldl_append]; rfl
    rw [hstep]
    have hxl := hsl x (List.mem_of_getElem? hx)
    have hsub : ∀ y ∈ (S.take i).foldl pickF [], x.length = y.length := fun y hy => by rw [hxl, hsl y (pick_sub hy)]
    generalize (S.take i).foldl pickF [] = made at hpl hsub
    refine ag_name (as_if (b := !overOne x made) (et_not (et_borrow (i := 1) (xs := made.map rowD) rfl (et_B (ev_call (ea_cons (ev_var (x := rowD x) rfl) (ea_cons (ev_var (x := .list (made.map rowD)) rfl) ea_nil)) ⟨x, made, rfl, hsub, rfl⟩)))) (fun z => ?_) (fun z => as_next ?_))
    · have hno : overOne x made = false := by simpa using z
      have e : pickF made x = made ++ [x] := by unfold pickF; rw [hno]; rfl
      rw [e]
      refine as_app (xs := made.map rowD) rfl (ev_var (x := rowD x) rfl) (by rw [List.length_map]; omega) ⟨.d (rowD x), ?_⟩
      rw [List.map_append]
      rfl
    · have hno : overOne x made = true := by simpa using z
      have e : pickF made x = made := by unfold pickF; rw [hno]; rfl
      rw [e]
      exact ⟨_, rfl⟩
  · obtain ⟨z, rfl⟩ := hp
    rw [List.length_map, List.take_of_length_le (Nat.le_refl _)]
    have hml : ∀ x ∈ S.foldl pickF [], x.length = n := fun x hx => hsl x (pick_sub (k := S.length) (by rw [List.take_of_length_le (Nat.le_refl _)]; exact hx))
    exact as_freeze (i := 1) (xs := (S.foldl pickF []).map rowD) rfl (as_ret (en_cb (ea_cons (ev_var (x := .list ((S.foldl pickF []).map rowD)) rfl) ea_nil) (rc_sortedRows hn hml)).ev rfl)

def runD (r : List Nat) : PyData := .list (r.map fun (k : Nat) => PyData.int k)
def F_run_from (ds : List PyData) (o : Out) : Prop := ∃ n ms g G at_ x, ds = [.list (foundD (metF ms g)), .int (at_ : Nat)] ∧ Hy n ms g G ∧ (metF ms g)[at_]? = some x ∧ o = .rt (runD x.r)
theorem len_run_from : ∀ ds o, F_run_from ds o → ds.length = 2 := fun _ _ ⟨_, _, _, _, _, _, h, _⟩ => by rw [h]; rfl
theorem run_short {n : Nat} {ms : MvS} {g : List Int} {G : Nat} (H : Hy n ms g G) : ∀ (j : Nat) (x : MItem), (metF ms g)[j]? = some x → x.r.length ≤ j
  | j, x, e => by
    induction j using Nat.strongRecOn generalizing x with
    | ind j ih =>
      cases j with
      | zero =>
        have := (met_done H).first
        rw [this] at e
        cases e
        exact Nat.le_refl _
      | succ j =>
        obtain ⟨m, a, y, e1, e2, e3, e4, e5⟩ := (met_done H).par (j + 1) x e (by omega)
        have := ih a e2 y e3
        rw [e4, List.length_cons]
        omega
/-! run_from: slots 0 found, 1 at, 2 made (3) -/
def t_run_from (K : PySem.W.Frag) (E : XK)  : TS :=
    (tSeq (tAsg (tLst tNil) (gName 2))
    (tSeq (tWhile (tTest (tOp rNotNon (tOp (rIx K) (tOp (rIx K) (tVar 0) (tVar 1)) (tC (.int 1))) (tC .non))) (tSeq (tDrop (tBM K "list" rAppend (tVar 2) (tCons (tOp (rIx K) (tOp (rIx K) (tVar 0) (tVar 1)) (tC (.int 1))) tNil)))
    (tAsg (tOp (rIx K) (tOp (rIx K) (tVar 0) (tVar 1)) (tC (.int 2))) (gName 1))))
    (tRet (tVar 2))))

theorem sem_run_from {K : PySem.W.Frag} {E : XK} {ds : List PyData} {o : Out} (h : F_run_from ds o) : As K E (t_run_from K E) (slots0 3 ds) (finP o) := by
  obtain ⟨n, ms, g, G, at_, x, rfl, H, hx, rfl⟩ := h
  have hbl := bnd_line
  have hml := met_len H
  have hxl := run_short H at_ x hx
  have hal : at_ < (metF ms g).length := (List.getElem?_eq_some_iff.mp hx).1
  refine as_seq (as_setN (xs := []) (en_lst ea_nil (Nat.zero_le _)) ?_)
  refine as_seq (as_while (fun m δ' => ∃ (a : Nat) (y : MItem) (pre : List Nat), m = a ∧ (metF ms g)[a]? = some y ∧ x.r = pre ++ y.r ∧ δ' = [.d (.list (foundD (metF ms g))), .d (.int (a : Nat)), .own (pre.map fun (k : Nat) => PyData.int k)]) at_ ⟨at_, x, [], rfl, hx, rfl, rfl⟩ (fun m δ' hW => ?_))
  obtain ⟨a, y, pre, rfl, hy, hpre, rfl⟩ := hW
  have it : ∀ {δ : List Sl} {c : Nat} {d : PyData}, δ[0]? = some (.d (.list (foundD (metF ms g)))) → δ[1]? = some (.d (.int (m : Nat))) → atI [rowD y.h, optN (y.p.map (·.1)), optN (y.p.map (·.2))] (c : Int) = some d → Ev K (tOp (rIx K) (tOp (rIx K) (tVar 0) (tVar 1)) (tC (.int (c : Nat)))) δ d := fun e0 e1 hd =>
    ev_op (x := itD y) (ev_op (ev_var e0) (ev_var e1) (rd_ixL (found_at hy))) ev_int (rd_ixT hd)
  have tst : ∀ {b : Bool}, (!isNon (optN (y.p.map (·.1)))) = b → EvT K (tTest (tOp rNotNon (tOp (rIx K) (tOp (rIx K) (tVar 0) (tVar 1)) (tC (.int 1))) (tC .non))) [.d (.list (foundD (metF ms g))), .d (.int (m : Nat)), .own (pre.map fun (k : Nat) => PyData.int k)] b := fun hb =>
    et_to (et_test (ev_op (it (c := 1) rfl rfl rfl) ev_non rd_notN)) hb
  have hpl : pre.length ≤ at_ := by
    have : x.r.length = pre.length + y.r.length := by rw [hpre, List.length_append]
    omega
  by_cases hm0 : m = 0
  · subst hm0
    have e0 := (met_done H).first
    rw [hy] at e0
    cases e0
    refine ⟨false, tst rfl, (fun z => by cases z), fun _ => ?_⟩
    rw [hpre, List.append_nil]
    exact as_freeze (i := 2) (xs := pre.map fun (k : Nat) => PyData.int k) rfl (as_ret (ev_var rfl) rfl)
  · obtain ⟨mv, a', y', e1, e2, e3, e4, e5⟩ := (met_done H).par m y hy (by omega)
    refine ⟨true, tst (by rw [e1]; rfl), fun _ => ?_, (fun z => by cases z)⟩
    refine as_seq (as_app (xs := pre.map fun (k : Nat) => PyData.int k) (x := .int (mv : Nat)) rfl (it (c := 1) rfl rfl (by rw [e1]; rfl)) (by rw [List.length_map]; omega) ?_)
    refine as_set (x := .int (a' : Nat)) (it (c := 2) rfl rfl (by rw [e1]; rfl)) ⟨a', e2, a', y', pre ++ [mv], rfl, e3, by rw [hpre, e4, List.append_assoc]; rfl, ?_⟩
    rw [List.map_append]
    rfl

noncomputable def coverD (ms : MvS) (st g : List Int) : PyData := match hitF ms st g with
  | some x => .tuple [.str (PySem.Str.ofString "run"), runD x.r]
  | none => .tuple [.str (PySem.Str.ofString "wall"), rowsL (sillF ms g)]
def F_cover (a_NoHoard : Addr) (ds : List PyData) (o : Out) : Prop := ∃ n ms st g G, ds = [netD n ms, rowD st, rowD g] ∧ Hy n ms g G ∧ ms.length ≤ 10 ∧ RowP n st ∧ o = .rt (coverD ms st g)
theorem len_cover (a_NoHoard : Addr) : ∀ ds o, F_cover a_NoHoard ds o → ds.length = 3 := fun _ _ ⟨_, _, _, _, _, h, _⟩ => by rw [h]; rfl
theorem find_first {α : Type} {p : α → Bool} : ∀ {l : List α} {i : Nat} {x : α}, l[i]? = some x → p x = true → (∀ j y, j < i → l[j]? = some y → p y = false) → l.find? p = some x
  | [], i, x, e, _, _ => by simp at e
  | y :: l, 0, x, e, h, _ => by
    simp at e
    subst e
    rw [List.find?_cons, h]
  | y :: l, i + 1, x, e, h, hn => by
    rw [List.find?_cons, hn 0 y (by omega) rfl]
    exact find_first (by simpa using e) h fun j z hj hz => hn (j + 1) z (by omega) (by simpa using hz)
theorem find_nothing {α : Type} {p : α → Bool} {l : List α} (h : ∀ j y, j < l.length → l[j]? = some y → p y = false) : l.find? p = none := by
  refine List.find?_eq_none.mpr fun y hy q => ?_
  obtain ⟨j, hj, rfl⟩ := List.getElem_of_mem hy
  have := h j _ hj (List.getElem?_eq_getElem hj)
  rw [q] at this
  cases this
/-! cover: slots 0 net, 1 start, 2 goal, 3 found, 4 at, 5 row (6) -/
def t_cover (K : PySem.W.Frag) (E : XK) (a_NoHoard : Addr) : TS :=
    (tSeq (tDrop (tCallS (SpD K (F_need_hoard a_NoHoard)) (WE (fun cls d _ H => E cls d H)) (tCons (tVar 0) (tCons (tVar 1) tNil))))
    (tSeq (tDrop (tCallS (SpD K (F_need_hoard a_NoHoard)) (WE (fun cls d _ H => E cls d H)) (tCons (tVar 0) (tCons (tVar 2) tNil))))
    (tSeq (tAsg (tCallS (SpD K F_met_from) (WE (fun cls d _ H => E cls d H)) (tCons (tVar 0) (tCons (tVar 2) tNil))) (gName 3))
    (tSeq (tFor (iRng1 (tCons (tCB (rLenA K) (tCons (tVar 3) tNil)) tNil)) (gName 4) (tIfS (tB (tCallS (SpD K F_over) (WE (fun cls d _ H => E cls d H)) (tCons (tVar 1) (tCons (tOp (rIx K) (tOp (rIx K) (tVar 3) (tVar 4)) (tC (.int 0))) tNil)))) (tRet (tTup (tCons (tC (.str (PySem.Str.ofString "run"))) (tCons (tCallS (SpD K F_run_from) (WE (fun cls d _ H => E cls d H)) (tCons (tVar 3) (tCons (tVar 4) tNil))) tNil)))) tNext))
    (tRet (tTup (tCons (tC (.str (PySem.Str.ofString "wall"))) (tCons (tCallS (SpD K F_least_of) (WE (fun cls d _ H => E cls d H)) (tCons (tLc (iList K (tVar 3)) (gName 5) tYes (tOp (rIx K) (tVar 5) (tC (.int 0))) [5]) tNil)) tNil))))))))

theorem sem_cover {K : PySem.W.Frag} {E : XK} (a_NoHoard : Addr) {ds : List PyData} {o : Out} (h : F_cover a_NoHoard ds o) : As K E (t_cover K E a_NoHoard) (slots0 6 ds) (finP o) := by
  obtain ⟨n, ms, st, g, G, rfl, H, hm10, rs, rfl⟩ := h
  have hbl := bnd_line
  have hml := met_len H
  refine as_seq (as_drop (x := .none) (ev_call (ea_cons (ev_var (x := netD n ms) rfl) (ea_cons (ev_var (x := rowD st) rfl) ea_nil)) ⟨n, ms, rowD st, rfl, cln_row st, by rw [hoardB_row rs.1 rs.2]; rfl⟩) ?_)
  refine as_seq (as_drop (x := .none) (ev_call (ea_cons (ev_var (x := netD n ms) rfl) (ea_cons (ev_var (x := rowD g) rfl) ea_nil)) ⟨n, ms, rowD g, rfl, cln_row g, by rw [hoardB_row H.gl H.g_row.2]; rfl⟩) ?_)
  refine as_seq (as_set (x := .list (foundD (metF ms g))) (ev_call (ea_cons (ev_var (x := netD n ms) rfl) (ea_cons (ev_var (x := rowD g) rfl) ea_nil)) ⟨n, ms, g, G, rfl, H, hm10, rfl⟩) ?_)
  have hfl := found_len (metF ms g)
  have hb2 : bndN < 2 ^ 62 := by rw [bnd_val]; decide
  refine as_seq (as_for (ei_rng1 (n := ((foundD (metF ms g)).length : Nat)) (ea_cons (ev_cb (ea_cons (ev_var (x := .list (foundD (metF ms g))) rfl) ea_nil) rc_lenL) ea_nil) (by omega) (by rw [hfl]; omega)) (fun i δ' => (∀ j y, j < i → (metF ms g)[j]? = some y → overB st y.h = false) ∧ ∃ z4 z5, δ' = [.d (netD n ms), .d (rowD st), .d (rowD g), .d (.list (foundD (metF ms g))), z4, z5]) ⟨fun j y hj => by omega, _, _, rfl⟩ (fun i d δ' hd hp => ?_) (fun δ' hp => ?_))
  · obtain ⟨hno, z4, z5, rfl⟩ := hp
    obtain ⟨hi, rfl⟩ := nums_get hd
    have hi : i < (metF ms g).length := by rw [hfl] at hi; omega
    have hx : (metF ms g)[i]? = some (metF ms g)[i] := List.getElem?_eq_getElem hi
    generalize (metF ms g)[i] = x at hx
    have hxr := (met_done H).rows x (List.mem_of_getElem? hx)
    rw [Int.zero_add]
    refine ag_name (as_if (et_B (ev_call (ea_cons (ev_var (x := rowD st) rfl) (ea_cons (ev_op (x := itD x) (ev_op (ev_var (x := .list (foundD (metF ms g))) rfl) (ev_var (x := .int (i : Nat)) rfl) (rd_ixL (found_at hx))) ev_int (rd_ixT rfl)) ea_nil)) ⟨st, x.h, rfl, by rw [rs.1, hxr.1], rfl⟩)) (fun z => ?_) (fun z => as_next ?_))
    · refine as_ret (ev_tup (ea_cons ev_str (ea_cons (ev_call (ea_cons (ev_var (x := .list (foundD (metF ms g))) rfl) (ea_cons (ev_var (x := .int (i : Nat)) rfl) ea_nil)) ⟨n, ms, g, G, i, x, rfl, H, hx, rfl⟩) ea_nil)) (by show 2 ≤ sizeLine; decide)) ?_
      have hh : hitF ms st g = some x := find_first hx z hno
      show Out.rt (coverD ms st g) = _
      unfold coverD
      rw [hh]
    · refine ⟨fun j y hj hy => ?_, _, z5, rfl⟩
      rcases Nat.lt_or_eq_of_le (Nat.le_of_lt_succ hj) with q | q
      · exact hno j y q hy
      · subst q
        rw [hx] at hy
        cases hy
        exact z
  · obtain ⟨hno, z4, z5, rfl⟩ := hp
    rw [nums_len] at hno
    have hh : hitF ms st g = none := find_nothing fun j y hj hy => hno j y (by rw [hfl]; omega) hy
    have hc : coverD ms st g = .tuple [.str (PySem.Str.ofString "wall"), rowsL (sillF ms g)] := by
      unfold coverD
      rw [hh]
    rw [hc]
    refine as_ret (ev_tup (ea_cons ev_str (ea_cons (ev_call (xs := [rowsL (metH ms g)]) (ea_cons (ev_to (en_heads (l := metF ms g) (ev_var rfl) (by omega) (by show 5 < 6; decide)).ev rfl) ea_nil) ⟨n, metH ms g, rfl, H.six.1, fun x hx => (met_rows H x hx).1, ?_, rfl⟩) ea_nil)) (by show 2 ≤ sizeLine; decide)) rfl
    unfold metH
    rw [List.length_map]
    omega

def optG : Option Nat → PyData
  | none => .none
  | some k => .int (k : Nat)
def goItD (x : GNode) : PyData := .tuple [rowD x.h, optG (x.p.map (·.1)), optG (x.p.map (·.2))]
def goD (l : List GNode) : List PyData := l.map goItD
def natsD (l : List Nat) : List PyData := l.map fun (k : Nat) => PyData.int k
theorem goD_len (l : List GNode) : (goD l).length = l.length := by unfold goD; rw [List.length_map]
theorem natsD_len (l : List Nat) : (natsD l).length = l.length := by unfold natsD; rw [List.length_map]
theorem goD_at {l : List GNode} {i : Nat} {x : GNode} (h : l[i]? = some x) : atI (goD l) (i : Int) = some (goItD x) := at_nat (by unfold goD; rw [List.getElem?_map, h]; rfl)
theorem natsD_at {l : List Nat} {i k : Nat} (h : l[i]? = some k) : atI (natsD l) (i : Int) = some (.int (k : Nat)) := at_nat (by unfold natsD; rw [List.getElem?_map, h]; rfl)
theorem goN_line : goN + 1 < sizeLine := by rw [goN_val]; decide
theorem GI.node {ms : MvS} {x0 : List Int} {F : List GNode} {a d i : Nat} (I : GI ms x0 F a d) (hi : i < F.length) : F[i]? = some ⟨gH F i, (F.getD i gn0).p⟩ := by
  have h := List.getElem?_eq_getElem hi
  unfold gH
  rw [gn_at h]
  exact h
/-- what stands at i: the first one, or one with a move and the one ahead -/
theorem GI.two {ms : MvS} {x0 : List Int} {F : List GNode} {a d i : Nat} (I : GI ms x0 F a d) (hi : i < F.length) : (i = 0 ∧ F[i]? = some ⟨gH F i, none⟩) ∨ (0 < i ∧ F[i]? = some ⟨gH F i, some (gM F i, gP F i)⟩) := by
  have h := I.node hi
  have h2 := List.getElem?_eq_getElem hi
  rcases I.par i _ h2 with ⟨e, e2⟩ | ⟨m, b, e, _, _, e0⟩
  · refine .inl ⟨e, ?_⟩
    rw [h, gn_at h2, e2]
  · refine .inr ⟨e0, ?_⟩
    have eM : gM F i = m := by unfold gM; rw [gn_at h2, e]; rfl
    have eP : gP F i = b := by unfold gP; rw [gn_at h2, e]; rfl
    rw [h, gn_at h2, e, eM, eP]
def F_way_to (ds : List PyData) (o : Out) : Prop := ∃ ms x0 F a d at_, ds = [.list (goD F), .int (at_ : Nat)] ∧ GI ms x0 F a d ∧ at_ < F.length ∧ F.length ≤ goN + 1 ∧ o = .rt (.list (natsD (wayF F at_)))
theorem len_way_to : ∀ ds o, F_way_to ds o → ds.length = 2 := fun _ _ ⟨_, _, _, _, _, _, h, _⟩ => by rw [h]; rfl
theorem rev_map_range {α : Type} (f : Nat → α) (n : Nat) : ((List.range (n + 1)).map f).reverse = (List.range (n + 1)).map fun k => f (n - k) := by
  apply List.ext_getElem
  · simp
  · intro i h1 h2
    simp
theorem natsD_rev (l : List Nat) : (natsD l).reverse = natsD l.reverse := by
  unfold natsD
  rw [List.map_reverse]
theorem natsD_snoc (l : List Nat) (k : Nat) : natsD (l ++ [k]) = natsD l ++ [.int (k : Nat)] := by
  unfold natsD
  rw [List.map_append]
  rfl
def upF (F : List GNode) (at_ j : Nat) : List Nat := (List.range j).map fun i => itr (gP F) i at_
theorem upF_succ (F : List GNode) (at_ j : Nat) : upF F at_ (j + 1) = upF F at_ j ++ [itr (gP F) j at_] := by
  unfold upF
  rw [List.range_succ, List.map_append]
  rfl
theorem dep_lt {ms : MvS} {x0 : List Int} {F : List GNode} {a d : Nat} (I : GI ms x0 F a d) : ∀ i, dep (gP F) i ≤ i := by
  intro i
  induction i using Nat.strongRecOn with
  | _ i ih =>
    by_cases h : gP F i < i
    · rw [dep_succ h]
      have := ih _ h
      omega
    · unfold dep
      rw [dif_neg h]
      exact Nat.zero_le _
/-! way_to: slots 0 found, 1 at, 2 made (3) -/
def t_way_to (K : PySem.W.Frag) (E : XK)  : TS :=
    (tSeq (tAsg (tLst (tCons (tVar 1) tNil)) (gName 2))
    (tSeq (tWhile (tTest (tOp rNotNon (tOp (rIx K) (tOp (rIx K) (tVar 0) (tOp (rIx K) (tVar 2) (tUn rNegA (tC (.int 1))))) (tC (.int 2))) (tC .non))) (tDrop (tBM K "list" rAppend (tVar 2) (tCons (tOp (rIx K) (tOp (rIx K) (tVar 0) (tOp (rIx K) (tVar 2) (tUn rNegA (tC (.int 1))))) (tC (.int 2))) tNil))))
    (tRet (tRevA K (tVar 2)))))

theorem sem_way_to {K : PySem.W.Frag} {E : XK} {ds : List PyData} {o : Out} (h : F_way_to ds o) : As K E (t_way_to K E) (slots0 3 ds) (finP o) := by
  obtain ⟨ms, x0, F, a, d, at_, rfl, I, hat, hlen, rfl⟩ := h
  have hbl := goN_line
  have hdl := dep_lt I at_
  refine as_seq (as_setN (xs := natsD (upF F at_ 1)) (en_to (en_lst (ea_cons (ev_var (x := .int (at_ : Nat)) rfl) ea_nil) (by show 1 ≤ sizeLine; decide)) rfl) ?_)
  refine as_seq (as_while (fun m δ' => ∃ j, j ≤ dep (gP F) at_ ∧ m = dep (gP F) at_ - j ∧ δ' = [.d (.list (goD F)), .d (.int (at_ : Nat)), .own (natsD (upF F at_ (j + 1)))]) (dep (gP F) at_) ⟨0, Nat.zero_le _, by omega, rfl⟩ (fun m δ' hW => ?_))
  obtain ⟨j, hj, rfl, rfl⟩ := hW
  obtain ⟨hc, hd⟩ := I.S.itr_dep hat hj
  have hsn : natsD (upF F at_ (j + 1)) = natsD (upF F at_ j) ++ [.int ((itr (gP F) j at_ : Nat) : Int)] := by rw [upF_succ, natsD_snoc]
  have last : atI (natsD (upF F at_ (j + 1))) (-1) = some (.int ((itr (gP F) j at_ : Nat) : Int)) := by
    rw [hsn]
    exact atI_last _ _
  have hul : (natsD (upF F at_ (j + 1))).length = j + 1 := by rw [natsD_len]; unfold upF; rw [List.length_map, List.length_range]
  have look : ∀ {x : GNode} {p : PyData}, F[itr (gP F) j at_]? = some x → atI [rowD x.h, optG (x.p.map (·.1)), optG (x.p.map (·.2))] 2 = some p → solid p = true →
      Ev K (tOp (rIx K) (tOp (rIx K) (tVar 0) (tOp (rIx K) (tVar 2) (tUn rNegA (tC (.int 1))))) (tC (.int 2))) [.d (.list (goD F)), .d (.int (at_ : Nat)), .own (natsD (upF F at_ (j + 1)))] p := fun {x p} hx hp hs =>
    ev_borrow (i := 2) (xs := natsD (upF F at_ (j + 1))) rfl (ev_op (x := goItD x) (ev_op (x := .list (goD F)) (ev_var rfl) (ev_op (x := .list (natsD (upF F at_ (j + 1)))) (ev_var rfl) (ev_neg ev_int) (rd_ixL last)) (rd_ixL (goD_at hx))) ev_int (rd_ixT hp)) hs
  rcases I.two hc with ⟨h0, hx⟩ | ⟨h0, hx⟩
  · rw [h0, dep_zero] at hd
    refine ⟨false, et_to (et_test (ev_op (look hx rfl rfl) ev_non rd_notN)) rfl, (fun z => by cases z), fun _ => ?_⟩
    refine as_freeze (i := 2) (xs := natsD (upF F at_ (j + 1))) rfl (as_ret (ev_to (en_rev (ev_var rfl)).ev ?_) rfl)
    rw [natsD_rev]
    unfold upF wayF
    have e : j = dep (gP F) at_ := by omega
    rw [e, rev_map_range]
    rfl
  · have hl := I.S.lt _ h0 hc
    have hds := dep_succ hl
    refine ⟨true, et_to (et_test (ev_op (look hx rfl rfl) ev_non rd_notN)) rfl, fun _ => ?_, (fun z => by cases z)⟩
    refine as_app (i := 2) (xs := natsD (upF F at_ (j + 1))) rfl (look hx rfl rfl) (by rw [hul]; omega) ⟨dep (gP F) at_ - (j + 1), by omega, j + 1, by omega, rfl, ?_⟩
    rw [upF_succ F at_ (j + 1), natsD_snoc, itr_succ]
    rfl

def runOn (F : List GNode) (way : List Nat) : List Nat := (way.drop 1).map (gM F)
def F_run_on (ds : List PyData) (o : Out) : Prop := ∃ ms x0 F a d way, ds = [.list (goD F), .list (natsD way)] ∧ GI ms x0 F a d ∧ (∀ i ∈ way.drop 1, i < F.length ∧ 0 < i) ∧ way.length ≤ goN + 1 ∧ o = .rt (.list (natsD (runOn F way)))
theorem len_run_on : ∀ ds o, F_run_on ds o → ds.length = 2 := fun _ _ ⟨_, _, _, _, _, _, h, _⟩ => by rw [h]; rfl
/-! run_on: slots 0 found, 1 way, 2 at (3) -/
def t_run_on (K : PySem.W.Frag) (E : XK)  : TS :=
    (tRet (tLc (iList K (tSl (rSlAll K) (tVar 1) (tPart (tC (.int 1))) tNoPart)) (gName 2) tYes (tOp (rIx K) (tOp (rIx K) (tVar 0) (tVar 2)) (tC (.int 1))) [2]))

theorem sem_run_on {K : PySem.W.Frag} {E : XK} {ds : List PyData} {o : Out} (h : F_run_on ds o) : As K E (t_run_on K E) (slots0 3 ds) (finP o) := by
  obtain ⟨ms, x0, F, a, d, way, rfl, I, hw, hlen, rfl⟩ := h
  have hbl := goN_line
  have ec : cutD (natsD way) (some ((1 : Nat) : Int)) none = natsD (way.drop 1) := by
    rw [cut_drop]
    unfold natsD
    rw [List.map_drop]
  have hll : (natsD (way.drop 1)).length ≤ sizeLine := by rw [natsD_len, List.length_drop]; omega
  refine as_ret (ev_to (en_map (xs := natsD (way.drop 1)) (fun i => .int ((gM F ((way.drop 1).getD i 0) : Nat) : Int)) (ei_list (ev_to (en_slL (lo := some ((1 : Nat) : Int)) (ev_var (x := .list (natsD way)) rfl) (eo_some ev_int) eo_none).ev (by rw [ec]))) hll (gw1 2) (fun i p hp => ?_)).ev ?_) rfl
  · have hi : i < (way.drop 1).length := by
      have := (List.getElem?_eq_some_iff.mp hp).1
      rw [natsD_len] at this
      exact this
    have hk : (way.drop 1)[i]? = some (way.drop 1)[i] := List.getElem?_eq_getElem hi
    obtain ⟨b1, b2⟩ := hw _ (List.getElem_mem hi)
    rw [List.getD_eq_getElem?_getD, hk, Option.getD_some]
    generalize (way.drop 1)[i] = k at *
    have ep : p = .int (k : Nat) := by
      unfold natsD at hp
      rw [List.getElem?_map, hk] at hp
      exact (Option.some.inj hp).symm
    subst ep
    rcases I.two b1 with ⟨h0, _⟩ | ⟨_, hx⟩
    · omega
    · exact ag_name (ev_op (x := goItD _) (ev_op (ev_var (x := .list (goD F)) rfl) (ev_var (x := .int (k : Nat)) rfl) (rd_ixL (goD_at hx))) ev_int (rd_ixT rfl))
  · rw [natsD_len, map_range (way.drop 1) 0 fun k => PyData.int ((gM F k : Nat) : Int)]
    unfold natsD runOn
    rw [List.map_map]
    rfl

def pumpD (F : List GNode) (at_ : Nat) : Option Nat → PyData
  | none => .none
  | some k => .tuple [.str (PySem.Str.ofString "pump"), .list (natsD (runOn F ((wayF F at_).take (k + 1)))), .list (natsD (runOn F ((wayF F at_).drop k)))]
def F_pump_at (ds : List PyData) (o : Out) : Prop := ∃ n ms x0 F a d at_, ds = [.list (goD F), .int (at_ : Nat)] ∧ GI ms x0 F a d ∧ GH n ms x0 ∧ at_ < F.length ∧ F.length ≤ goN + 1 ∧ o = .rt (pumpD F at_ (pumpF F at_))
theorem len_pump_at : ∀ ds o, F_pump_at ds o → ds.length = 2 := fun _ _ ⟨_, _, _, _, _, _, _, h, _⟩ => by rw [h]; rfl
theorem way_len (F : List GNode) (at_ : Nat) : (wayF F at_).length = dep (gP F) at_ + 1 := by unfold wayF; rw [List.length_map, List.length_range]
theorem way_get {F : List GNode} {at_ k : Nat} (h : k ≤ dep (gP F) at_) : (wayF F at_)[k]? = some (pathI (gP F) at_ k) := by
  unfold wayF
  rw [List.getElem?_map, List.getElem?_range (by omega)]
  rfl
theorem way_in {ms : MvS} {x0 : List Int} {F : List GNode} {a d at_ : Nat} (I : GI ms x0 F a d) (h : at_ < F.length) : ∀ i ∈ (wayF F at_).drop 1, i < F.length ∧ 0 < i := fun i hi => by
  obtain ⟨j, hj, rfl⟩ := List.getElem_of_mem hi
  rw [List.length_drop, way_len] at hj
  rw [List.getElem_drop]
  have hg : 1 + j ≤ dep (gP F) at_ := by omega
  have e := way_get hg
  obtain ⟨_, e2⟩ := List.getElem?_eq_some_iff.mp e
  rw [e2, Nat.add_comm 1 j]
  obtain ⟨g1, g2, _, _⟩ := I.S.path_par h (k := j) (by omega)
  exact ⟨g1, g2⟩
theorem drop_drop1 (l : List Nat) (k : Nat) : (l.drop k).drop 1 = (l.drop 1).drop k := by rw [List.drop_drop, List.drop_drop, Nat.add_comm]
theorem take_drop1 (l : List Nat) (k : Nat) : (l.take (k + 1)).drop 1 = (l.drop 1).take k := by rw [List.drop_take, Nat.add_sub_cancel]
theorem find_at {p : Nat → Bool} {n i : Nat} (h : i < n) (hp : p i = true) (hn : ∀ j, j < i → p j = false) : (List.range n).find? p = some i :=
  find_first (List.getElem?_range h) hp fun j y hj hy => by
    rw [List.getElem?_range (by omega)] at hy
    cases hy
    exact hn j hj
/-! pump_at: slots 0 found, 1 at, 2 way, 3 k (4) -/
def t_pump_at (K : PySem.W.Frag) (E : XK)  : TS :=
    (tSeq (tAsg (tCallS (SpD K F_way_to) (WE (fun cls d _ H => E cls d H)) (tCons (tVar 0) (tCons (tVar 1) tNil))) (gName 2))
    (tSeq (tFor (iRng1 (tCons (tOp rMinus (tCB (rLenA K) (tCons (tVar 2) tNil)) (tC (.int 1))) tNil)) (gName 3) (tIfS (tB (tCallS (SpD K F_over) (WE (fun cls d _ H => E cls d H)) (tCons (tOp (rIx K) (tOp (rIx K) (tVar 0) (tVar 1)) (tC (.int 0))) (tCons (tOp (rIx K) (tOp (rIx K) (tVar 0) (tOp (rIx K) (tVar 2) (tVar 3))) (tC (.int 0))) tNil)))) (tRet (tTup (tCons (tC (.str (PySem.Str.ofString "pump"))) (tCons (tCallS (SpD K F_run_on) (WE (fun cls d _ H => E cls d H)) (tCons (tVar 0) (tCons (tSl (rSlAll K) (tVar 2) tNoPart (tPart (tOp (rAddA K) (tVar 3) (tC (.int 1))))) tNil))) (tCons (tCallS (SpD K F_run_on) (WE (fun cls d _ H => E cls d H)) (tCons (tVar 0) (tCons (tSl (rSlAll K) (tVar 2) (tPart (tVar 3)) tNoPart) tNil))) tNil))))) tNext))
    (tRet (tC .non))))

theorem sem_pump_at {K : PySem.W.Frag} {E : XK} {ds : List PyData} {o : Out} (h : F_pump_at ds o) : As K E (t_pump_at K E) (slots0 4 ds) (finP o) := by
  obtain ⟨n, ms, x0, F, a, d, at_, rfl, I, H, hat, hlen, rfl⟩ := h
  have hbl := goN_line
  have hb2 : goN + 1 < 2 ^ 62 := by rw [goN_val]; decide
  have hdl := dep_lt I at_
  have hwl := way_len F at_
  refine as_seq (as_set (x := .list (natsD (wayF F at_))) (ev_call (ea_cons (ev_var (x := .list (goD F)) rfl) (ea_cons (ev_var (x := .int (at_ : Nat)) rfl) ea_nil)) ⟨ms, x0, F, a, d, at_, rfl, I, hat, hlen, rfl⟩) ?_)
  have hnl : (natsD (wayF F at_)).length = dep (gP F) at_ + 1 := by rw [natsD_len, hwl]
  have htn : (((natsD (wayF F at_)).length : Nat) - 1 : Int).toNat = dep (gP F) at_ := by omega
  refine as_seq (as_for (ei_rng1 (n := ((natsD (wayF F at_)).length : Nat) - 1) (ea_cons (ev_op (ev_cb (ea_cons (ev_var (x := .list (natsD (wayF F at_))) rfl) ea_nil) rc_lenL) ev_int rd_minus) ea_nil) (by omega) (by omega)) (fun i δ' => (∀ j, j < i → overB (gH F at_) (gH F (pathI (gP F) at_ j)) = false) ∧ ∃ z3, δ' = [.d (.list (goD F)), .d (.int (at_ : Nat)), .d (.list (natsD (wayF F at_))), z3]) ⟨fun j hj => by omega, _, rfl⟩ (fun i p δ' hd hp => ?_) (fun δ' hp => ?_))
  · obtain ⟨hno, z3, rfl⟩ := hp
    rw [htn] at hd
    obtain ⟨hi, rfl⟩ := nums_get hd
    have hpl := I.S.path_lt hat (k := i) (Nat.le_of_lt hi)
    have hx := I.node hat
    have hy := I.node hpl.1
    rw [Int.zero_add]
    refine ag_name (as_if (et_B (ev_call (ea_cons (ev_op (x := goItD _) (ev_op (ev_var (x := .list (goD F)) rfl) (ev_var (x := .int (at_ : Nat)) rfl) (rd_ixL (goD_at hx))) ev_int (rd_ixT rfl)) (ea_cons (ev_op (x := goItD _) (ev_op (ev_var (x := .list (goD F)) rfl) (ev_op (ev_var (x := .list (natsD (wayF F at_))) rfl) (ev_var (x := .int (i : Nat)) rfl) (rd_ixL (natsD_at (way_get (Nat.le_of_lt hi))))) (rd_ixL (goD_at hy))) ev_int (rd_ixT rfl)) ea_nil)) ⟨gH F at_, gH F (pathI (gP F) at_ i), rfl, by rw [I.len H hat, I.len H hpl.1], rfl⟩)) (fun z => ?_) (fun z => as_next ?_))
    · have hf : pumpF F at_ = some i := find_at hi z hno
      have e1 : cutD (natsD (wayF F at_)) none (some ((i : Int) + 1)) = natsD ((wayF F at_).take (i + 1)) := by
        have := cut_take (xs := natsD (wayF F at_)) (k := i + 1)
        rw [show ((i : Int) + 1) = ((i + 1 : Nat) : Int) by omega, this]
        unfold natsD
        rw [List.map_take]
      have e2 : cutD (natsD (wayF F at_)) (some (i : Int)) none = natsD ((wayF F at_).drop i) := by
        rw [cut_drop]
        unfold natsD
        rw [List.map_drop]
      refine as_ret (ev_tup (ea_cons ev_str (ea_cons (ev_call (xs := [.list (goD F), .list (natsD ((wayF F at_).take (i + 1)))]) (ea_cons (ev_var (x := .list (goD F)) rfl) (ea_cons (ev_to (en_slL (lo := none) (hi := some ((i : Int) + 1)) (ev_var (x := .list (natsD (wayF F at_))) rfl) eo_none (eo_some (ev_op (ev_var (x := .int (i : Nat)) rfl) ev_int rd_plus))).ev (by rw [e1])) ea_nil)) ⟨ms, x0, F, a, d, _, rfl, I, fun q hq => ?_, ?_, rfl⟩)
        (ea_cons (ev_call (xs := [.list (goD F), .list (natsD ((wayF F at_).drop i))]) (ea_cons (ev_var (x := .list (goD F)) rfl) (ea_cons (ev_to (en_slL (lo := some (i : Int)) (hi := none) (ev_var (x := .list (natsD (wayF F at_))) rfl) (eo_some (ev_var (x := .int (i : Nat)) rfl)) eo_none).ev (by rw [e2])) ea_nil)) ⟨ms, x0, F, a, d, _, rfl, I, fun q hq => ?_, ?_, rfl⟩) ea_nil))) (by show 3 ≤ sizeLine; decide)) ?_
      · rw [take_drop1] at hq
        exact way_in I hat q (List.mem_of_mem_take hq)
      · rw [List.length_take]
        omega
      · rw [drop_drop1] at hq
        exact way_in I hat q (List.mem_of_mem_drop hq)
      · rw [List.length_drop]
        omega
      · show Out.rt (pumpD F at_ (pumpF F at_)) = _
        rw [hf]
        rfl
    · refine ⟨fun j hj => ?_, _, rfl⟩
      rcases Nat.lt_or_eq_of_le (Nat.le_of_lt_succ hj) with q | q
      · exact hno j q
      · subst q
        exact z
  · obtain ⟨hno, z3, rfl⟩ := hp
    rw [nums_len, htn] at hno
    have hf : pumpF F at_ = none := List.find?_eq_none.mpr fun k hk q => by
      rw [hno k (List.mem_range.mp hk)] at q
      cases q
    rw [hf]
    exact as_ret ev_non rfl

def seenA : Nat → List GNode → List (List Int × V)
  | _, [] => []
  | i, x :: l => (x.h, .int (i : Nat)) :: seenA (i + 1) l
theorem seenA_keys : ∀ (i : Nat) (l : List GNode), (seenA i l).map (·.1) = l.map (·.h)
  | _, [] => rfl
  | i, x :: l => by
    show x.h :: (seenA (i + 1) l).map (·.1) = x.h :: l.map (·.h)
    rw [seenA_keys]
theorem seenA_len : ∀ (i : Nat) (l : List GNode), (seenA i l).length = l.length
  | _, [] => rfl
  | i, x :: l => by
    show (seenA (i + 1) l).length + 1 = l.length + 1
    rw [seenA_len]
theorem seenA_snoc (x : GNode) : ∀ (i : Nat) (l : List GNode), seenA i (l ++ [x]) = seenA i l ++ [(x.h, .int ((i + l.length : Nat) : Int))]
  | i, [] => rfl
  | i, y :: l => by
    show (y.h, V.int (i : Nat)) :: seenA (i + 1) (l ++ [x]) = (y.h, V.int (i : Nat)) :: (seenA (i + 1) l ++ _)
    rw [seenA_snoc x (i + 1) l, List.length_cons, show i + 1 + l.length = i + (l.length + 1) by omega]
def goneD (s : GSt) : PyData := .tuple [.list (goD s.1), pumpD s.1 (s.1.length - 1) s.2]
def F_gone_through (ds : List PyData) (o : Out) : Prop := ∃ n ms x0, ds = [netD n ms, rowD x0] ∧ GH n ms x0 ∧ o = .rt (goneD (goF ms x0))
theorem len_gone_through : ∀ ds o, F_gone_through ds o → ds.length = 2 := fun _ _ ⟨_, _, _, h, _⟩ => by rw [h]; rfl
theorem goS_next {ms : MvS} {x0 : List Int} {k : Nat} (h1 : (goS ms x0 k).1.2 = none) (h2 : (goS ms x0 k).2 = k) (h3 : k < (goS ms x0 k).1.1.length) : goS ms x0 (k + 1) = (foldG ms (goS ms x0 k).1.1 k ms.length, k + 1) := by
  have e : goS ms x0 (k + 1) = stepO ms (goS ms x0 k) := rfl
  rw [e]
  unfold stepO
  rw [if_neg (by rw [h1, h2]; intro q; rcases q with q | q; cases q; omega), h2]
  rfl
theorem goD_snoc (l : List GNode) (x : GNode) : goD (l ++ [x]) = goD l ++ [goItD x] := by
  unfold goD
  rw [List.map_append]
  rfl
theorem as_eq {K : PySem.W.Frag} {E : XK} {t : TS} {P : Out → Prop} {δ δ2 : List Sl} (e : δ2 = δ) (h : As K E t δ2 P) : As K E t δ P := e ▸ h
/-! gone_through: slots 0 net, 1 start, 2 found, 3 seen, 4 at, 5 move, 6 other, 7 pump (8) -/
def t_gone_through (K : PySem.W.Frag) (E : XK)  : TS :=
    (tSeq (tAsg (tLst (tCons (tTup (tCons (tVar 1) (tCons (tC .non) (tCons (tC .non) tNil)))) tNil)) (gName 2))
    (tSeq (tAsg (tDisp1 (tVar 1) (tC (.int 0))) (gName 3))
    (tSeq (tAsg (tC (.int 0)) (gName 4))
    (tSeq (tWhile (tTest (tOp rLtA (tVar 4) (tCB (rLenA K) (tCons (tVar 2) tNil)))) (tSeq (tFor (iRng1 (tCons (tCB (rLenA K) (tCons (tOp (rIx K) (tVar 0) (tC (.int 1))) tNil)) tNil)) (gName 5) (tIfS (tB (tCallS (SpD K F_over) (WE (fun cls d _ H => E cls d H)) (tCons (tOp (rIx K) (tOp (rIx K) (tVar 2) (tVar 4)) (tC (.int 0))) (tCons (tOp (rIx K) (tOp (rIx K) (tOp (rIx K) (tVar 0) (tC (.int 1))) (tVar 5)) (tC (.int 0))) tNil)))) (tSeq (tAsg (tCallS (SpD K F_led) (WE (fun cls d _ H => E cls d H)) (tCons (tVar 0) (tCons (tOp (rIx K) (tOp (rIx K) (tVar 2) (tVar 4)) (tC (.int 0))) (tCons (tVar 5) tNil)))) (gName 6))
    (tIfS (tB (tDNotIn (tVar 6) (tVar 3))) (tSeq (sDPut (tVar 3) (tVar 6) (tCB (rLenA K) (tCons (tVar 2) tNil)))
    (tSeq (tDrop (tBM K "list" rAppend (tVar 2) (tCons (tTup (tCons (tVar 6) (tCons (tVar 5) (tCons (tVar 4) tNil)))) tNil)))
    (tSeq (tAsg (tCallS (SpD K F_pump_at) (WE (fun cls d _ H => E cls d H)) (tCons (tVar 2) (tCons (tOp rMinus (tCB (rLenA K) (tCons (tVar 2) tNil)) (tC (.int 1))) tNil))) (gName 7))
    (tIfS (tTest (tOp rNotNon (tVar 7) (tC .non))) (tRet (tTup (tCons (tVar 2) (tCons (tVar 7) tNil)))) tNext)))) tNext)) tNext))
    (tAsg (tOp (rAddA K) (tVar 4) (tC (.int 1))) (gName 4))))
    (tRet (tTup (tCons (tVar 2) (tCons (tC .non) tNil))))))))

theorem sem_gone_through {K : PySem.W.Frag} {E : XK} {ds : List PyData} {o : Out} (h : F_gone_through ds o) : As K E (t_gone_through K E) (slots0 8 ds) (finP o) := by
  obtain ⟨n, ms, x0, rfl, H, rfl⟩ := h
  have hbl := goN_line
  have hb2 : goN + 1 < 2 ^ 62 := by rw [goN_val]; decide
  have hm10 := H.m10
  refine as_seq (as_setN (xs := goD [⟨x0, none⟩]) (en_lst (ea_cons (ev_tup (ea_cons (ev_var (x := rowD x0) rfl) (ea_cons ev_non (ea_cons ev_non ea_nil))) (by show 3 ≤ sizeLine; decide)) ea_nil) (by show 1 ≤ sizeLine; decide)) ?_)
  refine as_seq (as_setD (r := x0) rfl ?_)
  refine as_seq (as_set (ev_int (i := 0)) ?_)
  refine as_seq (as_while (fun m δ' => ∃ (k : Nat) (z5 z6 z7 : Sl), (goS ms x0 k).1.2 = none ∧ (goS ms x0 k).2 = k ∧ m = goN + 2 - k ∧ δ' = [.d (netD n ms), .d (rowD x0), .own (goD (goS ms x0 k).1.1), .dic (seenA 0 (goS ms x0 k).1.1), .d (.int (k : Nat)), z5, z6, z7]) (goN + 2) ⟨0, .no, .no, .no, rfl, rfl, by omega, rfl⟩ (fun m δ' hW => ?_))
  obtain ⟨k, z5, z6, z7, hk1, hk2, rfl, rfl⟩ := hW
  obtain ⟨I, B, hend⟩ := (go_ok ms x0 k).1 hk1
  have hcnt := I.count H B
  have hnext := goS_next hk1 hk2
  have hstop : (goS ms x0 k).1.1.length ≤ k → goF ms x0 = ((goS ms x0 k).1.1, none) := fun hle => by
    rw [← go_same H.bnd (.inr (by rw [hk2]; exact hle)), ← hk1]
  rw [hk2] at I
  generalize hf : (goS ms x0 k).1.1 = found at I B hcnt hnext hstop
  refine ⟨decide (k < found.length), et_borrow (i := 2) (xs := goD found) rfl (et_to (et_test (ev_op (ev_var (x := .int (k : Nat)) rfl) (ev_cb (ea_cons (ev_var (x := .list (goD found)) rfl) ea_nil) rc_lenL) rd_lt)) ?_), fun hb => ?_, fun hb => ?_⟩
  · rw [goD_len]
    exact decide_eq_decide.mpr (by omega)
  · have hlt : k < found.length := of_decide_eq_true hb
    have hml : (ms.map moveD).length = ms.length := List.length_map ..
    have hnext := hnext hlt
    have G := I.fold B hlt
    refine as_seq (as_for (ei_rng1 (n := ((ms.map moveD).length : Nat)) (ea_cons (ev_cb (ea_cons (net_moves rfl) ea_nil) rc_lenT) ea_nil) (by omega) (by rw [hml]; omega)) (fun j δ' => (foldG ms found k j).2 = none ∧ ∃ z5 z6 z7, δ' = [.d (netD n ms), .d (rowD x0), .own (goD (foldG ms found k j).1), .dic (seenA 0 (foldG ms found k j).1), .d (.int (k : Nat)), z5, z6, z7]) ⟨rfl, _, _, _, rfl⟩ (fun j d δ' hd' hp => ?_) (fun δ' hp => ?_))
    · obtain ⟨hno, z5, z6, z7, rfl⟩ := hp
      obtain ⟨hj, rfl⟩ := nums_get hd'
      have hj : j < ms.length := by rw [hml] at hj; omega
      have Gj := G j (by omega)
      have hsucc := foldG_succ ms found k j
      have hres : ∀ p, (foldG ms found k (j + 1)).2 = some p → goF ms x0 = foldG ms found k (j + 1) := fun p hp => by
        have hs : (foldG ms found k (j + 1)).2.isSome = true := by rw [hp]; rfl
        obtain ⟨dd, hdd⟩ := Nat.le.dest hj
        have e1 : foldG ms found k ms.length = foldG ms found k (j + 1) := by
          rw [← hdd]
          exact fold_pre hs dd
        rw [← go_same H.bnd (k := k + 1) (.inl (by rw [hnext, e1]; exact hs)), hnext, e1]
      obtain ⟨J, hkF⟩ := Gj.I hno
      have hBF := Gj.B hno
      have hcF := J.count H hBF
      have G1 := G (j + 1) (by omega)
      generalize hF : foldG ms found k j = st at *
      obtain ⟨F, po⟩ := st
      simp only at hno J hkF hBF hcF
      subst hno
      have hx := J.node hkF
      have hmv : ms[j]? = some (mvA ms j) := mv_some hj
      obtain ⟨r1, r2⟩ := H.rows _ (List.mem_of_getElem? hmv)
      have hxl := J.len H hkF
      rw [Int.zero_add]
      have look : ∀ {z5 z6 z7 : Sl}, Ev K (tOp (rIx K) (tOp (rIx K) (tVar 2) (tVar 4)) (tC (.int 0))) [.d (netD n ms), .d (rowD x0), .own (goD F), .dic (seenA 0 F), .d (.int (k : Nat)), z5, z6, z7] (rowD (gH F k)) := fun {z5 z6 z7} =>
        ev_borrow (i := 2) (xs := goD F) rfl (ev_op (x := goItD _) (ev_op (ev_var (x := .list (goD F)) rfl) (ev_var (x := .int (k : Nat)) rfl) (rd_ixL (goD_at hx))) ev_int (rd_ixT rfl)) (solid_row _)
      refine ag_name (as_if (et_B (ev_call (ea_cons look (ea_cons (ev_op (x := moveD (mvA ms j)) (net_move rfl rfl hmv) ev_int (rd_ixT rfl)) ea_nil)) ⟨gH F k, (mvA ms j).1, rfl, by rw [hxl, r1], rfl⟩)) (fun hov => ?_) (fun hov => as_next ?_))
      · refine as_seq (as_set (x := rowD (ledR (gH F k) (mvA ms j).1 (mvA ms j).2)) (ev_call (ea_cons (ev_var (x := netD n ms) rfl) (ea_cons look (ea_cons (ev_var (x := .int (j : Nat)) rfl) ea_nil))) ⟨n, ms, gH F k, j, mvA ms j, rfl, hmv, hxl, r1, r2, by have := H.n6; omega, rfl⟩) ?_)
        generalize ho : ledR (gH F k) (mvA ms j).1 (mvA ms j).2 = o
        refine as_if (et_to (et_notinD (r := o) (kvs := seenA 0 F) rfl rfl) (by rw [seenA_keys])) (fun hin => ?_) (fun hin => as_next ?_)
        · have hin : (F.map (·.h)).contains o = false := by simpa using hin
          have hst : foldG ms found k (j + 1) = (F ++ [⟨o, some (j, k)⟩], pumpF (F ++ [⟨o, some (j, k)⟩]) F.length) := by
            rw [hsucc]
            unfold stepG
            rw [if_neg (by simp), if_pos hov, ho, if_neg (by rw [hin]; decide)]
          refine as_seq (as_putD (r := o) (kvs := seenA 0 F) (n := (F.length : Nat)) rfl rfl (ev_borrow (i := 2) (xs := goD F) rfl (ev_to (ev_cb (ea_cons (ev_var (x := .list (goD F)) rfl) ea_nil) rc_lenL) (by rw [goD_len])) rfl) (by rw [seenA_len]; omega) (by rw [seenA_keys]; exact hin) ?_)
          refine as_seq (as_app (i := 2) (xs := goD F) (x := goItD ⟨o, some (j, k)⟩) rfl (ev_tup (ea_cons (ev_var (x := rowD o) rfl) (ea_cons (ev_var (x := .int (j : Nat)) rfl) (ea_cons (ev_var (x := .int (k : Nat)) rfl) ea_nil))) (by show 3 ≤ sizeLine; decide)) (by rw [goD_len]; omega) ?_)
          have hsn : seenA 0 F ++ [(o, V.int (F.length : Nat))] = seenA 0 (F ++ [⟨o, some (j, k)⟩]) := by rw [seenA_snoc, Nat.zero_add]
          refine as_eq (δ2 := [.d (netD n ms), .d (rowD x0), .own (goD (F ++ [⟨o, some (j, k)⟩])), .dic (seenA 0 (F ++ [⟨o, some (j, k)⟩])), .d (.int (k : Nat)), .d (.int (j : Nat)), .d (rowD o), z7]) (by rw [goD_snoc, ← hsn]; rfl) ?_
          generalize hF' : F ++ [(⟨o, some (j, k)⟩ : GNode)] = F' at *
          have hl' : F'.length = F.length + 1 := by rw [← hF', List.length_append]; rfl
          have hat' : F'.length - 1 < F'.length := by omega
          have hgi : ∃ d, GI ms x0 F' k d := by
            cases hq : pumpF F' F.length with
            | none =>
              have := (G1.I (by rw [hst]; exact hq)).1
              rw [hst] at this
              exact ⟨_, this⟩
            | some p =>
              obtain ⟨d, hd, _⟩ := G1.pump p (by rw [hst]; exact hq)
              rw [hst] at hd
              exact ⟨d, hd⟩
          obtain ⟨d', I'⟩ := hgi
          have hidx : F'.length - 1 = F.length := by omega
          have hcall : ∀ {z7 : Sl}, Ev K (tCallS (SpD K F_pump_at) (WE fun cls d _ H => E cls d H) (tCons (tVar 2) (tCons (tOp rMinus (tCB (rLenA K) (tCons (tVar 2) tNil)) (tC (.int 1))) tNil))) [.d (netD n ms), .d (rowD x0), .d (.list (goD F')), .dic (seenA 0 F'), .d (.int (k : Nat)), .d (.int (j : Nat)), .d (rowD o), z7] (pumpD F' F.length (pumpF F' F.length)) := fun {z7} =>
            ev_call (xs := [.list (goD F'), .int ((F.length : Nat) : Int)]) (ea_cons (ev_var (x := .list (goD F')) rfl) (ea_cons (ev_to (ev_op (ev_cb (ea_cons (ev_var (x := .list (goD F')) rfl) ea_nil) rc_lenL) ev_int rd_minus) (by rw [goD_len, hl']; congr 1; omega)) ea_nil)) ⟨n, ms, x0, F', k, d', F.length, rfl, I', H, by omega, by omega, rfl⟩
          cases hq : pumpF F' F.length with
          | none =>
            refine as_seq (as_set (x := .none) (ev_borrow (i := 2) (xs := goD F') rfl (ev_to hcall (by rw [hq]; rfl)) rfl) ?_)
            refine as_if (b := false) (et_to (et_test (ev_op (ev_var (x := .none) rfl) ev_non rd_notN)) rfl) (fun z => by cases z) (fun _ => as_next ?_)
            exact ⟨by rw [hst]; exact hq, _, _, _, by rw [hst]; rfl⟩
          | some p =>
            refine as_seq (as_freeze (i := 2) (xs := goD F') rfl (as_set (x := pumpD F' F.length (some p)) (ev_to hcall (by rw [hq])) ?_))
            refine as_if (b := true) (et_to (et_test (ev_op (ev_var (x := pumpD F' F.length (some p)) rfl) ev_non rd_notN)) rfl) (fun _ => ?_) (fun z => by cases z)
            refine as_ret (ev_tup (ea_cons (ev_var (x := .list (goD F')) rfl) (ea_cons (ev_var (x := pumpD F' F.length (some p)) rfl) ea_nil)) (by show 2 ≤ sizeLine; decide)) ?_
            show Out.rt (goneD (goF ms x0)) = _
            have hr := hres p (by rw [hst]; exact hq)
            rw [hr, hst, hq]
            unfold goneD
            rw [hidx]
        · have hin : (F.map (·.h)).contains o = true := by simpa using hin
          have hst : foldG ms found k (j + 1) = (F, none) := by
            rw [hsucc]
            unfold stepG
            rw [if_neg (by simp), if_pos hov, ho, if_pos hin]
          exact ⟨by rw [hst], _, _, _, by rw [hst]; rfl⟩
      · have hst : foldG ms found k (j + 1) = (F, none) := by
          rw [hsucc]
          unfold stepG
          rw [if_neg (by simp), if_neg (by rw [hov]; decide)]
        exact ⟨by rw [hst], _, _, _, by rw [hst]; rfl⟩
    · obtain ⟨hno, z5, z6, z7, rfl⟩ := hp
      rw [nums_len] at hno ⊢
      have e : (((ms.map moveD).length : Nat) : Int).toNat = ms.length := by rw [hml]; omega
      rw [e] at hno ⊢
      refine as_set (x := .int ((k + 1 : Nat) : Int)) (ev_op (ev_var (x := .int (k : Nat)) rfl) ev_int rd_plus) ⟨goN + 2 - (k + 1), by omega, k + 1, z5, z6, z7, by rw [hnext]; exact hno, by rw [hnext], rfl, ?_⟩
      rw [hnext]
      rfl
  · have hge : found.length ≤ k := by
      rcases Nat.lt_or_ge k found.length with q | q
      · rw [decide_eq_true q] at hb
        cases hb
      · exact q
    rw [hstop hge]
    exact as_freeze (i := 2) (xs := goD found) rfl (as_ret (ev_tup (ea_cons (ev_var (x := .list (goD found)) rfl) (ea_cons ev_non ea_nil)) (by show 2 ≤ sizeLine; decide)) rfl)

noncomputable def allD (ms : MvS) (x0 : List Int) : PyData := match (goF ms x0).2 with
  | some p => pumpD (goF ms x0).1 ((goF ms x0).1.length - 1) (some p)
  | none => .tuple [.str (PySem.Str.ofString "all"), rowsL (isort lexL ((goF ms x0).1.map (·.h)))]
def F_all_of (a_NoHoard : Addr) (ds : List PyData) (o : Out) : Prop := ∃ n ms x0, ds = [netD n ms, rowD x0] ∧ GH n ms x0 ∧ o = .rt (allD ms x0)
theorem len_all_of (a_NoHoard : Addr) : ∀ ds o, F_all_of a_NoHoard ds o → ds.length = 2 := fun _ _ ⟨_, _, _, h, _⟩ => by rw [h]; rfl
theorem go_get {l : List GNode} {i : Nat} {d : PyData} (h : (goD l)[i]? = some d) : ∃ x, l[i]? = some x ∧ d = goItD x := by
  unfold goD at h
  rw [List.getElem?_map] at h
  cases e : l[i]? with
  | none => rw [e] at h; cases h
  | some k =>
    rw [e] at h
    exact ⟨k, rfl, (Option.some.inj h).symm⟩
theorem en_headsG {K : PySem.W.Frag} {δ : List Sl} {l : List GNode} {te : TE} {v : Nat} (h : Ev K te δ (.list (goD l))) (hl : l.length < sizeLine) (hv : v < δ.length) : EvN K (tLc (iList K te) (gName v) tYes (tOp (rIx K) (tVar v) (tC (.int 0))) [v]) δ ((l.map (·.h)).map rowD) := by
  refine en_to (en_map (fun i => rowD (l.getD i gn0).h) (ei_list h) (by rw [goD_len]; omega) (gw1 v) (fun i d he => ?_)) ?_
  · obtain ⟨x, hx, rfl⟩ := go_get he
    rw [List.getD_eq_getElem?_getD, hx, Option.getD_some]
    refine ag_name (ev_op (x := goItD x) (ev_var ?_) ev_int (rd_ixT rfl))
    rw [List.getElem?_set_self]
    show v < (δ.set v .no).length
    rw [List.length_set]
    exact hv
  · rw [goD_len, map_range l gn0 fun x => rowD x.h, List.map_map]
    rfl
/-! all_of: slots 0 net, 1 start, 2 found, 3 pump, 4 row (5) -/
def t_all_of (K : PySem.W.Frag) (E : XK) (a_NoHoard : Addr) : TS :=
    (tSeq (tDrop (tCallS (SpD K (F_need_hoard a_NoHoard)) (WE (fun cls d _ H => E cls d H)) (tCons (tVar 0) (tCons (tVar 1) tNil))))
    (tSeq (tAsg (tCallS (SpD K F_gone_through) (WE (fun cls d _ H => E cls d H)) (tCons (tVar 0) (tCons (tVar 1) tNil))) (gTup K 2 (gCons (gName 2) (gCons (gName 3) gNil))))
    (tSeq (tIfS (tTest (tOp rNotNon (tVar 3) (tC .non))) (tRet (tVar 3)) tNext)
    (tRet (tTup (tCons (tC (.str (PySem.Str.ofString "all"))) (tCons (tCB (rSortedA K) (tCons (tLc (iList K (tVar 2)) (gName 4) tYes (tOp (rIx K) (tVar 4) (tC (.int 0))) [4]) tNil)) tNil)))))))

theorem sem_all_of {K : PySem.W.Frag} {E : XK} (a_NoHoard : Addr) {ds : List PyData} {o : Out} (h : F_all_of a_NoHoard ds o) : As K E (t_all_of K E a_NoHoard) (slots0 5 ds) (finP o) := by
  obtain ⟨n, ms, x0, rfl, H, rfl⟩ := h
  have hbl := goN_line
  refine as_seq (as_drop (x := .none) (ev_call (ea_cons (ev_var (x := netD n ms) rfl) (ea_cons (ev_var (x := rowD x0) rfl) ea_nil)) ⟨n, ms, rowD x0, rfl, cln_row x0, by rw [hoardB_row H.xl H.nn]; rfl⟩) ?_)
  refine as_seq (as_set2 (x := .list (goD (goF ms x0).1)) (y := pumpD (goF ms x0).1 ((goF ms x0).1.length - 1) (goF ms x0).2) (ev_call (ea_cons (ev_var (x := netD n ms) rfl) (ea_cons (ev_var (x := rowD x0) rfl) ea_nil)) ⟨n, ms, x0, rfl, H, rfl⟩) ?_)
  unfold allD
  cases e : (goF ms x0).2 with
  | some p =>
    exact as_seq (as_if (b := true) (et_to (et_test (ev_op (ev_var (x := pumpD (goF ms x0).1 ((goF ms x0).1.length - 1) (some p)) rfl) ev_non rd_notN)) rfl) (fun _ => as_ret (ev_var rfl) rfl) (fun z => by cases z))
  | none =>
    refine as_seq (as_if (b := false) (et_to (et_test (ev_op (ev_var (x := .none) rfl) ev_non rd_notN)) rfl) (fun z => by cases z) (fun _ => as_next ?_))
    obtain ⟨a, I, _, hc⟩ := go_all H.bnd e
    refine as_ret (x := .tuple [.str (PySem.Str.ofString "all"), rowsL (isort lexL ((goF ms x0).1.map fun (x : GNode) => x.h))]) (ev_tup (ea_cons ev_str (ea_cons (en_cb (xs := [rowsL ((goF ms x0).1.map fun (x : GNode) => x.h)]) (ea_cons (ev_to (en_headsG (l := (goF ms x0).1) (ev_var rfl) (by omega) (by show 4 < 5; decide)).ev rfl) ea_nil) (rc_sortedRows (n := n) H.n1 fun h hh => ?_)).ev ea_nil)) (by show 2 ≤ sizeLine; decide)) rfl
    obtain ⟨x, hx, rfl⟩ := List.mem_map.mp hh
    obtain ⟨i, hi, rfl⟩ := List.getElem_of_mem hx
    have := I.len H hi
    unfold gH at this
    rw [gn_at (List.getElem?_eq_getElem hi)] at this
    exact this

def F_cell_at_l (ds : List PyData) (o : Out) : Prop := ∃ ns k, ds = [scrD ns, .int k] ∧ 0 ≤ k ∧ o = .rt (.int (cellF ns k))
theorem len_cell_at_l : ∀ ds o, F_cell_at_l ds o → ds.length = 2 := fun _ _ ⟨_, _, h, _⟩ => by rw [h]; rfl
/-! cell_at_l: slots 0 _law_script, 1 _law_k (2) -/
def t_cell_at_l (K : PySem.W.Frag) (E : XK)  : TS :=
    (tSeq (tIfS (tTest (tOp rLtA (tVar 1) (tCB (rLenA K) (tCons (tVar 0) tNil)))) (tRet (tOp (rIx K) (tVar 0) (tVar 1))) tNext)
    (tSeq (tIfS (tTest (tOp (rEqD K) (tVar 0) (tLst tNil))) (tRet (tC (.int 0))) tNext)
    (tRet (tOp (rAddA K) (tOp (rMulA K) (tOp (rIx K) (tVar 0) (tOp rModA (tVar 1) (tCB (rLenA K) (tCons (tVar 0) tNil)))) (tC (.int 31))) (tVar 1)))))

theorem sem_cell_at_l {K : PySem.W.Frag} {E : XK} {ds : List PyData} {o : Out} (h : F_cell_at_l ds o) : As K E (t_cell_at_l K E) (slots0 2 ds) (finP o) := by
  obtain ⟨ns, k, rfl, h0, rfl⟩ := h
  refine as_seq (as_if (et_test (ev_op (ev_var rfl) (ev_cb (ea_cons (ev_var (x := scrD ns) rfl) ea_nil) rc_lenZ) rd_lt)) (fun hb => as_ret (ev_op (ev_var (x := scrD ns) rfl) (ev_var rfl) (rd_ixZ (at_getD h0 (of_decide_eq_true hb)))) ?_) (fun hb => as_next ?_))
  · show Out.rt _ = Out.rt _
    unfold cellF
    rw [if_pos (of_decide_eq_true hb)]
  · have hk := of_decide_eq_false hb
    refine as_seq (as_if (et_test (ev_op (ev_var (x := scrD ns) rfl) (en_lst ea_nil (by decide)).ev rd_eqZ)) (fun he => as_ret ev_int ?_) (fun he => as_next ?_))
    · show Out.rt _ = Out.rt _
      have e : ns = [] := by
        cases ns with
        | nil => rfl
        | cons a r => cases (show false = true from he)
      unfold cellF
      rw [if_neg hk, if_pos e]
    · have e : ns ≠ [] := fun z => by
        subst z
        cases (show true = false from he)
      have hl : 0 < (ns.length : Int) := by
        cases ns with
        | nil => exact absurd rfl e
        | cons a r =>
          rw [List.length_cons]
          omega
      refine as_ret (ev_op (ev_op (ev_op (ev_var (x := scrD ns) rfl) (ev_op (ev_var rfl) (ev_cb (ea_cons (ev_var (x := scrD ns) rfl) ea_nil) rc_lenZ) (rd_mod hl)) (rd_ixZ (at_getD (Int.emod_nonneg _ (by omega)) (Int.emod_lt_of_pos _ hl)))) ev_int (rd_timesB (.inr ⟨by decide, by decide⟩))) (ev_var rfl) rd_plus) ?_
      show Out.rt _ = Out.rt _
      unfold cellF
      rw [if_neg hk, if_neg e]

def F_mixed_l (ds : List PyData) (o : Out) : Prop := ∃ ns k many, ds = [scrD ns, .int k, .int many] ∧ 0 ≤ k ∧ k < 1000 ∧ 0 < many ∧ o = .rt (.int (mixedF ns k many))
theorem len_mixed_l : ∀ ds o, F_mixed_l ds o → ds.length = 3 := fun _ _ ⟨_, _, _, h, _⟩ => by rw [h]; rfl
/-! mixed_l: slots 0 _law_script, 1 _law_k, 2 _law_many, 3 _law_drawn (4) -/
def t_mixed_l (K : PySem.W.Frag) (E : XK)  : TS :=
    (tSeq (tAsg (tOp rModA (tOp (rMulA K) (tOp (rAddA K) (tOp (rAddA K) (tCallS (SpD K F_cell_at_l) (WE (fun cls d _ H => E cls d H)) (tCons (tVar 0) (tCons (tVar 1) tNil))) (tOp (rMulA K) (tC (.int 7919)) (tVar 1))) (tC (.int 1))) (tC (.int 48271))) (tC (.int 2147483647))) (gName 3))
    (tRet (tOp rModA (tOp rModA (tOp (rAddA K) (tOp (rAddA K) (tOp (rMulA K) (tVar 3) (tVar 3)) (tOp (rMulA K) (tC (.int 7)) (tVar 3))) (tVar 1)) (tC (.int 2147483629))) (tVar 2))))

theorem sem_mixed_l {K : PySem.W.Frag} {E : XK} {ds : List PyData} {o : Out} (h : F_mixed_l ds o) : As K E (t_mixed_l K E) (slots0 4 ds) (finP o) := by
  obtain ⟨ns, k, many, rfl, h0, h1, hm, rfl⟩ := h
  refine as_seq (as_set (ev_op (ev_op (ev_op (ev_op (ev_call (ea_cons (ev_var (x := scrD ns) rfl) (ea_cons (ev_var rfl) ea_nil)) ⟨ns, k, rfl, h0, rfl⟩) (ev_op ev_int (ev_var rfl) (rd_timesB (.inl ⟨by decide, by decide⟩))) rd_plus) ev_int rd_plus) ev_int (rd_timesB (.inr ⟨by decide, by decide⟩))) ev_int (rd_mod (by decide))) ?_)
  have b0 := drawn_lo ns k
  have b1 := drawn_hi ns k
  have e : (cellF ns k + 7919 * k + 1) * 48271 % 2147483647 = drawnF ns k := rfl
  rw [e]
  refine as_ret (ev_op (ev_op (ev_op (ev_op (ev_op (ev_var rfl) (ev_var rfl) (rd_timesB (.inl ⟨by omega, by omega⟩))) (ev_op ev_int (ev_var rfl) (rd_timesB (.inl ⟨by decide, by decide⟩))) rd_plus) (ev_var rfl) rd_plus) ev_int (rd_mod (by decide))) (ev_var rfl) (rd_mod hm)) rfl

def F_move_l (ds : List PyData) (o : Out) : Prop := ∃ ns at_ size even, ds = [scrD ns, .int at_, .int (size : Nat), .bool even] ∧ 0 ≤ at_ ∧ at_ < 500 ∧ 1 ≤ size ∧ size ≤ 10 ∧ o = .rt (moveD (moveF tab0 ns at_ size even))
theorem len_move_l : ∀ ds o, F_move_l ds o → ds.length = 4 := fun _ _ ⟨_, _, _, _, h, _⟩ => by rw [h]; rfl
/-! move_l: slots 0 _law_script, 1 _law_at, 2 _law_size, 3 _law_even, 4 _law_k, 5 _law_cells, 6 _law_takes, 7 _law_gives, 8 _law_left, 9 _law_cell (10) -/
def t_move_l (K : PySem.W.Frag) (E : XK)  : TS :=
    (tSeq (tAsg (tLc (iRng1 (tCons (tVar 2) tNil)) (gName 4) tYes (tCallS (SpD K F_mixed_l) (WE (fun _ _ _ _ => False)) (tCons (tVar 0) (tCons (tOp (rAddA K) (tVar 1) (tVar 4)) (tCons (tC (.int 25)) tNil)))) [4]) (gName 5))
    (tSeq (tAsg (tLc (iList K (tVar 5)) (gName 9) tYes (tOp (rIx K) (tLst (tCons (tC (.int 0)) (tCons (tC (.int 0)) (tCons (tC (.int 1)) (tCons (tC (.int 1)) (tCons (tC (.int 2)) tNil)))))) (tOp rModA (tVar 9) (tC (.int 5)))) [9]) (gName 6))
    (tSeq (tAsg (tLc (iList K (tVar 5)) (gName 9) tYes (tOp (rIx K) (tLst (tCons (tC (.int 0)) (tCons (tC (.int 0)) (tCons (tC (.int 1)) (tCons (tC (.int 1)) (tCons (tC (.int 2)) tNil)))))) (tOp rDivA (tVar 9) (tC (.int 5)))) [9]) (gName 7))
    (tSeq (tIfS (tB (tVar 3)) (tSeq (tAsg (tLc (iRng1 (tCons (tVar 2) tNil)) (gName 4) tYes (tC (.int 0)) [4]) (gName 7))
    (tSeq (tAsg (tCallS (SpD K F_mixed_l) (WE (fun cls d _ H => E cls d H)) (tCons (tVar 0) (tCons (tOp (rAddA K) (tVar 1) (tC (.int 4))) (tCons (tOp rPowA (tC (.int 4)) (tC (.int 8))) tNil)))) (gName 8))
    (tFor (iRng1 (tCons (tCB (rSum K) (tCons (tVar 6) tNil)) tNil)) (gName 4) (tSeq (tAsg (tOp (rAddA K) (tOp (rIx K) (tVar 7) (tOp rModA (tVar 8) (tVar 2))) (tC (.int 1))) (gSub (tVar 7) (tOp rModA (tVar 8) (tVar 2)) rSetL))
    (tAsg (tOp rDivA (tVar 8) (tVar 2)) (gName 8)))))) tNext)
    (tRet (tTup (tCons (tCB (rTupA K) (tCons (tVar 6) tNil)) (tCons (tCB (rTupA K) (tCons (tVar 7) tNil)) tNil))))))))

theorem sem_move_l {K : PySem.W.Frag} {E : XK} {ds : List PyData} {o : Out} (h : F_move_l ds o) : As K E (t_move_l K E) (slots0 10 ds) (finP o) := by
  obtain ⟨ns, at_, size, even, rfl, h0, h1, hs, hs2, rfl⟩ := h
  have hcz : ((cellsF ns at_ size).map PyData.int).length ≤ sizeLine := by
    unfold cellsF
    rw [List.length_map, List.length_map, List.length_range]
    exact small_line (by omega)
  -- cells
  refine as_to (δ1 := [.d (scrD ns), .d (.int at_), .d (.int (size : Nat)), .d (.bool even), .no, .d (.list ((cellsF ns at_ size).map .int)), .no, .no, .no, .no]) (as_set (ev_to (en_map (fun i => .int (mixedF ns (at_ + i) 25)) (ei_rng1 (ea_cons (ev_var rfl) ea_nil) (by omega) (by omega)) (nums_line (by omega)) (gw1 4) (fun i d hd => ?_)).ev ?_) rfl) ?_
  · obtain ⟨hi, rfl⟩ := nums_get hd
    refine ag_name ?_
    rw [Int.zero_add]
    exact ev_call (ea_cons (ev_var (x := scrD ns) rfl) (ea_cons (ev_op (ev_var rfl) (ev_var rfl) rd_plus) (ea_cons ev_int ea_nil))) ⟨ns, _, _, rfl, by omega, by omega, by decide, rfl⟩
  · rw [nums_len]
    unfold cellsF
    rw [List.map_map]
    rfl
  have htl : tab0.length = 5 := rfl
  have hta : ∀ x ∈ tab0, 0 ≤ x ∧ x ≤ 9 := by decide
  have hrow : ∀ f : Int → Int, (∀ c, 0 ≤ c → c < 25 → 0 ≤ f c ∧ f c < 5) → RowOk size 9 (tabRow tab0 f (cellsF ns at_ size)) := fun f hf => tab_ok htl hta hf
  have hcell : ∀ (i : Nat) (d : PyData), ((cellsF ns at_ size).map PyData.int)[i]? = some d → d = .int ((cellsF ns at_ size).getD i 0) ∧ 0 ≤ (cellsF ns at_ size).getD i 0 ∧ (cellsF ns at_ size).getD i 0 < 25 := fun i d hd => by
    obtain ⟨z, hz, rfl⟩ := row_get' hd
    have hm := cells_get (List.mem_of_getElem? hz)
    rw [List.getD_eq_getElem?_getD, hz]
    exact ⟨rfl, hm⟩
  have t1 := hrow (· % 5) fun c a b => ⟨Int.emod_nonneg _ (by decide), Int.emod_lt_of_pos _ (by decide)⟩
  have t2 := hrow (· / 5) fun c a b => ⟨by omega, by omega⟩
  unfold moveF
  generalize htk : tabRow tab0 (· % 5) (cellsF ns at_ size) = tk at t1 ⊢
  generalize hgv : tabRow tab0 (· / 5) (cellsF ns at_ size) = gv at t2 ⊢
  -- takes, gives by the table
  refine as_to (δ1 := [.d (scrD ns), .d (.int at_), .d (.int (size : Nat)), .d (.bool even), .no, .d (.list ((cellsF ns at_ size).map .int)), .d (.list (tk.map .int)), .no, .no, .no]) (as_set (ev_to (en_map (fun i => .int (tab0.getD ((cellsF ns at_ size).getD i 0 % 5).toNat 0)) (ei_list (ev_var rfl)) hcz (gw1 9) (fun i d hd => ?_)).ev ?_) rfl) ?_
  · obtain ⟨rfl, c0, c1⟩ := hcell i d hd
    exact ag_name (ev_op (en_lst (ea_cons ev_int (ea_cons ev_int (ea_cons ev_int (ea_cons ev_int (ea_cons ev_int ea_nil))))) (by decide)).ev (ev_op (ev_var rfl) ev_int (rd_mod (by decide))) (rd_ixL (at_row (l := tab0) (Int.emod_nonneg _ (by decide)) (by rw [htl]; exact Int.emod_lt_of_pos _ (by decide)))))
  · rw [← htk, List.length_map, map_range (cellsF ns at_ size) 0 fun c => PyData.int (tab0.getD (c % 5).toNat 0)]
    unfold tabRow
    rw [List.map_map]
    rfl
  refine as_to (δ1 := [.d (scrD ns), .d (.int at_), .d (.int (size : Nat)), .d (.bool even), .no, .d (.list ((cellsF ns at_ size).map .int)), .d (.list (tk.map .int)), .own (gv.map .int), .no, .no]) (as_setN (en_to (en_map (fun i => .int (tab0.getD ((cellsF ns at_ size).getD i 0 / 5).toNat 0)) (ei_list (ev_var rfl)) hcz (gw1 9) (fun i d hd => ?_)) ?_) rfl) ?_
  · obtain ⟨rfl, c0, c1⟩ := hcell i d hd
    exact ag_name (ev_op (en_lst (ea_cons ev_int (ea_cons ev_int (ea_cons ev_int (ea_cons ev_int (ea_cons ev_int ea_nil))))) (by decide)).ev (ev_op (ev_var rfl) ev_int (rd_quo (b := 30) (by decide) (by decide) (by decide) (by decide))) (rd_ixL (at_row (l := tab0) (by omega) (by rw [htl]; omega))))
  · rw [← hgv, List.length_map, map_range (cellsF ns at_ size) 0 fun c => PyData.int (tab0.getD (c / 5).toNat 0)]
    unfold tabRow
    rw [List.map_map]
    rfl
  -- as many as it takes
  refine as_toQ (Q := fun δ1 => ∃ z4 z9, δ1 = [.d (scrD ns), .d (.int at_), .d (.int (size : Nat)), .d (.bool even), z4, .d (.list ((cellsF ns at_ size).map .int)), .d (.list (tk.map .int)), .own ((if even then pour size tk.sum.toNat (List.replicate size 0) (mixedF ns (at_ + 4) 65536) else gv).map .int), z9, .no]) ?_ ?_
  · refine as_if (et_B (ev_var rfl)) (fun he => ?_) (fun he => as_next ⟨_, ⟨.no, .no, by rw [he]; rfl⟩, rfl⟩)
    subst he
    have hsum := sum_le _ t1.2
    have hsz : (size : Int) ≤ 10 := by omega
    have hsm : 9 * (tk.length : Int) ≤ 90 := by rw [t1.1]; omega
    refine as_to (δ1 := [.d (scrD ns), .d (.int at_), .d (.int (size : Nat)), .d (.bool true), .no, .d (.list ((cellsF ns at_ size).map .int)), .d (.list (tk.map .int)), .own ((List.replicate size (0 : Int)).map .int), .no, .no]) (as_setN (en_to (en_map (fun i => .int 0) (ei_rng1 (ea_cons (ev_var rfl) ea_nil) (by omega) (by omega)) (nums_line (by omega)) (gw1 4) (fun i d hd => ag_name ev_int)) ?_) rfl) ?_
    · rw [nums_len, List.map_replicate, Int.toNat_natCast]
      apply List.ext_getElem?
      intro k
      rw [List.getElem?_map, List.getElem?_replicate]
      by_cases hk : k < size
      · rw [List.getElem?_range hk, if_pos hk]; rfl
      · rw [List.getElem?_eq_none_iff.mpr (by rw [List.length_range]; omega), if_neg hk]; rfl
    refine as_to (δ1 := [.d (scrD ns), .d (.int at_), .d (.int (size : Nat)), .d (.bool true), .no, .d (.list ((cellsF ns at_ size).map .int)), .d (.list (tk.map .int)), .own ((List.replicate size (0 : Int)).map .int), .d (.int (mixedF ns (at_ + 4) 65536)), .no]) (as_set (ev_call (ea_cons (ev_var (x := scrD ns) rfl) (ea_cons (ev_op (ev_var rfl) ev_int rd_plus) (ea_cons (ev_op ev_int ev_int (rd_pow ⟨by decide, by decide, by decide⟩)) ea_nil))) ⟨ns, at_ + 4, 65536, rfl, by omega, by omega, by decide, rfl⟩) rfl) ?_
    generalize hg0 : pour size tk.sum.toNat (List.replicate size 0) (mixedF ns (at_ + 4) 65536) = res
    refine as_for (ei_rng1 (ea_cons (ev_cb (ea_cons (ev_var (x := .list (tk.map .int)) rfl) ea_nil) rc_sum) ea_nil) (by omega) (by omega)) (fun i δ' => ∃ z4 g l, δ' = [.d (scrD ns), .d (.int at_), .d (.int (size : Nat)), .d (.bool true), z4, .d (.list ((cellsF ns at_ size).map .int)), .d (.list (tk.map .int)), .own (g.map .int), .d (.int l), .no] ∧ g.length = size ∧ pour size (tk.sum.toNat - i) g l = res) ⟨.no, _, _, rfl, List.length_replicate, hg0⟩ (fun i d δ' hd hp => ?_) (fun δ' hp => ?_)
    · obtain ⟨z4, g, l, rfl, hgl, hpo⟩ := hp
      obtain ⟨hi, rfl⟩ := nums_get hd
      have m0 : 0 ≤ l % (size : Int) := Int.emod_nonneg _ (by omega)
      have m1 : l % (size : Int) < g.length := by rw [hgl]; exact Int.emod_lt_of_pos _ (by omega)
      refine ag_name (as_seq (as_setI (xs := g.map .int) rfl (ev_borrow (i := 7) (xs := g.map .int) rfl (ev_op (ev_op (ev_var rfl) (ev_op (ev_var rfl) (ev_var rfl) (rd_mod (by omega))) (rd_ixL (at_row m0 m1))) ev_int rd_plus) rfl) (ev_op (ev_var rfl) (ev_var rfl) (rd_mod (by omega))) (ix_of m0 (by rw [List.length_map]; exact m1)) ?_))
      refine as_set (ev_op (ev_var rfl) (ev_var rfl) (rd_quo (b := 30) (by omega) (by omega) (by decide) (by decide))) ⟨_, _, _, by rw [map_set_int]; rfl, by rw [List.length_set]; exact hgl, ?_⟩
      rw [← hpo, show tk.sum.toNat - i = (tk.sum.toNat - (i + 1)) + 1 by omega]
      rfl
    · obtain ⟨z4, g, l, rfl, hgl, hpo⟩ := hp
      rw [nums_len, Nat.sub_self] at hpo
      exact ⟨_, ⟨z4, _, by rw [← hpo]; rfl⟩, rfl⟩
  · rintro δ1 ⟨z4, z9, rfl⟩
    refine as_freeze (i := 7) rfl (as_ret (ev_tup (ea_cons (ev_cb (ea_cons (ev_var rfl) ea_nil) rc_tup) (ea_cons (ev_cb (ea_cons (ev_var rfl) ea_nil) rc_tup) ea_nil)) (by show 2 ≤ sizeLine; decide)) ?_)
    rfl

def F_net_l (ds : List PyData) (o : Out) : Prop := ∃ ns at_, ds = [scrD ns, .int at_] ∧ 0 ≤ at_ ∧ at_ < 300 ∧ o = .rt (netD (sizeF ns at_) (movesF tab0 ns at_))
theorem len_net_l : ∀ ds o, F_net_l ds o → ds.length = 2 := fun _ _ ⟨_, _, h, _⟩ => by rw [h]; rfl
/-! net_l: slots 0 _law_script, 1 _law_at, 2 _law_size, 3 _law_many, 4 _law_even, 5 _law_k (6) -/
def t_net_l (K : PySem.W.Frag) (E : XK)  : TS :=
    (tSeq (tAsg (tOp (rAddA K) (tC (.int 1)) (tCallS (SpD K F_mixed_l) (WE (fun cls d _ H => E cls d H)) (tCons (tVar 0) (tCons (tVar 1) (tCons (tC (.int 3)) tNil))))) (gName 2))
    (tSeq (tAsg (tCallS (SpD K F_mixed_l) (WE (fun cls d _ H => E cls d H)) (tCons (tVar 0) (tCons (tOp (rAddA K) (tVar 1) (tC (.int 1))) (tCons (tC (.int 5)) tNil)))) (gName 3))
    (tSeq (tIfS (tTest (tOp (rEqD K) (tCallS (SpD K F_mixed_l) (WE (fun cls d _ H => E cls d H)) (tCons (tVar 0) (tCons (tOp (rAddA K) (tVar 1) (tC (.int 2))) (tCons (tC (.int 6)) tNil)))) (tC (.int 5)))) (tAsg (tC (.int 4)) (gName 2)) tNext)
    (tSeq (tAsg (tOp (rEqD K) (tCallS (SpD K F_mixed_l) (WE (fun cls d _ H => E cls d H)) (tCons (tVar 0) (tCons (tOp (rAddA K) (tVar 1) (tC (.int 3))) (tCons (tC (.int 2)) tNil)))) (tC (.int 1))) (gName 4))
    (tRet (tTup (tCons (tVar 2) (tCons (tCB (rTupA K) (tCons (tLc (iRng1 (tCons (tVar 3) tNil)) (gName 5) tYes (tCallS (SpD K F_move_l) (WE (fun _ _ _ _ => False)) (tCons (tVar 0) (tCons (tOp (rAddA K) (tOp (rAddA K) (tVar 1) (tC (.int 4))) (tOp (rMulA K) (tC (.int 5)) (tVar 5))) (tCons (tVar 2) (tCons (tVar 4) tNil))))) [5]) tNil)) tNil))))))))

theorem sem_net_l {K : PySem.W.Frag} {E : XK} {ds : List PyData} {o : Out} (h : F_net_l ds o) : As K E (t_net_l K E) (slots0 6 ds) (finP o) := by
  obtain ⟨ns, at_, rfl, h0, h1, rfl⟩ := h
  have b3 := mixed_lo ns at_ (many := 3) (by decide)
  have b5 := mixed_lo ns (at_ + 1) (many := 5) (by decide)
  have hz := size_ok ns at_
  have hm := many_ok ns at_
  refine as_seq (as_set (x := .int (1 + mixedF ns at_ 3)) (ev_op ev_int (ev_call (ea_cons (ev_var (x := scrD ns) rfl) (ea_cons (ev_var rfl) (ea_cons ev_int ea_nil))) ⟨ns, _, _, rfl, h0, by omega, by decide, rfl⟩) rd_plus) ?_)
  refine as_seq (as_set (x := .int (manyF ns at_ : Nat)) (ev_to (ev_call (ea_cons (ev_var (x := scrD ns) rfl) (ea_cons (ev_op (ev_var rfl) ev_int rd_plus) (ea_cons ev_int ea_nil))) ⟨ns, _, _, rfl, by omega, by omega, by decide, rfl⟩) ?_) ?_)
  · unfold manyF
    rw [Int.toNat_of_nonneg b5]
  refine as_to (δ1 := [.d (scrD ns), .d (.int at_), .d (.int (sizeF ns at_ : Nat)), .d (.int (manyF ns at_ : Nat)), .no, .no]) ?_ ?_
  · refine as_if (et_test (ev_op (ev_call (ea_cons (ev_var (x := scrD ns) rfl) (ea_cons (ev_op (ev_var rfl) ev_int rd_plus) (ea_cons ev_int ea_nil))) ⟨ns, _, _, rfl, by omega, by omega, by decide, rfl⟩) ev_int (rd_eq rfl rfl))) (fun hb => ?_) (fun hb => ?_)
    · rw [eqv_int] at hb
      have e : sizeF ns at_ = 4 := by
        unfold sizeF
        rw [if_pos (of_decide_eq_true hb)]
      rw [e]
      exact as_set ev_int rfl
    · rw [eqv_int] at hb
      have e : ((sizeF ns at_ : Nat) : Int) = 1 + mixedF ns at_ 3 := by
        unfold sizeF
        rw [if_neg (of_decide_eq_false hb)]
        omega
      rw [e]
      exact as_next rfl
  refine as_seq (as_set (x := .bool (evenF ns at_)) (ev_to (ev_op (ev_call (ea_cons (ev_var (x := scrD ns) rfl) (ea_cons (ev_op (ev_var rfl) ev_int rd_plus) (ea_cons ev_int ea_nil))) ⟨ns, _, _, rfl, by omega, by omega, by decide, rfl⟩) ev_int (rd_eq rfl rfl)) (by rw [eqv_int]; rfl)) ?_)
  refine as_ret (ev_tup (ea_cons (ev_var rfl) (ea_cons (ev_to (ev_cb (ea_cons (en_map (fun i => moveD (moveF tab0 ns (at_ + 4 + 5 * i) (sizeF ns at_) (evenF ns at_))) (ei_rng1 (ea_cons (ev_var rfl) ea_nil) (by omega) (by omega)) (nums_line (by omega)) (gw1 5) (fun i d hd => ?_)).ev ea_nil) rc_tup) ?_) ea_nil)) (by show 2 ≤ sizeLine; decide)) rfl
  · obtain ⟨hi, rfl⟩ := nums_get hd
    refine ag_name ?_
    rw [Int.zero_add]
    exact ev_call (ea_cons (ev_var (x := scrD ns) rfl) (ea_cons (ev_op (ev_op (ev_var rfl) ev_int rd_plus) (ev_op ev_int (ev_var rfl) (rd_timesB (.inl ⟨by decide, by decide⟩))) rd_plus) (ea_cons (ev_var rfl) (ea_cons (ev_var rfl) ea_nil)))) ⟨ns, _, _, _, rfl, by omega, by omega, hz.1, by omega, rfl⟩
  · rw [nums_len, Int.toNat_natCast]
    unfold movesF
    rw [List.map_map]
    rfl

def F_hoard_l (ds : List PyData) (o : Out) : Prop := ∃ ns at_ size most, ds = [scrD ns, .int at_, .int (size : Nat), .int most] ∧ 0 ≤ at_ ∧ at_ < 500 ∧ size ≤ 100 ∧ 0 ≤ most ∧ o = .rt (rowD (hoardF ns at_ size most))
theorem len_hoard_l : ∀ ds o, F_hoard_l ds o → ds.length = 4 := fun _ _ ⟨_, _, _, _, h, _⟩ => by rw [h]; rfl
/-! hoard_l: slots 0 _law_script, 1 _law_at, 2 _law_size, 3 _law_most, 4 _law_k (5) -/
def t_hoard_l (K : PySem.W.Frag) (E : XK)  : TS :=
    (tRet (tCB (rTupA K) (tCons (tLc (iRng1 (tCons (tVar 2) tNil)) (gName 4) tYes (tCallS (SpD K F_mixed_l) (WE (fun _ _ _ _ => False)) (tCons (tVar 0) (tCons (tOp (rAddA K) (tVar 1) (tVar 4)) (tCons (tOp (rAddA K) (tVar 3) (tC (.int 1))) tNil)))) [4]) tNil)))

theorem sem_hoard_l {K : PySem.W.Frag} {E : XK} {ds : List PyData} {o : Out} (h : F_hoard_l ds o) : As K E (t_hoard_l K E) (slots0 5 ds) (finP o) := by
  obtain ⟨ns, at_, size, most, rfl, h0, h1, hs, hm, rfl⟩ := h
  refine as_ret (ev_to (ev_cb (ea_cons (en_map (fun i => .int (mixedF ns (at_ + i) (most + 1))) (ei_rng1 (ea_cons (ev_var rfl) ea_nil) (by omega) (by omega)) (nums_line (by omega)) (gw1 4) (fun i d hd => ?_)).ev ea_nil) rc_tup) ?_) rfl
  · obtain ⟨hi, rfl⟩ := nums_get hd
    refine ag_name ?_
    rw [Int.zero_add]
    exact ev_call (ea_cons (ev_var (x := scrD ns) rfl) (ea_cons (ev_op (ev_var rfl) (ev_var rfl) rd_plus) (ea_cons (ev_op (ev_var rfl) ev_int rd_plus) ea_nil))) ⟨ns, _, _, rfl, by omega, by omega, by omega, rfl⟩
  · rw [nums_len]
    unfold rowD hoardF
    rw [List.map_map]
    rfl

def F_due_l (ds : List PyData) (o : Out) : Prop := ∃ n n2 ms ms2, ds = [netD n ms, netD n2 ms2] ∧ n ≤ 100 ∧ n2 ≤ 100 ∧ Short ms ∧ Short ms2 ∧ o = .rt (netD (n + n2) (besideM n n2 ms ms2))
theorem len_due_l : ∀ ds o, F_due_l ds o → ds.length = 2 := fun _ _ ⟨_, _, _, _, h, _⟩ => by rw [h]; rfl
def backM (n2 : Nat) (m : List Int × List Int) : List Int × List Int := (m.1 ++ List.replicate n2 0, m.2 ++ List.replicate n2 0)
def aheadM (n : Nat) (m : List Int × List Int) : List Int × List Int := (List.replicate n 0 ++ m.1, List.replicate n 0 ++ m.2)
theorem beside_eq (n n2 : Nat) (ms ms2 : List (List Int × List Int)) : besideM n n2 ms ms2 = ms.map (backM n2) ++ ms2.map (aheadM n) := rfl
/-! due_l: slots 0 _law_one, 1 _law_other, 2 _law_moves, 3 _law_move_here (4) -/
def t_due_l (K : PySem.W.Frag) (E : XK)  : TS :=
    (tSeq (tAsg (tLst tNil) (gName 2))
    (tSeq (tFor (iTup K (tOp (rIx K) (tVar 0) (tC (.int 1)))) (gName 3) (tDrop (tBM K "list" rAppend (tVar 2) (tCons (tTup (tCons (tOp (rAddA K) (tOp (rIx K) (tVar 3) (tC (.int 0))) (tOp (rMulT K) (tTup (tCons (tC (.int 0)) tNil)) (tOp (rIx K) (tVar 1) (tC (.int 0))))) (tCons (tOp (rAddA K) (tOp (rIx K) (tVar 3) (tC (.int 1))) (tOp (rMulT K) (tTup (tCons (tC (.int 0)) tNil)) (tOp (rIx K) (tVar 1) (tC (.int 0))))) tNil))) tNil))))
    (tSeq (tFor (iTup K (tOp (rIx K) (tVar 1) (tC (.int 1)))) (gName 3) (tDrop (tBM K "list" rAppend (tVar 2) (tCons (tTup (tCons (tOp (rAddA K) (tOp (rMulT K) (tTup (tCons (tC (.int 0)) tNil)) (tOp (rIx K) (tVar 0) (tC (.int 0)))) (tOp (rIx K) (tVar 3) (tC (.int 0)))) (tCons (tOp (rAddA K) (tOp (rMulT K) (tTup (tCons (tC (.int 0)) tNil)) (tOp (rIx K) (tVar 0) (tC (.int 0)))) (tOp (rIx K) (tVar 3) (tC (.int 1)))) tNil))) tNil))))
    (tRet (tTup (tCons (tOp (rAddA K) (tOp (rIx K) (tVar 0) (tC (.int 0))) (tOp (rIx K) (tVar 1) (tC (.int 0)))) (tCons (tCB (rTupA K) (tCons (tVar 2) tNil)) tNil)))))))

theorem sem_due_l {K : PySem.W.Frag} {E : XK} {ds : List PyData} {o : Out} (h : F_due_l ds o) : As K E (t_due_l K E) (slots0 4 ds) (finP o) := by
  obtain ⟨n, n2, ms, ms2, rfl, h1, h2, s1, s2, rfl⟩ := h
  have l1 := s1.1
  have l2 := s2.1
  refine as_seq (as_setN (xs := []) (en_lst ea_nil (Nat.zero_le _)) ?_)
  refine as_toQ (Q := fun δ' => ∃ z3, δ' = [.d (netD n ms), .d (netD n2 ms2), .own ((ms.map (backM n2)).map moveD), z3]) (as_for (ei_tup (net_moves rfl)) (fun i δ' => ∃ z3, δ' = [.d (netD n ms), .d (netD n2 ms2), .own (((ms.take i).map (backM n2)).map moveD), z3]) ⟨_, rfl⟩ (fun i d δ' hd hp => ?_) (fun δ' hp => ?_)) ?_
  · obtain ⟨z3, rfl⟩ := hp
    obtain ⟨m, hm, rfl⟩ := moves_get hd
    have hil : i < ms.length := (List.getElem?_eq_some_iff.mp hm).1
    obtain ⟨z1, z2⟩ := s1.2 m (List.mem_of_getElem? hm)
    refine ag_name (as_app (i := 2) (xs := ((ms.take i).map (backM n2)).map moveD) (x := moveD (backM n2 m)) rfl (ev_tup (xs := [rowD (m.1 ++ List.replicate n2 0), rowD (m.2 ++ List.replicate n2 0)]) (ea_cons (ev_catR (ev_op (x := moveD m) (ev_var rfl) ev_int (rd_ixT rfl)) (ev_zeros (net_size rfl) h2) (by omega) (by rw [List.length_replicate]; omega)) (ea_cons (ev_catR (ev_op (x := moveD m) (ev_var rfl) ev_int (rd_ixT rfl)) (ev_zeros (net_size rfl) h2) (by omega) (by rw [List.length_replicate]; omega)) ea_nil)) (by show 2 ≤ sizeLine; decide)) ?_ ⟨.d (moveD m), ?_⟩)
    · rw [List.length_map, List.length_map, List.length_take]
      exact Nat.lt_of_lt_of_le (show min i ms.length < 100000 by omega) (by decide)
    · rw [List.take_add_one, hm, Option.toList_some, List.map_append, List.map_append]
      rfl
  · obtain ⟨z3, rfl⟩ := hp
    rw [List.length_map, List.take_of_length_le (Nat.le_refl _)]
    exact ⟨_, ⟨z3, rfl⟩, rfl⟩
  rintro δ' ⟨z3, rfl⟩
  refine as_toQ (Q := fun δ' => ∃ z3, δ' = [.d (netD n ms), .d (netD n2 ms2), .own ((besideM n n2 ms ms2).map moveD), z3]) (as_for (ei_tup (net_moves rfl)) (fun i δ' => ∃ z3, δ' = [.d (netD n ms), .d (netD n2 ms2), .own ((ms.map (backM n2) ++ (ms2.take i).map (aheadM n)).map moveD), z3]) ⟨_, by rw [List.take_zero, List.map_nil, List.append_nil]⟩ (fun i d δ' hd hp => ?_) (fun δ' hp => ?_)) ?_
  · obtain ⟨z3, rfl⟩ := hp
    obtain ⟨m, hm, rfl⟩ := moves_get hd
    have hil : i < ms2.length := (List.getElem?_eq_some_iff.mp hm).1
    obtain ⟨z1, z2⟩ := s2.2 m (List.mem_of_getElem? hm)
    refine ag_name (as_app (i := 2) (xs := (ms.map (backM n2) ++ (ms2.take i).map (aheadM n)).map moveD) (x := moveD (aheadM n m)) rfl (ev_tup (xs := [rowD (List.replicate n 0 ++ m.1), rowD (List.replicate n 0 ++ m.2)]) (ea_cons (ev_catR (ev_zeros (net_size rfl) h1) (ev_op (x := moveD m) (ev_var rfl) ev_int (rd_ixT rfl)) (by rw [List.length_replicate]; omega) (by omega)) (ea_cons (ev_catR (ev_zeros (net_size rfl) h1) (ev_op (x := moveD m) (ev_var rfl) ev_int (rd_ixT rfl)) (by rw [List.length_replicate]; omega) (by omega)) ea_nil)) (by show 2 ≤ sizeLine; decide)) ?_ ⟨.d (moveD m), ?_⟩)
    · rw [List.length_map, List.length_append, List.length_map, List.length_map, List.length_take]
      exact Nat.lt_of_lt_of_le (show ms.length + min i ms2.length < 100000 by omega) (by decide)
    · have e : (ms.map (backM n2) ++ (ms2.take (i + 1)).map (aheadM n)).map moveD = (ms.map (backM n2) ++ (ms2.take i).map (aheadM n)).map moveD ++ [moveD (aheadM n m)] := by
        rw [List.take_add_one, hm]
        simp
      rw [e]
      rfl
  · obtain ⟨z3, rfl⟩ := hp
    rw [List.length_map, List.take_of_length_le (Nat.le_refl _)]
    exact ⟨_, ⟨z3, rfl⟩, rfl⟩
  rintro δ' ⟨z3, rfl⟩
  refine as_freeze (i := 2) rfl (as_ret (ev_tup (xs := [.int ((n : Int) + n2), .tuple ((besideM n n2 ms ms2).map moveD)]) (ea_cons (ev_op (net_size rfl) (net_size rfl) rd_plus) (ea_cons (ev_cb (ea_cons (ev_var rfl) ea_nil) rc_tup) ea_nil)) (by show 2 ≤ sizeLine; decide)) ?_)
  show Out.rt (PyData.tuple [.int ((n + n2 : Nat) : Int), _]) = _
  rw [Int.natCast_add]

def F_law (ds : List PyData) (o : Out) : Prop := ∃ ns, ds = [scrD ns] ∧ ns.length ≤ 63 ∧ o = .rt (.bool true)
theorem len_law : ∀ ds o, F_law ds o → ds.length = 1 := fun _ _ ⟨_, h, _⟩ => by rw [h]; rfl
theorem holds_law (ns : List Int) (h : ns.length ≤ 63) : F_law [scrD ns] (.rt (.bool true)) := ⟨ns, rfl, h, rfl⟩
theorem run_run : PyData.eqv (.str (PySem.Str.ofString "run")) (.str (PySem.Str.ofString "run")) = true := by decide +kernel
theorem wall_run : PyData.eqv (.str (PySem.Str.ofString "wall")) (.str (PySem.Str.ofString "run")) = false := by decide +kernel
theorem run_shaped : SeqAt.shaped (.str (PySem.Str.ofString "run")) = true := by decide +kernel
theorem wall_shaped : SeqAt.shaped (.str (PySem.Str.ofString "wall")) = true := by decide +kernel
theorem pump_pump : PyData.eqv (.str (PySem.Str.ofString "pump")) (.str (PySem.Str.ofString "pump")) = true := by decide +kernel
theorem all_pump : PyData.eqv (.str (PySem.Str.ofString "all")) (.str (PySem.Str.ofString "pump")) = false := by decide +kernel
theorem pump_shaped : SeqAt.shaped (.str (PySem.Str.ofString "pump")) = true := by decide +kernel
theorem all_shaped : SeqAt.shaped (.str (PySem.Str.ofString "all")) = true := by decide +kernel
section
variable {K : PySem.W.Frag} {δ : List Sl}
/-- cover(..)[0] == 'run' -/
theorem ev_covers {te : TE} {ms : MvS} {st g : List Int} (h : Ev K te δ (coverD ms st g)) : Ev K (tOp (rEqD K) (tOp (rIx K) te (tC (.int 0))) (tC (.str (PySem.Str.ofString "run")))) δ (.bool (hitF ms st g).isSome) := by
  unfold coverD at h
  cases hx : hitF ms st g with
  | some x =>
    rw [hx] at h
    exact ev_to (ev_op (ev_op (z := .str (PySem.Str.ofString "run")) h ev_int (rd_ixT rfl)) ev_str (rd_eq run_shaped run_shaped)) (by rw [run_run]; rfl)
  | none =>
    rw [hx] at h
    exact ev_to (ev_op (ev_op (z := .str (PySem.Str.ofString "wall")) h ev_int (rd_ixT rfl)) ev_str (rd_eq wall_shaped run_shaped)) (by rw [wall_run]; rfl)
/-- all_of(..)[0] == 'pump' -/
theorem ev_pumps {te : TE} {ms : MvS} {x : List Int} (h : Ev K te δ (allD ms x)) : Ev K (tOp (rEqD K) (tOp (rIx K) te (tC (.int 0))) (tC (.str (PySem.Str.ofString "pump")))) δ (.bool (goF ms x).2.isSome) := by
  unfold allD at h
  cases hx : (goF ms x).2 with
  | some p =>
    rw [hx] at h
    exact ev_to (ev_op (ev_op (z := .str (PySem.Str.ofString "pump")) h ev_int (rd_ixT rfl)) ev_str (rd_eq pump_shaped pump_shaped)) (by rw [pump_pump]; rfl)
  | none =>
    rw [hx] at h
    exact ev_to (ev_op (ev_op (z := .str (PySem.Str.ofString "all")) h ev_int (rd_ixT rfl)) ev_str (rd_eq all_shaped pump_shaped)) (by rw [all_pump]; rfl)
theorem ev_take {te : TE} {r : List Int} (k : Nat) (h : Ev K te δ (rowD r)) : Ev K (tSl (rSlAll K) te tNoPart (tPart (tC (.int (k : Nat))))) δ (rowD (r.take k)) :=
  ev_to (ev_slT (xs := r.map .int) (lo := none) (hi := some ((k : Nat) : Int)) h eo_none (eo_some ev_int)) (by rw [cut_take]; unfold rowD; rw [List.map_take])
/-- tuple([(move[0][:k], move[1][:k]) for move in ..]) -/
theorem ev_cutM {tX : TE} {ms : MvS} (k v : Nat) (h : Ev K tX δ (.tuple (ms.map moveD))) (hl : ms.length ≤ 100) (hv : v < δ.length) :
    Ev K (tCB (rTupA K) (tCons (tLc (iTup K tX) (gName v) tYes (tTup (tCons (tSl (rSlAll K) (tOp (rIx K) (tVar v) (tC (.int 0))) tNoPart (tPart (tC (.int (k : Nat))))) (tCons (tSl (rSlAll K) (tOp (rIx K) (tVar v) (tC (.int 1))) tNoPart (tPart (tC (.int (k : Nat))))) tNil))) [v]) tNil)) δ (.tuple ((tkM k ms).map moveD)) := by
  refine ev_to (ev_cb (ea_cons (en_map (fun i => moveD ((ms.getD i ([], [])).1.take k, (ms.getD i ([], [])).2.take k)) (ei_tup h) (by rw [List.length_map]; exact small_line (by omega)) (gw1 v) (fun i d hd => ?_)).ev ea_nil) rc_tup) ?_
  · obtain ⟨m, hm, rfl⟩ := moves_get hd
    rw [List.getD_eq_getElem?_getD, hm, Option.getD_some]
    have hs : (δ.set v .no |>.set v (.d (moveD m)))[v]? = some (.d (moveD m)) := by
      rw [List.getElem?_set_self]
      rw [List.length_set]
      exact hv
    exact ag_name (ev_tup (xs := [rowD (m.1.take k), rowD (m.2.take k)]) (ea_cons (ev_take k (ev_op (x := moveD m) (ev_var hs) ev_int (rd_ixT rfl))) (ea_cons (ev_take k (ev_op (x := moveD m) (ev_var hs) ev_int (rd_ixT rfl))) ea_nil)) (by show 2 ≤ sizeLine; decide))
  · rw [List.length_map, map_range ms ([], []) fun m => moveD (m.1.take k, m.2.take k)]
    unfold tkM
    rw [List.map_map]
    rfl
end
theorem part_short {n : Nat} {ms : MvS} (P : PartN n ms) : Short ms := ⟨by have := P.m4; omega, fun m hm => by
  have := P.rows m hm
  have := P.n3
  omega⟩
theorem pair_take (L L2 : List (List Int)) (i : Nat) {u : List Int} (h : L[i]? = some u) : pairL (L.take (i + 1)) L2 = pairL (L.take i) L2 ++ L2.map fun v => u ++ v := by
  unfold pairL
  rw [List.take_add_one, h, Option.toList_some, List.flatMap_append, List.flatMap_cons, List.flatMap_nil, List.append_nil]
theorem pair_part (L L2 : List (List Int)) (i : Nat) : (pairL (L.take i) L2).length ≤ (pairL L L2).length := by
  conv => rhs; rw [← List.take_append_drop i L]
  unfold pairL
  rw [List.flatMap_append, List.length_append]
  omega
theorem rowsD_get {l : List (List Int)} {i : Nat} {d : PyData} (h : (l.map rowD)[i]? = some d) : ∃ x, l[i]? = some x ∧ d = rowD x := by
  rw [List.getElem?_map] at h
  cases e : l[i]? with
  | none => rw [e] at h; cases h
  | some k =>
    rw [e] at h
    exact ⟨k, rfl, (Option.some.inj h).symm⟩
theorem all_data {ms : MvS} {x : List Int} (h : (goF ms x).2 = none) : allD ms x = .tuple [.str (PySem.Str.ofString "all"), rowsL (isort lexL (goL ms x))] := by
  unfold allD
  rw [h]
  rfl
theorem all_shape (hs : List (List Int)) : SeqAt.shaped (.tuple [.str (PySem.Str.ofString "all"), rowsL hs]) = true := shaped_of (by
  show ((PyData.str (PySem.Str.ofString "all")).canLay0 && (PyData.canLayAll0 (hs.map rowD) && true)) = true
  rw [lay_rows, SeqAt.canLay_of_shaped all_shaped]
  rfl) (by
  have := depth_rows hs
  show max 0 (max (PyData.depthAll (hs.map rowD) + 1) 0) + 1 ≤ 64
  omega)
/-! law: slots 0 _law_script, 1 _law_one, 2 _law_other, 3 _law_net_here, 4 _law_starts, 5 _law_goals, 6 _law_here, 7 _law_there, 8 _law_first, 9 _law_second, 10 _law_whole, 11 _law_due_here, 12 _law_hoard_here, 13 _law_further, 14 _law_move_here (15) -/
def t_law (K : PySem.W.Frag) (E : XK) (a_NoHoard : Addr) (a_NoNet : Addr) (a_TooBig : Addr) : TS :=
    (tSeq (tAsg (tCallS (SpD K F_net_l) (WE (fun _ _ _ _ => False)) (tCons (tVar 0) (tCons (tC (.int 0)) tNil))) (gName 1))
    (tSeq (tAsg (tCallS (SpD K F_net_l) (WE (fun _ _ _ _ => False)) (tCons (tVar 0) (tCons (tC (.int 24)) tNil))) (gName 2))
    (tSeq (tIfS (tTest (tOp rGtA (tOp (rAddA K) (tOp (rIx K) (tVar 1) (tC (.int 0))) (tOp (rIx K) (tVar 2) (tC (.int 0)))) (tC (.int 4)))) (tAsg (tTup (tCons (tC (.int 1)) (tCons (tCB (rTupA K) (tCons (tLc (iTup K (tSl (rSlAll K) (tOp (rIx K) (tVar 2) (tC (.int 1))) tNoPart (tPart (tC (.int 2))))) (gName 14) tYes (tTup (tCons (tSl (rSlAll K) (tOp (rIx K) (tVar 14) (tC (.int 0))) tNoPart (tPart (tC (.int 1)))) (tCons (tSl (rSlAll K) (tOp (rIx K) (tVar 14) (tC (.int 1))) tNoPart (tPart (tC (.int 1)))) tNil))) [14]) tNil)) tNil))) (gName 2)) tNext)
    (tSeq (tIfS (tTest (tOp (rEqD K) (tOp (rIx K) (tVar 1) (tC (.int 0))) (tC (.int 4)))) (tAsg (tTup (tCons (tC (.int 3)) (tCons (tCB (rTupA K) (tCons (tLc (iTup K (tOp (rIx K) (tVar 1) (tC (.int 1)))) (gName 14) tYes (tTup (tCons (tSl (rSlAll K) (tOp (rIx K) (tVar 14) (tC (.int 0))) tNoPart (tPart (tC (.int 3)))) (tCons (tSl (rSlAll K) (tOp (rIx K) (tVar 14) (tC (.int 1))) tNoPart (tPart (tC (.int 3)))) tNil))) [14]) tNil)) tNil))) (gName 1)) tNext)
    (tSeq (tAsg (tCallS (SpD K (F_beside a_TooBig)) (WE (fun _ _ _ _ => False)) (tCons (tVar 1) (tCons (tVar 2) tNil))) (gName 3))
    (tSeq (tIfS (tOr (tTest (tOp (rNeD K) (tCallS (SpD K (F_checked a_NoNet)) (WE (fun _ _ _ _ => False)) (tCons (tVar 3) tNil)) (tVar 3))) (tTest (tOp (rNeD K) (tVar 3) (tCallS (SpD K F_due_l) (WE (fun _ _ _ _ => False)) (tCons (tVar 1) (tCons (tVar 2) tNil)))))) (tRet (tC (.bl false))) tNext)
    (tSeq (tAsg (tLst (tCons (tCallS (SpD K F_hoard_l) (WE (fun _ _ _ _ => False)) (tCons (tVar 0) (tCons (tC (.int 48)) (tCons (tOp (rIx K) (tVar 1) (tC (.int 0))) (tCons (tC (.int 2)) tNil))))) (tCons (tCallS (SpD K F_hoard_l) (WE (fun _ _ _ _ => False)) (tCons (tVar 0) (tCons (tC (.int 51)) (tCons (tOp (rIx K) (tVar 2) (tC (.int 0))) (tCons (tC (.int 2)) tNil))))) tNil))) (gName 4))
    (tSeq (tAsg (tLst (tCons (tCallS (SpD K F_hoard_l) (WE (fun _ _ _ _ => False)) (tCons (tVar 0) (tCons (tC (.int 54)) (tCons (tOp (rIx K) (tVar 1) (tC (.int 0))) (tCons (tC (.int 2)) tNil))))) (tCons (tCallS (SpD K F_hoard_l) (WE (fun _ _ _ _ => False)) (tCons (tVar 0) (tCons (tC (.int 57)) (tCons (tOp (rIx K) (tVar 2) (tC (.int 0))) (tCons (tC (.int 2)) tNil))))) tNil))) (gName 5))
    (tSeq (tAsg (tOp (rEqD K) (tOp (rIx K) (tCallS (SpD K (F_cover a_NoHoard)) (WE (fun _ _ _ _ => False)) (tCons (tVar 1) (tCons (tOp (rIx K) (tVar 4) (tC (.int 0))) (tCons (tOp (rIx K) (tVar 5) (tC (.int 0))) tNil)))) (tC (.int 0))) (tC (.str (PySem.Str.ofString "run")))) (gName 6))
    (tSeq (tAsg (tOp (rEqD K) (tOp (rIx K) (tCallS (SpD K (F_cover a_NoHoard)) (WE (fun _ _ _ _ => False)) (tCons (tVar 2) (tCons (tOp (rIx K) (tVar 4) (tC (.int 1))) (tCons (tOp (rIx K) (tVar 5) (tC (.int 1))) tNil)))) (tC (.int 0))) (tC (.str (PySem.Str.ofString "run")))) (gName 7))
    (tSeq (tIfS (tTest (tOp (rNeD K) (tOp (rEqD K) (tOp (rIx K) (tCallS (SpD K (F_cover a_NoHoard)) (WE (fun _ _ _ _ => False)) (tCons (tVar 3) (tCons (tOp (rAddA K) (tOp (rIx K) (tVar 4) (tC (.int 0))) (tOp (rIx K) (tVar 4) (tC (.int 1)))) (tCons (tOp (rAddA K) (tOp (rIx K) (tVar 5) (tC (.int 0))) (tOp (rIx K) (tVar 5) (tC (.int 1)))) tNil)))) (tC (.int 0))) (tC (.str (PySem.Str.ofString "run")))) (tAndV (tVar 6) (tVar 7)))) (tRet (tC (.bl false))) tNext)
    (tSeq (tAsg (tCallS (SpD K (F_all_of a_NoHoard)) (WE (fun _ _ _ _ => False)) (tCons (tVar 1) (tCons (tOp (rIx K) (tVar 4) (tC (.int 0))) tNil))) (gName 8))
    (tSeq (tAsg (tCallS (SpD K (F_all_of a_NoHoard)) (WE (fun _ _ _ _ => False)) (tCons (tVar 2) (tCons (tOp (rIx K) (tVar 4) (tC (.int 1))) tNil))) (gName 9))
    (tSeq (tAsg (tCallS (SpD K (F_all_of a_NoHoard)) (WE (fun _ _ _ _ => False)) (tCons (tVar 3) (tCons (tOp (rAddA K) (tOp (rIx K) (tVar 4) (tC (.int 0))) (tOp (rIx K) (tVar 4) (tC (.int 1)))) tNil))) (gName 10))
    (tSeq (tIfS (tOr (tTest (tOp (rEqD K) (tOp (rIx K) (tVar 8) (tC (.int 0))) (tC (.str (PySem.Str.ofString "pump"))))) (tTest (tOp (rEqD K) (tOp (rIx K) (tVar 9) (tC (.int 0))) (tC (.str (PySem.Str.ofString "pump")))))) (tRet (tOp (rEqD K) (tOp (rIx K) (tVar 10) (tC (.int 0))) (tC (.str (PySem.Str.ofString "pump"))))) tNext)
    (tSeq (tAsg (tLst tNil) (gName 11))
    (tSeq (tFor (iList K (tOp (rIx K) (tVar 8) (tC (.int 1)))) (gName 12) (tDrop (tBM K "list" rExtend (tVar 11) (tCons (tLc (iList K (tOp (rIx K) (tVar 9) (tC (.int 1)))) (gName 13) tYes (tOp (rAddA K) (tVar 12) (tVar 13)) [13]) tNil))))
    (tRet (tOp (rEqD K) (tVar 10) (tTup (tCons (tC (.str (PySem.Str.ofString "all"))) (tCons (tCB (rSortedA K) (tCons (tVar 11) tNil)) tNil))))))))))))))))))))))

theorem sem_law {K : PySem.W.Frag} {E : XK} (a_NoHoard a_NoNet a_TooBig : Addr) {ds : List PyData} {o : Out} (h : F_law ds o) : As K E (t_law K E a_NoHoard a_NoNet a_TooBig) (slots0 15 ds) (finP o) := by
  obtain ⟨ns, rfl, _, rfl⟩ := h
  have hgl := goN_line
  have z0 := size_ok ns 0
  have z24 := size_ok ns 24
  have q0 := mvs_len ns 0
  have q24 := mvs_len ns 24
  refine as_seq (as_set (x := netD (sizeF ns 0) (movesF tab0 ns 0)) (ev_call (ea_cons (ev_var (x := scrD ns) rfl) (ea_cons ev_int ea_nil)) ⟨ns, 0, rfl, by decide, by decide, rfl⟩) ?_)
  refine as_seq (as_set (x := netD (sizeF ns 24) (movesF tab0 ns 24)) (ev_call (ea_cons (ev_var (x := scrD ns) rfl) (ea_cons ev_int ea_nil)) ⟨ns, 24, rfl, by decide, by decide, rfl⟩) ?_)
  refine as_to (δ1 := [.d (scrD ns), .d (netD (sizeF ns 0) (movesF tab0 ns 0)), .d (netD (othN ns).1 (othN ns).2), .no, .no, .no, .no, .no, .no, .no, .no, .no, .no, .no, .no]) ?_ ?_
  · refine as_if (et_test (ev_op (ev_op (net_size rfl) (net_size rfl) rd_plus) ev_int rd_gt)) (fun hb => ?_) (fun hb => as_next ?_)
    · have hb := of_decide_eq_true hb
      have e : othN ns = (1, tkM 1 ((movesF tab0 ns 24).take 2)) := by
        unfold othN
        rw [if_pos (by omega)]
      rw [e]
      refine as_set (x := netD 1 (tkM 1 ((movesF tab0 ns 24).take 2))) (ev_tup (xs := [.int ((1 : Nat) : Int), .tuple ((tkM 1 ((movesF tab0 ns 24).take 2)).map moveD)]) (ea_cons ev_int (ea_cons (ev_cutM 1 14 (ms := (movesF tab0 ns 24).take 2) (ev_to (ev_slT (xs := (movesF tab0 ns 24).map moveD) (lo := none) (hi := some ((2 : Nat) : Int)) (net_moves rfl) eo_none (eo_some ev_int)) ?_) ?_ (by show 14 < 15; decide)) ea_nil)) (by show 2 ≤ sizeLine; decide)) rfl
      · rw [cut_take, List.map_take]
      · rw [List.length_take]
        omega
    · have hb := of_decide_eq_false hb
      have e : othN ns = (sizeF ns 24, movesF tab0 ns 24) := by
        unfold othN
        rw [if_neg (by omega)]
      rw [e]
      try rfl
  refine as_to (δ1 := [.d (scrD ns), .d (netD (oneN ns).1 (oneN ns).2), .d (netD (othN ns).1 (othN ns).2), .no, .no, .no, .no, .no, .no, .no, .no, .no, .no, .no, .no]) ?_ ?_
  · refine as_if (et_test (ev_op (net_size rfl) ev_int (rd_eq rfl rfl))) (fun hb => ?_) (fun hb => as_next ?_)
    · have hb : sizeF ns 0 = 4 := by
        rw [eqv_int] at hb
        have := of_decide_eq_true hb
        omega
      have e : oneN ns = (3, tkM 3 (movesF tab0 ns 0)) := by
        unfold oneN
        rw [if_pos hb]
      rw [e]
      exact as_set (x := netD 3 (tkM 3 (movesF tab0 ns 0))) (ev_tup (xs := [.int ((3 : Nat) : Int), .tuple ((tkM 3 (movesF tab0 ns 0)).map moveD)]) (ea_cons ev_int (ea_cons (ev_cutM 3 14 (ms := movesF tab0 ns 0) (net_moves rfl) (by omega) (by show 14 < 15; decide)) ea_nil)) (by show 2 ≤ sizeLine; decide)) rfl
    · have hb : sizeF ns 0 ≠ 4 := fun q => by
        rw [eqv_int] at hb
        have := of_decide_eq_false hb
        omega
      have e : oneN ns = (sizeF ns 0, movesF tab0 ns 0) := by
        unfold oneN
        rw [if_neg hb]
      rw [e]
      try rfl
  have P := one_part ns
  have P2 := oth_part ns
  have h4 := both_four ns
  generalize (oneN ns).1 = n at P h4 ⊢
  generalize (oneN ns).2 = ms at P ⊢
  generalize (othN ns).1 = n2 at P2 h4 ⊢
  generalize (othN ns).2 = ms2 at P2 ⊢
  have n1 := P.n1
  have n3 := P.n3
  have m1 := P2.n1
  have m3 := P2.n3
  have k4 := P.m4
  have k42 := P2.m4
  have hB : besideM n n2 ms ms2 = bsdM n n2 ms ms2 := rfl
  have hNB : NetOk (n + n2) 9 (bsdM n n2 ms ms2) := net_ok9' (by omega) (by omega) (by rw [bsd_len]; omega) (bsd_rows P P2) (bsd_t0 P P2) (bsd_g0 P P2)
  refine as_seq (as_set (x := netD (n + n2) (bsdM n n2 ms ms2)) (ev_call (ea_cons (ev_var (x := netD n ms) rfl) (ea_cons (ev_var (x := netD n2 ms2) rfl) ea_nil)) ⟨n, n2, ms, ms2, rfl, by omega, by omega, part_short P, part_short P2, by rw [if_neg (by omega)]; rfl⟩) ?_)
  have hsh := shaped_net (n + n2) (bsdM n n2 ms ms2)
  refine as_seq (as_if (b := false || false) (et_or (et_to (et_test (ev_op (ev_call (x := netD (n + n2) (bsdM n n2 ms ms2)) (ea_cons (ev_var (x := netD (n + n2) (bsdM n n2 ms ms2)) rfl) ea_nil) ⟨netD (n + n2) (bsdM n n2 ms ms2), rfl, cln_net _ _, by rw [netB_net hNB]; rfl⟩) (ev_var (x := netD (n + n2) (bsdM n n2 ms ms2)) rfl) (rd_ne hsh hsh))) (by rw [eqv_self hsh]; rfl))
    (fun _ => et_to (et_test (ev_op (ev_var (x := netD (n + n2) (bsdM n n2 ms ms2)) rfl) (ev_call (x := netD (n + n2) (bsdM n n2 ms ms2)) (ea_cons (ev_var (x := netD n ms) rfl) (ea_cons (ev_var (x := netD n2 ms2) rfl) ea_nil)) ⟨n, n2, ms, ms2, rfl, by omega, by omega, part_short P, part_short P2, rfl⟩) (rd_ne hsh hsh))) (by rw [eqv_self hsh]; rfl))) (fun z => nomatch z) (fun _ => as_next ?_))
  -- starts, goals
  have hx := hoard_ok ns 48 n (most := 2) (by decide)
  have hx2 := hoard_ok ns 51 n2 (most := 2) (by decide)
  have hg := hoard_ok ns 54 n (most := 2) (by decide)
  have hg2 := hoard_ok ns 57 n2 (most := 2) (by decide)
  refine as_seq (as_set (x := .list [rowD (hoardF ns 48 n 2), rowD (hoardF ns 51 n2 2)]) (en_lst (ea_cons (ev_call (x := rowD (hoardF ns 48 n 2)) (ea_cons (ev_var (x := scrD ns) rfl) (ea_cons ev_int (ea_cons (net_size rfl) (ea_cons ev_int ea_nil)))) ⟨ns, 48, n, 2, rfl, by decide, by decide, by omega, by decide, rfl⟩) (ea_cons (ev_call (x := rowD (hoardF ns 51 n2 2)) (ea_cons (ev_var (x := scrD ns) rfl) (ea_cons ev_int (ea_cons (net_size rfl) (ea_cons ev_int ea_nil)))) ⟨ns, 51, n2, 2, rfl, by decide, by decide, by omega, by decide, rfl⟩) ea_nil)) (by show 2 ≤ sizeLine; decide)).ev ?_)
  refine as_seq (as_set (x := .list [rowD (hoardF ns 54 n 2), rowD (hoardF ns 57 n2 2)]) (en_lst (ea_cons (ev_call (x := rowD (hoardF ns 54 n 2)) (ea_cons (ev_var (x := scrD ns) rfl) (ea_cons ev_int (ea_cons (net_size rfl) (ea_cons ev_int ea_nil)))) ⟨ns, 54, n, 2, rfl, by decide, by decide, by omega, by decide, rfl⟩) (ea_cons (ev_call (x := rowD (hoardF ns 57 n2 2)) (ea_cons (ev_var (x := scrD ns) rfl) (ea_cons ev_int (ea_cons (net_size rfl) (ea_cons ev_int ea_nil)))) ⟨ns, 57, n2, 2, rfl, by decide, by decide, by omega, by decide, rfl⟩) ea_nil)) (by show 2 ≤ sizeLine; decide)).ev ?_)
  generalize hoardF ns 48 n 2 = x at hx ⊢
  generalize hoardF ns 51 n2 2 = x2 at hx2 ⊢
  generalize hoardF ns 54 n 2 = g at hg ⊢
  generalize hoardF ns 57 n2 2 = g2 at hg2 ⊢
  have rx := hx.rp
  have rx2 := hx2.rp
  have l0 := hx.1
  have l2 := hx2.1
  have lg := hg.1
  have lg2 := hg2.1
  have rx3 := (rows_app hx hx2).rp
  have H := one_hy P hg
  have H2 := one_hy P2 hg2
  obtain ⟨G3, H3⟩ := two_hy P P2 h4 hg hg2
  have i0 : ∀ {δ : List Sl} {i : Nat} {a b : List Int}, δ[i]? = some (.d (.list [rowD a, rowD b])) → Ev K (tOp (rIx K) (tVar i) (tC (.int 0))) δ (rowD a) := fun e => ev_op (ev_var e) ev_int (rd_ixL rfl)
  have i1 : ∀ {δ : List Sl} {i : Nat} {a b : List Int}, δ[i]? = some (.d (.list [rowD a, rowD b])) → Ev K (tOp (rIx K) (tVar i) (tC (.int 1))) δ (rowD b) := fun e => ev_op (ev_var e) ev_int (rd_ixL rfl)
  refine as_seq (as_set (x := .bool (hitF ms x g).isSome) (ev_covers (ev_call (ea_cons (ev_var (x := netD n ms) rfl) (ea_cons (i0 (a := x) (b := x2) rfl) (ea_cons (i0 (a := g) (b := g2) rfl) ea_nil))) ⟨n, ms, x, g, 3, rfl, H, by omega, rx, rfl⟩)) ?_)
  refine as_seq (as_set (x := .bool (hitF ms2 x2 g2).isSome) (ev_covers (ev_call (ea_cons (ev_var (x := netD n2 ms2) rfl) (ea_cons (i1 (a := x) (b := x2) rfl) (ea_cons (i1 (a := g) (b := g2) rfl) ea_nil))) ⟨n2, ms2, x2, g2, 3, rfl, H2, by omega, rx2, rfl⟩)) ?_)
  have hhit := bsd_hit P P2 rx rx2 H H2 H3
  have hbs : ∀ b : Bool, SeqAt.shaped (.bool b) = true := fun b => by cases b <;> rfl
  refine as_seq (as_if (b := false) (et_to (et_test (ev_op (ev_covers (ev_call (x := coverD (bsdM n n2 ms ms2) (x ++ x2) (g ++ g2)) (ea_cons (ev_var (x := netD (n + n2) (bsdM n n2 ms ms2)) rfl) (ea_cons (ev_catR (i0 (a := x) (b := x2) rfl) (i1 (a := x) (b := x2) rfl) (by omega) (by omega)) (ea_cons (ev_catR (i0 (a := g) (b := g2) rfl) (i1 (a := g) (b := g2) rfl) (by omega) (by omega)) ea_nil))) ⟨n + n2, bsdM n n2 ms ms2, x ++ x2, g ++ g2, G3, rfl, H3, by rw [bsd_len]; omega, rx3, rfl⟩)) (ev_andV (ev_var (x := .bool (hitF ms x g).isSome) rfl) (fun _ => ev_var (x := .bool (hitF ms2 x2 g2).isSome) rfl)) (rd_ne (hbs _) (hbs _)))) ?_) (fun z => nomatch z) (fun _ => as_next ?_))
  · rw [hhit, eqv_self (hbs _)]
    try rfl
  have A := one_gh P hx
  have A2 := one_gh P2 hx2
  have A3 := two_gh P P2 h4 hx hx2
  refine as_seq (as_set (x := allD ms x) (ev_call (ea_cons (ev_var (x := netD n ms) rfl) (ea_cons (i0 (a := x) (b := x2) rfl) ea_nil)) ⟨n, ms, x, rfl, A, rfl⟩) ?_)
  refine as_seq (as_set (x := allD ms2 x2) (ev_call (ea_cons (ev_var (x := netD n2 ms2) rfl) (ea_cons (i1 (a := x) (b := x2) rfl) ea_nil)) ⟨n2, ms2, x2, rfl, A2, rfl⟩) ?_)
  refine as_seq (as_set (x := allD (bsdM n n2 ms ms2) (x ++ x2)) (ev_call (ea_cons (ev_var (x := netD (n + n2) (bsdM n n2 ms ms2)) rfl) (ea_cons (ev_catR (i0 (a := x) (b := x2) rfl) (i1 (a := x) (b := x2) rfl) (by omega) (by omega)) ea_nil)) ⟨n + n2, bsdM n n2 ms ms2, x ++ x2, rfl, A3, rfl⟩) ?_)
  refine as_seq (as_if (b := (goF ms x).2.isSome || (goF ms2 x2).2.isSome) (et_or (et_test (ev_pumps (ev_var (x := allD ms x) rfl))) (fun _ => et_test (ev_pumps (ev_var (x := allD ms2 x2) rfl)))) (fun hb => ?_) (fun hb => as_next ?_))
  · obtain ⟨p, hp⟩ := bsd_pump P P2 A A2 A3 rx rx2 fun q => by
      rw [q.1, q.2] at hb
      cases hb
    exact as_ret (ev_to (ev_pumps (ev_var (x := allD (bsdM n n2 ms ms2) (x ++ x2)) rfl)) (by rw [hp]; rfl)) rfl
  rw [Bool.or_eq_false_iff] at hb
  have e1 : (goF ms x).2 = none := by
    cases q : (goF ms x).2 with
    | none => rfl
    | some p => rw [q] at hb; cases hb.1
  have e2 : (goF ms2 x2).2 = none := by
    cases q : (goF ms2 x2).2 with
    | none => rfl
    | some p => rw [q] at hb; cases hb.2
  obtain ⟨e3, hsort, hlen, hlens⟩ := bsd_list P P2 A A2 A3 rx rx2 e1 e2
  have len1 : ∀ u ∈ isort lexL (goL ms x), u.length = n := fun u hu => (comes_row P.rn rx ((go_all_set A e1 u).mp ((isort_perm lexL _).mem_iff.mp hu))).1
  have len2 : ∀ u ∈ isort lexL (goL ms2 x2), u.length = n2 := fun u hu => (comes_row P2.rn rx2 ((go_all_set A2 e2 u).mp ((isort_perm lexL _).mem_iff.mp hu))).1
  have L2le : (isort lexL (goL ms2 x2)).length ≤ goN := by rw [isort_len]; exact go_len A2 e2
  rw [all_data e1, all_data e2, all_data e3, hsort]
  generalize isort lexL (goL ms x) = L at len1 hlen hlens ⊢
  generalize isort lexL (goL ms2 x2) = L2 at len2 L2le hlen hlens ⊢
  refine as_seq (as_setN (xs := []) (en_lst ea_nil (Nat.zero_le _)) ?_)
  have hap := all_shape (isort lexL (pairL L L2))
  refine as_toQ (Q := fun δ' => ∃ z12 z13, δ' = [.d (scrD ns), .d (netD n ms), .d (netD n2 ms2), .d (netD (n + n2) (bsdM n n2 ms ms2)), .d (.list [rowD x, rowD x2]), .d (.list [rowD g, rowD g2]), .d (.bool (hitF ms x g).isSome), .d (.bool (hitF ms2 x2 g2).isSome), .d (.tuple [.str (PySem.Str.ofString "all"), rowsL L]), .d (.tuple [.str (PySem.Str.ofString "all"), rowsL L2]), .d (.tuple [.str (PySem.Str.ofString "all"), rowsL (isort lexL (pairL L L2))]), .own ((pairL L L2).map rowD), z12, z13, .no])
    (as_for (ei_list (xs := L.map rowD) (ev_op (ev_var (x := .tuple [.str (PySem.Str.ofString "all"), rowsL L]) rfl) ev_int (rd_ixT rfl))) (fun i δ' => ∃ z12 z13, δ' = [.d (scrD ns), .d (netD n ms), .d (netD n2 ms2), .d (netD (n + n2) (bsdM n n2 ms ms2)), .d (.list [rowD x, rowD x2]), .d (.list [rowD g, rowD g2]), .d (.bool (hitF ms x g).isSome), .d (.bool (hitF ms2 x2 g2).isSome), .d (.tuple [.str (PySem.Str.ofString "all"), rowsL L]), .d (.tuple [.str (PySem.Str.ofString "all"), rowsL L2]), .d (.tuple [.str (PySem.Str.ofString "all"), rowsL (isort lexL (pairL L L2))]), .own ((pairL (L.take i) L2).map rowD), z12, z13, .no]) ⟨.no, .no, rfl⟩ (fun i d δ' hd hp => ?_) (fun δ' hp => ?_)) ?_
  · obtain ⟨z12, z13, rfl⟩ := hp
    obtain ⟨u, hu, rfl⟩ := rowsD_get hd
    have hul := len1 u (List.mem_of_getElem? hu)
    have hpt := pair_take L L2 i hu
    have hpp := pair_part L L2 (i + 1)
    refine ag_name (as_ext (i := 11) (xs := (pairL (L.take i) L2).map rowD) (ys := (L2.map fun v => u ++ v).map rowD) rfl (en_to (en_map (xs := L2.map rowD) (fun j => rowD (u ++ L2.getD j [])) (ei_list (ev_op (ev_var (x := .tuple [.str (PySem.Str.ofString "all"), rowsL L2]) rfl) ev_int (rd_ixT rfl))) (by rw [List.length_map]; omega) (gw1 13) (fun j d hd => ?_)) ?_) ?_ ⟨.d (rowD u), z13, ?_⟩)
    · obtain ⟨v, hv, rfl⟩ := rowsD_get hd
      have hvl := len2 v (List.mem_of_getElem? hv)
      rw [List.getD_eq_getElem?_getD, hv, Option.getD_some]
      exact ag_name (ev_catR (ev_var rfl) (ev_var rfl) (by omega) (by omega))
    · rw [List.length_map, map_range L2 [] fun v => rowD (u ++ v), List.map_map]
      rfl
    · rw [hpt, List.length_append] at hpp
      rw [List.length_map, List.length_map]
      omega
    · rw [hpt, List.map_append]
      rfl
  · obtain ⟨z12, z13, rfl⟩ := hp
    rw [List.length_map, List.take_of_length_le (Nat.le_refl _)]
    exact ⟨_, ⟨z12, z13, rfl⟩, rfl⟩
  rintro δ' ⟨z12, z13, rfl⟩
  refine as_freeze (i := 11) (xs := (pairL L L2).map rowD) rfl (as_ret (ev_to (ev_op (ev_var (x := .tuple [.str (PySem.Str.ofString "all"), rowsL (isort lexL (pairL L L2))]) rfl) (ev_tup (xs := [.str (PySem.Str.ofString "all"), rowsL (isort lexL (pairL L L2))]) (ea_cons ev_str (ea_cons (en_cb (xs := [rowsL (pairL L L2)]) (ea_cons (ev_var rfl) ea_nil) (rc_sortedRows (n := n + n2) (by omega) hlens)).ev ea_nil)) (by show 2 ≤ sizeLine; decide)) (rd_eq hap hap)) (by rw [eqv_self hap])) rfl)

end Tw

namespace Tw
open PySem PySem.Spec PyProof.Rows L2
def topS (i : Nat) : Stmt := PySem.Challenge.pw_tokenwall_k16_whole_beside.main.body.getD i (.Pass ⟨0, 0, 0, 0⟩)

abbrev s_is_whole : Stmt := topS 9
abbrev N_is_whole : List Str := ["thing"]
theorem sc_is_whole : FnScope N_is_whole ["thing"] (defScope s_is_whole) := ⟨rfl, rfl, rfl, by decide +kernel, rfl, by decide +kernel, by decide +kernel⟩

abbrev s_between : Stmt := topS 10
abbrev N_between : List Str := ["thing", "low", "most"]
theorem sc_between : FnScope N_between ["thing", "low", "most"] (defScope s_between) := ⟨rfl, rfl, rfl, by decide +kernel, rfl, by decide +kernel, by decide +kernel⟩

abbrev s_are_tokens : Stmt := topS 11
abbrev N_are_tokens : List Str := ["thing", "size", "number"]
theorem sc_are_tokens : FnScope N_are_tokens ["thing", "size"] (defScope s_are_tokens) := ⟨rfl, rfl, rfl, by decide +kernel, rfl, by decide +kernel, by decide +kernel⟩

abbrev s_is_net : Stmt := topS 12
abbrev N_is_net : List Str := ["thing", "move"]
theorem sc_is_net : FnScope N_is_net ["thing"] (defScope s_is_net) := ⟨rfl, rfl, rfl, by decide +kernel, rfl, by decide +kernel, by decide +kernel⟩

abbrev s_checked : Stmt := topS 13
abbrev N_checked : List Str := ["net"]
theorem sc_checked : FnScope N_checked ["net"] (defScope s_checked) := ⟨rfl, rfl, rfl, by decide +kernel, rfl, by decide +kernel, by decide +kernel⟩

abbrev s_is_hoard : Stmt := topS 14
abbrev N_is_hoard : List Str := ["net", "thing", "number"]
theorem sc_is_hoard : FnScope N_is_hoard ["net", "thing"] (defScope s_is_hoard) := ⟨rfl, rfl, rfl, by decide +kernel, rfl, by decide +kernel, by decide +kernel⟩

abbrev s_need_hoard : Stmt := topS 15
abbrev N_need_hoard : List Str := ["net", "thing"]
theorem sc_need_hoard : FnScope N_need_hoard ["net", "thing"] (defScope s_need_hoard) := ⟨rfl, rfl, rfl, by decide +kernel, rfl, by decide +kernel, by decide +kernel⟩

abbrev s_over : Stmt := topS 16
abbrev N_over : List Str := ["one", "other", "a", "b"]
theorem sc_over : FnScope N_over ["one", "other"] (defScope s_over) := ⟨rfl, rfl, rfl, by decide +kernel, rfl, by decide +kernel, by decide +kernel⟩

abbrev s_led : Stmt := topS 17
abbrev N_led : List Str := ["net", "hoard", "move", "takes", "gives", "a", "b", "c"]
theorem sc_led : FnScope N_led ["net", "hoard", "move"] (defScope s_led) := ⟨rfl, rfl, rfl, by decide +kernel, rfl, by decide +kernel, by decide +kernel⟩

abbrev s_beside : Stmt := topS 19
abbrev N_beside : List Str := ["one", "other", "ahead", "back", "moves", "takes", "gives"]
theorem sc_beside : FnScope N_beside ["one", "other"] (defScope s_beside) := ⟨rfl, rfl, rfl, by decide +kernel, rfl, by decide +kernel, by decide +kernel⟩

abbrev s_before : Stmt := topS 21
abbrev N_before : List Str := ["net", "move", "goal", "takes", "gives", "a", "b", "c"]
theorem sc_before : FnScope N_before ["net", "move", "goal"] (defScope s_before) := ⟨rfl, rfl, rfl, by decide +kernel, rfl, by decide +kernel, by decide +kernel⟩

abbrev s_is_over_one : Stmt := topS 22
abbrev N_is_over_one : List Str := ["hoard", "some", "other"]
theorem sc_is_over_one : FnScope N_is_over_one ["hoard", "some"] (defScope s_is_over_one) := ⟨rfl, rfl, rfl, by decide +kernel, rfl, by decide +kernel, by decide +kernel⟩

abbrev s_met_from : Stmt := topS 23
abbrev N_met_from : List Str := ["net", "goal", "found", "at", "hoard", "move", "other", "row"]
theorem sc_met_from : FnScope N_met_from ["net", "goal"] (defScope s_met_from) := ⟨rfl, rfl, rfl, by decide +kernel, rfl, by decide +kernel, by decide +kernel⟩

abbrev s_least_of : Stmt := topS 24
abbrev N_least_of : List Str := ["hoards", "made", "hoard"]
theorem sc_least_of : FnScope N_least_of ["hoards"] (defScope s_least_of) := ⟨rfl, rfl, rfl, by decide +kernel, rfl, by decide +kernel, by decide +kernel⟩

abbrev s_run_from : Stmt := topS 26
abbrev N_run_from : List Str := ["found", "at", "made"]
theorem sc_run_from : FnScope N_run_from ["found", "at"] (defScope s_run_from) := ⟨rfl, rfl, rfl, by decide +kernel, rfl, by decide +kernel, by decide +kernel⟩

abbrev s_cover : Stmt := topS 27
abbrev N_cover : List Str := ["net", "start", "goal", "found", "at", "row"]
theorem sc_cover : FnScope N_cover ["net", "start", "goal"] (defScope s_cover) := ⟨rfl, rfl, rfl, by decide +kernel, rfl, by decide +kernel, by decide +kernel⟩

abbrev s_way_to : Stmt := topS 29
abbrev N_way_to : List Str := ["found", "at", "made"]
theorem sc_way_to : FnScope N_way_to ["found", "at"] (defScope s_way_to) := ⟨rfl, rfl, rfl, by decide +kernel, rfl, by decide +kernel, by decide +kernel⟩

abbrev s_run_on : Stmt := topS 30
abbrev N_run_on : List Str := ["found", "way", "at"]
theorem sc_run_on : FnScope N_run_on ["found", "way"] (defScope s_run_on) := ⟨rfl, rfl, rfl, by decide +kernel, rfl, by decide +kernel, by decide +kernel⟩

abbrev s_pump_at : Stmt := topS 31
abbrev N_pump_at : List Str := ["found", "at", "way", "k"]
theorem sc_pump_at : FnScope N_pump_at ["found", "at"] (defScope s_pump_at) := ⟨rfl, rfl, rfl, by decide +kernel, rfl, by decide +kernel, by decide +kernel⟩

abbrev s_gone_through : Stmt := topS 32
abbrev N_gone_through : List Str := ["net", "start", "found", "seen", "at", "move", "other", "pump"]
theorem sc_gone_through : FnScope N_gone_through ["net", "start"] (defScope s_gone_through) := ⟨rfl, rfl, rfl, by decide +kernel, rfl, by decide +kernel, by decide +kernel⟩

abbrev s_all_of : Stmt := topS 33
abbrev N_all_of : List Str := ["net", "start", "found", "pump", "row"]
theorem sc_all_of : FnScope N_all_of ["net", "start"] (defScope s_all_of) := ⟨rfl, rfl, rfl, by decide +kernel, rfl, by decide +kernel, by decide +kernel⟩

abbrev s_cell_at_l : Stmt := topS 35
abbrev N_cell_at_l : List Str := ["_law_script", "_law_k"]
theorem sc_cell_at_l : FnScope N_cell_at_l ["_law_script", "_law_k"] (defScope s_cell_at_l) := ⟨rfl, rfl, rfl, by decide +kernel, rfl, by decide +kernel, by decide +kernel⟩

abbrev s_mixed_l : Stmt := topS 36
abbrev N_mixed_l : List Str := ["_law_script", "_law_k", "_law_many", "_law_drawn"]
theorem sc_mixed_l : FnScope N_mixed_l ["_law_script", "_law_k", "_law_many"] (defScope s_mixed_l) := ⟨rfl, rfl, rfl, by decide +kernel, rfl, by decide +kernel, by decide +kernel⟩

abbrev s_move_l : Stmt := topS 37
abbrev N_move_l : List Str := ["_law_script", "_law_at", "_law_size", "_law_even", "_law_k", "_law_cells", "_law_takes", "_law_gives", "_law_left", "_law_cell"]
theorem sc_move_l : FnScope N_move_l ["_law_script", "_law_at", "_law_size", "_law_even"] (defScope s_move_l) := ⟨rfl, rfl, rfl, by decide +kernel, rfl, by decide +kernel, by decide +kernel⟩

abbrev s_net_l : Stmt := topS 38
abbrev N_net_l : List Str := ["_law_script", "_law_at", "_law_size", "_law_many", "_law_even", "_law_k"]
theorem sc_net_l : FnScope N_net_l ["_law_script", "_law_at"] (defScope s_net_l) := ⟨rfl, rfl, rfl, by decide +kernel, rfl, by decide +kernel, by decide +kernel⟩

abbrev s_hoard_l : Stmt := topS 39
abbrev N_hoard_l : List Str := ["_law_script", "_law_at", "_law_size", "_law_most", "_law_k"]
theorem sc_hoard_l : FnScope N_hoard_l ["_law_script", "_law_at", "_law_size", "_law_most"] (defScope s_hoard_l) := ⟨rfl, rfl, rfl, by decide +kernel, rfl, by decide +kernel, by decide +kernel⟩

abbrev s_due_l : Stmt := topS 40
abbrev N_due_l : List Str := ["_law_one", "_law_other", "_law_moves", "_law_move_here"]
theorem sc_due_l : FnScope N_due_l ["_law_one", "_law_other"] (defScope s_due_l) := ⟨rfl, rfl, rfl, by decide +kernel, rfl, by decide +kernel, by decide +kernel⟩

abbrev s_law : Stmt := topS 41
abbrev N_law : List Str := ["_law_script", "_law_one", "_law_other", "_law_net_here", "_law_starts", "_law_goals", "_law_here", "_law_there", "_law_first", "_law_second", "_law_whole", "_law_due_here", "_law_hoard_here", "_law_further", "_law_move_here"]
theorem sc_law : FnScope N_law ["_law_script"] (defScope s_law) := ⟨rfl, rfl, rfl, by decide +kernel, rfl, by decide +kernel, by decide +kernel⟩

structure Txt (K : PySem.W.Frag) (mg : Str → Option Value) where
  a_is_whole : Addr
  fd_is_whole : FuncData
  F_is_whole : Fun K "is_whole" "is_whole" s_is_whole a_is_whole fd_is_whole
  b_is_whole : Binds K fd_is_whole ["thing"] []
  g_is_whole : mg "is_whole" = some (.ref a_is_whole)
  a_between : Addr
  fd_between : FuncData
  F_between : Fun K "between" "between" s_between a_between fd_between
  b_between : Binds K fd_between ["thing", "low", "most"] []
  g_between : mg "between" = some (.ref a_between)
  a_are_tokens : Addr
  fd_are_tokens : FuncData
  F_are_tokens : Fun K "are_tokens" "are_tokens" s_are_tokens a_are_tokens fd_are_tokens
  b_are_tokens : Binds K fd_are_tokens ["thing", "size"] []
  g_are_tokens : mg "are_tokens" = some (.ref a_are_tokens)
  a_is_net : Addr
  fd_is_net : FuncData
  F_is_net : Fun K "is_net" "is_net" s_is_net a_is_net fd_is_net
  b_is_net : Binds K fd_is_net ["thing"] []
  g_is_net : mg "is_net" = some (.ref a_is_net)
  a_checked : Addr
  fd_checked : FuncData
  F_checked : Fun K "checked" "checked" s_checked a_checked fd_checked
  b_checked : Binds K fd_checked ["net"] []
  g_checked : mg "checked" = some (.ref a_checked)
  a_is_hoard : Addr
  fd_is_hoard : FuncData
  F_is_hoard : Fun K "is_hoard" "is_hoard" s_is_hoard a_is_hoard fd_is_hoard
  b_is_hoard : Binds K fd_is_hoard ["net", "thing"] []
  g_is_hoard : mg "is_hoard" = some (.ref a_is_hoard)
  a_need_hoard : Addr
  fd_need_hoard : FuncData
  F_need_hoard : Fun K "need_hoard" "need_hoard" s_need_hoard a_need_hoard fd_need_hoard
  b_need_hoard : Binds K fd_need_hoard ["net", "thing"] []
  g_need_hoard : mg "need_hoard" = some (.ref a_need_hoard)
  a_over : Addr
  fd_over : FuncData
  F_over : Fun K "over" "over" s_over a_over fd_over
  b_over : Binds K fd_over ["one", "other"] []
  g_over : mg "over" = some (.ref a_over)
  a_led : Addr
  fd_led : FuncData
  F_led : Fun K "led" "led" s_led a_led fd_led
  b_led : Binds K fd_led ["net", "hoard", "move"] []
  g_led : mg "led" = some (.ref a_led)
  a_beside : Addr
  fd_beside : FuncData
  F_beside : Fun K "beside" "beside" s_beside a_beside fd_beside
  b_beside : Binds K fd_beside ["one", "other"] []
  g_beside : mg "beside" = some (.ref a_beside)
  a_before : Addr
  fd_before : FuncData
  F_before : Fun K "before" "before" s_before a_before fd_before
  b_before : Binds K fd_before ["net", "move", "goal"] []
  g_before : mg "before" = some (.ref a_before)
  a_is_over_one : Addr
  fd_is_over_one : FuncData
  F_is_over_one : Fun K "is_over_one" "is_over_one" s_is_over_one a_is_over_one fd_is_over_one
  b_is_over_one : Binds K fd_is_over_one ["hoard", "some"] []
  g_is_over_one : mg "is_over_one" = some (.ref a_is_over_one)
  a_met_from : Addr
  fd_met_from : FuncData
  F_met_from : Fun K "met_from" "met_from" s_met_from a_met_from fd_met_from
  b_met_from : Binds K fd_met_from ["net", "goal"] []
  g_met_from : mg "met_from" = some (.ref a_met_from)
  a_least_of : Addr
  fd_least_of : FuncData
  F_least_of : Fun K "least_of" "least_of" s_least_of a_least_of fd_least_of
  b_least_of : Binds K fd_least_of ["hoards"] []
  g_least_of : mg "least_of" = some (.ref a_least_of)
  a_run_from : Addr
  fd_run_from : FuncData
  F_run_from : Fun K "run_from" "run_from" s_run_from a_run_from fd_run_from
  b_run_from : Binds K fd_run_from ["found", "at"] []
  g_run_from : mg "run_from" = some (.ref a_run_from)
  a_cover : Addr
  fd_cover : FuncData
  F_cover : Fun K "cover" "cover" s_cover a_cover fd_cover
  b_cover : Binds K fd_cover ["net", "start", "goal"] []
  g_cover : mg "cover" = some (.ref a_cover)
  a_way_to : Addr
  fd_way_to : FuncData
  F_way_to : Fun K "way_to" "way_to" s_way_to a_way_to fd_way_to
  b_way_to : Binds K fd_way_to ["found", "at"] []
  g_way_to : mg "way_to" = some (.ref a_way_to)
  a_run_on : Addr
  fd_run_on : FuncData
  F_run_on : Fun K "run_on" "run_on" s_run_on a_run_on fd_run_on
  b_run_on : Binds K fd_run_on ["found", "way"] []
  g_run_on : mg "run_on" = some (.ref a_run_on)
  a_pump_at : Addr
  fd_pump_at : FuncData
  F_pump_at : Fun K "pump_at" "pump_at" s_pump_at a_pump_at fd_pump_at
  b_pump_at : Binds K fd_pump_at ["found", "at"] []
  g_pump_at : mg "pump_at" = some (.ref a_pump_at)
  a_gone_through : Addr
  fd_gone_through : FuncData
  F_gone_through : Fun K "gone_through" "gone_through" s_gone_through a_gone_through fd_gone_through
  b_gone_through : Binds K fd_gone_through ["net", "start"] []
  g_gone_through : mg "gone_through" = some (.ref a_gone_through)
  a_all_of : Addr
  fd_all_of : FuncData
  F_all_of : Fun K "all_of" "all_of" s_all_of a_all_of fd_all_of
  b_all_of : Binds K fd_all_of ["net", "start"] []
  g_all_of : mg "all_of" = some (.ref a_all_of)
  a_cell_at_l : Addr
  fd_cell_at_l : FuncData
  F_cell_at_l : Fun K "_law_cell_at" "_law_cell_at" s_cell_at_l a_cell_at_l fd_cell_at_l
  b_cell_at_l : Binds K fd_cell_at_l ["_law_script", "_law_k"] []
  g_cell_at_l : mg "_law_cell_at" = some (.ref a_cell_at_l)
  a_mixed_l : Addr
  fd_mixed_l : FuncData
  F_mixed_l : Fun K "_law_mixed" "_law_mixed" s_mixed_l a_mixed_l fd_mixed_l
  b_mixed_l : Binds K fd_mixed_l ["_law_script", "_law_k", "_law_many"] []
  g_mixed_l : mg "_law_mixed" = some (.ref a_mixed_l)
  a_move_l : Addr
  fd_move_l : FuncData
  F_move_l : Fun K "_law_move" "_law_move" s_move_l a_move_l fd_move_l
  b_move_l : Binds K fd_move_l ["_law_script", "_law_at", "_law_size", "_law_even"] []
  g_move_l : mg "_law_move" = some (.ref a_move_l)
  a_net_l : Addr
  fd_net_l : FuncData
  F_net_l : Fun K "_law_net" "_law_net" s_net_l a_net_l fd_net_l
  b_net_l : Binds K fd_net_l ["_law_script", "_law_at"] []
  g_net_l : mg "_law_net" = some (.ref a_net_l)
  a_hoard_l : Addr
  fd_hoard_l : FuncData
  F_hoard_l : Fun K "_law_hoard" "_law_hoard" s_hoard_l a_hoard_l fd_hoard_l
  b_hoard_l : Binds K fd_hoard_l ["_law_script", "_law_at", "_law_size", "_law_most"] []
  g_hoard_l : mg "_law_hoard" = some (.ref a_hoard_l)
  a_due_l : Addr
  fd_due_l : FuncData
  F_due_l : Fun K "_law_due" "_law_due" s_due_l a_due_l fd_due_l
  b_due_l : Binds K fd_due_l ["_law_one", "_law_other"] []
  g_due_l : mg "_law_due" = some (.ref a_due_l)
  a_law : Addr
  fd_law : FuncData
  F_law : Fun K "law" "law" s_law a_law fd_law
  b_law : Binds K fd_law ["_law_script"] []
  g_law : mg "law" = some (.ref a_law)
  m_isinstance : mg "isinstance" = none
  m_int : mg "int" = none
  m_bool : mg "bool" = none
  c_TOKENSt : Tok
  c_TOKENS : mg "TOKENS" = some (.int 9 c_TOKENSt)
  m_tuple : mg "tuple" = none
  m_len : mg "len" = none
  c_MOVESt : Tok
  c_MOVES : mg "MOVES" = some (.int 10 c_MOVESt)
  c_PLACESt : Tok
  c_PLACES : mg "PLACES" = some (.int 6 c_PLACESt)
  m_zip : mg "zip" = none
  m_max : mg "max" = none
  m_range : mg "range" = none
  m_sorted : mg "sorted" = none
  m_sum : mg "sum" = none
  a_NoHoard : Addr
  g_NoHoard : mg "NoHoard" = some (.ref a_NoHoard)
  x_NoHoard : PySem.W.excIn K a_NoHoard [.type "ValueError", .type "Exception", .type "BaseException", .type "object"] "ValueError.__new__" = true
  k_NoHoard : PySem.W.keepIn K (.ref a_NoHoard) = true
  p_NoHoard : PySem.W.subIn K (.ref a_NoHoard) (.type "BaseException") = some true
  t_NoHoard : PySem.W.typeIn K (.ref a_NoHoard) = some (.type "type")
  a_NoNet : Addr
  g_NoNet : mg "NoNet" = some (.ref a_NoNet)
  x_NoNet : PySem.W.excIn K a_NoNet [.type "ValueError", .type "Exception", .type "BaseException", .type "object"] "ValueError.__new__" = true
  k_NoNet : PySem.W.keepIn K (.ref a_NoNet) = true
  p_NoNet : PySem.W.subIn K (.ref a_NoNet) (.type "BaseException") = some true
  t_NoNet : PySem.W.typeIn K (.ref a_NoNet) = some (.type "type")
  a_TooBig : Addr
  g_TooBig : mg "TooBig" = some (.ref a_TooBig)
  x_TooBig : PySem.W.excIn K a_TooBig [.type "ValueError", .type "Exception", .type "BaseException", .type "object"] "ValueError.__new__" = true
  k_TooBig : PySem.W.keepIn K (.ref a_TooBig) = true
  p_TooBig : PySem.W.subIn K (.ref a_TooBig) (.type "BaseException") = some true
  t_TooBig : PySem.W.typeIn K (.ref a_TooBig) = some (.type "type")

section
variable {P : Program} {w : World} {K : PySem.W.Frag} {mg : Str → Option Value} {base : Heap}

theorem ok_is_whole (T : Txt K mg) : FnOk P w K mg base (L2.CX P w) 1 T.a_is_whole T.fd_is_whole ["thing"] (SpD K F_is_whole) := by
  refine def_ok T.F_is_whole sc_is_whole (len_is_whole) (fun cdv A outer s H E hr => ⟨t_is_whole K E , (pss_one (ps_ret (pe_and (pe_callB call_isi (by rfl) T.m_isinstance (by decide +kernel) (pa_cons (pv 0) (pa_cons (pe_bltn (v := .ty "int") (by rfl) T.m_int (by decide +kernel) rfl) pa_nil))) (pe_one (pe_not (pe_callB call_isi (by rfl) T.m_isinstance (by decide +kernel) (pa_cons (pv 0) (pa_cons (pe_bltn (v := .ty "bool") (by rfl) T.m_bool (by decide +kernel) rfl) pa_nil)))))))), fun ds o h => sem_is_whole  h⟩)

theorem ok_between (T : Txt K mg) : FnOk P w K mg base (L2.CX P w) 2 T.a_between T.fd_between ["thing", "low", "most"] (SpD K F_between) := by
  refine def_ok T.F_between sc_between (len_between) (fun cdv A outer s H E hr => ⟨t_between K E , (pss_one (ps_ret (pe_and (pe_callS (ok_is_whole T) (hr.mono (by decide)) rfl T.g_is_whole T.F_is_whole.kp T.b_is_whole (fun σ => passAt (takes_of rfl rfl rfl rfl) σ) (pa_cons (pv 0) pa_nil)) (pe_and (pe_cmpR (opLe hr.units0) (pv 1) (pv 0) (nomark _)) (pe_one (pe_cmpR (opLe hr.units0) (pv 0) (pv 2) (nomark _))))))), fun ds o h => sem_between  h⟩)

theorem ok_are_tokens (T : Txt K mg) : FnOk P w K mg base (L2.CX P w) 3 T.a_are_tokens T.fd_are_tokens ["thing", "size"] (SpD K F_are_tokens) := by
  refine def_ok T.F_are_tokens sc_are_tokens (len_are_tokens) (fun cdv A outer s H E hr => ⟨t_are_tokens K E , (pss_cons (ps_if (PW.pt (pw_or (pt_not (pt_val (pe_callB call_isi (by rfl) T.m_isinstance (by decide +kernel) (pa_cons (pv 0) (pa_cons (pe_bltn (v := .ty "tuple") (by rfl) T.m_tuple (by decide +kernel) rfl) pa_nil))))) (pw_or1 (pt_cmpR (opNe hr.units) (pe_callB callLen (by rfl) T.m_len PySem.boot_len (pa_cons (pv 0) pa_nil)) (pv 1) (nomark _))))) (pss_one (ps_ret pe_bl)) pss_nil)
      (pss_cons (ps_for (passes_of rfl) rfl (pi_tup (pv 0)) (pg_name (i := 2) sc_are_tokens.nd rfl (by first | exact Or.inl rfl | exact Or.inr rfl)) (pss_one (ps_if (pt_not (pt_val (pe_callS (ok_between T) (hr.mono (by decide)) rfl T.g_between T.F_between.kp T.b_between (fun σ => passAt (takes_of rfl rfl rfl rfl) σ) (pa_cons (pv 2) (pa_cons pe_int (pa_cons (pe_glob rfl T.c_TOKENS ⟨_, rfl⟩) pa_nil)))))) (pss_one (ps_ret pe_bl)) pss_nil)))
      (pss_one (ps_ret pe_bl)))), fun ds o h => sem_are_tokens  h⟩)

theorem ok_is_net (T : Txt K mg) : FnOk P w K mg base (L2.CX P w) 4 T.a_is_net T.fd_is_net ["thing"] (SpD K F_is_net) := by
  refine def_ok T.F_is_net sc_is_net (len_is_net) (fun cdv A outer s H E hr => ⟨t_is_net K E , (pss_cons (ps_if (PW.pt (pw_or (pt_not (pt_val (pe_callB call_isi (by rfl) T.m_isinstance (by decide +kernel) (pa_cons (pv 0) (pa_cons (pe_bltn (v := .ty "tuple") (by rfl) T.m_tuple (by decide +kernel) rfl) pa_nil))))) (pw_or (pt_cmpR (opNe hr.units) (pe_callB callLen (by rfl) T.m_len PySem.boot_len (pa_cons (pv 0) pa_nil)) pe_int (nomark _)) (pw_or1 (pt_not (pt_val (pe_callS (ok_between T) (hr.mono (by decide)) rfl T.g_between T.F_between.kp T.b_between (fun σ => passAt (takes_of rfl rfl rfl rfl) σ) (pa_cons (pe_ix ix_seq (pv 0) pe_int (fun _ _ => rfl)) (pa_cons pe_int (pa_cons (pe_glob rfl T.c_PLACES ⟨_, rfl⟩) pa_nil)))))))))) (pss_one (ps_ret pe_bl)) pss_nil)
      (pss_cons (ps_if (PW.pt (pw_or (pt_not (pt_val (pe_callB call_isi (by rfl) T.m_isinstance (by decide +kernel) (pa_cons (pe_ix ix_seq (pv 0) pe_int (fun _ _ => rfl)) (pa_cons (pe_bltn (v := .ty "tuple") (by rfl) T.m_tuple (by decide +kernel) rfl) pa_nil))))) (pw_or1 (pt_cmpR opGt (pe_callB callLen (by rfl) T.m_len PySem.boot_len (pa_cons (pe_ix ix_seq (pv 0) pe_int (fun _ _ => rfl)) pa_nil)) (pe_glob rfl T.c_MOVES ⟨_, rfl⟩) (nomark _))))) (pss_one (ps_ret pe_bl)) pss_nil)
      (pss_cons (ps_for (passes_of rfl) rfl (pi_tup (pe_ix ix_seq (pv 0) pe_int (fun _ _ => rfl))) (pg_name (i := 1) sc_is_net.nd rfl (by first | exact Or.inl rfl | exact Or.inr rfl)) (pss_cons (ps_if (PW.pt (pw_or (pt_not (pt_val (pe_callB call_isi (by rfl) T.m_isinstance (by decide +kernel) (pa_cons (pv 1) (pa_cons (pe_bltn (v := .ty "tuple") (by rfl) T.m_tuple (by decide +kernel) rfl) pa_nil))))) (pw_or1 (pt_cmpR (opNe hr.units) (pe_callB callLen (by rfl) T.m_len PySem.boot_len (pa_cons (pv 1) pa_nil)) pe_int (nomark _))))) (pss_one (ps_ret pe_bl)) pss_nil)
      (pss_one (ps_if (PW.pt (pw_or (pt_not (pt_val (pe_callS (ok_are_tokens T) (hr.mono (by decide)) rfl T.g_are_tokens T.F_are_tokens.kp T.b_are_tokens (fun σ => passAt (takes_of rfl rfl rfl rfl) σ) (pa_cons (pe_ix ix_seq (pv 1) pe_int (fun _ _ => rfl)) (pa_cons (pe_ix ix_seq (pv 0) pe_int (fun _ _ => rfl)) pa_nil))))) (pw_or1 (pt_not (pt_val (pe_callS (ok_are_tokens T) (hr.mono (by decide)) rfl T.g_are_tokens T.F_are_tokens.kp T.b_are_tokens (fun σ => passAt (takes_of rfl rfl rfl rfl) σ) (pa_cons (pe_ix ix_seq (pv 1) pe_int (fun _ _ => rfl)) (pa_cons (pe_ix ix_seq (pv 0) pe_int (fun _ _ => rfl)) pa_nil)))))))) (pss_one (ps_ret pe_bl)) pss_nil))))
      (pss_one (ps_ret pe_bl))))), fun ds o h => sem_is_net  h⟩)

theorem ok_checked (T : Txt K mg) : FnOk P w K mg base (L2.CX P w) 5 T.a_checked T.fd_checked ["net"] (SpD K (F_checked T.a_NoNet)) := by
  refine def_ok T.F_checked sc_checked (len_checked T.a_NoNet) (fun cdv A outer s H E hr => ⟨t_checked K E T.a_NoNet, (pss_cons (ps_if (pt_not (pt_val (pe_callS (ok_is_net T) (hr.mono (by decide)) rfl T.g_is_net T.F_is_net.kp T.b_is_net (fun σ => passAt (takes_of rfl rfl rfl rfl) σ) (pa_cons (pv 0) pa_nil)))) (pss_one (show PS _ _ (tRz E (.ref T.a_NoNet)) from ps_raise rfl (takes_of rfl rfl rfl rfl) (pmk_own PySem.F.excBase_ValueError T.x_NoNet T.g_NoNet T.k_NoNet (raises_own T.p_NoNet T.t_NoNet) (by exact rfl)))) pss_nil)
      (pss_one (ps_ret (pv 0)))), fun ds o h => sem_checked T.a_NoNet h⟩)

theorem ok_is_hoard (T : Txt K mg) : FnOk P w K mg base (L2.CX P w) 2 T.a_is_hoard T.fd_is_hoard ["net", "thing"] (SpD K F_is_hoard) := by
  refine def_ok T.F_is_hoard sc_is_hoard (len_is_hoard) (fun cdv A outer s H E hr => ⟨t_is_hoard K E , (pss_cons (ps_if (PW.pt (pw_or (pt_not (pt_val (pe_callB call_isi (by rfl) T.m_isinstance (by decide +kernel) (pa_cons (pv 1) (pa_cons (pe_bltn (v := .ty "tuple") (by rfl) T.m_tuple (by decide +kernel) rfl) pa_nil))))) (pw_or1 (pt_cmpR (opNe hr.units) (pe_callB callLen (by rfl) T.m_len PySem.boot_len (pa_cons (pv 1) pa_nil)) (pe_ix ix_seq (pv 0) pe_int (fun _ _ => rfl)) (nomark _))))) (pss_one (ps_ret pe_bl)) pss_nil)
      (pss_cons (ps_for (passes_of rfl) rfl (pi_tup (pv 1)) (pg_name (i := 2) sc_is_hoard.nd rfl (by first | exact Or.inl rfl | exact Or.inr rfl)) (pss_one (ps_if (PW.pt (pw_or (pt_not (pt_val (pe_callS (ok_is_whole T) (hr.mono (by decide)) rfl T.g_is_whole T.F_is_whole.kp T.b_is_whole (fun σ => passAt (takes_of rfl rfl rfl rfl) σ) (pa_cons (pv 2) pa_nil)))) (pw_or1 (pt_cmpR opLt (pv 2) pe_int (nomark _))))) (pss_one (ps_ret pe_bl)) pss_nil)))
      (pss_one (ps_ret pe_bl)))), fun ds o h => sem_is_hoard  h⟩)

theorem ok_need_hoard (T : Txt K mg) : FnOk P w K mg base (L2.CX P w) 3 T.a_need_hoard T.fd_need_hoard ["net", "thing"] (SpD K (F_need_hoard T.a_NoHoard)) := by
  refine def_ok T.F_need_hoard sc_need_hoard (len_need_hoard T.a_NoHoard) (fun cdv A outer s H E hr => ⟨t_need_hoard K E T.a_NoHoard, (pss_one (ps_if (pt_not (pt_val (pe_callS (ok_is_hoard T) (hr.mono (by decide)) rfl T.g_is_hoard T.F_is_hoard.kp T.b_is_hoard (fun σ => passAt (takes_of rfl rfl rfl rfl) σ) (pa_cons (pv 0) (pa_cons (pv 1) pa_nil))))) (pss_one (show PS _ _ (tRz E (.ref T.a_NoHoard)) from ps_raise rfl (takes_of rfl rfl rfl rfl) (pmk_own PySem.F.excBase_ValueError T.x_NoHoard T.g_NoHoard T.k_NoHoard (raises_own T.p_NoHoard T.t_NoHoard) (by exact rfl)))) pss_nil)), fun ds o h => sem_need_hoard T.a_NoHoard h⟩)

theorem ok_over (T : Txt K mg) : FnOk P w K mg base (L2.CX P w) 1 T.a_over T.fd_over ["one", "other"] (SpD K F_over) := by
  refine def_ok T.F_over sc_over (len_over) (fun cdv A outer s H E hr => ⟨t_over K E , (pss_cons (ps_for (passes_of rfl) rfl (pi_zip2 (by rfl) T.m_zip (pa_cons (pv 0) (pa_cons (pv 1) pa_nil))) (pg_tup rfl (pgs_cons (pg_name (i := 2) sc_over.nd rfl (by first | exact Or.inl rfl | exact Or.inr rfl)) (pgs_cons (pg_name (i := 3) sc_over.nd rfl (by first | exact Or.inl rfl | exact Or.inr rfl)) pgs_nil))) (pss_one (ps_if (pt_cmpR opLt (pv 2) (pv 3) (nomark _)) (pss_one (ps_ret pe_bl)) pss_nil)))
      (pss_one (ps_ret pe_bl))), fun ds o h => sem_over  h⟩)

theorem ok_led (T : Txt K mg) : FnOk P w K mg base (L2.CX P w) 1 T.a_led T.fd_led ["net", "hoard", "move"] (SpD K F_led) := by
  refine def_ok T.F_led sc_led (len_led) (fun cdv A outer s H E hr => ⟨t_led K E , (pss_cons (ps_asg (pe_ix ix_seq (pe_ix ix_seq (pv 0) pe_int (fun _ _ => rfl)) (pv 2) (fun _ _ => rfl)) (pg_tup rfl (pgs_cons (pg_name (i := 3) sc_led.nd rfl (by first | exact Or.inl rfl | exact Or.inr rfl)) (pgs_cons (pg_name (i := 4) sc_led.nd rfl (by first | exact Or.inl rfl | exact Or.inr rfl)) pgs_nil))))
      (pss_one (ps_ret (pe_callTy callTup (by rfl) T.m_tuple PyProof.Rows.boot_tuple (pa_cons (pe_lc (own := [("a", 5), ("b", 6), ("c", 7)]) rfl sc_led.nd (pi_zip3 (by rfl) T.m_zip (pa_cons (pv 1) (pa_cons (pv 3) (pa_cons (pv 4) pa_nil)))) (blkOk_by (N := N_led) (sc := (defScope s_led)) (own := [("a", 5), ("b", 6), ("c", 7)]) (by decide +kernel)) (fun _ _ _ _ _ => (pg_tup rfl (pgs_cons (pg_name (i := 5) sc_led.nd rfl (by first | exact Or.inl rfl | exact Or.inr rfl)) (pgs_cons (pg_name (i := 6) sc_led.nd rfl (by first | exact Or.inl rfl | exact Or.inr rfl)) (pgs_cons (pg_name (i := 7) sc_led.nd rfl (by first | exact Or.inl rfl | exact Or.inr rfl)) pgs_nil))))) (fun _ _ _ _ _ => pts_nil) (fun _ _ _ _ _ => (pe_op opAdd (pe_op opSub (pv 5) (pv 6)) (pv 7)))) pa_nil))))), fun ds o h => sem_led  h⟩)

theorem ok_beside (T : Txt K mg) : FnOk P w K mg base (L2.CX P w) 1 T.a_beside T.fd_beside ["one", "other"] (SpD K (F_beside T.a_TooBig)) := by
  refine def_ok T.F_beside sc_beside (len_beside T.a_TooBig) (fun cdv A outer s H E hr => ⟨t_beside K E T.a_TooBig, (pss_cons (ps_if (PW.pt (pw_or (pt_cmpR opGt (pe_op opAdd (pe_ix ix_seq (pv 0) pe_int (fun _ _ => rfl)) (pe_ix ix_seq (pv 1) pe_int (fun _ _ => rfl))) (pe_glob rfl T.c_PLACES ⟨_, rfl⟩) (nomark _)) (pw_or1 (pt_cmpR opGt (pe_op opAdd (pe_callB callLen (by rfl) T.m_len PySem.boot_len (pa_cons (pe_ix ix_seq (pv 0) pe_int (fun _ _ => rfl)) pa_nil)) (pe_callB callLen (by rfl) T.m_len PySem.boot_len (pa_cons (pe_ix ix_seq (pv 1) pe_int (fun _ _ => rfl)) pa_nil))) (pe_glob rfl T.c_MOVES ⟨_, rfl⟩) (nomark _))))) (pss_one (show PS _ _ (tRz E (.ref T.a_TooBig)) from ps_raise rfl (takes_of rfl rfl rfl rfl) (pmk_own PySem.F.excBase_ValueError T.x_TooBig T.g_TooBig T.k_TooBig (raises_own T.p_TooBig T.t_TooBig) (by exact rfl)))) pss_nil)
      (pss_cons (ps_set (i := 2) sc_beside.nd rfl (by first | exact Or.inl rfl | exact Or.inr rfl) (pe_op opMulT (pe_tup (pa_cons pe_int pa_nil)) (pe_ix ix_seq (pv 0) pe_int (fun _ _ => rfl))))
      (pss_cons (ps_set (i := 3) sc_beside.nd rfl (by first | exact Or.inl rfl | exact Or.inr rfl) (pe_op opMulT (pe_tup (pa_cons pe_int pa_nil)) (pe_ix ix_seq (pv 1) pe_int (fun _ _ => rfl))))
      (pss_cons (ps_setLc (i := 4) (own := [("takes", 5), ("gives", 6)]) rfl sc_beside.nd rfl rfl (sw_true rfl rfl rfl (by decide +kernel)) (pi_tup (pe_ix ix_seq (pv 0) pe_int (fun _ _ => rfl))) (blkOk_by (N := N_beside) (sc := (defScope s_beside)) (own := [("takes", 5), ("gives", 6)]) (by decide +kernel)) (fun _ _ _ _ _ => (pg_tup rfl (pgs_cons (pg_name (i := 5) sc_beside.nd rfl (by first | exact Or.inl rfl | exact Or.inr rfl)) (pgs_cons (pg_name (i := 6) sc_beside.nd rfl (by first | exact Or.inl rfl | exact Or.inr rfl)) pgs_nil)))) (fun _ _ _ _ _ => pts_nil) (fun _ _ _ _ _ => (pe_tup (pa_cons (pe_op opAdd (pv 5) (pv 3)) (pa_cons (pe_op opAdd (pv 6) (pv 3)) pa_nil)))))
      (pss_cons (ps_expr (pe_bm PySem.F.plainAttrs_list PySem.F.slot_list_extend PySem.F.type_list_extend mt_extend (pv 4) (pa_cons (pe_lc (own := [("takes", 5), ("gives", 6)]) rfl sc_beside.nd (pi_tup (pe_ix ix_seq (pv 1) pe_int (fun _ _ => rfl))) (blkOk_by (N := N_beside) (sc := (defScope s_beside)) (own := [("takes", 5), ("gives", 6)]) (by decide +kernel)) (fun _ _ _ _ _ => (pg_tup rfl (pgs_cons (pg_name (i := 5) sc_beside.nd rfl (by first | exact Or.inl rfl | exact Or.inr rfl)) (pgs_cons (pg_name (i := 6) sc_beside.nd rfl (by first | exact Or.inl rfl | exact Or.inr rfl)) pgs_nil)))) (fun _ _ _ _ _ => pts_nil) (fun _ _ _ _ _ => (pe_tup (pa_cons (pe_op opAdd (pv 2) (pv 5)) (pa_cons (pe_op opAdd (pv 2) (pv 6)) pa_nil))))) pa_nil)))
      (pss_one (ps_ret (pe_tup (pa_cons (pe_op opAdd (pe_ix ix_seq (pv 0) pe_int (fun _ _ => rfl)) (pe_ix ix_seq (pv 1) pe_int (fun _ _ => rfl))) (pa_cons (pe_callTy callTup (by rfl) T.m_tuple PyProof.Rows.boot_tuple (pa_cons (pv 4) pa_nil)) pa_nil)))))))))), fun ds o h => sem_beside T.a_TooBig h⟩)

theorem ok_before (T : Txt K mg) : FnOk P w K mg base (L2.CX P w) 1 T.a_before T.fd_before ["net", "move", "goal"] (SpD K F_before) := by
  refine def_ok T.F_before sc_before (len_before) (fun cdv A outer s H E hr => ⟨t_before K E , (pss_cons (ps_asg (pe_ix ix_seq (pe_ix ix_seq (pv 0) pe_int (fun _ _ => rfl)) (pv 1) (fun _ _ => rfl)) (pg_tup rfl (pgs_cons (pg_name (i := 3) sc_before.nd rfl (by first | exact Or.inl rfl | exact Or.inr rfl)) (pgs_cons (pg_name (i := 4) sc_before.nd rfl (by first | exact Or.inl rfl | exact Or.inr rfl)) pgs_nil))))
      (pss_one (ps_ret (pe_callTy callTup (by rfl) T.m_tuple PyProof.Rows.boot_tuple (pa_cons (pe_lc (own := [("a", 5), ("b", 6), ("c", 7)]) rfl sc_before.nd (pi_zip3 (by rfl) T.m_zip (pa_cons (pv 3) (pa_cons (pv 4) (pa_cons (pv 2) pa_nil)))) (blkOk_by (N := N_before) (sc := (defScope s_before)) (own := [("a", 5), ("b", 6), ("c", 7)]) (by decide +kernel)) (fun _ _ _ _ _ => (pg_tup rfl (pgs_cons (pg_name (i := 5) sc_before.nd rfl (by first | exact Or.inl rfl | exact Or.inr rfl)) (pgs_cons (pg_name (i := 6) sc_before.nd rfl (by first | exact Or.inl rfl | exact Or.inr rfl)) (pgs_cons (pg_name (i := 7) sc_before.nd rfl (by first | exact Or.inl rfl | exact Or.inr rfl)) pgs_nil))))) (fun _ _ _ _ _ => pts_nil) (fun _ _ _ _ _ => (pe_op opAdd (pv 5) (pe_callB (call_max2 rfl) (by rfl) T.m_max (by decide +kernel) (pa_cons pe_int (pa_cons (pe_op opSub (pv 7) (pv 6)) pa_nil)))))) pa_nil))))), fun ds o h => sem_before  h⟩)

theorem ok_is_over_one (T : Txt K mg) : FnOk P w K mg base (L2.CX P w) 2 T.a_is_over_one T.fd_is_over_one ["hoard", "some"] (SpD K F_is_over_one) := by
  refine def_ok T.F_is_over_one sc_is_over_one (len_is_over_one) (fun cdv A outer s H E hr => ⟨t_is_over_one K E , (pss_cons (ps_for (passes_of rfl) rfl (pi_list (pv 1)) (pg_name (i := 2) sc_is_over_one.nd rfl (by first | exact Or.inl rfl | exact Or.inr rfl)) (pss_one (ps_if (pt_val (pe_callS (ok_over T) (hr.mono (by decide)) rfl T.g_over T.F_over.kp T.b_over (fun σ => passAt (takes_of rfl rfl rfl rfl) σ) (pa_cons (pv 0) (pa_cons (pv 2) pa_nil)))) (pss_one (ps_ret pe_bl)) pss_nil)))
      (pss_one (ps_ret pe_bl))), fun ds o h => sem_is_over_one  h⟩)

theorem ok_met_from (T : Txt K mg) : FnOk P w K mg base (L2.CX P w) 3 T.a_met_from T.fd_met_from ["net", "goal"] (SpD K F_met_from) := by
  refine def_ok T.F_met_from sc_met_from (len_met_from) (fun cdv A outer s H E hr => ⟨t_met_from K E , (pss_cons (ps_set (i := 2) sc_met_from.nd rfl (by first | exact Or.inl rfl | exact Or.inr rfl) (pe_lst (pa_cons (pe_tup (pa_cons (pv 1) (pa_cons pe_non (pa_cons pe_non pa_nil)))) pa_nil)))
      (pss_cons (ps_set (i := 3) sc_met_from.nd rfl (by first | exact Or.inl rfl | exact Or.inr rfl) pe_int)
      (pss_cons (ps_while (passes_of rfl) (pt_cmpR opLt (pv 3) (pe_callB callLen (by rfl) T.m_len PySem.boot_len (pa_cons (pv 2) pa_nil)) (nomark _)) (pss_cons (ps_set (i := 4) sc_met_from.nd rfl (by first | exact Or.inl rfl | exact Or.inr rfl) (pe_ix ix_seq (pe_ix ix_seq (pv 2) (pv 3) (fun _ _ => rfl)) pe_int (fun _ _ => rfl)))
      (pss_cons (ps_for (passes_of rfl) rfl (pi_range1 rfl T.m_range (pa_cons (pe_callB callLen (by rfl) T.m_len PySem.boot_len (pa_cons (pe_ix ix_seq (pv 0) pe_int (fun _ _ => rfl)) pa_nil)) pa_nil)) (pg_name (i := 5) sc_met_from.nd rfl (by first | exact Or.inl rfl | exact Or.inr rfl)) (pss_cons (ps_set (i := 6) sc_met_from.nd rfl (by first | exact Or.inl rfl | exact Or.inr rfl) (pe_callS (ok_before T) (hr.mono (by decide)) rfl T.g_before T.F_before.kp T.b_before (fun σ => passAt (takes_of rfl rfl rfl rfl) σ) (pa_cons (pv 0) (pa_cons (pv 5) (pa_cons (pv 4) pa_nil)))))
      (pss_one (ps_if (pt_not (pt_val (pe_callS (ok_is_over_one T) (hr.mono (by decide)) rfl T.g_is_over_one T.F_is_over_one.kp T.b_is_over_one (fun σ => passAt (takes_of rfl rfl rfl rfl) σ) (pa_cons (pv 6) (pa_cons (pe_lc (own := [("row", 7)]) rfl sc_met_from.nd (pi_list (pv 2)) (blkOk_by (N := N_met_from) (sc := (defScope s_met_from)) (own := [("row", 7)]) (by decide +kernel)) (fun _ _ _ _ _ => (pg_name (i := 7) sc_met_from.nd rfl (by first | exact Or.inl rfl | exact Or.inr rfl))) (fun _ _ _ _ _ => pts_nil) (fun _ _ _ _ _ => (pe_ix ix_seq (pv 7) pe_int (fun _ _ => rfl)))) pa_nil))))) (pss_one (ps_expr (pe_bm PySem.F.plainAttrs_list PySem.F.slot_list_append PySem.F.type_list_append mt_append (pv 2) (pa_cons (pe_tup (pa_cons (pv 6) (pa_cons (pv 5) (pa_cons (pv 3) pa_nil)))) pa_nil)))) pss_nil))))
      (pss_one (ps_set (i := 3) sc_met_from.nd rfl (by first | exact Or.inl rfl | exact Or.inr rfl) (pe_op opAdd (pv 3) pe_int))))))
      (pss_one (ps_ret (pv 2)))))), fun ds o h => sem_met_from  h⟩)

theorem ok_least_of (T : Txt K mg) : FnOk P w K mg base (L2.CX P w) 3 T.a_least_of T.fd_least_of ["hoards"] (SpD K F_least_of) := by
  refine def_ok T.F_least_of sc_least_of (len_least_of) (fun cdv A outer s H E hr => ⟨t_least_of K E , (pss_cons (ps_set (i := 1) sc_least_of.nd rfl (by first | exact Or.inl rfl | exact Or.inr rfl) (pe_lst pa_nil))
      (pss_cons (ps_for (passes_of rfl) rfl (pi_list (pe_sortedSum rfl (by rfl) T.m_sorted (by rfl) T.m_sum (pa_cons (pv 0) pa_nil))) (pg_name (i := 2) sc_least_of.nd rfl (by first | exact Or.inl rfl | exact Or.inr rfl)) (pss_one (ps_if (pt_not (pt_val (pe_callS (ok_is_over_one T) (hr.mono (by decide)) rfl T.g_is_over_one T.F_is_over_one.kp T.b_is_over_one (fun σ => passAt (takes_of rfl rfl rfl rfl) σ) (pa_cons (pv 2) (pa_cons (pv 1) pa_nil))))) (pss_one (ps_expr (pe_bm PySem.F.plainAttrs_list PySem.F.slot_list_append PySem.F.type_list_append mt_append (pv 1) (pa_cons (pv 2) pa_nil)))) pss_nil)))
      (pss_one (ps_ret (pe_callB callSorted (by rfl) T.m_sorted (by decide +kernel) (pa_cons (pv 1) pa_nil)))))), fun ds o h => sem_least_of  h⟩)

theorem ok_run_from (T : Txt K mg) : FnOk P w K mg base (L2.CX P w) 1 T.a_run_from T.fd_run_from ["found", "at"] (SpD K F_run_from) := by
  refine def_ok T.F_run_from sc_run_from (len_run_from) (fun cdv A outer s H E hr => ⟨t_run_from K E , (pss_cons (ps_set (i := 2) sc_run_from.nd rfl (by first | exact Or.inl rfl | exact Or.inr rfl) (pe_lst pa_nil))
      (pss_cons (ps_while (passes_of rfl) (pt_cmpR opNotN (pe_ix ix_seq (pe_ix ix_seq (pv 0) (pv 1) (fun _ _ => rfl)) pe_int (fun _ _ => rfl)) pe_non (nomark _)) (pss_cons (ps_expr (pe_bm PySem.F.plainAttrs_list PySem.F.slot_list_append PySem.F.type_list_append mt_append (pv 2) (pa_cons (pe_ix ix_seq (pe_ix ix_seq (pv 0) (pv 1) (fun _ _ => rfl)) pe_int (fun _ _ => rfl)) pa_nil)))
      (pss_one (ps_set (i := 1) sc_run_from.nd rfl (by first | exact Or.inl rfl | exact Or.inr rfl) (pe_ix ix_seq (pe_ix ix_seq (pv 0) (pv 1) (fun _ _ => rfl)) pe_int (fun _ _ => rfl))))))
      (pss_one (ps_ret (pv 2))))), fun ds o h => sem_run_from  h⟩)

theorem ok_cover (T : Txt K mg) : FnOk P w K mg base (L2.CX P w) 4 T.a_cover T.fd_cover ["net", "start", "goal"] (SpD K (F_cover T.a_NoHoard)) := by
  refine def_ok T.F_cover sc_cover (len_cover T.a_NoHoard) (fun cdv A outer s H E hr => ⟨t_cover K E T.a_NoHoard, (pss_cons (ps_expr (pe_callS (ok_need_hoard T) (hr.mono (by decide)) rfl T.g_need_hoard T.F_need_hoard.kp T.b_need_hoard (fun σ => passAt (takes_of rfl rfl rfl rfl) σ) (pa_cons (pv 0) (pa_cons (pv 1) pa_nil))))
      (pss_cons (ps_expr (pe_callS (ok_need_hoard T) (hr.mono (by decide)) rfl T.g_need_hoard T.F_need_hoard.kp T.b_need_hoard (fun σ => passAt (takes_of rfl rfl rfl rfl) σ) (pa_cons (pv 0) (pa_cons (pv 2) pa_nil))))
      (pss_cons (ps_set (i := 3) sc_cover.nd rfl (by first | exact Or.inl rfl | exact Or.inr rfl) (pe_callS (ok_met_from T) (hr.mono (by decide)) rfl T.g_met_from T.F_met_from.kp T.b_met_from (fun σ => passAt (takes_of rfl rfl rfl rfl) σ) (pa_cons (pv 0) (pa_cons (pv 2) pa_nil))))
      (pss_cons (ps_for (passes_of rfl) rfl (pi_range1 rfl T.m_range (pa_cons (pe_callB callLen (by rfl) T.m_len PySem.boot_len (pa_cons (pv 3) pa_nil)) pa_nil)) (pg_name (i := 4) sc_cover.nd rfl (by first | exact Or.inl rfl | exact Or.inr rfl)) (pss_one (ps_if (pt_val (pe_callS (ok_over T) (hr.mono (by decide)) rfl T.g_over T.F_over.kp T.b_over (fun σ => passAt (takes_of rfl rfl rfl rfl) σ) (pa_cons (pv 1) (pa_cons (pe_ix ix_seq (pe_ix ix_seq (pv 3) (pv 4) (fun _ _ => rfl)) pe_int (fun _ _ => rfl)) pa_nil)))) (pss_one (ps_ret (pe_tup (pa_cons pe_str (pa_cons (pe_callS (ok_run_from T) (hr.mono (by decide)) rfl T.g_run_from T.F_run_from.kp T.b_run_from (fun σ => passAt (takes_of rfl rfl rfl rfl) σ) (pa_cons (pv 3) (pa_cons (pv 4) pa_nil))) pa_nil))))) pss_nil)))
      (pss_one (ps_ret (pe_tup (pa_cons pe_str (pa_cons (pe_callS (ok_least_of T) (hr.mono (by decide)) rfl T.g_least_of T.F_least_of.kp T.b_least_of (fun σ => passAt (takes_of rfl rfl rfl rfl) σ) (pa_cons (pe_lc (own := [("row", 5)]) rfl sc_cover.nd (pi_list (pv 3)) (blkOk_by (N := N_cover) (sc := (defScope s_cover)) (own := [("row", 5)]) (by decide +kernel)) (fun _ _ _ _ _ => (pg_name (i := 5) sc_cover.nd rfl (by first | exact Or.inl rfl | exact Or.inr rfl))) (fun _ _ _ _ _ => pts_nil) (fun _ _ _ _ _ => (pe_ix ix_seq (pv 5) pe_int (fun _ _ => rfl)))) pa_nil)) pa_nil))))))))), fun ds o h => sem_cover T.a_NoHoard h⟩)

theorem ok_way_to (T : Txt K mg) : FnOk P w K mg base (L2.CX P w) 1 T.a_way_to T.fd_way_to ["found", "at"] (SpD K F_way_to) := by
  refine def_ok T.F_way_to sc_way_to (len_way_to) (fun cdv A outer s H E hr => ⟨t_way_to K E , (pss_cons (ps_set (i := 2) sc_way_to.nd rfl (by first | exact Or.inl rfl | exact Or.inr rfl) (pe_lst (pa_cons (pv 1) pa_nil)))
      (pss_cons (ps_while (passes_of rfl) (pt_cmpR opNotN (pe_ix ix_seq (pe_ix ix_seq (pv 0) (pe_ix ix_seq (pv 2) (pe_un unNeg pe_int) (fun _ _ => rfl)) (fun _ _ => rfl)) pe_int (fun _ _ => rfl)) pe_non (nomark _)) (pss_one (ps_expr (pe_bm PySem.F.plainAttrs_list PySem.F.slot_list_append PySem.F.type_list_append mt_append (pv 2) (pa_cons (pe_ix ix_seq (pe_ix ix_seq (pv 0) (pe_ix ix_seq (pv 2) (pe_un unNeg pe_int) (fun _ _ => rfl)) (fun _ _ => rfl)) pe_int (fun _ _ => rfl)) pa_nil)))))
      (pss_one (ps_ret (pe_revA (pv 2)))))), fun ds o h => sem_way_to  h⟩)

theorem ok_run_on (T : Txt K mg) : FnOk P w K mg base (L2.CX P w) 1 T.a_run_on T.fd_run_on ["found", "way"] (SpD K F_run_on) := by
  refine def_ok T.F_run_on sc_run_on (len_run_on) (fun cdv A outer s H E hr => ⟨t_run_on K E , (pss_one (ps_ret (pe_lc (own := [("at", 2)]) rfl sc_run_on.nd (pi_list (pe_slice sl_all (pv 1) (po_some pe_int) po_none)) (blkOk_by (N := N_run_on) (sc := (defScope s_run_on)) (own := [("at", 2)]) (by decide +kernel)) (fun _ _ _ _ _ => (pg_name (i := 2) sc_run_on.nd rfl (by first | exact Or.inl rfl | exact Or.inr rfl))) (fun _ _ _ _ _ => pts_nil) (fun _ _ _ _ _ => (pe_ix ix_seq (pe_ix ix_seq (pv 0) (pv 2) (fun _ _ => rfl)) pe_int (fun _ _ => rfl)))))), fun ds o h => sem_run_on  h⟩)

theorem ok_pump_at (T : Txt K mg) : FnOk P w K mg base (L2.CX P w) 2 T.a_pump_at T.fd_pump_at ["found", "at"] (SpD K F_pump_at) := by
  refine def_ok T.F_pump_at sc_pump_at (len_pump_at) (fun cdv A outer s H E hr => ⟨t_pump_at K E , (pss_cons (ps_set (i := 2) sc_pump_at.nd rfl (by first | exact Or.inl rfl | exact Or.inr rfl) (pe_callS (ok_way_to T) (hr.mono (by decide)) rfl T.g_way_to T.F_way_to.kp T.b_way_to (fun σ => passAt (takes_of rfl rfl rfl rfl) σ) (pa_cons (pv 0) (pa_cons (pv 1) pa_nil))))
      (pss_cons (ps_for (passes_of rfl) rfl (pi_range1 rfl T.m_range (pa_cons (pe_op opSub (pe_callB callLen (by rfl) T.m_len PySem.boot_len (pa_cons (pv 2) pa_nil)) pe_int) pa_nil)) (pg_name (i := 3) sc_pump_at.nd rfl (by first | exact Or.inl rfl | exact Or.inr rfl)) (pss_one (ps_if (pt_val (pe_callS (ok_over T) (hr.mono (by decide)) rfl T.g_over T.F_over.kp T.b_over (fun σ => passAt (takes_of rfl rfl rfl rfl) σ) (pa_cons (pe_ix ix_seq (pe_ix ix_seq (pv 0) (pv 1) (fun _ _ => rfl)) pe_int (fun _ _ => rfl)) (pa_cons (pe_ix ix_seq (pe_ix ix_seq (pv 0) (pe_ix ix_seq (pv 2) (pv 3) (fun _ _ => rfl)) (fun _ _ => rfl)) pe_int (fun _ _ => rfl)) pa_nil)))) (pss_one (ps_ret (pe_tup (pa_cons pe_str (pa_cons (pe_callS (ok_run_on T) (hr.mono (by decide)) rfl T.g_run_on T.F_run_on.kp T.b_run_on (fun σ => passAt (takes_of rfl rfl rfl rfl) σ) (pa_cons (pv 0) (pa_cons (pe_slice sl_all (pv 2) po_none (po_some (pe_op opAdd (pv 3) pe_int))) pa_nil))) (pa_cons (pe_callS (ok_run_on T) (hr.mono (by decide)) rfl T.g_run_on T.F_run_on.kp T.b_run_on (fun σ => passAt (takes_of rfl rfl rfl rfl) σ) (pa_cons (pv 0) (pa_cons (pe_slice sl_all (pv 2) (po_some (pv 3)) po_none) pa_nil))) pa_nil)))))) pss_nil)))
      (pss_one (ps_ret pe_non)))), fun ds o h => sem_pump_at  h⟩)

theorem ok_gone_through (T : Txt K mg) : FnOk P w K mg base (L2.CX P w) 3 T.a_gone_through T.fd_gone_through ["net", "start"] (SpD K F_gone_through) := by
  refine def_ok T.F_gone_through sc_gone_through (len_gone_through) (fun cdv A outer s H E hr => ⟨t_gone_through K E , (pss_cons (ps_set (i := 2) sc_gone_through.nd rfl (by first | exact Or.inl rfl | exact Or.inr rfl) (pe_lst (pa_cons (pe_tup (pa_cons (pv 1) (pa_cons pe_non (pa_cons pe_non pa_nil)))) pa_nil)))
      (pss_cons (ps_set (i := 3) sc_gone_through.nd rfl (by first | exact Or.inl rfl | exact Or.inr rfl) (pe_disp1 (units1 hr) (pv 1) pe_int))
      (pss_cons (ps_set (i := 4) sc_gone_through.nd rfl (by first | exact Or.inl rfl | exact Or.inr rfl) pe_int)
      (pss_cons (ps_while (passes_of rfl) (pt_cmpR opLt (pv 4) (pe_callB callLen (by rfl) T.m_len PySem.boot_len (pa_cons (pv 2) pa_nil)) (nomark _)) (pss_cons (ps_for (passes_of rfl) rfl (pi_range1 rfl T.m_range (pa_cons (pe_callB callLen (by rfl) T.m_len PySem.boot_len (pa_cons (pe_ix ix_seq (pv 0) pe_int (fun _ _ => rfl)) pa_nil)) pa_nil)) (pg_name (i := 5) sc_gone_through.nd rfl (by first | exact Or.inl rfl | exact Or.inr rfl)) (pss_one (ps_if (pt_val (pe_callS (ok_over T) (hr.mono (by decide)) rfl T.g_over T.F_over.kp T.b_over (fun σ => passAt (takes_of rfl rfl rfl rfl) σ) (pa_cons (pe_ix ix_seq (pe_ix ix_seq (pv 2) (pv 4) (fun _ _ => rfl)) pe_int (fun _ _ => rfl)) (pa_cons (pe_ix ix_seq (pe_ix ix_seq (pe_ix ix_seq (pv 0) pe_int (fun _ _ => rfl)) (pv 5) (fun _ _ => rfl)) pe_int (fun _ _ => rfl)) pa_nil)))) (pss_cons (ps_set (i := 6) sc_gone_through.nd rfl (by first | exact Or.inl rfl | exact Or.inr rfl) (pe_callS (ok_led T) (hr.mono (by decide)) rfl T.g_led T.F_led.kp T.b_led (fun σ => passAt (takes_of rfl rfl rfl rfl) σ) (pa_cons (pv 0) (pa_cons (pe_ix ix_seq (pe_ix ix_seq (pv 2) (pv 4) (fun _ _ => rfl)) pe_int (fun _ _ => rfl)) (pa_cons (pv 5) pa_nil)))))
      (pss_one (ps_if (pt_cmp (pc_dnotin (units1 hr) (pv 6) (pv 3)) (by rfl)) (pss_cons (ps_dput (units1 hr) (pv 3) (pv 6) (pe_callB callLen (by rfl) T.m_len PySem.boot_len (pa_cons (pv 2) pa_nil)) (by rfl))
      (pss_cons (ps_expr (pe_bm PySem.F.plainAttrs_list PySem.F.slot_list_append PySem.F.type_list_append mt_append (pv 2) (pa_cons (pe_tup (pa_cons (pv 6) (pa_cons (pv 5) (pa_cons (pv 4) pa_nil)))) pa_nil)))
      (pss_cons (ps_set (i := 7) sc_gone_through.nd rfl (by first | exact Or.inl rfl | exact Or.inr rfl) (pe_callS (ok_pump_at T) (hr.mono (by decide)) rfl T.g_pump_at T.F_pump_at.kp T.b_pump_at (fun σ => passAt (takes_of rfl rfl rfl rfl) σ) (pa_cons (pv 2) (pa_cons (pe_op opSub (pe_callB callLen (by rfl) T.m_len PySem.boot_len (pa_cons (pv 2) pa_nil)) pe_int) pa_nil))))
      (pss_one (ps_if (pt_cmpR opNotN (pv 7) pe_non (nomark _)) (pss_one (ps_ret (pe_tup (pa_cons (pv 2) (pa_cons (pv 7) pa_nil))))) pss_nil))))) pss_nil))) pss_nil)))
      (pss_one (ps_set (i := 4) sc_gone_through.nd rfl (by first | exact Or.inl rfl | exact Or.inr rfl) (pe_op opAdd (pv 4) pe_int)))))
      (pss_one (ps_ret (pe_tup (pa_cons (pv 2) (pa_cons pe_non pa_nil))))))))), fun ds o h => sem_gone_through  h⟩)

theorem ok_all_of (T : Txt K mg) : FnOk P w K mg base (L2.CX P w) 4 T.a_all_of T.fd_all_of ["net", "start"] (SpD K (F_all_of T.a_NoHoard)) := by
  refine def_ok T.F_all_of sc_all_of (len_all_of T.a_NoHoard) (fun cdv A outer s H E hr => ⟨t_all_of K E T.a_NoHoard, (pss_cons (ps_expr (pe_callS (ok_need_hoard T) (hr.mono (by decide)) rfl T.g_need_hoard T.F_need_hoard.kp T.b_need_hoard (fun σ => passAt (takes_of rfl rfl rfl rfl) σ) (pa_cons (pv 0) (pa_cons (pv 1) pa_nil))))
      (pss_cons (ps_asg (pe_callS (ok_gone_through T) (hr.mono (by decide)) rfl T.g_gone_through T.F_gone_through.kp T.b_gone_through (fun σ => passAt (takes_of rfl rfl rfl rfl) σ) (pa_cons (pv 0) (pa_cons (pv 1) pa_nil))) (pg_tup rfl (pgs_cons (pg_name (i := 2) sc_all_of.nd rfl (by first | exact Or.inl rfl | exact Or.inr rfl)) (pgs_cons (pg_name (i := 3) sc_all_of.nd rfl (by first | exact Or.inl rfl | exact Or.inr rfl)) pgs_nil))))
      (pss_cons (ps_if (pt_cmpR opNotN (pv 3) pe_non (nomark _)) (pss_one (ps_ret (pv 3))) pss_nil)
      (pss_one (ps_ret (pe_tup (pa_cons pe_str (pa_cons (pe_callB callSorted (by rfl) T.m_sorted (by decide +kernel) (pa_cons (pe_lc (own := [("row", 4)]) rfl sc_all_of.nd (pi_list (pv 2)) (blkOk_by (N := N_all_of) (sc := (defScope s_all_of)) (own := [("row", 4)]) (by decide +kernel)) (fun _ _ _ _ _ => (pg_name (i := 4) sc_all_of.nd rfl (by first | exact Or.inl rfl | exact Or.inr rfl))) (fun _ _ _ _ _ => pts_nil) (fun _ _ _ _ _ => (pe_ix ix_seq (pv 4) pe_int (fun _ _ => rfl)))) pa_nil)) pa_nil)))))))), fun ds o h => sem_all_of T.a_NoHoard h⟩)

theorem ok_cell_at_l (T : Txt K mg) : FnOk P w K mg base (L2.CX P w) 1 T.a_cell_at_l T.fd_cell_at_l ["_law_script", "_law_k"] (SpD K F_cell_at_l) := by
  refine def_ok T.F_cell_at_l sc_cell_at_l (len_cell_at_l) (fun cdv A outer s H E hr => ⟨t_cell_at_l K E , (pss_cons (ps_if (pt_cmpR opLt (pv 1) (pe_callB callLen (by rfl) T.m_len PySem.boot_len (pa_cons (pv 0) pa_nil)) (nomark _)) (pss_one (ps_ret (pe_ix ix_seq (pv 0) (pv 1) (fun _ _ => rfl)))) pss_nil)
      (pss_cons (ps_if (pt_cmpR (opEq hr.units) (pv 0) (pe_lst pa_nil) (nomark _)) (pss_one (ps_ret pe_int)) pss_nil)
      (pss_one (ps_ret (pe_op opAdd (pe_op opMul (pe_ix ix_seq (pv 0) (pe_op opMod (pv 1) (pe_callB callLen (by rfl) T.m_len PySem.boot_len (pa_cons (pv 0) pa_nil))) (fun _ _ => rfl)) pe_int) (pv 1)))))), fun ds o h => sem_cell_at_l  h⟩)

theorem ok_mixed_l (T : Txt K mg) : FnOk P w K mg base (L2.CX P w) 2 T.a_mixed_l T.fd_mixed_l ["_law_script", "_law_k", "_law_many"] (SpD K F_mixed_l) := by
  refine def_ok T.F_mixed_l sc_mixed_l (len_mixed_l) (fun cdv A outer s H E hr => ⟨t_mixed_l K E , (pss_cons (ps_set (i := 3) sc_mixed_l.nd rfl (by first | exact Or.inl rfl | exact Or.inr rfl) (pe_op opMod (pe_op opMul (pe_op opAdd (pe_op opAdd (pe_callS (ok_cell_at_l T) (hr.mono (by decide)) rfl T.g_cell_at_l T.F_cell_at_l.kp T.b_cell_at_l (fun σ => passAt (takes_of rfl rfl rfl rfl) σ) (pa_cons (pv 0) (pa_cons (pv 1) pa_nil))) (pe_op opMul pe_int (pv 1))) pe_int) pe_int) pe_int))
      (pss_one (ps_ret (pe_op opMod (pe_op opMod (pe_op opAdd (pe_op opAdd (pe_op opMul (pv 3) (pv 3)) (pe_op opMul pe_int (pv 3))) (pv 1)) pe_int) (pv 2))))), fun ds o h => sem_mixed_l  h⟩)

theorem ok_move_l (T : Txt K mg) : FnOk P w K mg base (L2.CX P w) 3 T.a_move_l T.fd_move_l ["_law_script", "_law_at", "_law_size", "_law_even"] (SpD K F_move_l) := by
  refine def_ok T.F_move_l sc_move_l (len_move_l) (fun cdv A outer s H E hr => ⟨t_move_l K E , (pss_cons (ps_setLc (i := 5) (own := [("_law_k", 4)]) rfl sc_move_l.nd rfl rfl (sw_true rfl rfl rfl (by decide +kernel)) (pi_range1 rfl T.m_range (pa_cons (pv 2) pa_nil)) (blkOk_by (N := N_move_l) (sc := (defScope s_move_l)) (own := [("_law_k", 4)]) (by decide +kernel)) (fun _ _ _ _ _ => (pg_name (i := 4) sc_move_l.nd rfl (by first | exact Or.inl rfl | exact Or.inr rfl))) (fun _ _ _ _ _ => pts_nil) (fun _ _ _ _ _ => (pe_callS (ok_mixed_l T) (hr.mono (by decide)) rfl T.g_mixed_l T.F_mixed_l.kp T.b_mixed_l (fun σ => passAt takes0 σ) (pa_cons (pv 0) (pa_cons (pe_op opAdd (pv 1) (pv 4)) (pa_cons pe_int pa_nil))))))
      (pss_cons (ps_setLc (i := 6) (own := [("_law_cell", 9)]) rfl sc_move_l.nd rfl rfl (sw_true rfl rfl rfl (by decide +kernel)) (pi_list (pv 5)) (blkOk_by (N := N_move_l) (sc := (defScope s_move_l)) (own := [("_law_cell", 9)]) (by decide +kernel)) (fun _ _ _ _ _ => (pg_name (i := 9) sc_move_l.nd rfl (by first | exact Or.inl rfl | exact Or.inr rfl))) (fun _ _ _ _ _ => pts_nil) (fun _ _ _ _ _ => (pe_ix ix_seq (pe_lst (pa_cons pe_int (pa_cons pe_int (pa_cons pe_int (pa_cons pe_int (pa_cons pe_int pa_nil)))))) (pe_op opMod (pv 9) pe_int) (fun _ _ => rfl))))
      (pss_cons (ps_setLc (i := 7) (own := [("_law_cell", 9)]) rfl sc_move_l.nd rfl rfl (sw_true rfl rfl rfl (by decide +kernel)) (pi_list (pv 5)) (blkOk_by (N := N_move_l) (sc := (defScope s_move_l)) (own := [("_law_cell", 9)]) (by decide +kernel)) (fun _ _ _ _ _ => (pg_name (i := 9) sc_move_l.nd rfl (by first | exact Or.inl rfl | exact Or.inr rfl))) (fun _ _ _ _ _ => pts_nil) (fun _ _ _ _ _ => (pe_ix ix_seq (pe_lst (pa_cons pe_int (pa_cons pe_int (pa_cons pe_int (pa_cons pe_int (pa_cons pe_int pa_nil)))))) (pe_op opDiv (pv 9) pe_int) (fun _ _ => rfl))))
      (pss_cons (ps_if (pt_val (pv 3)) (pss_cons (ps_setLc (i := 7) (own := [("_law_k", 4)]) rfl sc_move_l.nd rfl rfl (sw_true rfl rfl rfl (by decide +kernel)) (pi_range1 rfl T.m_range (pa_cons (pv 2) pa_nil)) (blkOk_by (N := N_move_l) (sc := (defScope s_move_l)) (own := [("_law_k", 4)]) (by decide +kernel)) (fun _ _ _ _ _ => (pg_name (i := 4) sc_move_l.nd rfl (by first | exact Or.inl rfl | exact Or.inr rfl))) (fun _ _ _ _ _ => pts_nil) (fun _ _ _ _ _ => pe_int))
      (pss_cons (ps_set (i := 8) sc_move_l.nd rfl (by first | exact Or.inl rfl | exact Or.inr rfl) (pe_callS (ok_mixed_l T) (hr.mono (by decide)) rfl T.g_mixed_l T.F_mixed_l.kp T.b_mixed_l (fun σ => passAt (takes_of rfl rfl rfl rfl) σ) (pa_cons (pv 0) (pa_cons (pe_op opAdd (pv 1) pe_int) (pa_cons (pe_op opPow pe_int pe_int) pa_nil)))))
      (pss_one (ps_for (passes_of rfl) rfl (pi_range1 rfl T.m_range (pa_cons (pe_callB (cr_sum rfl) (by rfl) T.m_sum (by decide +kernel) (pa_cons (pv 6) pa_nil)) pa_nil)) (pg_name (i := 4) sc_move_l.nd rfl (by first | exact Or.inl rfl | exact Or.inr rfl)) (pss_cons (ps_asg (pe_op opAdd (pe_ix ix_seq (pv 7) (pe_op opMod (pv 8) (pv 2)) (fun _ _ => rfl)) pe_int) (pg_sub (pv 7) (pe_op opMod (pv 8) (pv 2)) set_list))
      (pss_one (ps_set (i := 8) sc_move_l.nd rfl (by first | exact Or.inl rfl | exact Or.inr rfl) (pe_op opDiv (pv 8) (pv 2))))))))) pss_nil)
      (pss_one (ps_ret (pe_tup (pa_cons (pe_callTy callTup (by rfl) T.m_tuple PyProof.Rows.boot_tuple (pa_cons (pv 6) pa_nil)) (pa_cons (pe_callTy callTup (by rfl) T.m_tuple PyProof.Rows.boot_tuple (pa_cons (pv 7) pa_nil)) pa_nil))))))))), fun ds o h => sem_move_l  h⟩)

theorem ok_net_l (T : Txt K mg) : FnOk P w K mg base (L2.CX P w) 4 T.a_net_l T.fd_net_l ["_law_script", "_law_at"] (SpD K F_net_l) := by
  refine def_ok T.F_net_l sc_net_l (len_net_l) (fun cdv A outer s H E hr => ⟨t_net_l K E , (pss_cons (ps_set (i := 2) sc_net_l.nd rfl (by first | exact Or.inl rfl | exact Or.inr rfl) (pe_op opAdd pe_int (pe_callS (ok_mixed_l T) (hr.mono (by decide)) rfl T.g_mixed_l T.F_mixed_l.kp T.b_mixed_l (fun σ => passAt (takes_of rfl rfl rfl rfl) σ) (pa_cons (pv 0) (pa_cons (pv 1) (pa_cons pe_int pa_nil))))))
      (pss_cons (ps_set (i := 3) sc_net_l.nd rfl (by first | exact Or.inl rfl | exact Or.inr rfl) (pe_callS (ok_mixed_l T) (hr.mono (by decide)) rfl T.g_mixed_l T.F_mixed_l.kp T.b_mixed_l (fun σ => passAt (takes_of rfl rfl rfl rfl) σ) (pa_cons (pv 0) (pa_cons (pe_op opAdd (pv 1) pe_int) (pa_cons pe_int pa_nil)))))
      (pss_cons (ps_if (pt_cmpR (opEq hr.units) (pe_callS (ok_mixed_l T) (hr.mono (by decide)) rfl T.g_mixed_l T.F_mixed_l.kp T.b_mixed_l (fun σ => passAt (takes_of rfl rfl rfl rfl) σ) (pa_cons (pv 0) (pa_cons (pe_op opAdd (pv 1) pe_int) (pa_cons pe_int pa_nil)))) pe_int (nomark _)) (pss_one (ps_set (i := 2) sc_net_l.nd rfl (by first | exact Or.inl rfl | exact Or.inr rfl) pe_int)) pss_nil)
      (pss_cons (ps_set (i := 4) sc_net_l.nd rfl (by first | exact Or.inl rfl | exact Or.inr rfl) (pe_cmpR (opEq hr.units) (pe_callS (ok_mixed_l T) (hr.mono (by decide)) rfl T.g_mixed_l T.F_mixed_l.kp T.b_mixed_l (fun σ => passAt (takes_of rfl rfl rfl rfl) σ) (pa_cons (pv 0) (pa_cons (pe_op opAdd (pv 1) pe_int) (pa_cons pe_int pa_nil)))) pe_int (nomark _)))
      (pss_one (ps_ret (pe_tup (pa_cons (pv 2) (pa_cons (pe_callTy callTup (by rfl) T.m_tuple PyProof.Rows.boot_tuple (pa_cons (pe_lc (own := [("_law_k", 5)]) rfl sc_net_l.nd (pi_range1 rfl T.m_range (pa_cons (pv 3) pa_nil)) (blkOk_by (N := N_net_l) (sc := (defScope s_net_l)) (own := [("_law_k", 5)]) (by decide +kernel)) (fun _ _ _ _ _ => (pg_name (i := 5) sc_net_l.nd rfl (by first | exact Or.inl rfl | exact Or.inr rfl))) (fun _ _ _ _ _ => pts_nil) (fun _ _ _ _ _ => (pe_callS (ok_move_l T) (hr.mono (by decide)) rfl T.g_move_l T.F_move_l.kp T.b_move_l (fun σ => passAt takes0 σ) (pa_cons (pv 0) (pa_cons (pe_op opAdd (pe_op opAdd (pv 1) pe_int) (pe_op opMul pe_int (pv 5))) (pa_cons (pv 2) (pa_cons (pv 4) pa_nil))))))) pa_nil)) pa_nil))))))))), fun ds o h => sem_net_l  h⟩)

theorem ok_hoard_l (T : Txt K mg) : FnOk P w K mg base (L2.CX P w) 3 T.a_hoard_l T.fd_hoard_l ["_law_script", "_law_at", "_law_size", "_law_most"] (SpD K F_hoard_l) := by
  refine def_ok T.F_hoard_l sc_hoard_l (len_hoard_l) (fun cdv A outer s H E hr => ⟨t_hoard_l K E , (pss_one (ps_ret (pe_callTy callTup (by rfl) T.m_tuple PyProof.Rows.boot_tuple (pa_cons (pe_lc (own := [("_law_k", 4)]) rfl sc_hoard_l.nd (pi_range1 rfl T.m_range (pa_cons (pv 2) pa_nil)) (blkOk_by (N := N_hoard_l) (sc := (defScope s_hoard_l)) (own := [("_law_k", 4)]) (by decide +kernel)) (fun _ _ _ _ _ => (pg_name (i := 4) sc_hoard_l.nd rfl (by first | exact Or.inl rfl | exact Or.inr rfl))) (fun _ _ _ _ _ => pts_nil) (fun _ _ _ _ _ => (pe_callS (ok_mixed_l T) (hr.mono (by decide)) rfl T.g_mixed_l T.F_mixed_l.kp T.b_mixed_l (fun σ => passAt takes0 σ) (pa_cons (pv 0) (pa_cons (pe_op opAdd (pv 1) (pv 4)) (pa_cons (pe_op opAdd (pv 3) pe_int) pa_nil)))))) pa_nil)))), fun ds o h => sem_hoard_l  h⟩)

theorem ok_due_l (T : Txt K mg) : FnOk P w K mg base (L2.CX P w) 1 T.a_due_l T.fd_due_l ["_law_one", "_law_other"] (SpD K F_due_l) := by
  refine def_ok T.F_due_l sc_due_l (len_due_l) (fun cdv A outer s H E hr => ⟨t_due_l K E , (pss_cons (ps_set (i := 2) sc_due_l.nd rfl (by first | exact Or.inl rfl | exact Or.inr rfl) (pe_lst pa_nil))
      (pss_cons (ps_for (passes_of rfl) rfl (pi_tup (pe_ix ix_seq (pv 0) pe_int (fun _ _ => rfl))) (pg_name (i := 3) sc_due_l.nd rfl (by first | exact Or.inl rfl | exact Or.inr rfl)) (pss_one (ps_expr (pe_bm PySem.F.plainAttrs_list PySem.F.slot_list_append PySem.F.type_list_append mt_append (pv 2) (pa_cons (pe_tup (pa_cons (pe_op opAdd (pe_ix ix_seq (pv 3) pe_int (fun _ _ => rfl)) (pe_op opMulT (pe_tup (pa_cons pe_int pa_nil)) (pe_ix ix_seq (pv 1) pe_int (fun _ _ => rfl)))) (pa_cons (pe_op opAdd (pe_ix ix_seq (pv 3) pe_int (fun _ _ => rfl)) (pe_op opMulT (pe_tup (pa_cons pe_int pa_nil)) (pe_ix ix_seq (pv 1) pe_int (fun _ _ => rfl)))) pa_nil))) pa_nil)))))
      (pss_cons (ps_for (passes_of rfl) rfl (pi_tup (pe_ix ix_seq (pv 1) pe_int (fun _ _ => rfl))) (pg_name (i := 3) sc_due_l.nd rfl (by first | exact Or.inl rfl | exact Or.inr rfl)) (pss_one (ps_expr (pe_bm PySem.F.plainAttrs_list PySem.F.slot_list_append PySem.F.type_list_append mt_append (pv 2) (pa_cons (pe_tup (pa_cons (pe_op opAdd (pe_op opMulT (pe_tup (pa_cons pe_int pa_nil)) (pe_ix ix_seq (pv 0) pe_int (fun _ _ => rfl))) (pe_ix ix_seq (pv 3) pe_int (fun _ _ => rfl))) (pa_cons (pe_op opAdd (pe_op opMulT (pe_tup (pa_cons pe_int pa_nil)) (pe_ix ix_seq (pv 0) pe_int (fun _ _ => rfl))) (pe_ix ix_seq (pv 3) pe_int (fun _ _ => rfl))) pa_nil))) pa_nil)))))
      (pss_one (ps_ret (pe_tup (pa_cons (pe_op opAdd (pe_ix ix_seq (pv 0) pe_int (fun _ _ => rfl)) (pe_ix ix_seq (pv 1) pe_int (fun _ _ => rfl))) (pa_cons (pe_callTy callTup (by rfl) T.m_tuple PyProof.Rows.boot_tuple (pa_cons (pv 2) pa_nil)) pa_nil)))))))), fun ds o h => sem_due_l  h⟩)

theorem ok_law (T : Txt K mg) : FnOk P w K mg base CX0 6 T.a_law T.fd_law ["_law_script"] (SpD K F_law) := by
  refine law_ok T.F_law sc_law (len_law) (fun cdv A outer s H E hr => ⟨t_law K E T.a_NoHoard T.a_NoNet T.a_TooBig, (pss_cons (ps_set (i := 1) sc_law.nd rfl (by first | exact Or.inl rfl | exact Or.inr rfl) (pe_callS (ok_net_l T) (hr.mono (by decide)) rfl T.g_net_l T.F_net_l.kp T.b_net_l (fun σ => passAt takes0 σ) (pa_cons (pv 0) (pa_cons pe_int pa_nil))))
      (pss_cons (ps_set (i := 2) sc_law.nd rfl (by first | exact Or.inl rfl | exact Or.inr rfl) (pe_callS (ok_net_l T) (hr.mono (by decide)) rfl T.g_net_l T.F_net_l.kp T.b_net_l (fun σ => passAt takes0 σ) (pa_cons (pv 0) (pa_cons pe_int pa_nil))))
      (pss_cons (ps_if (pt_cmpR opGt (pe_op opAdd (pe_ix ix_seq (pv 1) pe_int (fun _ _ => rfl)) (pe_ix ix_seq (pv 2) pe_int (fun _ _ => rfl))) pe_int (nomark _)) (pss_one (ps_set (i := 2) sc_law.nd rfl (by first | exact Or.inl rfl | exact Or.inr rfl) (pe_tup (pa_cons pe_int (pa_cons (pe_callTy callTup (by rfl) T.m_tuple PyProof.Rows.boot_tuple (pa_cons (pe_lc (own := [("_law_move_here", 14)]) rfl sc_law.nd (pi_tup (pe_slice sl_all (pe_ix ix_seq (pv 2) pe_int (fun _ _ => rfl)) po_none (po_some pe_int))) (blkOk_by (N := N_law) (sc := (defScope s_law)) (own := [("_law_move_here", 14)]) (by decide +kernel)) (fun _ _ _ _ _ => (pg_name (i := 14) sc_law.nd rfl (by first | exact Or.inl rfl | exact Or.inr rfl))) (fun _ _ _ _ _ => pts_nil) (fun _ _ _ _ _ => (pe_tup (pa_cons (pe_slice sl_all (pe_ix ix_seq (pv 14) pe_int (fun _ _ => rfl)) po_none (po_some pe_int)) (pa_cons (pe_slice sl_all (pe_ix ix_seq (pv 14) pe_int (fun _ _ => rfl)) po_none (po_some pe_int)) pa_nil))))) pa_nil)) pa_nil))))) pss_nil)
      (pss_cons (ps_if (pt_cmpR (opEq hr.units) (pe_ix ix_seq (pv 1) pe_int (fun _ _ => rfl)) pe_int (nomark _)) (pss_one (ps_set (i := 1) sc_law.nd rfl (by first | exact Or.inl rfl | exact Or.inr rfl) (pe_tup (pa_cons pe_int (pa_cons (pe_callTy callTup (by rfl) T.m_tuple PyProof.Rows.boot_tuple (pa_cons (pe_lc (own := [("_law_move_here", 14)]) rfl sc_law.nd (pi_tup (pe_ix ix_seq (pv 1) pe_int (fun _ _ => rfl))) (blkOk_by (N := N_law) (sc := (defScope s_law)) (own := [("_law_move_here", 14)]) (by decide +kernel)) (fun _ _ _ _ _ => (pg_name (i := 14) sc_law.nd rfl (by first | exact Or.inl rfl | exact Or.inr rfl))) (fun _ _ _ _ _ => pts_nil) (fun _ _ _ _ _ => (pe_tup (pa_cons (pe_slice sl_all (pe_ix ix_seq (pv 14) pe_int (fun _ _ => rfl)) po_none (po_some pe_int)) (pa_cons (pe_slice sl_all (pe_ix ix_seq (pv 14) pe_int (fun _ _ => rfl)) po_none (po_some pe_int)) pa_nil))))) pa_nil)) pa_nil))))) pss_nil)
      (pss_cons (ps_set (i := 3) sc_law.nd rfl (by first | exact Or.inl rfl | exact Or.inr rfl) (pe_callS (ok_beside T) (hr.mono (by decide)) rfl T.g_beside T.F_beside.kp T.b_beside (fun σ => passAt takes0 σ) (pa_cons (pv 1) (pa_cons (pv 2) pa_nil))))
      (pss_cons (ps_if (PW.pt (pw_or (pt_cmpR (opNe hr.units) (pe_callS (ok_checked T) (hr.mono (by decide)) rfl T.g_checked T.F_checked.kp T.b_checked (fun σ => passAt takes0 σ) (pa_cons (pv 3) pa_nil)) (pv 3) (nomark _)) (pw_or1 (pt_cmpR (opNe hr.units) (pv 3) (pe_callS (ok_due_l T) (hr.mono (by decide)) rfl T.g_due_l T.F_due_l.kp T.b_due_l (fun σ => passAt takes0 σ) (pa_cons (pv 1) (pa_cons (pv 2) pa_nil))) (nomark _))))) (pss_one (ps_ret pe_bl)) pss_nil)
      (pss_cons (ps_set (i := 4) sc_law.nd rfl (by first | exact Or.inl rfl | exact Or.inr rfl) (pe_lst (pa_cons (pe_callS (ok_hoard_l T) (hr.mono (by decide)) rfl T.g_hoard_l T.F_hoard_l.kp T.b_hoard_l (fun σ => passAt takes0 σ) (pa_cons (pv 0) (pa_cons pe_int (pa_cons (pe_ix ix_seq (pv 1) pe_int (fun _ _ => rfl)) (pa_cons pe_int pa_nil))))) (pa_cons (pe_callS (ok_hoard_l T) (hr.mono (by decide)) rfl T.g_hoard_l T.F_hoard_l.kp T.b_hoard_l (fun σ => passAt takes0 σ) (pa_cons (pv 0) (pa_cons pe_int (pa_cons (pe_ix ix_seq (pv 2) pe_int (fun _ _ => rfl)) (pa_cons pe_int pa_nil))))) pa_nil))))
      (pss_cons (ps_set (i := 5) sc_law.nd rfl (by first | exact Or.inl rfl | exact Or.inr rfl) (pe_lst (pa_cons (pe_callS (ok_hoard_l T) (hr.mono (by decide)) rfl T.g_hoard_l T.F_hoard_l.kp T.b_hoard_l (fun σ => passAt takes0 σ) (pa_cons (pv 0) (pa_cons pe_int (pa_cons (pe_ix ix_seq (pv 1) pe_int (fun _ _ => rfl)) (pa_cons pe_int pa_nil))))) (pa_cons (pe_callS (ok_hoard_l T) (hr.mono (by decide)) rfl T.g_hoard_l T.F_hoard_l.kp T.b_hoard_l (fun σ => passAt takes0 σ) (pa_cons (pv 0) (pa_cons pe_int (pa_cons (pe_ix ix_seq (pv 2) pe_int (fun _ _ => rfl)) (pa_cons pe_int pa_nil))))) pa_nil))))
      (pss_cons (ps_set (i := 6) sc_law.nd rfl (by first | exact Or.inl rfl | exact Or.inr rfl) (pe_cmpR (opEq hr.units) (pe_ix ix_seq (pe_callS (ok_cover T) (hr.mono (by decide)) rfl T.g_cover T.F_cover.kp T.b_cover (fun σ => passAt takes0 σ) (pa_cons (pv 1) (pa_cons (pe_ix ix_seq (pv 4) pe_int (fun _ _ => rfl)) (pa_cons (pe_ix ix_seq (pv 5) pe_int (fun _ _ => rfl)) pa_nil)))) pe_int (fun _ _ => rfl)) pe_str (nomark _)))
      (pss_cons (ps_set (i := 7) sc_law.nd rfl (by first | exact Or.inl rfl | exact Or.inr rfl) (pe_cmpR (opEq hr.units) (pe_ix ix_seq (pe_callS (ok_cover T) (hr.mono (by decide)) rfl T.g_cover T.F_cover.kp T.b_cover (fun σ => passAt takes0 σ) (pa_cons (pv 2) (pa_cons (pe_ix ix_seq (pv 4) pe_int (fun _ _ => rfl)) (pa_cons (pe_ix ix_seq (pv 5) pe_int (fun _ _ => rfl)) pa_nil)))) pe_int (fun _ _ => rfl)) pe_str (nomark _)))
      (pss_cons (ps_if (pt_cmpR (opNe hr.units) (pe_cmpR (opEq hr.units) (pe_ix ix_seq (pe_callS (ok_cover T) (hr.mono (by decide)) rfl T.g_cover T.F_cover.kp T.b_cover (fun σ => passAt takes0 σ) (pa_cons (pv 3) (pa_cons (pe_op opAdd (pe_ix ix_seq (pv 4) pe_int (fun _ _ => rfl)) (pe_ix ix_seq (pv 4) pe_int (fun _ _ => rfl))) (pa_cons (pe_op opAdd (pe_ix ix_seq (pv 5) pe_int (fun _ _ => rfl)) (pe_ix ix_seq (pv 5) pe_int (fun _ _ => rfl))) pa_nil)))) pe_int (fun _ _ => rfl)) pe_str (nomark _)) (pe_and (pv 6) (pe_one (pv 7))) (nomark _)) (pss_one (ps_ret pe_bl)) pss_nil)
      (pss_cons (ps_set (i := 8) sc_law.nd rfl (by first | exact Or.inl rfl | exact Or.inr rfl) (pe_callS (ok_all_of T) (hr.mono (by decide)) rfl T.g_all_of T.F_all_of.kp T.b_all_of (fun σ => passAt takes0 σ) (pa_cons (pv 1) (pa_cons (pe_ix ix_seq (pv 4) pe_int (fun _ _ => rfl)) pa_nil))))
      (pss_cons (ps_set (i := 9) sc_law.nd rfl (by first | exact Or.inl rfl | exact Or.inr rfl) (pe_callS (ok_all_of T) (hr.mono (by decide)) rfl T.g_all_of T.F_all_of.kp T.b_all_of (fun σ => passAt takes0 σ) (pa_cons (pv 2) (pa_cons (pe_ix ix_seq (pv 4) pe_int (fun _ _ => rfl)) pa_nil))))
      (pss_cons (ps_set (i := 10) sc_law.nd rfl (by first | exact Or.inl rfl | exact Or.inr rfl) (pe_callS (ok_all_of T) (hr.mono (by decide)) rfl T.g_all_of T.F_all_of.kp T.b_all_of (fun σ => passAt takes0 σ) (pa_cons (pv 3) (pa_cons (pe_op opAdd (pe_ix ix_seq (pv 4) pe_int (fun _ _ => rfl)) (pe_ix ix_seq (pv 4) pe_int (fun _ _ => rfl))) pa_nil))))
      (pss_cons (ps_if (PW.pt (pw_or (pt_cmpR (opEq hr.units) (pe_ix ix_seq (pv 8) pe_int (fun _ _ => rfl)) pe_str (nomark _)) (pw_or1 (pt_cmpR (opEq hr.units) (pe_ix ix_seq (pv 9) pe_int (fun _ _ => rfl)) pe_str (nomark _))))) (pss_one (ps_ret (pe_cmpR (opEq hr.units) (pe_ix ix_seq (pv 10) pe_int (fun _ _ => rfl)) pe_str (nomark _)))) pss_nil)
      (pss_cons (ps_set (i := 11) sc_law.nd rfl (by first | exact Or.inl rfl | exact Or.inr rfl) (pe_lst pa_nil))
      (pss_cons (ps_for PassesOwn.never rfl (pi_list (pe_ix ix_seq (pv 8) pe_int (fun _ _ => rfl))) (pg_name (i := 12) sc_law.nd rfl (by first | exact Or.inl rfl | exact Or.inr rfl)) (pss_one (ps_expr (pe_bm PySem.F.plainAttrs_list PySem.F.slot_list_extend PySem.F.type_list_extend mt_extend (pv 11) (pa_cons (pe_lc (own := [("_law_further", 13)]) rfl sc_law.nd (pi_list (pe_ix ix_seq (pv 9) pe_int (fun _ _ => rfl))) (blkOk_by (N := N_law) (sc := (defScope s_law)) (own := [("_law_further", 13)]) (by decide +kernel)) (fun _ _ _ _ _ => (pg_name (i := 13) sc_law.nd rfl (by first | exact Or.inl rfl | exact Or.inr rfl))) (fun _ _ _ _ _ => pts_nil) (fun _ _ _ _ _ => (pe_op opAdd (pv 12) (pv 13)))) pa_nil)))))
      (pss_one (ps_ret (pe_cmpR (opEq hr.units) (pv 10) (pe_tup (pa_cons pe_str (pa_cons (pe_callB callSorted (by rfl) T.m_sorted (by decide +kernel) (pa_cons (pv 11) pa_nil)) pa_nil))) (nomark _))))))))))))))))))))), fun ds o h => sem_law T.a_NoHoard T.a_NoNet T.a_TooBig h⟩)

end

theorem all_mk {l : PySem.W.OpenLaw} {w : World} {K : PySem.W.Frag} {h : Heap} {mg : Str → Option Value} {fa : Addr} (X : K.In h) (G : h.Ns mainGlobals mg) (hfa : mg "law" = some (.ref fa))
    {f0 : Addr} {od0 an0 : Option Addr} {sl0 : Array (Option Value)} {oc0 kV0 dc0 pm0 cd0 ct0 : Value}
    {f1 : Addr} {od1 an1 : Option Addr} {sl1 : Array (Option Value)} {oc1 kV1 dc1 pm1 cd1 ct1 : Value}
    {f2 : Addr} {od2 an2 : Option Addr} {sl2 : Array (Option Value)} {oc2 kV2 dc2 pm2 cd2 ct2 : Value}
    {f3 : Addr} {od3 an3 : Option Addr} {sl3 : Array (Option Value)} {oc3 kV3 dc3 pm3 cd3 ct3 : Value}
    {f4 : Addr} {od4 an4 : Option Addr} {sl4 : Array (Option Value)} {oc4 kV4 dc4 pm4 cd4 ct4 : Value}
    {f5 : Addr} {od5 an5 : Option Addr} {sl5 : Array (Option Value)} {oc5 kV5 dc5 pm5 cd5 ct5 : Value}
    {f6 : Addr} {od6 an6 : Option Addr} {sl6 : Array (Option Value)} {oc6 kV6 dc6 pm6 cd6 ct6 : Value}
    {f7 : Addr} {od7 an7 : Option Addr} {sl7 : Array (Option Value)} {oc7 kV7 dc7 pm7 cd7 ct7 : Value}
    {f8 : Addr} {od8 an8 : Option Addr} {sl8 : Array (Option Value)} {oc8 kV8 dc8 pm8 cd8 ct8 : Value}
    {f9 : Addr} {od9 an9 : Option Addr} {sl9 : Array (Option Value)} {oc9 kV9 dc9 pm9 cd9 ct9 : Value}
    {f10 : Addr} {od10 an10 : Option Addr} {sl10 : Array (Option Value)} {oc10 kV10 dc10 pm10 cd10 ct10 : Value}
    {f11 : Addr} {od11 an11 : Option Addr} {sl11 : Array (Option Value)} {oc11 kV11 dc11 pm11 cd11 ct11 : Value}
    {f12 : Addr} {od12 an12 : Option Addr} {sl12 : Array (Option Value)} {oc12 kV12 dc12 pm12 cd12 ct12 : Value}
    {f13 : Addr} {od13 an13 : Option Addr} {sl13 : Array (Option Value)} {oc13 kV13 dc13 pm13 cd13 ct13 : Value}
    {f14 : Addr} {od14 an14 : Option Addr} {sl14 : Array (Option Value)} {oc14 kV14 dc14 pm14 cd14 ct14 : Value}
    {f15 : Addr} {od15 an15 : Option Addr} {sl15 : Array (Option Value)} {oc15 kV15 dc15 pm15 cd15 ct15 : Value}
    {f16 : Addr} {od16 an16 : Option Addr} {sl16 : Array (Option Value)} {oc16 kV16 dc16 pm16 cd16 ct16 : Value}
    {f17 : Addr} {od17 an17 : Option Addr} {sl17 : Array (Option Value)} {oc17 kV17 dc17 pm17 cd17 ct17 : Value}
    {f18 : Addr} {od18 an18 : Option Addr} {sl18 : Array (Option Value)} {oc18 kV18 dc18 pm18 cd18 ct18 : Value}
    {f19 : Addr} {od19 an19 : Option Addr} {sl19 : Array (Option Value)} {oc19 kV19 dc19 pm19 cd19 ct19 : Value}
    {f20 : Addr} {od20 an20 : Option Addr} {sl20 : Array (Option Value)} {oc20 kV20 dc20 pm20 cd20 ct20 : Value}
    {f21 : Addr} {od21 an21 : Option Addr} {sl21 : Array (Option Value)} {oc21 kV21 dc21 pm21 cd21 ct21 : Value}
    {f22 : Addr} {od22 an22 : Option Addr} {sl22 : Array (Option Value)} {oc22 kV22 dc22 pm22 cd22 ct22 : Value}
    {f23 : Addr} {od23 an23 : Option Addr} {sl23 : Array (Option Value)} {oc23 kV23 dc23 pm23 cd23 ct23 : Value}
    {f24 : Addr} {od24 an24 : Option Addr} {sl24 : Array (Option Value)} {oc24 kV24 dc24 pm24 cd24 ct24 : Value}
    {f25 : Addr} {od25 an25 : Option Addr} {sl25 : Array (Option Value)} {oc25 kV25 dc25 pm25 cd25 ct25 : Value}
    {f26 : Addr} {od26 an26 : Option Addr} {sl26 : Array (Option Value)} {oc26 kV26 dc26 pm26 cd26 ct26 : Value}
    {f27 : Addr} {od27 an27 : Option Addr} {sl27 : Array (Option Value)} {oc27 kV27 dc27 pm27 cd27 ct27 : Value}
    {tk3 : Tok}
    {tk6 : Tok}
    {tk7 : Tok}
    {e13 : Addr}
    {e14 : Addr}
    {e15 : Addr}
    (a0 : PySem.W.nsIn K mainGlobals "is_whole" = some (some (.ref f0))) (l0 : K.lookup f0 = some ⟨oc0, od0, .func (PySem.W.fnOf "is_whole" "is_whole" (defArgs s_is_whole) (defBody s_is_whole) (defScope s_is_whole) .none kV0 dc0 pm0 an0 cd0 ct0), sl0⟩) (c0 : PySem.W.codeIn K cd0 "is_whole" = true) (k0 : PySem.W.keepIn K (.ref f0) = true)
    (a1 : PySem.W.nsIn K mainGlobals "between" = some (some (.ref f1))) (l1 : K.lookup f1 = some ⟨oc1, od1, .func (PySem.W.fnOf "between" "between" (defArgs s_between) (defBody s_between) (defScope s_between) .none kV1 dc1 pm1 an1 cd1 ct1), sl1⟩) (c1 : PySem.W.codeIn K cd1 "between" = true) (k1 : PySem.W.keepIn K (.ref f1) = true)
    (a2 : PySem.W.nsIn K mainGlobals "are_tokens" = some (some (.ref f2))) (l2 : K.lookup f2 = some ⟨oc2, od2, .func (PySem.W.fnOf "are_tokens" "are_tokens" (defArgs s_are_tokens) (defBody s_are_tokens) (defScope s_are_tokens) .none kV2 dc2 pm2 an2 cd2 ct2), sl2⟩) (c2 : PySem.W.codeIn K cd2 "are_tokens" = true) (k2 : PySem.W.keepIn K (.ref f2) = true)
    (a3 : PySem.W.nsIn K mainGlobals "is_net" = some (some (.ref f3))) (l3 : K.lookup f3 = some ⟨oc3, od3, .func (PySem.W.fnOf "is_net" "is_net" (defArgs s_is_net) (defBody s_is_net) (defScope s_is_net) .none kV3 dc3 pm3 an3 cd3 ct3), sl3⟩) (c3 : PySem.W.codeIn K cd3 "is_net" = true) (k3 : PySem.W.keepIn K (.ref f3) = true)
    (a4 : PySem.W.nsIn K mainGlobals "checked" = some (some (.ref f4))) (l4 : K.lookup f4 = some ⟨oc4, od4, .func (PySem.W.fnOf "checked" "checked" (defArgs s_checked) (defBody s_checked) (defScope s_checked) .none kV4 dc4 pm4 an4 cd4 ct4), sl4⟩) (c4 : PySem.W.codeIn K cd4 "checked" = true) (k4 : PySem.W.keepIn K (.ref f4) = true)
    (a5 : PySem.W.nsIn K mainGlobals "is_hoard" = some (some (.ref f5))) (l5 : K.lookup f5 = some ⟨oc5, od5, .func (PySem.W.fnOf "is_hoard" "is_hoard" (defArgs s_is_hoard) (defBody s_is_hoard) (defScope s_is_hoard) .none kV5 dc5 pm5 an5 cd5 ct5), sl5⟩) (c5 : PySem.W.codeIn K cd5 "is_hoard" = true) (k5 : PySem.W.keepIn K (.ref f5) = true)
    (a6 : PySem.W.nsIn K mainGlobals "need_hoard" = some (some (.ref f6))) (l6 : K.lookup f6 = some ⟨oc6, od6, .func (PySem.W.fnOf "need_hoard" "need_hoard" (defArgs s_need_hoard) (defBody s_need_hoard) (defScope s_need_hoard) .none kV6 dc6 pm6 an6 cd6 ct6), sl6⟩) (c6 : PySem.W.codeIn K cd6 "need_hoard" = true) (k6 : PySem.W.keepIn K (.ref f6) = true)
    (a7 : PySem.W.nsIn K mainGlobals "over" = some (some (.ref f7))) (l7 : K.lookup f7 = some ⟨oc7, od7, .func (PySem.W.fnOf "over" "over" (defArgs s_over) (defBody s_over) (defScope s_over) .none kV7 dc7 pm7 an7 cd7 ct7), sl7⟩) (c7 : PySem.W.codeIn K cd7 "over" = true) (k7 : PySem.W.keepIn K (.ref f7) = true)
    (a8 : PySem.W.nsIn K mainGlobals "led" = some (some (.ref f8))) (l8 : K.lookup f8 = some ⟨oc8, od8, .func (PySem.W.fnOf "led" "led" (defArgs s_led) (defBody s_led) (defScope s_led) .none kV8 dc8 pm8 an8 cd8 ct8), sl8⟩) (c8 : PySem.W.codeIn K cd8 "led" = true) (k8 : PySem.W.keepIn K (.ref f8) = true)
    (a9 : PySem.W.nsIn K mainGlobals "beside" = some (some (.ref f9))) (l9 : K.lookup f9 = some ⟨oc9, od9, .func (PySem.W.fnOf "beside" "beside" (defArgs s_beside) (defBody s_beside) (defScope s_beside) .none kV9 dc9 pm9 an9 cd9 ct9), sl9⟩) (c9 : PySem.W.codeIn K cd9 "beside" = true) (k9 : PySem.W.keepIn K (.ref f9) = true)
    (a10 : PySem.W.nsIn K mainGlobals "before" = some (some (.ref f10))) (l10 : K.lookup f10 = some ⟨oc10, od10, .func (PySem.W.fnOf "before" "before" (defArgs s_before) (defBody s_before) (defScope s_before) .none kV10 dc10 pm10 an10 cd10 ct10), sl10⟩) (c10 : PySem.W.codeIn K cd10 "before" = true) (k10 : PySem.W.keepIn K (.ref f10) = true)
    (a11 : PySem.W.nsIn K mainGlobals "is_over_one" = some (some (.ref f11))) (l11 : K.lookup f11 = some ⟨oc11, od11, .func (PySem.W.fnOf "is_over_one" "is_over_one" (defArgs s_is_over_one) (defBody s_is_over_one) (defScope s_is_over_one) .none kV11 dc11 pm11 an11 cd11 ct11), sl11⟩) (c11 : PySem.W.codeIn K cd11 "is_over_one" = true) (k11 : PySem.W.keepIn K (.ref f11) = true)
    (a12 : PySem.W.nsIn K mainGlobals "met_from" = some (some (.ref f12))) (l12 : K.lookup f12 = some ⟨oc12, od12, .func (PySem.W.fnOf "met_from" "met_from" (defArgs s_met_from) (defBody s_met_from) (defScope s_met_from) .none kV12 dc12 pm12 an12 cd12 ct12), sl12⟩) (c12 : PySem.W.codeIn K cd12 "met_from" = true) (k12 : PySem.W.keepIn K (.ref f12) = true)
    (a13 : PySem.W.nsIn K mainGlobals "least_of" = some (some (.ref f13))) (l13 : K.lookup f13 = some ⟨oc13, od13, .func (PySem.W.fnOf "least_of" "least_of" (defArgs s_least_of) (defBody s_least_of) (defScope s_least_of) .none kV13 dc13 pm13 an13 cd13 ct13), sl13⟩) (c13 : PySem.W.codeIn K cd13 "least_of" = true) (k13 : PySem.W.keepIn K (.ref f13) = true)
    (a14 : PySem.W.nsIn K mainGlobals "run_from" = some (some (.ref f14))) (l14 : K.lookup f14 = some ⟨oc14, od14, .func (PySem.W.fnOf "run_from" "run_from" (defArgs s_run_from) (defBody s_run_from) (defScope s_run_from) .none kV14 dc14 pm14 an14 cd14 ct14), sl14⟩) (c14 : PySem.W.codeIn K cd14 "run_from" = true) (k14 : PySem.W.keepIn K (.ref f14) = true)
    (a15 : PySem.W.nsIn K mainGlobals "cover" = some (some (.ref f15))) (l15 : K.lookup f15 = some ⟨oc15, od15, .func (PySem.W.fnOf "cover" "cover" (defArgs s_cover) (defBody s_cover) (defScope s_cover) .none kV15 dc15 pm15 an15 cd15 ct15), sl15⟩) (c15 : PySem.W.codeIn K cd15 "cover" = true) (k15 : PySem.W.keepIn K (.ref f15) = true)
    (a16 : PySem.W.nsIn K mainGlobals "way_to" = some (some (.ref f16))) (l16 : K.lookup f16 = some ⟨oc16, od16, .func (PySem.W.fnOf "way_to" "way_to" (defArgs s_way_to) (defBody s_way_to) (defScope s_way_to) .none kV16 dc16 pm16 an16 cd16 ct16), sl16⟩) (c16 : PySem.W.codeIn K cd16 "way_to" = true) (k16 : PySem.W.keepIn K (.ref f16) = true)
    (a17 : PySem.W.nsIn K mainGlobals "run_on" = some (some (.ref f17))) (l17 : K.lookup f17 = some ⟨oc17, od17, .func (PySem.W.fnOf "run_on" "run_on" (defArgs s_run_on) (defBody s_run_on) (defScope s_run_on) .none kV17 dc17 pm17 an17 cd17 ct17), sl17⟩) (c17 : PySem.W.codeIn K cd17 "run_on" = true) (k17 : PySem.W.keepIn K (.ref f17) = true)
    (a18 : PySem.W.nsIn K mainGlobals "pump_at" = some (some (.ref f18))) (l18 : K.lookup f18 = some ⟨oc18, od18, .func (PySem.W.fnOf "pump_at" "pump_at" (defArgs s_pump_at) (defBody s_pump_at) (defScope s_pump_at) .none kV18 dc18 pm18 an18 cd18 ct18), sl18⟩) (c18 : PySem.W.codeIn K cd18 "pump_at" = true) (k18 : PySem.W.keepIn K (.ref f18) = true)
    (a19 : PySem.W.nsIn K mainGlobals "gone_through" = some (some (.ref f19))) (l19 : K.lookup f19 = some ⟨oc19, od19, .func (PySem.W.fnOf "gone_through" "gone_through" (defArgs s_gone_through) (defBody s_gone_through) (defScope s_gone_through) .none kV19 dc19 pm19 an19 cd19 ct19), sl19⟩) (c19 : PySem.W.codeIn K cd19 "gone_through" = true) (k19 : PySem.W.keepIn K (.ref f19) = true)
    (a20 : PySem.W.nsIn K mainGlobals "all_of" = some (some (.ref f20))) (l20 : K.lookup f20 = some ⟨oc20, od20, .func (PySem.W.fnOf "all_of" "all_of" (defArgs s_all_of) (defBody s_all_of) (defScope s_all_of) .none kV20 dc20 pm20 an20 cd20 ct20), sl20⟩) (c20 : PySem.W.codeIn K cd20 "all_of" = true) (k20 : PySem.W.keepIn K (.ref f20) = true)
    (a21 : PySem.W.nsIn K mainGlobals "_law_cell_at" = some (some (.ref f21))) (l21 : K.lookup f21 = some ⟨oc21, od21, .func (PySem.W.fnOf "_law_cell_at" "_law_cell_at" (defArgs s_cell_at_l) (defBody s_cell_at_l) (defScope s_cell_at_l) .none kV21 dc21 pm21 an21 cd21 ct21), sl21⟩) (c21 : PySem.W.codeIn K cd21 "_law_cell_at" = true) (k21 : PySem.W.keepIn K (.ref f21) = true)
    (a22 : PySem.W.nsIn K mainGlobals "_law_mixed" = some (some (.ref f22))) (l22 : K.lookup f22 = some ⟨oc22, od22, .func (PySem.W.fnOf "_law_mixed" "_law_mixed" (defArgs s_mixed_l) (defBody s_mixed_l) (defScope s_mixed_l) .none kV22 dc22 pm22 an22 cd22 ct22), sl22⟩) (c22 : PySem.W.codeIn K cd22 "_law_mixed" = true) (k22 : PySem.W.keepIn K (.ref f22) = true)
    (a23 : PySem.W.nsIn K mainGlobals "_law_move" = some (some (.ref f23))) (l23 : K.lookup f23 = some ⟨oc23, od23, .func (PySem.W.fnOf "_law_move" "_law_move" (defArgs s_move_l) (defBody s_move_l) (defScope s_move_l) .none kV23 dc23 pm23 an23 cd23 ct23), sl23⟩) (c23 : PySem.W.codeIn K cd23 "_law_move" = true) (k23 : PySem.W.keepIn K (.ref f23) = true)
    (a24 : PySem.W.nsIn K mainGlobals "_law_net" = some (some (.ref f24))) (l24 : K.lookup f24 = some ⟨oc24, od24, .func (PySem.W.fnOf "_law_net" "_law_net" (defArgs s_net_l) (defBody s_net_l) (defScope s_net_l) .none kV24 dc24 pm24 an24 cd24 ct24), sl24⟩) (c24 : PySem.W.codeIn K cd24 "_law_net" = true) (k24 : PySem.W.keepIn K (.ref f24) = true)
    (a25 : PySem.W.nsIn K mainGlobals "_law_hoard" = some (some (.ref f25))) (l25 : K.lookup f25 = some ⟨oc25, od25, .func (PySem.W.fnOf "_law_hoard" "_law_hoard" (defArgs s_hoard_l) (defBody s_hoard_l) (defScope s_hoard_l) .none kV25 dc25 pm25 an25 cd25 ct25), sl25⟩) (c25 : PySem.W.codeIn K cd25 "_law_hoard" = true) (k25 : PySem.W.keepIn K (.ref f25) = true)
    (a26 : PySem.W.nsIn K mainGlobals "_law_due" = some (some (.ref f26))) (l26 : K.lookup f26 = some ⟨oc26, od26, .func (PySem.W.fnOf "_law_due" "_law_due" (defArgs s_due_l) (defBody s_due_l) (defScope s_due_l) .none kV26 dc26 pm26 an26 cd26 ct26), sl26⟩) (c26 : PySem.W.codeIn K cd26 "_law_due" = true) (k26 : PySem.W.keepIn K (.ref f26) = true)
    (a27 : PySem.W.nsIn K mainGlobals "law" = some (some (.ref f27))) (l27 : K.lookup f27 = some ⟨oc27, od27, .func (PySem.W.fnOf "law" "law" (defArgs s_law) (defBody s_law) (defScope s_law) .none kV27 dc27 pm27 an27 cd27 ct27), sl27⟩) (c27 : PySem.W.codeIn K cd27 "law" = true) (k27 : PySem.W.keepIn K (.ref f27) = true)
    (z0 : PySem.W.nsIn K mainGlobals "isinstance" = some none)
    (z1 : PySem.W.nsIn K mainGlobals "int" = some none)
    (z2 : PySem.W.nsIn K mainGlobals "bool" = some none)
    (z3 : PySem.W.nsIn K mainGlobals "TOKENS" = some (some (.int 9 tk3)))
    (z4 : PySem.W.nsIn K mainGlobals "tuple" = some none)
    (z5 : PySem.W.nsIn K mainGlobals "len" = some none)
    (z6 : PySem.W.nsIn K mainGlobals "MOVES" = some (some (.int 10 tk6)))
    (z7 : PySem.W.nsIn K mainGlobals "PLACES" = some (some (.int 6 tk7)))
    (z8 : PySem.W.nsIn K mainGlobals "zip" = some none)
    (z9 : PySem.W.nsIn K mainGlobals "max" = some none)
    (z10 : PySem.W.nsIn K mainGlobals "range" = some none)
    (z11 : PySem.W.nsIn K mainGlobals "sorted" = some none)
    (z12 : PySem.W.nsIn K mainGlobals "sum" = some none)
    (z13 : PySem.W.nsIn K mainGlobals "NoHoard" = some (some (.ref e13)))
    (x13 : PySem.W.excIn K e13 [.type "ValueError", .type "Exception", .type "BaseException", .type "object"] "ValueError.__new__" = true) (kp13 : PySem.W.keepIn K (.ref e13) = true) (sb13 : PySem.W.subIn K (.ref e13) (.type "BaseException") = some true) (ty13 : PySem.W.typeIn K (.ref e13) = some (.type "type"))
    (z14 : PySem.W.nsIn K mainGlobals "NoNet" = some (some (.ref e14)))
    (x14 : PySem.W.excIn K e14 [.type "ValueError", .type "Exception", .type "BaseException", .type "object"] "ValueError.__new__" = true) (kp14 : PySem.W.keepIn K (.ref e14) = true) (sb14 : PySem.W.subIn K (.ref e14) (.type "BaseException") = some true) (ty14 : PySem.W.typeIn K (.ref e14) = some (.type "type"))
    (z15 : PySem.W.nsIn K mainGlobals "TooBig" = some (some (.ref e15)))
    (x15 : PySem.W.excIn K e15 [.type "ValueError", .type "Exception", .type "BaseException", .type "object"] "ValueError.__new__" = true) (kp15 : PySem.W.keepIn K (.ref e15) = true) (sb15 : PySem.W.subIn K (.ref e15) (.type "BaseException") = some true) (ty15 : PySem.W.typeIn K (.ref e15) = some (.type "type")) :
    ∃ fd : FuncData, (∀ (s : Shared) (v : Value), BindsTo s fd ⟨[v], []⟩ [("_law_script", v)]) ∧ ∀ base : Heap, K.In base → base.Ns mainGlobals mg → FnOk l.prog w K mg base CX0 6 fa fd ["_law_script"] (SpD K F_law) := by
  have e := hfa.symm.trans (PySem.W.mg_of X G a27)
  cases e
  exact ⟨PySem.W.fnOf "law" "law" (defArgs s_law) (defBody s_law) (defScope s_law) .none kV27 dc27 pm27 an27 cd27 ct27, fun s v => .of_eq rfl, fun base _ _ => ok_law ⟨f0,
    PySem.W.fnOf "is_whole" "is_whole" (defArgs s_is_whole) (defBody s_is_whole) (defScope s_is_whole) .none kV0 dc0 pm0 an0 cd0 ct0,
    fun_mk (st := s_is_whole) l0 c0 k0,
    (fun_mk (st := s_is_whole) l0 c0 k0).binds (ps := ["thing"]) (fun _ _ _ _ _ _ us hl => match us, hl with | [_], _ => rfl),
    PySem.W.mg_of X G a0,
    f1,
    PySem.W.fnOf "between" "between" (defArgs s_between) (defBody s_between) (defScope s_between) .none kV1 dc1 pm1 an1 cd1 ct1,
    fun_mk (st := s_between) l1 c1 k1,
    (fun_mk (st := s_between) l1 c1 k1).binds (ps := ["thing", "low", "most"]) (fun _ _ _ _ _ _ us hl => match us, hl with | [_, _, _], _ => rfl),
    PySem.W.mg_of X G a1,
    f2,
    PySem.W.fnOf "are_tokens" "are_tokens" (defArgs s_are_tokens) (defBody s_are_tokens) (defScope s_are_tokens) .none kV2 dc2 pm2 an2 cd2 ct2,
    fun_mk (st := s_are_tokens) l2 c2 k2,
    (fun_mk (st := s_are_tokens) l2 c2 k2).binds (ps := ["thing", "size"]) (fun _ _ _ _ _ _ us hl => match us, hl with | [_, _], _ => rfl),
    PySem.W.mg_of X G a2,
    f3,
    PySem.W.fnOf "is_net" "is_net" (defArgs s_is_net) (defBody s_is_net) (defScope s_is_net) .none kV3 dc3 pm3 an3 cd3 ct3,
    fun_mk (st := s_is_net) l3 c3 k3,
    (fun_mk (st := s_is_net) l3 c3 k3).binds (ps := ["thing"]) (fun _ _ _ _ _ _ us hl => match us, hl with | [_], _ => rfl),
    PySem.W.mg_of X G a3,
    f4,
    PySem.W.fnOf "checked" "checked" (defArgs s_checked) (defBody s_checked) (defScope s_checked) .none kV4 dc4 pm4 an4 cd4 ct4,
    fun_mk (st := s_checked) l4 c4 k4,
    (fun_mk (st := s_checked) l4 c4 k4).binds (ps := ["net"]) (fun _ _ _ _ _ _ us hl => match us, hl with | [_], _ => rfl),
    PySem.W.mg_of X G a4,
    f5,
    PySem.W.fnOf "is_hoard" "is_hoard" (defArgs s_is_hoard) (defBody s_is_hoard) (defScope s_is_hoard) .none kV5 dc5 pm5 an5 cd5 ct5,
    fun_mk (st := s_is_hoard) l5 c5 k5,
    (fun_mk (st := s_is_hoard) l5 c5 k5).binds (ps := ["net", "thing"]) (fun _ _ _ _ _ _ us hl => match us, hl with | [_, _], _ => rfl),
    PySem.W.mg_of X G a5,
    f6,
    PySem.W.fnOf "need_hoard" "need_hoard" (defArgs s_need_hoard) (defBody s_need_hoard) (defScope s_need_hoard) .none kV6 dc6 pm6 an6 cd6 ct6,
    fun_mk (st := s_need_hoard) l6 c6 k6,
    (fun_mk (st := s_need_hoard) l6 c6 k6).binds (ps := ["net", "thing"]) (fun _ _ _ _ _ _ us hl => match us, hl with | [_, _], _ => rfl),
    PySem.W.mg_of X G a6,
    f7,
    PySem.W.fnOf "over" "over" (defArgs s_over) (defBody s_over) (defScope s_over) .none kV7 dc7 pm7 an7 cd7 ct7,
    fun_mk (st := s_over) l7 c7 k7,
    (fun_mk (st := s_over) l7 c7 k7).binds (ps := ["one", "other"]) (fun _ _ _ _ _ _ us hl => match us, hl with | [_, _], _ => rfl),
    PySem.W.mg_of X G a7,
    f8,
    PySem.W.fnOf "led" "led" (defArgs s_led) (defBody s_led) (defScope s_led) .none kV8 dc8 pm8 an8 cd8 ct8,
    fun_mk (st := s_led) l8 c8 k8,
    (fun_mk (st := s_led) l8 c8 k8).binds (ps := ["net", "hoard", "move"]) (fun _ _ _ _ _ _ us hl => match us, hl with | [_, _, _], _ => rfl),
    PySem.W.mg_of X G a8,
    f9,
    PySem.W.fnOf "beside" "beside" (defArgs s_beside) (defBody s_beside) (defScope s_beside) .none kV9 dc9 pm9 an9 cd9 ct9,
    fun_mk (st := s_beside) l9 c9 k9,
    (fun_mk (st := s_beside) l9 c9 k9).binds (ps := ["one", "other"]) (fun _ _ _ _ _ _ us hl => match us, hl with | [_, _], _ => rfl),
    PySem.W.mg_of X G a9,
    f10,
    PySem.W.fnOf "before" "before" (defArgs s_before) (defBody s_before) (defScope s_before) .none kV10 dc10 pm10 an10 cd10 ct10,
    fun_mk (st := s_before) l10 c10 k10,
    (fun_mk (st := s_before) l10 c10 k10).binds (ps := ["net", "move", "goal"]) (fun _ _ _ _ _ _ us hl => match us, hl with | [_, _, _], _ => rfl),
    PySem.W.mg_of X G a10,
    f11,
    PySem.W.fnOf "is_over_one" "is_over_one" (defArgs s_is_over_one) (defBody s_is_over_one) (defScope s_is_over_one) .none kV11 dc11 pm11 an11 cd11 ct11,
    fun_mk (st := s_is_over_one) l11 c11 k11,
    (fun_mk (st := s_is_over_one) l11 c11 k11).binds (ps := ["hoard", "some"]) (fun _ _ _ _ _ _ us hl => match us, hl with | [_, _], _ => rfl),
    PySem.W.mg_of X G a11,
    f12,
    PySem.W.fnOf "met_from" "met_from" (defArgs s_met_from) (defBody s_met_from) (defScope s_met_from) .none kV12 dc12 pm12 an12 cd12 ct12,
    fun_mk (st := s_met_from) l12 c12 k12,
    (fun_mk (st := s_met_from) l12 c12 k12).binds (ps := ["net", "goal"]) (fun _ _ _ _ _ _ us hl => match us, hl with | [_, _], _ => rfl),
    PySem.W.mg_of X G a12,
    f13,
    PySem.W.fnOf "least_of" "least_of" (defArgs s_least_of) (defBody s_least_of) (defScope s_least_of) .none kV13 dc13 pm13 an13 cd13 ct13,
    fun_mk (st := s_least_of) l13 c13 k13,
    (fun_mk (st := s_least_of) l13 c13 k13).binds (ps := ["hoards"]) (fun _ _ _ _ _ _ us hl => match us, hl with | [_], _ => rfl),
    PySem.W.mg_of X G a13,
    f14,
    PySem.W.fnOf "run_from" "run_from" (defArgs s_run_from) (defBody s_run_from) (defScope s_run_from) .none kV14 dc14 pm14 an14 cd14 ct14,
    fun_mk (st := s_run_from) l14 c14 k14,
    (fun_mk (st := s_run_from) l14 c14 k14).binds (ps := ["found", "at"]) (fun _ _ _ _ _ _ us hl => match us, hl with | [_, _], _ => rfl),
    PySem.W.mg_of X G a14,
    f15,
    PySem.W.fnOf "cover" "cover" (defArgs s_cover) (defBody s_cover) (defScope s_cover) .none kV15 dc15 pm15 an15 cd15 ct15,
    fun_mk (st := s_cover) l15 c15 k15,
    (fun_mk (st := s_cover) l15 c15 k15).binds (ps := ["net", "start", "goal"]) (fun _ _ _ _ _ _ us hl => match us, hl with | [_, _, _], _ => rfl),
    PySem.W.mg_of X G a15,
    f16,
    PySem.W.fnOf "way_to" "way_to" (defArgs s_way_to) (defBody s_way_to) (defScope s_way_to) .none kV16 dc16 pm16 an16 cd16 ct16,
    fun_mk (st := s_way_to) l16 c16 k16,
    (fun_mk (st := s_way_to) l16 c16 k16).binds (ps := ["found", "at"]) (fun _ _ _ _ _ _ us hl => match us, hl with | [_, _], _ => rfl),
    PySem.W.mg_of X G a16,
    f17,
    PySem.W.fnOf "run_on" "run_on" (defArgs s_run_on) (defBody s_run_on) (defScope s_run_on) .none kV17 dc17 pm17 an17 cd17 ct17,
    fun_mk (st := s_run_on) l17 c17 k17,
    (fun_mk (st := s_run_on) l17 c17 k17).binds (ps := ["found", "way"]) (fun _ _ _ _ _ _ us hl => match us, hl with | [_, _], _ => rfl),
    PySem.W.mg_of X G a17,
    f18,
    PySem.W.fnOf "pump_at" "pump_at" (defArgs s_pump_at) (defBody s_pump_at) (defScope s_pump_at) .none kV18 dc18 pm18 an18 cd18 ct18,
    fun_mk (st := s_pump_at) l18 c18 k18,
    (fun_mk (st := s_pump_at) l18 c18 k18).binds (ps := ["found", "at"]) (fun _ _ _ _ _ _ us hl => match us, hl with | [_, _], _ => rfl),
    PySem.W.mg_of X G a18,
    f19,
    PySem.W.fnOf "gone_through" "gone_through" (defArgs s_gone_through) (defBody s_gone_through) (defScope s_gone_through) .none kV19 dc19 pm19 an19 cd19 ct19,
    fun_mk (st := s_gone_through) l19 c19 k19,
    (fun_mk (st := s_gone_through) l19 c19 k19).binds (ps := ["net", "start"]) (fun _ _ _ _ _ _ us hl => match us, hl with | [_, _], _ => rfl),
    PySem.W.mg_of X G a19,
    f20,
    PySem.W.fnOf "all_of" "all_of" (defArgs s_all_of) (defBody s_all_of) (defScope s_all_of) .none kV20 dc20 pm20 an20 cd20 ct20,
    fun_mk (st := s_all_of) l20 c20 k20,
    (fun_mk (st := s_all_of) l20 c20 k20).binds (ps := ["net", "start"]) (fun _ _ _ _ _ _ us hl => match us, hl with | [_, _], _ => rfl),
    PySem.W.mg_of X G a20,
    f21,
    PySem.W.fnOf "_law_cell_at" "_law_cell_at" (defArgs s_cell_at_l) (defBody s_cell_at_l) (defScope s_cell_at_l) .none kV21 dc21 pm21 an21 cd21 ct21,
    fun_mk (st := s_cell_at_l) l21 c21 k21,
    (fun_mk (st := s_cell_at_l) l21 c21 k21).binds (ps := ["_law_script", "_law_k"]) (fun _ _ _ _ _ _ us hl => match us, hl with | [_, _], _ => rfl),
    PySem.W.mg_of X G a21,
    f22,
    PySem.W.fnOf "_law_mixed" "_law_mixed" (defArgs s_mixed_l) (defBody s_mixed_l) (defScope s_mixed_l) .none kV22 dc22 pm22 an22 cd22 ct22,
    fun_mk (st := s_mixed_l) l22 c22 k22,
    (fun_mk (st := s_mixed_l) l22 c22 k22).binds (ps := ["_law_script", "_law_k", "_law_many"]) (fun _ _ _ _ _ _ us hl => match us, hl with | [_, _, _], _ => rfl),
    PySem.W.mg_of X G a22,
    f23,
    PySem.W.fnOf "_law_move" "_law_move" (defArgs s_move_l) (defBody s_move_l) (defScope s_move_l) .none kV23 dc23 pm23 an23 cd23 ct23,
    fun_mk (st := s_move_l) l23 c23 k23,
    (fun_mk (st := s_move_l) l23 c23 k23).binds (ps := ["_law_script", "_law_at", "_law_size", "_law_even"]) (fun _ _ _ _ _ _ us hl => match us, hl with | [_, _, _, _], _ => rfl),
    PySem.W.mg_of X G a23,
    f24,
    PySem.W.fnOf "_law_net" "_law_net" (defArgs s_net_l) (defBody s_net_l) (defScope s_net_l) .none kV24 dc24 pm24 an24 cd24 ct24,
    fun_mk (st := s_net_l) l24 c24 k24,
    (fun_mk (st := s_net_l) l24 c24 k24).binds (ps := ["_law_script", "_law_at"]) (fun _ _ _ _ _ _ us hl => match us, hl with | [_, _], _ => rfl),
    PySem.W.mg_of X G a24,
    f25,
    PySem.W.fnOf "_law_hoard" "_law_hoard" (defArgs s_hoard_l) (defBody s_hoard_l) (defScope s_hoard_l) .none kV25 dc25 pm25 an25 cd25 ct25,
    fun_mk (st := s_hoard_l) l25 c25 k25,
    (fun_mk (st := s_hoard_l) l25 c25 k25).binds (ps := ["_law_script", "_law_at", "_law_size", "_law_most"]) (fun _ _ _ _ _ _ us hl => match us, hl with | [_, _, _, _], _ => rfl),
    PySem.W.mg_of X G a25,
    f26,
    PySem.W.fnOf "_law_due" "_law_due" (defArgs s_due_l) (defBody s_due_l) (defScope s_due_l) .none kV26 dc26 pm26 an26 cd26 ct26,
    fun_mk (st := s_due_l) l26 c26 k26,
    (fun_mk (st := s_due_l) l26 c26 k26).binds (ps := ["_law_one", "_law_other"]) (fun _ _ _ _ _ _ us hl => match us, hl with | [_, _], _ => rfl),
    PySem.W.mg_of X G a26,
    fa,
    PySem.W.fnOf "law" "law" (defArgs s_law) (defBody s_law) (defScope s_law) .none kV27 dc27 pm27 an27 cd27 ct27,
    fun_mk (st := s_law) l27 c27 k27,
    (fun_mk (st := s_law) l27 c27 k27).binds (ps := ["_law_script"]) (fun _ _ _ _ _ _ us hl => match us, hl with | [_], _ => rfl),
    PySem.W.mg_of X G a27,
    PySem.W.mg_none_of X G z0,
    PySem.W.mg_none_of X G z1,
    PySem.W.mg_none_of X G z2,
    tk3,
    PySem.W.mg_of X G z3,
    PySem.W.mg_none_of X G z4,
    PySem.W.mg_none_of X G z5,
    tk6,
    PySem.W.mg_of X G z6,
    tk7,
    PySem.W.mg_of X G z7,
    PySem.W.mg_none_of X G z8,
    PySem.W.mg_none_of X G z9,
    PySem.W.mg_none_of X G z10,
    PySem.W.mg_none_of X G z11,
    PySem.W.mg_none_of X G z12,
    e13,
    PySem.W.mg_of X G z13,
    x13,
    kp13,
    sb13,
    ty13,
    e14,
    PySem.W.mg_of X G z14,
    x14,
    kp14,
    sb14,
    ty14,
    e15,
    PySem.W.mg_of X G z15,
    x15,
    kp15,
    sb15,
    ty15⟩⟩
end Tw
open PySem PySem.W PyProof.Rows
set_option maxHeartbeats 0 in
set_option maxRecDepth 100000 in
theorem PySem.Challenge.cw_tokenwall_k16_whole_beside_holds : PySem.Challenge.rw_tokenwall_k16_whole_beside.Holds := by
  w_on; o_law; k_head; (case hw => w_witness2)
  k_fill
  refine L2.walk_of (l := PySem.Challenge.rw_tokenwall_k16_whole_beside) (n := 63) (k := 6) (x := "_law_script") (CX := fun _ => L2.CX0) (sp := fun w => Tw.SpD _ Tw.F_law) rfl (by decide) rfl ⟨rfl, by decide, by decide⟩ (fun w h Y => PySem.W.kIn_of Y) ?F (fun _ H a ns hl _ hS => Tw.law_start (Tw.holds_law ns hl) hS) (fun _ _ _ _ _ h => h)
  case F =>
    intro w mg fa h KX G hmg
    refine' Tw.all_mk KX G hmg ?a0 ?l0 ?c0 ?k0 ?a1 ?l1 ?c1 ?k1 ?a2 ?l2 ?c2 ?k2 ?a3 ?l3 ?c3 ?k3 ?a4 ?l4 ?c4 ?k4 ?a5 ?l5 ?c5 ?k5 ?a6 ?l6 ?c6 ?k6 ?a7 ?l7 ?c7 ?k7 ?a8 ?l8 ?c8 ?k8 ?a9 ?l9 ?c9 ?k9 ?a10 ?l10 ?c10 ?k10 ?a11 ?l11 ?c11 ?k11 ?a12 ?l12 ?c12 ?k12 ?a13 ?l13 ?c13 ?k13 ?a14 ?l14 ?c14 ?k14 ?a15 ?l15 ?c15 ?k15 ?a16 ?l16 ?c16 ?k16 ?a17 ?l17 ?c17 ?k17 ?a18 ?l18 ?c18 ?k18 ?a19 ?l19 ?c19 ?k19 ?a20 ?l20 ?c20 ?k20 ?a21 ?l21 ?c21 ?k21 ?a22 ?l22 ?c22 ?k22 ?a23 ?l23 ?c23 ?k23 ?a24 ?l24 ?c24 ?k24 ?a25 ?l25 ?c25 ?k25 ?a26 ?l26 ?c26 ?k26 ?a27 ?l27 ?c27 ?k27 ?z0 ?z1 ?z2 ?z3 ?z4 ?z5 ?z6 ?z7 ?z8 ?z9 ?z10 ?z11 ?z12 ?z13 ?x13 ?kp13 ?sb13 ?ty13 ?z14 ?x14 ?kp14 ?sb14 ?ty14 ?z15 ?x15 ?kp15 ?sb15 ?ty15
    (case a0 => k_is)
    (case l0 => k_is)
    (case c0 => k_is)
    (case k0 => k_is)
    (case a1 => k_is)
    (case l1 => k_is)
    (case c1 => k_is)
    (case k1 => k_is)
    (case a2 => k_is)
    (case l2 => k_is)
    (case c2 => k_is)
    (case k2 => k_is)
    (case a3 => k_is)
    (case l3 => k_is)
    (case c3 => k_is)
    (case k3 => k_is)
    (case a4 => k_is)
    (case l4 => k_is)
    (case c4 => k_is)
    (case k4 => k_is)
    (case a5 => k_is)
    (case l5 => k_is)
    (case c5 => k_is)
    (case k5 => k_is)
    (case a6 => k_is)
    (case l6 => k_is)
    (case c6 => k_is)
    (case k6 => k_is)
    (case a7 => k_is)
    (case l7 => k_is)
    (case c7 => k_is)
    (case k7 => k_is)
    (case a8 => k_is)
    (case l8 => k_is)
    (case c8 => k_is)
    (case k8 => k_is)
    (case a9 => k_is)
    (case l9 => k_is)
    (case c9 => k_is)
    (case k9 => k_is)
    (case a10 => k_is)
    (case l10 => k_is)
    (case c10 => k_is)
    (case k10 => k_is)
    (case a11 => k_is)
    (case l11 => k_is)
    (case c11 => k_is)
    (case k11 => k_is)
    (case a12 => k_is)
    (case l12 => k_is)
    (case c12 => k_is)
    (case k12 => k_is)
    (case a13 => k_is)
    (case l13 => k_is)
    (case c13 => k_is)
    (case k13 => k_is)
    (case a14 => k_is)
    (case l14 => k_is)
    (case c14 => k_is)
    (case k14 => k_is)
    (case a15 => k_is)
    (case l15 => k_is)
    (case c15 => k_is)
    (case k15 => k_is)
    (case a16 => k_is)
    (case l16 => k_is)
    (case c16 => k_is)
    (case k16 => k_is)
    (case a17 => k_is)
    (case l17 => k_is)
    (case c17 => k_is)
    (case k17 => k_is)
    (case a18 => k_is)
    (case l18 => k_is)
    (case c18 => k_is)
    (case k18 => k_is)
    (case a19 => k_is)
    (case l19 => k_is)
    (case c19 => k_is)
    (case k19 => k_is)
    (case a20 => k_is)
    (case l20 => k_is)
    (case c20 => k_is)
    (case k20 => k_is)
    (case a21 => k_is)
    (case l21 => k_is)
    (case c21 => k_is)
    (case k21 => k_is)
    (case a22 => k_is)
    (case l22 => k_is)
    (case c22 => k_is)
    (case k22 => k_is)
    (case a23 => k_is)
    (case l23 => k_is)
    (case c23 => k_is)
    (case k23 => k_is)
    (case a24 => k_is)
    (case l24 => k_is)
    (case c24 => k_is)
    (case k24 => k_is)
    (case a25 => k_is)
    (case l25 => k_is)
    (case c25 => k_is)
    (case k25 => k_is)
    (case a26 => k_is)
    (case l26 => k_is)
    (case c26 => k_is)
    (case k26 => k_is)
    (case a27 => k_is)
    (case l27 => k_is)
    (case c27 => k_is)
    (case k27 => k_is)
    (case z0 => k_is)
    (case z1 => k_is)
    (case z2 => k_is)
    (case z3 => k_is)
    (case z4 => k_is)
    (case z5 => k_is)
    (case z6 => k_is)
    (case z7 => k_is)
    (case z8 => k_is)
    (case z9 => k_is)
    (case z10 => k_is)
    (case z11 => k_is)
    (case z12 => k_is)
    (case z13 => k_is)
    (case x13 => first | k_exc | k_is)
    (case kp13 => k_is)
    (case sb13 => k_is)
    (case ty13 => k_is)
    (case z14 => k_is)
    (case x14 => first | k_exc | k_is)
    (case kp14 => k_is)
    (case sb14 => k_is)
    (case ty14 => k_is)
    (case z15 => k_is)
    (case x15 => first | k_exc | k_is)
    (case kp15 => k_is)
    (case sb15 => k_is)
    (case ty15 => k_is)

