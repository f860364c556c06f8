import PyProof.Rows.All
import Wide.All
import OpenK.AllK
import Wide.FinOn
import HandS.ForMost
import HandS.TupSets
import HandS.Star
import HandS.SetFor
import HandS.Zip
import HandS.TupAny
import HandS.TupMul
import HandS.IsInst
import HandS.OwnEq
import HandS.Deep
import HandS.DeepEq
import HandS.Wide
import HandS.Style
import PySem.Challenge.RW_strandloom_k60_whole_fewest
set_option Elab.async false
set_option linter.all false
set_option maxRecDepth 100000
set_option maxHeartbeats 4000000
namespace G6
open PySem PySem.Spec PyProof.Rows L2

/-! ### heaps without the locally owned lists -/
def Msk (M : List Addr) (H : Hp) : Hp := fun a => if a ∈ M then none else H a
def Own (M : List Addr) (H : Hp) : Prop := ∀ a ∈ M, H a ≠ none
theorem msk_in {M : List Addr} {H : Hp} {a : Addr} (h : a ∈ M) : Msk M H a = none := by unfold Msk; rw [if_pos h]
theorem msk_nin {M : List Addr} {H : Hp} {a : Addr} (h : a ∉ M) : Msk M H a = H a := by unfold Msk; rw [if_neg h]
theorem msk_same (M : List Addr) (H : Hp) : Same (Msk M H) H := fun a o h => by
  by_cases q : a ∈ M
  · rw [msk_in q] at h; cases h
  · rw [msk_nin q] at h; exact h
theorem msk_mono {M : List Addr} {H H' : Hp} (e : Same H H') : Same (Msk M H) (Msk M H') := fun a o h => by
  by_cases q : a ∈ M
  · rw [msk_in q] at h; cases h
  · rw [msk_nin q] at h ⊢; exact e a o h
theorem msk_out {M : List Addr} {l : Addr} {H : Hp} : Same (Msk (l :: M) H) (Msk M H) := fun a o h => by
  by_cases q : a ∈ l :: M
  · rw [msk_in q] at h; cases h
  · rw [msk_nin q] at h
    rw [msk_nin fun z => q (List.mem_cons_of_mem _ z)]; exact h
theorem msk_sub {M M' : List Addr} {H : Hp} (s : ∀ a ∈ M, a ∈ M') : Same (Msk M' H) (Msk M H) := fun a o h => by
  by_cases q : a ∈ M'
  · rw [msk_in q] at h; cases h
  · rw [msk_nin q] at h
    rw [msk_nin fun z => q (s a z)]; exact h
theorem msk_upd {M : List Addr} {l : Addr} {H : Hp} {u : HO} (h : l ∈ M) : Msk M (upd H l u) = Msk M H := by
  funext a
  by_cases q : a ∈ M
  · rw [msk_in q, msk_in q]
  · rw [msk_nin q, msk_nin q, upd_ne (fun z => q (by rw [z]; exact h))]
theorem same_new {H : Hp} {p : Addr} {u : HO} (hp : H p = none) : Same H (upd H p u) := fun a o h => by
  rw [upd_ne (ne_of_none h hp)]; exact h
theorem Own.mono {M : List Addr} {H H' : Hp} (o : Own M H) (e : Same H H') : Own M H' := fun a h => by
  cases q : H a with
  | none => exact absurd q (o a h)
  | some u => rw [e a u q]; exact fun z => nomatch z
theorem Own.new {M : List Addr} {H : Hp} {p : Addr} (o : Own M H) (hp : H p = none) : p ∉ M := fun h => o p h hp
theorem Own.at {M : List Addr} {H : Hp} {p : Addr} {u : HO} (o : Own M H) (hp : H p = none) : Msk M (upd H p u) p = some u := by
  rw [msk_nin (o.new hp), upd_same]
theorem Own.nil (H : Hp) : Own [] H := fun _ h => nomatch h
/-- a new list that is owned: what stood stands -/
theorem msk_open {M : List Addr} {H : Hp} {p : Addr} {u : HO} (hp : H p = none) : Same (Msk M H) (Msk (p :: M) (upd H p u)) := fun a o h => by
  have ha := msk_same M H a o h
  have ne := ne_of_none ha hp
  have q : a ∉ M := fun z => by rw [msk_in z] at h; cases h
  rw [msk_nin (by simp [ne, q]), upd_ne ne]; exact ha
theorem Own.open {M : List Addr} {H : Hp} {p : Addr} {u : HO} (o : Own M H) (hp : H p = none) : Own (p :: M) (upd H p u) := fun a h => by
  rcases List.mem_cons.mp h with e | h
  · subst e; rw [upd_same]; exact fun z => nomatch z
  · exact (o.mono (same_new hp)) a h
theorem own_upd {M : List Addr} {H : Hp} {l : Addr} {u : HO} (o : Own M H) : Own M (upd H l u) := fun a h => by
  by_cases e : a = l
  · subst e; rw [upd_same]; exact fun z => nomatch z
  · rw [upd_ne e]; exact o a h
theorem Same.sqT {K : PySem.W.Frag} {H H' : Hp} {a : Addr} {xs : List V} (e : Same H H') (h : SqT K H a xs) : SqT K H' a xs := by
  rcases h with (h | ⟨o, h⟩) | h
  · exact .inl (.inl (e _ _ h))
  · exact .inl (.inr ⟨o, e _ _ h⟩)
  · exact .inr h

/-! ### a value denotes data -/
mutual
inductive Dn (K : PySem.W.Frag) (C : Addr) (H : Hp) : V → PyData → Prop
  | non : Dn K C H .non .none
  | bl (b : Bool) : Dn K C H (.bl b) (.bool b)
  | int (i : Int) : Dn K C H (.int i) (.int i)
  | str (x : Str) : Dn K C H (.str x) (.str x)
  | lst {a : Addr} {xs : List V} {ds : List PyData} : H a = some (.lst xs) → DnAll K C H xs ds → Dn K C H (.ref a) (.list ds)
  | tup {a : Addr} {xs : List V} {ds : List PyData} : H a = some (.tup xs) → DnAll K C H xs ds → Dn K C H (.ref a) (.tuple ds)
  | obj {a dx : Addr} {vn vl : V} {dn dl : PyData} : H a = some (.ins C dx [("net", vn), ("layers", vl)]) → Dn K C H vn dn → Dn K C H vl dl → Dn K C H (.ref a) (.dict [(.str "net", dn), (.str "layers", dl)])
inductive DnAll (K : PySem.W.Frag) (C : Addr) (H : Hp) : List V → List PyData → Prop
  | nil : DnAll K C H [] []
  | cons {v : V} {vs : List V} {d : PyData} {ds : List PyData} : Dn K C H v d → DnAll K C H vs ds → DnAll K C H (v :: vs) (d :: ds)
end
section
variable {K : PySem.W.Frag} {C : Addr} {H H' : Hp}
mutual
theorem Dn.mono (e : Same H H') : ∀ {v : V} {d : PyData}, Dn K C H v d → Dn K C H' v d
  | _, _, .non => .non
  | _, _, .bl b => .bl b
  | _, _, .int i => .int i
  | _, _, .str x => .str x
  | _, _, .lst h a => .lst (e _ _ h) (DnAll.mono e a)
  | _, _, .tup h a => .tup (e _ _ h) (DnAll.mono e a)
  | _, _, .obj h a b => .obj (e _ _ h) (Dn.mono e a) (Dn.mono e b)
theorem DnAll.mono (e : Same H H') : ∀ {vs : List V} {ds : List PyData}, DnAll K C H vs ds → DnAll K C H' vs ds
  | _, _, .nil => .nil
  | _, _, .cons a b => .cons (Dn.mono e a) (DnAll.mono e b)
end
mutual
theorem Dn.dp : ∀ {v : V} {d : PyData}, Dn K C H v d → d.canLay0 = true → Dp K H v d
  | _, _, .non, _ => .non
  | _, _, .bl b, _ => .bl b
  | _, _, .int i, _ => .int i
  | _, _, .str x, _ => .str x
  | _, _, .lst h a, c => .lst (SqL.of h) (DnAll.dp a (by simpa [PyData.canLay0] using c))
  | _, _, .tup h a, c => .tup (SqT.of h) (DnAll.dp a (by simpa [PyData.canLay0] using c))
  | _, _, .obj h a b, c => by simp [PyData.canLay0] at c
theorem DnAll.dp : ∀ {vs : List V} {ds : List PyData}, DnAll K C H vs ds → PyData.canLayAll0 ds = true → DpAll K H vs ds
  | _, _, .nil, _ => .nil
  | _, _, .cons a b, c => by
    have c' := c
    simp only [PyData.canLayAll0, Bool.and_eq_true] at c'
    exact .cons (Dn.dp a c'.1) (DnAll.dp b c'.2)
end
theorem DnAll.length : ∀ {vs : List V} {ds : List PyData}, DnAll K C H vs ds → vs.length = ds.length
  | _, _, .nil => rfl
  | _, _, .cons _ b => by rw [List.length_cons, List.length_cons, b.length]
theorem DnAll.get : ∀ {vs : List V} {ds : List PyData} {i : Nat} {d : PyData}, DnAll K C H vs ds → ds[i]? = some d → ∃ v, vs[i]? = some v ∧ Dn K C H v d
  | _, _, _, _, .nil, e => by simp at e
  | _, _, 0, _, .cons a _, e => by simp at e; subst e; exact ⟨_, rfl, a⟩
  | _, _, i + 1, d, .cons _ b, e => by
    obtain ⟨v, h1, h2⟩ := DnAll.get (i := i) (d := d) b (by simpa using e)
    exact ⟨v, by simpa using h1, h2⟩
theorem DnAll.got : ∀ {vs : List V} {ds : List PyData} {i : Nat} {v : V}, DnAll K C H vs ds → vs[i]? = some v → ∃ d, ds[i]? = some d ∧ Dn K C H v d
  | _, _, _, _, .nil, e => by simp at e
  | _, _, 0, _, .cons a _, e => by simp at e; subst e; exact ⟨_, rfl, a⟩
  | _, _, i + 1, d, .cons _ b, e => by
    obtain ⟨v, h1, h2⟩ := DnAll.got (i := i) b (by simpa using e)
    exact ⟨v, by simpa using h1, h2⟩
theorem DnAll.append : ∀ {vs ws : List V} {ds es : List PyData}, DnAll K C H vs ds → DnAll K C H ws es → DnAll K C H (vs ++ ws) (ds ++ es)
  | _, _, _, _, .nil, b => b
  | _, _, _, _, .cons a r, b => .cons a (DnAll.append r b)
theorem DnAll.take : ∀ {vs : List V} {ds : List PyData} (n : Nat), DnAll K C H vs ds → DnAll K C H (vs.take n) (ds.take n)
  | _, _, 0, _ => .nil
  | _, _, _ + 1, .nil => .nil
  | _, _, n + 1, .cons r t => .cons r (DnAll.take n t)
theorem DnAll.drop : ∀ {vs : List V} {ds : List PyData} (n : Nat), DnAll K C H vs ds → DnAll K C H (vs.drop n) (ds.drop n)
  | _, _, 0, r => r
  | _, _, _ + 1, .nil => .nil
  | _, _, n + 1, .cons _ t => DnAll.drop n t
theorem DnAll.set {v : V} {d : PyData} (h : Dn K C H v d) : ∀ {vs : List V} {ds : List PyData} (n : Nat), DnAll K C H vs ds → DnAll K C H (vs.set n v) (ds.set n d)
  | _, _, _, .nil => .nil
  | _, _, 0, .cons _ t => .cons h t
  | _, _, n + 1, .cons r t => .cons r (DnAll.set h n t)
theorem DnAll.reverse {vs : List V} {ds : List PyData} (h : DnAll K C H vs ds) : DnAll K C H vs.reverse ds.reverse := by
  induction vs generalizing ds with
  | nil => cases h; exact .nil
  | cons v vs ih =>
    cases h with
    | cons a b =>
      rw [List.reverse_cons, List.reverse_cons]
      exact (ih b).append (.cons a .nil)
theorem DnAll.rep {vs : List V} {ds : List PyData} (h : DnAll K C H vs ds) : ∀ k : Nat, DnAll K C H (List.replicate k vs).flatten (List.replicate k ds).flatten
  | 0 => .nil
  | k + 1 => by
    rw [List.replicate_succ, List.replicate_succ, List.flatten_cons, List.flatten_cons]
    exact h.append (h.rep k)
theorem Dn.int_inv {v : V} {i : Int} (h : Dn K C H v (.int i)) : v = .int i := by cases h; rfl
theorem Dn.bl_inv {v : V} {b : Bool} (h : Dn K C H v (.bool b)) : v = .bl b := by cases h; rfl
theorem Dn.str_inv {v : V} {x : Str} (h : Dn K C H v (.str x)) : v = .str x := by cases h; rfl
theorem Dn.lst_inv {v : V} {ds : List PyData} (h : Dn K C H v (.list ds)) : ∃ a xs, v = .ref a ∧ H a = some (.lst xs) ∧ DnAll K C H xs ds := by
  cases h with
  | lst h a => exact ⟨_, _, rfl, h, a⟩
theorem Dn.tup_inv {v : V} {ds : List PyData} (h : Dn K C H v (.tuple ds)) : ∃ a xs, v = .ref a ∧ H a = some (.tup xs) ∧ DnAll K C H xs ds := by
  cases h with
  | tup h a => exact ⟨_, _, rfl, h, a⟩
theorem DnAll.ints : ∀ {ns : List Int} {vs : List V}, DnAll K C H vs (ns.map PyData.int) → vs = ns.map V.int
  | [], _, h => by cases h; rfl
  | n :: ns, _, h => by
    cases h with
    | cons a b => rw [a.int_inv, DnAll.ints b]; rfl
theorem DnAll.bools : ∀ {bs : List Bool} {vs : List V}, DnAll K C H vs (bs.map PyData.bool) → vs = bs.map V.bl
  | [], _, h => by cases h; rfl
  | n :: ns, _, h => by
    cases h with
    | cons a b => rw [a.bl_inv, DnAll.bools b]; rfl
theorem dnAll_ints : ∀ (ns : List Int), DnAll K C H (ns.map V.int) (ns.map PyData.int)
  | [] => .nil
  | n :: ns => .cons (.int n) (dnAll_ints ns)
theorem DnAll.one {vs : List V} {d : PyData} (h : DnAll K C H vs [d]) : ∃ v, vs = [v] ∧ Dn K C H v d := by
  cases h with
  | cons a b => cases b; exact ⟨_, rfl, a⟩
theorem DnAll.two {vs : List V} {d e : PyData} (h : DnAll K C H vs [d, e]) : ∃ v w, vs = [v, w] ∧ Dn K C H v d ∧ Dn K C H w e := by
  cases h with
  | cons a b =>
    obtain ⟨w, rfl, c⟩ := b.one
    exact ⟨_, _, rfl, a, c⟩
theorem DnAll.three {vs : List V} {d e f : PyData} (h : DnAll K C H vs [d, e, f]) : ∃ v w x, vs = [v, w, x] ∧ Dn K C H v d ∧ Dn K C H w e ∧ Dn K C H x f := by
  cases h with
  | cons a b =>
    obtain ⟨w, x, rfl, c, c2⟩ := b.two
    exact ⟨_, _, _, rfl, a, c, c2⟩
end

/-! ### data environments -/
inductive Sl where
  | no
  | im (d : PyData)
  | ow (ds : List PyData)
abbrev REnv := List Sl
def SlOk (K : PySem.W.Frag) (C : Addr) (M : List Addr) (H : Hp) (x : Option (Option V)) : Sl → Prop
  | .no => True
  | .im d => ∃ v, x = some (some v) ∧ Dn K C (Msk M H) v d
  | .ow ds => ∃ l vs, x = some (some (.ref l)) ∧ l ∈ M ∧ H l = some (.lst vs) ∧ DnAll K C (Msk M H) vs ds
structure EnvOk (K : PySem.W.Frag) (C : Addr) (M : List Addr) (H : Hp) (σ : L2.St) (ρ : REnv) : Prop where
  own : Own M H
  len : ρ.length = σ.length
  slot : ∀ (i : Nat) (e : Sl), ρ[i]? = some e → SlOk K C M H (σ[i]?) e
  dist : ∀ (i j : Nat) (di dj : List PyData) (l : Addr), ρ[i]? = some (.ow di) → ρ[j]? = some (.ow dj) → σ[i]? = some (some (.ref l)) → σ[j]? = some (some (.ref l)) → i = j
section
variable {K : PySem.W.Frag} {C : Addr} {M : List Addr} {H H' : Hp} {σ : L2.St} {ρ : REnv}
theorem EnvOk.mono (E : EnvOk K C M H σ ρ) (e : Same H H') : EnvOk K C M H' σ ρ where
  own := E.own.mono e
  len := E.len
  slot := fun i s h => by
    have q := E.slot i s h
    cases s with
    | no => trivial
    | im d => obtain ⟨v, h1, h2⟩ := q; exact ⟨v, h1, h2.mono (msk_mono e)⟩
    | ow ds => obtain ⟨l, vs, h1, h2, h3, h4⟩ := q; exact ⟨l, vs, h1, h2, e _ _ h3, h4.mono (msk_mono e)⟩
  dist := E.dist
theorem EnvOk.to {M' : List Addr} (E : EnvOk K C M H σ ρ) (e : Same H H') (e2 : Same (Msk M H) (Msk M' H')) (o : Own M' H') (hs : ∀ a ∈ M, a ∈ M') : EnvOk K C M' H' σ ρ where
  own := o
  len := E.len
  slot := fun i s h => by
    have q := E.slot i s h
    cases s with
    | no => trivial
    | im d => obtain ⟨v, h1, h2⟩ := q; exact ⟨v, h1, h2.mono e2⟩
    | ow ds => obtain ⟨l, vs, h1, h2, h3, h4⟩ := q; exact ⟨l, vs, h1, hs _ h2, e _ _ h3, h4.mono e2⟩
  dist := E.dist
/-- a new owned list, not a slot's -/
theorem EnvOk.open {p : Addr} {u : HO} (E : EnvOk K C M H σ ρ) (hp : H p = none) : EnvOk K C (p :: M) (upd H p u) σ ρ where
  own := E.own.open hp
  len := E.len
  slot := fun i s h => by
    have q := E.slot i s h
    cases s with
    | no => trivial
    | im d => obtain ⟨v, h1, h2⟩ := q; exact ⟨v, h1, h2.mono (msk_open hp)⟩
    | ow ds => obtain ⟨l, vs, h1, h2, h3, h4⟩ := q; exact ⟨l, vs, h1, List.mem_cons_of_mem _ h2, same_new hp _ _ h3, h4.mono (msk_open hp)⟩
  dist := E.dist
theorem EnvOk.im {i : Nat} {d : PyData} (E : EnvOk K C M H σ ρ) (h : ρ[i]? = some (.im d)) : ∃ v, σ[i]? = some (some v) ∧ Dn K C (Msk M H) v d := E.slot i _ h
theorem EnvOk.ow {i : Nat} {ds : List PyData} (E : EnvOk K C M H σ ρ) (h : ρ[i]? = some (.ow ds)) : ∃ l vs, σ[i]? = some (some (.ref l)) ∧ l ∈ M ∧ H l = some (.lst vs) ∧ DnAll K C (Msk M H) vs ds := E.slot i _ h
theorem EnvOk.set {i : Nat} {v : V} {d : PyData} (E : EnvOk K C M H σ ρ) (h : Dn K C (Msk M H) v d) : EnvOk K C M H (σ.set i (some v)) (ρ.set i (.im d)) where
  own := E.own
  len := by rw [List.length_set, List.length_set, E.len]
  slot := fun j s hj => by
    by_cases e : i = j
    · subst e
      by_cases hl : i < ρ.length
      · rw [List.getElem?_set_self hl] at hj
        cases hj
        exact ⟨v, by rw [List.getElem?_set_self (by rw [← E.len]; exact hl)], h⟩
      · rw [List.getElem?_eq_none (by simpa using hl)] at hj; cases hj
    · rw [List.getElem?_set_ne e] at hj ⊢
      exact E.slot j s hj
  dist := fun j k dj dk l h1 h2 h3 h4 => by
    have nj : i ≠ j := fun e => by
      subst e
      by_cases hl : i < ρ.length
      · rw [List.getElem?_set_self hl] at h1; cases h1
      · rw [List.getElem?_eq_none (by simpa using hl)] at h1; cases h1
    have nk : i ≠ k := fun e => by
      subst e
      by_cases hl : i < ρ.length
      · rw [List.getElem?_set_self hl] at h2; cases h2
      · rw [List.getElem?_eq_none (by simpa using hl)] at h2; cases h2
    rw [List.getElem?_set_ne nj] at h1 h3
    rw [List.getElem?_set_ne nk] at h2 h4
    exact E.dist j k dj dk l h1 h2 h3 h4
/-- a slot of which nothing is known any more -/
theorem EnvOk.forget {i : Nat} {x : Option V} (E : EnvOk K C M H σ ρ) : EnvOk K C M H (σ.set i x) (ρ.set i .no) where
  own := E.own
  len := by rw [List.length_set, List.length_set, E.len]
  slot := fun j s hj => by
    by_cases e : i = j
    · subst e
      by_cases hl : i < ρ.length
      · rw [List.getElem?_set_self hl] at hj
        cases hj
        trivial
      · rw [List.getElem?_eq_none (by simpa using hl)] at hj; cases hj
    · rw [List.getElem?_set_ne e] at hj ⊢
      exact E.slot j s hj
  dist := fun j k dj dk l h1 h2 h3 h4 => by
    have nj : i ≠ j := fun e => by
      subst e
      by_cases hl : i < ρ.length
      · rw [List.getElem?_set_self hl] at h1; cases h1
      · rw [List.getElem?_eq_none (by simpa using hl)] at h1; cases h1
    have nk : i ≠ k := fun e => by
      subst e
      by_cases hl : i < ρ.length
      · rw [List.getElem?_set_self hl] at h2; cases h2
      · rw [List.getElem?_eq_none (by simpa using hl)] at h2; cases h2
    rw [List.getElem?_set_ne nj] at h1 h3
    rw [List.getElem?_set_ne nk] at h2 h4
    exact E.dist j k dj dk l h1 h2 h3 h4
def wipeR (ρ : REnv) : List Nat → REnv
  | [] => ρ
  | v :: vs => (wipeR ρ vs).set v .no
theorem EnvOk.wipe (E : EnvOk K C M H σ ρ) : ∀ vs : List Nat, EnvOk K C M H (wipe σ vs) (wipeR ρ vs)
  | [] => E
  | v :: vs => (E.wipe vs).forget
end

/-! ### meaning of the syntax, as readings -/
def semE (X : Cx) (e : Expr) : TE := fun σ H Q => ∀ pins s, Inv X pins σ H s → wpAny (model X.prog X.w) X.A (eval e X.env) (EP X pins σ Q) X.xe s
def semT (X : Cx) (e : Expr) : TT := fun σ H Q => ∀ pins s, Inv X pins σ H s → wpAny (model X.prog X.w) X.A (isTrue e X.env (eval e X.env)) (TP X pins σ Q) X.xe s
def semW (X : Cx) (e : Expr) : TT := fun σ H Q => ∀ whole pins s, Inv X pins σ H s → wpAny (model X.prog X.w) X.A (isTrue e X.env whole) (TP X pins σ Q) X.xe s
def semA (X : Cx) (es : List Expr) : TA := fun σ H Q => ∀ pos pins s, Inv X pins σ H s → wpAny (model X.prog X.w) X.A (spliced (backTo pos (starEach es X.env))) (AP X pins σ Q) X.xe s
def semG (X : Cx) (tg : Expr) : TG := fun v σ H Q => ∀ pins s u, Inv X pins σ H s → RelV v u →
    wpAny (model X.prog X.w) X.A (assign tg X.env u) (fun _ s' => ∃ σ' H', Inv X pins σ' H' s' ∧ Q σ' H') X.xe s
def semGs (X : Cx) (ts : List Expr) : TGs := fun vs σ H Q => ∀ pins s us, Inv X pins σ H s → Vals vs us →
    wpAny (model X.prog X.w) X.A (assignInOrder ((assignEach ts X.env).map (·.2)) us) (fun _ s' => ∃ σ' H', Inv X pins σ' H' s' ∧ Q σ' H') X.xe s
def semI (X : Cx) (tg iter : Expr) : TI := fun σ H R => ∀ pins s, Inv X pins σ H s →
    wpAny (model X.prog X.w) X.A (eval iter X.env) (fun v s1 => wpAny (model X.prog X.w) X.A (pyIter v) (PIE X pins σ tg R) X.xe s1) X.xe s
def semTs (X : Cx) (ifs : List Expr) : TT := fun σ H Q => ∀ pins s, Inv X pins σ H s →
    wpAny (model X.prog X.w) X.A (forIn ifs true fun c r => if r = true then do let ok ← isTrue c X.env (eval c X.env); pure (ForInStep.yield ok) else pure (ForInStep.yield r)) (TP X pins σ Q) X.xe s
def semS (X : Cx) (st : Stmt) : TS := fun D σ H => ∀ pins s, Inv X pins σ H s → wpAny (model X.prog X.w) X.A (exec st X.env) (SP X pins D) X.xe s
def semSs (X : Cx) (st : List Stmt) : TS := fun D σ H => ∀ pins s, Inv X pins σ H s → wpAny (model X.prog X.w) X.A (execs st X.env) (SP X pins D) X.xe s
section
variable {X : Cx}
theorem pe_sem (e : Expr) : PE X e (semE X e) := ⟨fun pins s σ H Q I h => h pins s I⟩
theorem pt_sem (e : Expr) : PT X e (semT X e) := ⟨fun pins s σ H Q I h => h pins s I⟩
theorem pw_sem (e : Expr) : PW X e (semW X e) := ⟨fun w pins s σ H Q I h => h w pins s I⟩
theorem pa_sem (es : List Expr) : PA X es (semA X es) := ⟨fun p pins s σ H Q I h => h p pins s I⟩
theorem pg_sem (e : Expr) : PG X e (semG X e) := ⟨fun pins s σ H v u Q I r h => h pins s u I r⟩
theorem pgs_sem (e : List Expr) : PGs X e (semGs X e) := ⟨fun pins s σ H v u Q I r h => h pins s u I r⟩
theorem pi_sem (tg iter : Expr) : PI X tg iter (semI X tg iter) := ⟨fun pins s σ H Q I h => h pins s I⟩
theorem pts_sem (es : List Expr) : PTs X es (semTs X es) := ⟨fun pins s σ H Q I h => h pins s I⟩
theorem ps_sem (e : Stmt) : PS X e (semS X e) := ⟨fun pins s σ H D I h => h pins s I⟩
theorem pss_sem (e : List Stmt) : PSs X e (semSs X e) := ⟨fun pins s σ H D I h => h pins s I⟩
end

/-! ### the judgements over data -/
/-- behind a target: only the slots ts are stored to, no list becomes owned -/
structure TgtOk (ts : List Nat) (ρ ρ' : REnv) (σ σ' : L2.St) : Prop where
  wipe : ∀ vs, (∀ i ∈ ts, i ∈ vs) → L2.wipe σ' vs = L2.wipe σ vs
  own : ∀ (i : Nat) (ds : List PyData), ρ'[i]? = some (.ow ds) → ρ[i]? = some (.ow ds) ∧ σ'[i]? = σ[i]?
section
variable (X : Cx) (C : Addr) (ρ : REnv)
def BE (e : Expr) (d : PyData) : Prop := ∀ M H σ Q, EnvOk X.K C M H σ ρ → (∀ v H', Same H H' → Dn X.K C (Msk M H') v d → Q v H') → semE X e σ H Q
def BA (es : List Expr) (ds : List PyData) : Prop := ∀ M H σ Q, EnvOk X.K C M H σ ρ → (∀ vs H', Same H H' → DnAll X.K C (Msk M H') vs ds → Q vs H') → semA X es σ H Q
def BT (e : Expr) (b : Bool) : Prop := ∀ M H σ Q, EnvOk X.K C M H σ ρ → (∀ H', Same H H' → Q b H') → semT X e σ H Q
def BW (e : Expr) (b : Bool) : Prop := ∀ M H σ Q, EnvOk X.K C M H σ ρ → (∀ H', Same H H' → Q b H') → semW X e σ H Q
def BTs (es : List Expr) (b : Bool) : Prop := ∀ M H σ Q, EnvOk X.K C M H σ ρ → (∀ H', Same H H' → Q b H') → semTs X es σ H Q
/-- a list that is read, owned or not -/
def BL (e : Expr) (ds : List PyData) : Prop := ∀ M H σ Q, EnvOk X.K C M H σ ρ → (∀ a vs H', Same H H' → H' a = some (.lst vs) → DnAll X.K C (Msk M H') vs ds → Q (.ref a) H') → semE X e σ H Q
/-- what an iterator yields -/
def JOk (K : PySem.W.Frag) (C : Addr) (J : It) (M : List Addr) (H0 : Hp) (ds : List PyData) : Prop :=
  ∀ M' H, Same (Msk M H0) (Msk M' H) → Same H0 H → Own M' H → ∀ i : Nat, (ds.length ≤ i → J.stop i H) ∧ ∀ d, ds[i]? = some d → J.go i H ∧ ∀ x H', J.yld i H x H' → Same H H' ∧ Dn K C (Msk M' H') x d
def BI (tg iter : Expr) (ds : List PyData) : Prop := ∀ M H σ R, EnvOk X.K C M H σ ρ → (∀ J H', Same H H' → JOk X.K C J M H' ds → R J H') → semI X tg iter σ H R
def BG (ts : List Nat) (tg : Expr) (d : PyData) (ρ' : REnv) : Prop := ∀ M H σ v Q, EnvOk X.K C M H σ ρ → Dn X.K C (Msk M H) v d →
  (∀ σ', EnvOk X.K C M H σ' ρ' → TgtOk ts ρ ρ' σ σ' → Q σ' H) → semG X tg v σ H Q
def BGs (ts : List Nat) (tgs : List Expr) (ds : List PyData) (ρ' : REnv) : Prop := ∀ M H σ vs Q, EnvOk X.K C M H σ ρ → DnAll X.K C (Msk M H) vs ds →
  (∀ σ', EnvOk X.K C M H σ' ρ' → TgtOk ts ρ ρ' σ σ' → Q σ' H) → semGs X tgs vs σ H Q
end
/-- a two-place operation of data -/
def R2ok (K : PySem.W.Frag) (C : Addr) (r : R2) (da db d : PyData) : Prop := ∀ M H x y Q, Own M H → Dn K C (Msk M H) x da → Dn K C (Msk M H) y db → (∀ v H', Same H H' → Dn K C (Msk M H') v d → Q v H') → r x y H Q
def RLok (K : PySem.W.Frag) (C : Addr) (r : List V → Hp → VK → Prop) (ds : List PyData) (d : PyData) : Prop := ∀ M H xs Q, Own M H → DnAll K C (Msk M H) xs ds → (∀ v H', Same H H' → Dn K C (Msk M H') v d → Q v H') → r xs H Q
/-- a def's promise over data -/
def spD (K : PySem.W.Frag) (C : Addr) (R : List PyData → PyData → Prop) : Sp := fun vs H Q _ => ∃ M ds d, Own M H ∧ DnAll K C (Msk M H) vs ds ∧ R ds d ∧ ∀ v H', Same H H' → Dn K C (Msk M H') v d → Q v H'

section
variable {X : Cx} {C : Addr} {ρ : REnv} {e a b : Expr} {es : List Expr} {d da db : PyData} {ds : List PyData} {pos p : Pos}
theorem be_of {t : TE} (h : PE X e t) (q : ∀ M H σ Q, EnvOk X.K C M H σ ρ → (∀ v H', Same H H' → Dn X.K C (Msk M H') v d → Q v H') → t σ H Q) : BE X C ρ e d :=
  fun M H σ Q E k pins s I => h.run pins s σ H Q I (q M H σ Q E k)
theorem bl_of {t : TE} (h : PE X e t) (q : ∀ M H σ Q, EnvOk X.K C M H σ ρ → (∀ a vs H', Same H H' → H' a = some (.lst vs) → DnAll X.K C (Msk M H') vs ds → Q (.ref a) H') → t σ H Q) : BL X C ρ e ds :=
  fun M H σ Q E k pins s I => h.run pins s σ H Q I (q M H σ Q E k)
theorem bt_of {t : TT} {c : Bool} (h : PT X e t) (q : ∀ M H σ Q, EnvOk X.K C M H σ ρ → (∀ H', Same H H' → Q c H') → t σ H Q) : BT X C ρ e c :=
  fun M H σ Q E k pins s I => h.run pins s σ H Q I (q M H σ Q E k)
theorem bw_of {t : TT} {c : Bool} (h : PW X e t) (q : ∀ M H σ Q, EnvOk X.K C M H σ ρ → (∀ H', Same H H' → Q c H') → t σ H Q) : BW X C ρ e c :=
  fun M H σ Q E k whole pins s I => h.run whole pins s σ H Q I (q M H σ Q E k)
theorem ba_of {t : TA} (h : PA X es t) (q : ∀ M H σ Q, EnvOk X.K C M H σ ρ → (∀ vs H', Same H H' → DnAll X.K C (Msk M H') vs ds → Q vs H') → t σ H Q) : BA X C ρ es ds :=
  fun M H σ Q E k pos pins s I => h.run pos pins s σ H Q I (q M H σ Q E k)
theorem bi_of {tg iter : Expr} {t : TI} (h : PI X tg iter t) (q : ∀ M H σ R, EnvOk X.K C M H σ ρ → (∀ J H', Same H H' → JOk X.K C J M H' ds → R J H') → t σ H R) : BI X C ρ tg iter ds :=
  fun M H σ Q E k pins s I => h.run pins s σ H Q I (q M H σ Q E k)
theorem be_eq {d' : PyData} (h : BE X C ρ e d') (q : d' = d) : BE X C ρ e d := q ▸ h
theorem bt_eq {c c' : Bool} (h : BT X C ρ e c') (q : c' = c) : BT X C ρ e c := q ▸ h

/-! #### names, constants -/
theorem be_var (i : Nat) {x : Str} (hr : ρ[i]? = some (.im d) := by rfl) (hN : X.N[i]? = some x := by rfl) (hv : Vis X.env.scope x := by first | exact Or.inl rfl | exact Or.inr (Or.inl rfl) | exact Or.inr (Or.inr rfl))
    (hd : (x == ("__debug__" : Str)) = false := by decide) (hcd : (x == ("__classdict__" : Str)) = false := by decide) : BE X C ρ (.Name x pos) d :=
  be_of (pe_var hN hv hd hcd) fun M H σ Q E k => by
    obtain ⟨v, h1, h2⟩ := E.im hr
    exact ⟨v, h1, k v H (Same.refl H) h2⟩
theorem bl_own (i : Nat) {x : Str} (hr : ρ[i]? = some (.ow ds) := by rfl) (hN : X.N[i]? = some x := by rfl) (hv : Vis X.env.scope x := by first | exact Or.inl rfl | exact Or.inr (Or.inl rfl) | exact Or.inr (Or.inr rfl))
    (hd : (x == ("__debug__" : Str)) = false := by decide) (hcd : (x == ("__classdict__" : Str)) = false := by decide) : BL X C ρ (.Name x pos) ds :=
  bl_of (pe_var hN hv hd hcd) fun M H σ Q E k => by
    obtain ⟨l, vs, h1, h2, h3, h4⟩ := E.ow hr
    exact ⟨_, h1, k l vs H (Same.refl H) h3 h4⟩
theorem bl_im (h : BE X C ρ e (.list ds)) : BL X C ρ e ds :=
  bl_of (pe_sem e) fun M H σ Q E k => h M H σ Q E fun v H' s q => by
    obtain ⟨a, xs, rfl, h1, h2⟩ := q.lst_inv
    exact k a xs H' s (msk_same M H' _ _ h1) h2
theorem be_int {i : Int} {j : Nat} : BE X C ρ (.Constant (.int i) j pos) (.int i) := be_of pe_int fun M H σ Q E k => k _ H (Same.refl H) (.int i)
theorem be_bl {i : Bool} {j : Nat} : BE X C ρ (.Constant (.bool i) j pos) (.bool i) := be_of pe_bl fun M H σ Q E k => k _ H (Same.refl H) (.bl i)
theorem be_str {i : Str} {j : Nat} : BE X C ρ (.Constant (.str i) j pos) (.str i) := be_of pe_str fun M H σ Q E k => k _ H (Same.refl H) (.str i)

/-! #### argument lists, displays -/
theorem ba_nil : BA X C ρ [] [] := ba_of pa_nil fun M H σ Q E k => k _ H (Same.refl H) .nil
theorem ba_cons (he : BE X C ρ e d) (hes : BA X C ρ es ds) (hs : starEach (e :: es) X.env = (false, eval e X.env) :: starEach es X.env := by rfl) : BA X C ρ (e :: es) (d :: ds) :=
  ba_of (pa_cons (pe_sem e) (pa_sem es) hs) fun M H σ Q E k => he M H σ _ E fun v H1 s1 q1 => hes M H1 σ _ (E.mono s1) fun vs H2 s2 q2 =>
    k (v :: vs) H2 (s1.trans s2) (.cons (q1.mono (msk_mono s2)) q2)
theorem ba_starL {ws : List PyData} (he : BL X C ρ e ws) (hes : BA X C ρ es ds) (hs : starEach (.Starred e p :: es) X.env = (true, eval e X.env) :: starEach es X.env := by rfl) : BA X C ρ (.Starred e p :: es) (ws ++ ds) :=
  ba_of (StX.pa_star (pe_sem e) (pa_sem es) hs) fun M H σ Q E k => he M H σ _ E fun a xs H1 s1 h1 q1 => ⟨a, xs, rfl, .inr (SqL.of h1), hes M H1 σ _ (E.mono s1) fun vs H2 s2 q2 =>
    k (xs ++ vs) H2 (s1.trans s2) ((q1.mono (msk_mono s2)).append q2)⟩
theorem ba_starT {ws : List PyData} (he : BE X C ρ e (.tuple ws)) (hes : BA X C ρ es ds) (hs : starEach (.Starred e p :: es) X.env = (true, eval e X.env) :: starEach es X.env := by rfl) : BA X C ρ (.Starred e p :: es) (ws ++ ds) :=
  ba_of (StX.pa_star (pe_sem e) (pa_sem es) hs) fun M H σ Q E k => he M H σ _ E fun v H1 s1 q1 => by
    obtain ⟨a, xs, rfl, h1, h2⟩ := q1.tup_inv
    exact ⟨a, xs, rfl, .inl (SqT.of (msk_same M H1 _ _ h1)), hes M H1 σ _ (E.mono s1) fun vs H2 s2 q2 => k (xs ++ vs) H2 (s1.trans s2) ((h2.mono (msk_mono s2)).append q2)⟩
theorem dn_new {K : PySem.W.Frag} {M : List Addr} {H : Hp} {xs : List V} (o : Own M H) (h : DnAll K C (Msk M H) xs ds) {q : Addr} (hq : H q = none) : Dn K C (Msk M (upd H q (.lst xs))) (.ref q) (.list ds) :=
  .lst (o.at hq) (h.mono (msk_mono (same_new hq)))
theorem dn_newT {K : PySem.W.Frag} {M : List Addr} {H : Hp} {xs : List V} (o : Own M H) (h : DnAll K C (Msk M H) xs ds) {q : Addr} (hq : H q = none) : Dn K C (Msk M (upd H q (.tup xs))) (.ref q) (.tuple ds) :=
  .tup (o.at hq) (h.mono (msk_mono (same_new hq)))
theorem line_of {n : Nat} (h : n ≤ 1000000) : n ≤ sizeLine := by rw [sizeLine_eq]; omega
theorem line_lt {n : Nat} (h : n < 1000000) : n < sizeLine := by rw [sizeLine_eq]; omega
theorem be_lst (h : BA X C ρ es ds) (hl : ds.length ≤ 1000000 := by first | decide | simp) : BE X C ρ (.List es pos) (.list ds) :=
  be_of (pe_lst (pa_sem es)) fun M H σ Q E k => h M H σ _ E fun vs H1 s1 q1 => ⟨by rw [q1.length]; exact line_of hl, fun q hq =>
    k _ _ (s1.trans (same_new hq)) (dn_new (E.own.mono s1) q1 hq)⟩
theorem be_tup {k : Nat} (h : BA X C ρ es ds) (hl : ds.length ≤ 1000000 := by first | decide | simp) : BE X C ρ (.Tuple es k pos) (.tuple ds) :=
  be_of (pe_tup (pa_sem es)) fun M H σ Q E k => h M H σ _ E fun vs H1 s1 q1 => ⟨by rw [q1.length]; exact line_of hl, fun q hq =>
    k _ _ (s1.trans (same_new hq)) (dn_newT (E.own.mono s1) q1 hq)⟩

/-! #### operators, comparisons -/
theorem be_op {op : Operator} {r : R2} (ho : OpR X (binaryOp op) r) (ha : BE X C ρ a da) (hb : BE X C ρ b db) (hq : R2ok X.K C r da db d) : BE X C ρ (.BinOp a op b pos) d :=
  be_of (pe_op ho (pe_sem a) (pe_sem b)) fun M H σ Q E k => ha M H σ _ E fun x H1 s1 q1 => hb M H1 σ _ (E.mono s1) fun y H2 s2 q2 =>
    hq M H2 x y Q (E.own.mono (s1.trans s2)) (q1.mono (msk_mono s2)) q2 fun v H' s3 q3 => k v H' ((s1.trans s2).trans s3) q3
theorem be_cmp {op : CmpOp} {r : R2} (ho : OpR X (compareOp op) r) (ha : BE X C ρ a da) (hb : BE X C ρ b db) (hm : behindInMarks op b = false) (hq : R2ok X.K C r da db d) : BE X C ρ (.Compare a [op] [b] pos) d :=
  be_of (pe_cmpR ho (pe_sem a) (pe_sem b) hm) fun M H σ Q E k => ha M H σ _ E fun x H1 s1 q1 => hb M H1 σ _ (E.mono s1) fun y H2 s2 q2 =>
    hq M H2 x y Q (E.own.mono (s1.trans s2)) (q1.mono (msk_mono s2)) q2 fun v H' s3 q3 => k v H' ((s1.trans s2).trans s3) q3
theorem bt_cmp {op : CmpOp} {r : R2} {c : Bool} (ho : OpR X (compareOp op) r) (ha : BE X C ρ a da) (hb : BE X C ρ b db) (hm : behindInMarks op b = false) (hq : R2ok X.K C r da db (.bool c)) : BT X C ρ (.Compare a [op] [b] pos) c :=
  bt_of (pt_cmpR ho (pe_sem a) (pe_sem b) hm) fun M H σ Q E k => ha M H σ _ E fun x H1 s1 q1 => hb M H1 σ _ (E.mono s1) fun y H2 s2 q2 =>
    hq M H2 x y _ (E.own.mono (s1.trans s2)) (q1.mono (msk_mono s2)) q2 fun v H' s3 q3 => ⟨c, q3.bl_inv, k H' ((s1.trans s2).trans s3)⟩
theorem r2_int0 {K : PySem.W.Frag} {g : Int → Int → Int} (i j : Int) : R2ok K C (rI0 fun i j => .int (g i j)) (.int i) (.int j) (.int (g i j)) := fun M H x y Q o hx hy k =>
  ⟨i, j, hx.int_inv, hy.int_inv, k _ H (Same.refl H) (.int _)⟩
theorem r2_intB {K : PySem.W.Frag} {g : Int → Int → Bool} (i j : Int) : R2ok K C (rI0 fun i j => .bl (g i j)) (.int i) (.int j) (.bool (g i j)) := fun M H x y Q o hx hy k =>
  ⟨i, j, hx.int_inv, hy.int_inv, k _ H (Same.refl H) (.bl _)⟩
theorem r2_intC {K : PySem.W.Frag} {Cd : Int → Int → Prop} {g : Int → Int → Int} (i j : Int) (h : Cd i j) : R2ok K C (rI Cd fun i j => .int (g i j)) (.int i) (.int j) (.int (g i j)) := fun M H x y Q o hx hy k =>
  ⟨i, j, hx.int_inv, hy.int_inv, h, k _ H (Same.refl H) (.int _)⟩
theorem be_add {i j : Int} (ha : BE X C ρ a (.int i)) (hb : BE X C ρ b (.int j)) : BE X C ρ (.BinOp a .Add b pos) (.int (i + j)) := be_op op_add ha hb (r2_int0 (g := fun i j => i + j) i j)
theorem be_sub {i j : Int} (ha : BE X C ρ a (.int i)) (hb : BE X C ρ b (.int j)) : BE X C ρ (.BinOp a .Sub b pos) (.int (i - j)) := be_op op_sub ha hb (r2_int0 (g := fun i j => i - j) i j)
theorem be_mul {i j : Int} (ha : BE X C ρ a (.int i)) (hb : BE X C ρ b (.int j)) (h : CMul i j) : BE X C ρ (.BinOp a .Mult b pos) (.int (i * j)) := be_op op_mul ha hb (r2_intC (g := fun i j => i * j) i j h)
theorem be_mod {i j : Int} (ha : BE X C ρ a (.int i)) (hb : BE X C ρ b (.int j)) (h : 0 < j) : BE X C ρ (.BinOp a .Mod b pos) (.int (i % j)) := be_op op_mod ha hb (r2_intC (Cd := fun _ j => 0 < j) (g := fun i j => i % j) i j h)
theorem be_lt {i j : Int} (ha : BE X C ρ a (.int i)) (hb : BE X C ρ b (.int j)) : BE X C ρ (.Compare a [.Lt] [b] pos) (.bool (decide (i < j))) := be_cmp op_lt ha hb (nomark _) (r2_intB (g := fun i j => decide (i < j)) i j)
theorem be_gt {i j : Int} (ha : BE X C ρ a (.int i)) (hb : BE X C ρ b (.int j)) : BE X C ρ (.Compare a [.Gt] [b] pos) (.bool (decide (j < i))) := be_cmp op_gt ha hb (nomark _) (r2_intB (g := fun i j => decide (j < i)) i j)
theorem be_ge {i j : Int} (ha : BE X C ρ a (.int i)) (hb : BE X C ρ b (.int j)) : BE X C ρ (.Compare a [.GtE] [b] pos) (.bool (decide (j ≤ i))) := be_cmp op_ge ha hb (nomark _) (r2_intB (g := fun i j => decide (j ≤ i)) i j)
theorem bt_lt {i j : Int} (ha : BE X C ρ a (.int i)) (hb : BE X C ρ b (.int j)) : BT X C ρ (.Compare a [.Lt] [b] pos) (decide (i < j)) := bt_cmp op_lt ha hb (nomark _) (r2_intB (g := fun i j => decide (i < j)) i j)
theorem bt_gt {i j : Int} (ha : BE X C ρ a (.int i)) (hb : BE X C ρ b (.int j)) : BT X C ρ (.Compare a [.Gt] [b] pos) (decide (j < i)) := bt_cmp op_gt ha hb (nomark _) (r2_intB (g := fun i j => decide (j < i)) i j)
theorem bt_ge {i j : Int} (ha : BE X C ρ a (.int i)) (hb : BE X C ρ b (.int j)) : BT X C ρ (.Compare a [.GtE] [b] pos) (decide (j ≤ i)) := bt_cmp op_ge ha hb (nomark _) (r2_intB (g := fun i j => decide (j ≤ i)) i j)
/-- == and != of data -/
theorem r2_eqD {K : PySem.W.Frag} (ha : SeqAt.shaped da = true) (hb : SeqAt.shaped db = true) : R2ok K C (rEqD K) da db (.bool (PyData.eqv da db)) := fun M H x y Q o hx hy k =>
  ⟨da, db, (hx.mono (msk_same M H)).dp (SeqAt.canLay_of_shaped ha), (hy.mono (msk_same M H)).dp (SeqAt.canLay_of_shaped hb), ha, hb, k _ H (Same.refl H) (.bl _)⟩
theorem r2_neD {K : PySem.W.Frag} (ha : SeqAt.shaped da = true) (hb : SeqAt.shaped db = true) : R2ok K C (rNeD K) da db (.bool (!PyData.eqv da db)) := fun M H x y Q o hx hy k =>
  ⟨da, db, (hx.mono (msk_same M H)).dp (SeqAt.canLay_of_shaped ha), (hy.mono (msk_same M H)).dp (SeqAt.canLay_of_shaped hb), ha, hb, k _ H (Same.refl H) (.bl _)⟩
theorem be_eqD (hu : X.A.units + 64 < cLine) (ha : BE X C ρ a da) (hb : BE X C ρ b db) (sa : SeqAt.shaped da = true) (sb : SeqAt.shaped db = true) : BE X C ρ (.Compare a [.Eq] [b] pos) (.bool (PyData.eqv da db)) := be_cmp (op_eqD hu) ha hb (nomark _) (r2_eqD sa sb)
theorem be_neD (hu : X.A.units + 64 < cLine) (ha : BE X C ρ a da) (hb : BE X C ρ b db) (sa : SeqAt.shaped da = true) (sb : SeqAt.shaped db = true) : BE X C ρ (.Compare a [.NotEq] [b] pos) (.bool (!PyData.eqv da db)) := be_cmp (op_neD hu) ha hb (nomark _) (r2_neD sa sb)
theorem bt_eqD (hu : X.A.units + 64 < cLine) (ha : BE X C ρ a da) (hb : BE X C ρ b db) (sa : SeqAt.shaped da = true) (sb : SeqAt.shaped db = true) : BT X C ρ (.Compare a [.Eq] [b] pos) (PyData.eqv da db) := bt_cmp (op_eqD hu) ha hb (nomark _) (r2_eqD sa sb)
theorem bt_neD (hu : X.A.units + 64 < cLine) (ha : BE X C ρ a da) (hb : BE X C ρ b db) (sa : SeqAt.shaped da = true) (sb : SeqAt.shaped db = true) : BT X C ρ (.Compare a [.NotEq] [b] pos) (!PyData.eqv da db) := bt_cmp (op_neD hu) ha hb (nomark _) (r2_neD sa sb)

/-! #### tests -/
theorem bt_val {c : Bool} (h : BE X C ρ e (.bool c)) (he : ∀ whole, isTrue e X.env whole = (do let v ← whole; standAt e.pos; holding [v] (truthy v)) := by intro _; rfl) : BT X C ρ e c :=
  bt_of (pt_val (pe_sem e) he) fun M H σ Q E k => h M H σ _ E fun v H1 s1 q1 => ⟨c, q1.bl_inv, k H1 s1⟩
theorem bt_not {c : Bool} (h : BT X C ρ a c) : BT X C ρ (.UnaryOp .Not a pos) (!c) :=
  bt_of (pt_not (pt_sem a)) fun M H σ Q E k => h M H σ _ E fun H1 s1 => k H1 s1
theorem bt_bw {c : Bool} (h : BW X C ρ e c) : BT X C ρ e c := bt_of (pw_sem e).pt fun M H σ Q E k => h M H σ _ E k
theorem bw_and1 {c : Bool} (h : BT X C ρ a c) : BW X C ρ (.BoolOp .And [a] pos) c := bw_of (pw_and1 (pt_sem a)) fun M H σ Q E k => h M H σ _ E k
theorem bw_or1 {c : Bool} (h : BT X C ρ a c) : BW X C ρ (.BoolOp .Or [a] pos) c := bw_of (pw_or1 (pt_sem a)) fun M H σ Q E k => h M H σ _ E k
theorem bw_and {c f : Bool} (h : BT X C ρ a c) (hr : c = true → BW X C ρ (.BoolOp .And (b :: es) pos) f) : BW X C ρ (.BoolOp .And (a :: b :: es) pos) (c && f) :=
  bw_of (pw_and (pt_sem a) (pw_sem _)) fun M H σ Q E k => h M H σ _ E fun H1 s1 => by
    cases c with
    | false => exact iteF (k H1 s1)
    | true => exact iteT (hr rfl M H1 σ _ (E.mono s1) fun H2 s2 => k H2 (s1.trans s2))
theorem bw_or {c f : Bool} (h : BT X C ρ a c) (hr : c = false → BW X C ρ (.BoolOp .Or (b :: es) pos) f) : BW X C ρ (.BoolOp .Or (a :: b :: es) pos) (c || f) :=
  bw_of (pw_or (pt_sem a) (pw_sem _)) fun M H σ Q E k => h M H σ _ E fun H1 s1 => by
    cases c with
    | true => exact iteT (k H1 s1)
    | false => exact iteF (hr rfl M H1 σ _ (E.mono s1) fun H2 s2 => k H2 (s1.trans s2))
theorem bts_nil : BTs X C ρ [] true := fun M H σ Q E k pins s I => (pts_nil (X := X)).run pins s σ H Q I (k H (Same.refl H))
theorem bts_one {c : Bool} (h : BT X C ρ a c) : BTs X C ρ [a] c := fun M H σ Q E k pins s I => (pts_one (pt_sem a)).run pins s σ H Q I (h M H σ Q E k)
/-- as values -/
theorem be_one {op : BoolOp} (h : BE X C ρ a d) : BE X C ρ (.BoolOp op [a] pos) d := be_of (pe_one (pe_sem a)) fun M H σ Q E k => h M H σ _ E k
theorem be_and {c f : Bool} (h : BE X C ρ a (.bool c)) (hr : c = true → BE X C ρ (.BoolOp .And (b :: es) pos) (.bool f)) : BE X C ρ (.BoolOp .And (a :: b :: es) pos) (.bool (c && f)) :=
  be_of (pe_and (pe_sem a) (pe_sem _)) fun M H σ Q E k => h M H σ _ E fun v H1 s1 q1 => ⟨c, q1.bl_inv, by
    cases c with
    | false => exact iteF (k _ H1 s1 (.bl _))
    | true => exact iteT (hr rfl M H1 σ _ (E.mono s1) fun v H2 s2 q => k v H2 (s1.trans s2) q)⟩
theorem be_not {c : Bool} (h : BE X C ρ a (.bool c)) : BE X C ρ (.UnaryOp .Not a pos) (.bool (!c)) :=
  be_of (pe_not (pe_sem a)) fun M H σ Q E k => h M H σ _ E fun v H1 s1 q1 => ⟨c, q1.bl_inv, k _ H1 s1 (.bl _)⟩
theorem be_if {t : Expr} {c : Bool} (ht : BT X C ρ t c) (ha : c = true → BE X C ρ a d) (hb : c = false → BE X C ρ b d) : BE X C ρ (.IfExp t a b pos) d :=
  be_of (pe_ifExp (pt_sem t) (pe_sem a) (pe_sem b)) fun M H σ Q E k => ht M H σ _ E fun H1 s1 => by
    cases c with
    | true => exact iteT (ha rfl M H1 σ _ (E.mono s1) fun v H2 s2 q => k v H2 (s1.trans s2) q)
    | false => exact iteF (hb rfl M H1 σ _ (E.mono s1) fun v H2 s2 q => k v H2 (s1.trans s2) q)

/-! #### calls -/
theorem be_callB {id : String} {r : List V → Hp → VK → Prop} {x : Str} (hc : CallR X (.builtin id) r) (hg : Gl X x) (hm : X.mg x = none) (hv : bootBuiltins x = some (.builtin id)) (ha : BA X C ρ (e :: es) ds) (hq : RLok X.K C r ds d) (hn : x ≠ "__name__" := by decide) (hdb : (x == ("__debug__" : Str)) = false := by decide)
    (he : starEach (e :: es) X.env = (false, eval e X.env) :: starEach es X.env := by rfl) (hpl : (backTo pos (starEach es X.env)).any (·.1) = false := by rfl) : BE X C ρ (.Call (.Name x p) (e :: es) [] pos) d :=
  be_of (pe_callB hc hg hm hv (pa_sem _) hn hdb he hpl) fun M H σ Q E k => ha M H σ _ E fun vs H1 s1 q1 => hq M H1 vs Q (E.own.mono s1) q1 fun v H' s q => k v H' (s1.trans s) q
theorem be_callTy {id : String} {r : List V → Hp → VK → Prop} {x : Str} (hc : CallR X (.type id) r) (hg : Gl X x) (hm : X.mg x = none) (hv : bootBuiltins x = some (.type id)) (ha : BA X C ρ (e :: es) ds) (hq : RLok X.K C r ds d) (hn : x ≠ "__name__" := by decide) (hdb : (x == ("__debug__" : Str)) = false := by decide)
    (he : starEach (e :: es) X.env = (false, eval e X.env) :: starEach es X.env := by rfl) (hpl : (backTo pos (starEach es X.env)).any (·.1) = false := by rfl) : BE X C ρ (.Call (.Name x p) (e :: es) [] pos) d :=
  be_of (pe_callTy hc hg hm hv (pa_sem _) hn hdb he hpl) fun M H σ Q E k => ha M H σ _ E fun vs H1 s1 q1 => hq M H1 vs Q (E.own.mono s1) q1 fun v H' s q => k v H' (s1.trans s) q
theorem be_call {R : List PyData → PyData → Prop} {k : Nat} {f : Addr} {fd : FuncData} {ps : List Str} {x : Str} (F : FnOk X.prog X.w X.K X.mg X.base CX0 k f fd ps (spD X.K C R)) (hr : Room k X.A) (hg : Gl X x) (hm : X.mg x = some (.ref f)) (hk : PySem.W.keepIn X.K (.ref f) = true) (hb : Binds X.K fd ps [])
    (ha : BA X C ρ (e :: es) ds) (hR : R ds d) (hdb : (x == ("__debug__" : Str)) = false := by decide) (he : starEach (e :: es) X.env = (false, eval e X.env) :: starEach es X.env := by rfl) (hpl : (backTo pos (starEach es X.env)).any (·.1) = false := by rfl) :
    BE X C ρ (.Call (.Name x p) (e :: es) [] pos) d :=
  be_of (pe_call F hr hg hm hk hb .nil pass0 (pa_sem _) hdb he hpl) fun M H σ Q E k => ha M H σ _ E fun vs H1 s1 q1 =>
    ⟨M, ds, d, E.own.mono s1, by rw [List.append_nil]; exact q1, hR, fun v H' s q => k v H' (s1.trans s) q⟩
end
end G6

set_option Elab.async false
set_option linter.all false
set_option maxRecDepth 100000
set_option maxHeartbeats 4000000
namespace G6
open PySem PySem.Spec PyProof.Rows L2
section
variable {X : Cx}
/-! ### sum, sorted of a tuple of ints -/
def rSumT (K : PySem.W.Frag) : List V → Hp → VK → Prop := fun vs H Q => ∃ (a : Addr) (ns : List Int), vs = [V.ref a] ∧ SqT K H a (ns.map V.int) ∧ Q (.int ns.sum) H
theorem cr_sumT (hc : X.calm = true) : CallR X (.builtin "sum") (rSumT X.K) := by
  intro pins s σ H vs us Q I r h
  obtain ⟨a, ns, rfl, ht, q⟩ := h
  obtain ⟨its, rv, hT, _⟩ := I.tuple ht
  rw [Vals.ref1 r]
  have hi := rv.ints
  obtain ⟨xs, e⟩ := hi.allInts.items
  have hn : numsOf (intItems xs).toList = ns := by rw [← e]; exact hi.numsOf
  rw [nums_intItems] at hn
  rw [e] at hT
  have hT' : s.heap.IsTuple a (intItems xs) := hT
  have hlt : a < s.heap.objs.size := hT.lt
  refine call_sum_walkG (wpAny_pyIter_tuple hT' ?_)
  have hne : a ≠ s.heap.objs.size := Nat.ne_of_lt hlt
  refine ⟨_, _, _, _, _, _, numAt xs, rfl, Walks.tuple (A := X.A.in1) (I.ok.hd hc) _ a hne (intItems xs), ⟨⟨_, Heap.get?_push_size _ rfl, rfl, rfl⟩, hT'.push _⟩, fun b hb => ?_, (fun _ _ => intItems_at), fun h' tk t' hk => ?_⟩
  · show b < (s.heap.push _).objs.size
    rw [Heap.size_push]
    rcases List.mem_cons.mp hb with z | hb
    · rw [z]; exact Nat.lt_succ_self _
    · rcases List.mem_cons.mp hb with z | hb
      · rw [z]; exact Nat.lt_succ_of_lt hlt
      · cases hb
  · have e2 : preSum (numAt xs) (intItems xs).size = ns.sum := by
      have hs : (intItems xs).size = xs.size := by simp [intItems]
      rw [hs, preSum_eq, List.take_of_length_le (by simp), hn]
    rw [e2]
    refine ⟨.int ns.sum, H, I.kept fun b o eo => hk b o (fun hm => ?_) (Heap.get?_push_of_some _ eo), ⟨_, rfl⟩, q⟩
    rcases List.mem_cons.mp hm with e1 | hm
    · have z := Heap.lt_size eo
      rw [e1] at z
      exact absurd z (Nat.lt_irrefl _)
    · cases hm
def rSortedTI (K : PySem.W.Frag) : List V → Hp → VK → Prop := fun vs H Q => ∃ (a : Addr) (ns : List Int), vs = [V.ref a] ∧ SqT K H a (ns.map V.int) ∧ ns.length < 64 ∧
  ∀ (ns' : List Int) (p : Addr), ns'.Perm ns → ns'.Pairwise (· ≤ ·) → H p = none → Q (.ref p) (upd H p (.lst (ns'.map V.int)))
theorem cr_sortedTI : CallR X (.builtin "sorted") (rSortedTI X.K) := by
  intro pins s σ H vs us Q I r h
  obtain ⟨a, ns, rfl, ht, h64, q⟩ := h
  obtain ⟨its, rv, ⟨o, ho, hc, n, hd⟩, _⟩ := I.tuple ht
  rw [Vals.ref1 r]
  have hi := rv.ints
  have hil := hi.length
  refine Calls.call_function_entry kind_sorted plain_sorted entry_sorted (args_sorted1 _) ?_
  unfold Builtin.«sorted»
  refine wpAny_bind (m := checkCount "sorted" 1 1 _) (wpAny_pure ?_)
  refine wpAny_bind (wpAny_collect_seq a (.inr rfl) ho hc hd (fun h1 k1 => ?_) (by rw [List.size_toArray, sizeLine_eq]; omega))
  rw [List.toList_toArray]
  have I1 : Inv X pins σ H { s with heap := h1 } := I.kept (t' := s.toks) k1
  refine wpAny_bind (wpAny_newList ?_)
  have hoL : (h1.push (seqObj "list" its.toArray 0)).get? h1.objs.size = some (seqObj "list" its.toArray 0) := Heap.get?_push_size _ rfl
  have hf : H h1.objs.size = none := I1.hok.fresh (Nat.le_refl _)
  refine wpAny_bind (wpAny_holding (wpAny_call_entry slot_list_sort ⟨_, hoL, rfl⟩ entry_list_sort (list_sort_tree hoL hi (by omega) fun out ns' a1 a2 a3 => ⟨_, rfl, ?_⟩) (args_list_sort _)))
  obtain ⟨ep, he'⟩ := sortedHeap_at (out := out) hoL
  have hlen : (ns'.map V.int).length ≤ sizeLine := by rw [List.length_map, a2.length_eq, sizeLine_eq]; omega
  refine wpAny_pure ⟨_, rfl, .ref h1.objs.size, upd H h1.objs.size (.lst (ns'.map V.int)), ?_, rfl, q ns' _ a2 a3 hf⟩
  refine I1.laid (t' := s.toks) (fun b u eb => ?_) (Nat.le_refl _) ⟨hlen, out.toList, ep, vals_of_ints a1, he'⟩
  have hb := Heap.lt_size eb
  rw [sortedHeap_old (Nat.ne_of_lt hb) (by rw [Heap.size_push]; exact Nat.lt_succ_of_lt hb)]
  exact Heap.get?_push_of_some _ eb
/-! ### x in a tuple -/
def rInT (K : PySem.W.Frag) : R2 := fun x y H Q => ∃ d ds, Dp K H x d ∧ Dp K H y (.tuple ds) ∧ SeqAt.shaped d = true ∧ SeqAt.shaped (.tuple ds) = true ∧ Q (.bl (ds.any fun z => PyData.eqv z d)) H
theorem op_inT (hu : X.A.units + 65 < cLine) : OpR X (compareOp .In) (rInT X.K) := by
  intro pins s σ H x y v u Q I rx ry h
  obtain ⟨d, ds, hd, he, sd, se, q⟩ := h
  obtain ⟨as, r1⟩ := Dp.reads I d x v hd rx
  obtain ⟨bs, r2⟩ := Dp.reads I (.tuple ds) y u he ry
  have hdep : d.depth ≤ 64 := by
    have z := sd
    simp only [SeqAt.shaped, Bool.and_eq_true, decide_eq_true_eq] at z
    exact z.2
  refine SeqAt.in_tuple_reads r2 r1 (SeqAt.canLay_of_shaped se) (SeqAt.canLay_of_shaped sd) ?_ ⟨.bl _, H, I, rfl, q⟩
  have : min (PyData.depthAll ds) d.depth ≤ 64 := Nat.le_trans (Nat.min_le_right _ _) hdep
  omega
end
end G6

set_option Elab.async false
set_option linter.all false
set_option maxRecDepth 100000
set_option maxHeartbeats 4000000
namespace G6
open PySem PySem.Spec PyProof.Rows L2
theorem tmul_none (l : Addr) (items : Array Value) (n : Nat) (dd : Option Addr) (sl : Array (Option Value)) (u : Tok) (c1 : items.isEmpty = false) :
    Meets (Builtin.«tuple.__mul__» ⟨[.ref l, .int 0 u], []⟩) (fun _ R s => s.heap.get? l = some { cls := .type "tuple", dict := dd, data := .seq items n, slots := sl } ∧
      R (.ok (.ret (Value.ref s.heap.objs.size))) { s with heap := s.heap.push { cls := Value.type "tuple", data := Data.seq #[] }, toks := s.toks }) :=
  .of_wp fun prog w A R s h => by
    obtain ⟨hp, g, d, tk, os⟩ := s
    obtain ⟨hl, h⟩ := h
    have f1 := AutoSeq1.idx_int
    wp_walk using wpAny_loadPart' hl
    exact ⟨_, rfl, h⟩
theorem tmul_one (l : Addr) (items : Array Value) (n : Nat) (dd : Option Addr) (sl : Array (Option Value)) (u : Tok) (c1 : items.isEmpty = false) :
    Meets (Builtin.«tuple.__mul__» ⟨[.ref l, .int 1 u], []⟩) (fun _ R s => s.heap.get? l = some { cls := .type "tuple", dict := dd, data := .seq items n, slots := sl } ∧
      R (.ok (.ret (Value.ref l))) s) :=
  .of_wp fun prog w A R s h => by
    obtain ⟨hp, g, d, tk, os⟩ := s
    obtain ⟨hl, h⟩ := h
    have f1 := AutoSeq1.idx_int
    wp_walk using wpAny_loadPart' hl
    exact ⟨_, rfl, h⟩
/-- t * k, t not empty, k not negative -/
def rRepE (K : PySem.W.Frag) : R2 := fun x y H Q => ∃ l k xs, x = .ref l ∧ y = .int k ∧ SqT K H l xs ∧ xs ≠ [] ∧ 0 ≤ k ∧ k ≤ 1000 ∧ xs.length ≤ 1000 ∧ (k = 1 → Q (.ref l) H) ∧
  (k ≠ 1 → ∀ p, H p = none → Q (.ref p) (upd H p (.tup (List.replicate k.toNat xs).flatten)))
theorem op_repE {X : Cx} : OpR X (binaryOp .Mult) (rRepE X.K) := by
  intro pins s σ H x y v u Q I rx ry h
  obtain ⟨l, k, xs, rfl, rfl, hT, hne, h0, h2, hz, q1, q2⟩ := h
  by_cases hk : 2 ≤ k
  · exact op_repT pins s σ H _ _ v u Q I rx ry ⟨l, k, xs, rfl, rfl, hT, hne, hk, h2, hz, q2 (by omega)⟩
  cases rx
  obtain ⟨t, rfl⟩ := ry
  obtain ⟨its, r, ⟨⟨cls, dd, data, sl⟩, ho, hc, n, hd⟩, hs⟩ := I.tuple hT
  simp only at hc hd
  subst hc hd
  have hle : its.length = xs.length := r.length.symm
  have hi : its.toArray.isEmpty = false := by
    cases its with
    | nil => exact absurd (List.eq_nil_of_length_eq_zero hle.symm) hne
    | cons a b => rfl
  have hk2 : k = 0 ∨ k = 1 := by omega
  rcases hk2 with e | e
  · subst e
    refine wpAny_binaryOp_repeat_ref (T := "tuple") (U := "int") (by decide) ⟨_, ho, rfl⟩ (fun s' => typeIs_int s' 0 t) noFill_tuple_mul F.fills_int_mul F.slot_int_rmul repeat_tuple F.slot_int_index.lookup
      (call_meets F.slot_int_rmul (typeIs_int s 0 t) F.entry_int_rmul (F.args_int_rmul_2 _ _) (int_rmul_tuple 0 t l its.toArray n dd sl)
        ⟨ho, rfl, ⟨_, ho, rfl⟩, call_meets F.slot_tuple_mul ⟨_, ho, rfl⟩ F.entry_tuple_mul (F.args_tuple_mul_2 _ _) (tmul_none l its.toArray n dd sl t hi) ⟨ho, ?_⟩⟩)
    refine ⟨.ref s.heap.objs.size, _, I.laid (t' := s.toks) (o := .tup []) (fun b ob q => Heap.get?_push_of_some _ q) (Nat.le_refl _) ?_, rfl, q2 (by decide) _ (I.hok.fresh (Nat.le_refl _))⟩
    exact ⟨Nat.zero_le _, [], .nil, IsTup.new _ _⟩
  · subst e
    refine wpAny_binaryOp_repeat_ref (T := "tuple") (U := "int") (by decide) ⟨_, ho, rfl⟩ (fun s' => typeIs_int s' 1 t) noFill_tuple_mul F.fills_int_mul F.slot_int_rmul repeat_tuple F.slot_int_index.lookup
      (call_meets F.slot_int_rmul (typeIs_int s 1 t) F.entry_int_rmul (F.args_int_rmul_2 _ _) (int_rmul_tuple 1 t l its.toArray n dd sl)
        ⟨ho, rfl, ⟨_, ho, rfl⟩, call_meets F.slot_tuple_mul ⟨_, ho, rfl⟩ F.entry_tuple_mul (F.args_tuple_mul_2 _ _) (tmul_one l its.toArray n dd sl t hi) ⟨ho, ?_⟩⟩)
    exact ⟨.ref l, H, I, rfl, q1 rfl⟩
end G6

set_option Elab.async false
set_option linter.all false
set_option maxRecDepth 100000
set_option maxHeartbeats 4000000
namespace G6
open PySem PySem.Spec PyProof.Rows L2
section
variable {X : Cx} {C : Addr} {ρ : REnv} {e a b : Expr} {es : List Expr} {d da db : PyData} {ds dt : List PyData} {pos p : Pos}

abbrev NS (X : Cx) (e : Expr) : Prop := starEach [e] X.env = (false, eval e X.env) :: starEach [] X.env
/-! ### built-ins of one list (owned or not), of one tuple -/
theorem be_callB1L {id : String} {r : List V → Hp → VK → Prop} {x : Str} (hc : CallR X (.builtin id) r) (hg : Gl X x) (hm : X.mg x = none) (hv : bootBuiltins x = some (.builtin id)) (h : BL X C ρ e ds)
    (hq : ∀ M H a vs Q, Own M H → H a = some (.lst vs) → DnAll X.K C (Msk M H) vs ds → (∀ v H', Same H H' → Dn X.K C (Msk M H') v d → Q v H') → r [.ref a] H Q) (hn : x ≠ "__name__" := by decide) (hdb : (x == ("__debug__" : Str)) = false := by decide)
    (he : starEach [e] X.env = (false, eval e X.env) :: starEach [] X.env := by rfl) (hpl : (backTo pos (starEach [] X.env)).any (·.1) = false := by rfl) : BE X C ρ (.Call (.Name x p) [e] [] pos) d :=
  be_of (pe_callB hc hg hm hv (pa_cons (pe_sem e) pa_nil he) hn hdb he hpl) fun M H σ Q E k => h M H σ _ E fun a vs H1 s1 h1 q1 => hq M H1 a vs Q (E.own.mono s1) h1 q1 fun v H' s q => k v H' (s1.trans s) q
theorem be_callTy1L {id : String} {r : List V → Hp → VK → Prop} {x : Str} (hc : CallR X (.type id) r) (hg : Gl X x) (hm : X.mg x = none) (hv : bootBuiltins x = some (.type id)) (h : BL X C ρ e ds)
    (hq : ∀ M H a vs Q, Own M H → H a = some (.lst vs) → DnAll X.K C (Msk M H) vs ds → (∀ v H', Same H H' → Dn X.K C (Msk M H') v d → Q v H') → r [.ref a] H Q) (hn : x ≠ "__name__" := by decide) (hdb : (x == ("__debug__" : Str)) = false := by decide)
    (he : starEach [e] X.env = (false, eval e X.env) :: starEach [] X.env := by rfl) (hpl : (backTo pos (starEach [] X.env)).any (·.1) = false := by rfl) : BE X C ρ (.Call (.Name x p) [e] [] pos) d :=
  be_of (pe_callTy hc hg hm hv (pa_cons (pe_sem e) pa_nil he) hn hdb he hpl) fun M H σ Q E k => h M H σ _ E fun a vs H1 s1 h1 q1 => hq M H1 a vs Q (E.own.mono s1) h1 q1 fun v H' s q => k v H' (s1.trans s) q

theorem be_lenL {pn : Pos} (hg : Gl X "len") (hm : X.mg "len" = none) (h : BL X C ρ e ds) (he : NS X e := by rfl) : BE X C ρ (.Call (.Name "len" pn) [e] [] pos) (.int ds.length) :=
  be_callB1L (he := he) call_len_seq hg hm PySem.boot_len h (fun M H a vs Q o h1 q1 k => ⟨a, vs, rfl, .inl (SqL.of h1), by rw [q1.length]; exact k _ H (Same.refl H) (.int _)⟩)
theorem be_lenT {pn : Pos} (hg : Gl X "len") (hm : X.mg "len" = none) (h : BE X C ρ e (.tuple ds)) (he : NS X e := by rfl) : BE X C ρ (.Call (.Name "len" pn) [e] [] pos) (.int ds.length) :=
  be_callB call_len_seq hg hm PySem.boot_len (ba_cons h ba_nil he) (he := he) (fun M H xs Q o q k => by
    obtain ⟨v, rfl, qv⟩ := q.one
    obtain ⟨a, vs, rfl, h1, h2⟩ := qv.tup_inv
    exact ⟨a, vs, rfl, .inr (SqT.of (msk_same M H _ _ h1)), by rw [h2.length]; exact k _ H (Same.refl H) (.int _)⟩)
theorem be_sumL {pn : Pos} {ns : List Int} (hc : X.calm = true) (hg : Gl X "sum") (hm : X.mg "sum" = none) (h : BL X C ρ e (ns.map PyData.int)) (he : NS X e := by rfl) : BE X C ρ (.Call (.Name "sum" pn) [e] [] pos) (.int ns.sum) :=
  be_callB1L (he := he) (cr_sum hc) hg hm (by decide +kernel) h fun M H a vs Q o h1 q1 k => ⟨a, ns, rfl, by rw [← q1.ints]; exact SqL.of h1, k _ H (Same.refl H) (.int _)⟩
theorem be_sumT {pn : Pos} {ns : List Int} (hc : X.calm = true) (hg : Gl X "sum") (hm : X.mg "sum" = none) (h : BE X C ρ e (.tuple (ns.map PyData.int))) (he : NS X e := by rfl) : BE X C ρ (.Call (.Name "sum" pn) [e] [] pos) (.int ns.sum) :=
  be_callB (cr_sumT hc) hg hm (by decide +kernel) (ba_cons h ba_nil he) (he := he) fun M H xs Q o q k => by
    obtain ⟨v, rfl, qv⟩ := q.one
    obtain ⟨a, vs, rfl, h1, h2⟩ := qv.tup_inv
    exact ⟨a, ns, rfl, by rw [← h2.ints]; exact SqT.of (msk_same M H _ _ h1), k _ H (Same.refl H) (.int _)⟩
theorem be_maxL {pn : Pos} {ns : List Int} {m : Int} (hc : X.calm = true) (hg : Gl X "max") (hm : X.mg "max" = none) (h : BL X C ρ e (ns.map PyData.int)) (hin : m ∈ ns) (hle : ∀ y ∈ ns, y ≤ m) (he : NS X e := by rfl) : BE X C ρ (.Call (.Name "max" pn) [e] [] pos) (.int m) :=
  be_callB1L (he := he) (cr_max hc) hg hm (by decide +kernel) h fun M H a vs Q o h1 q1 k => ⟨a, ns, rfl, by rw [← q1.ints]; exact SqL.of h1, List.length_pos_of_mem hin, fun m' i' l' => by
    have e1 := hle m' i'
    have e2 := l' m hin
    have e3 : m' = m := by omega
    rw [e3]
    exact k _ H (Same.refl H) (.int _)⟩
theorem be_anyL {pn : Pos} {bs : List Bool} (hc : X.calm = true) (hg : Gl X "any") (hm : X.mg "any" = none) (h : BL X C ρ e (bs.map PyData.bool)) (he : NS X e := by rfl) : BE X C ρ (.Call (.Name "any" pn) [e] [] pos) (.bool (bs.any id)) :=
  be_callB1L (he := he) (cr_any hc) hg hm (by decide +kernel) h fun M H a vs Q o h1 q1 k => ⟨a, bs, rfl, by rw [← q1.bools]; exact SqL.of h1, k _ H (Same.refl H) (.bl _)⟩
theorem be_allL {pn : Pos} {bs : List Bool} (hc : X.calm = true) (hg : Gl X "all") (hm : X.mg "all" = none) (h : BL X C ρ e (bs.map PyData.bool)) (he : NS X e := by rfl) : BE X C ρ (.Call (.Name "all" pn) [e] [] pos) (.bool (bs.all id)) :=
  be_callB1L (he := he) (cr_all hc) hg hm (by decide +kernel) h fun M H a vs Q o h1 q1 k => ⟨a, bs, rfl, by rw [← q1.bools]; exact SqL.of h1, k _ H (Same.refl H) (.bl _)⟩
theorem be_listL {pn : Pos} (hg : Gl X "list") (hm : X.mg "list" = none) (h : BL X C ρ e ds) (he : NS X e := by rfl) : BE X C ρ (.Call (.Name "list" pn) [e] [] pos) (.list ds) :=
  be_callTy1L (he := he) call_list_of hg hm (by decide +kernel) h fun M H a vs Q o h1 q1 k => ⟨a, vs, rfl, .inl (SqL.of h1), fun l hl => k _ _ (same_new hl) (dn_new o q1 hl)⟩
theorem be_listT {pn : Pos} (hg : Gl X "list") (hm : X.mg "list" = none) (h : BE X C ρ e (.tuple ds)) (he : NS X e := by rfl) : BE X C ρ (.Call (.Name "list" pn) [e] [] pos) (.list ds) :=
  be_callTy call_list_of hg hm (by decide +kernel) (ba_cons h ba_nil he) (he := he) fun M H xs Q o q k => by
    obtain ⟨v, rfl, qv⟩ := q.one
    obtain ⟨a, vs, rfl, h1, h2⟩ := qv.tup_inv
    exact ⟨a, vs, rfl, .inr (SqT.of (msk_same M H _ _ h1)), fun l hl => k _ _ (same_new hl) (dn_new o h2 hl)⟩
theorem be_tupleL {pn : Pos} (hg : Gl X "tuple") (hm : X.mg "tuple" = none) (h : BL X C ρ e ds) (he : NS X e := by rfl) : BE X C ρ (.Call (.Name "tuple" pn) [e] [] pos) (.tuple ds) :=
  be_callTy1L (he := he) call_tuple_of hg hm (by decide +kernel) h fun M H a vs Q o h1 q1 k => ⟨a, vs, rfl, .inl ⟨SqL.of h1, fun l hl => k _ _ (same_new hl) (dn_newT o q1 hl)⟩⟩
theorem be_sortedL {pn : Pos} {ns ms : List Int} (hg : Gl X "sorted") (hm : X.mg "sorted" = none) (h : BL X C ρ e (ns.map PyData.int)) (h64 : ns.length < 64) (hms : ∀ ns' : List Int, ns'.Perm ns → ns'.Pairwise (· ≤ ·) → ns' = ms) (he : NS X e := by rfl) :
    BE X C ρ (.Call (.Name "sorted" pn) [e] [] pos) (.list (ms.map PyData.int)) :=
  be_callB1L (he := he) cr_sorted hg hm (by decide +kernel) h fun M H a vs Q o h1 q1 k => ⟨a, ns, rfl, by rw [← q1.ints]; exact SqL.of h1, h64, fun ns' l pm pw hl => by
    rw [hms ns' pm pw]
    exact k _ _ (same_new hl) (dn_new o (dnAll_ints ms) hl)⟩
theorem be_sortedT {pn : Pos} {ns ms : List Int} (hg : Gl X "sorted") (hm : X.mg "sorted" = none) (h : BE X C ρ e (.tuple (ns.map PyData.int))) (h64 : ns.length < 64) (hms : ∀ ns' : List Int, ns'.Perm ns → ns'.Pairwise (· ≤ ·) → ns' = ms) (he : NS X e := by rfl) :
    BE X C ρ (.Call (.Name "sorted" pn) [e] [] pos) (.list (ms.map PyData.int)) :=
  be_callB cr_sortedTI hg hm (by decide +kernel) (ba_cons h ba_nil he) (he := he) fun M H xs Q o q k => by
    obtain ⟨v, rfl, qv⟩ := q.one
    obtain ⟨a, vs, rfl, h1, h2⟩ := qv.tup_inv
    exact ⟨a, ns, rfl, by rw [← h2.ints]; exact SqT.of (msk_same M H _ _ h1), h64, fun ns' l pm pw hl => by
      rw [hms ns' pm pw]
      exact k _ _ (same_new hl) (dn_new o (dnAll_ints ms) hl)⟩
abbrev FewOk (X : Cx) (cpos : Pos) (es : List Expr) : Prop := ((backTo cpos (starEach es X.env)).all (fun x => !x.1) && (backToKw cpos (keywordEach [] X.env)).all (fun x => x.1.isSome) && decide (es.length + ([] : List Keyword).length + (if ([] : List Keyword).isEmpty then 0 else 1) < 30)) = true
theorem be_countL {k : Int} {ns : List Int} {apos : Pos} (h : BL X C ρ e (ns.map PyData.int)) (hb : BE X C ρ b (.int k)) (he : NS X b := by rfl) (hbase : attributeBase e "count" X.env (eval e X.env) = eval e X.env := by rfl)
    (hfew : FewOk X pos [b] := by rfl) (hline : (apos.endLine == pos.line) = true := by rfl) : BE X C ρ (.Call (.Attribute e "count" apos) [b] [] pos) (.int (ns.count k : Nat)) :=
  be_of (pe_bm PySem.F.plainAttrs_list PySem.F.slot_list_count PySem.F.type_list_count mt_lcount (pe_sem e) (pa_cons (pe_sem b) pa_nil he) hbase hfew hline he) fun M H σ Q E k' => h M H σ _ E fun a vs H1 s1 h1 q1 =>
    ⟨.inl ⟨rfl, _, SqL.of h1⟩, hb M H1 σ _ (E.mono s1) fun v H2 s2 q2 => ⟨a, ns, k, rfl, by rw [q2.int_inv], by rw [← q1.ints]; exact SqL.of (s2 _ _ h1), k' _ H2 (s1.trans s2) (.int _)⟩⟩

/-! ### items, slices -/
theorem be_ixL {k : Nat} {i : Int} (h : BL X C ρ e ds) (hb : BE X C ρ b (.int i)) (hi : i = (k : Int)) (hd : ds[k]? = some d) (hp : PlainIx b := by exact fun _ _ => rfl) : BE X C ρ (.Subscript e b pos) d :=
  be_of (pe_ix ix_list (pe_sem e) (pe_sem b) hp) fun M H σ Q E k' => h M H σ _ E fun a vs H1 s1 h1 q1 => hb M H1 σ _ (E.mono s1) fun v H2 s2 q2 => by
    obtain ⟨w, hw, qw⟩ := q1.get hd
    exact ⟨a, vs, _, w, rfl, by rw [q2.int_inv, hi], SqL.of (s2 _ _ h1), atI_nat hw, k' w H2 (s1.trans s2) (qw.mono (msk_mono s2))⟩
theorem be_ixT {k : Nat} {i : Int} (h : BE X C ρ e (.tuple ds)) (hb : BE X C ρ b (.int i)) (hi : i = (k : Int)) (hd : ds[k]? = some d) (hp : PlainIx b := by exact fun _ _ => rfl) : BE X C ρ (.Subscript e b pos) d :=
  be_of (pe_ix ix_tup (pe_sem e) (pe_sem b) hp) fun M H σ Q E k' => h M H σ _ E fun v1 H1 s1 q1 => hb M H1 σ _ (E.mono s1) fun v H2 s2 q2 => by
    obtain ⟨a, vs, rfl, h1, q1⟩ := q1.tup_inv
    obtain ⟨w, hw, qw⟩ := q1.get hd
    exact ⟨a, vs, _, w, rfl, by rw [q2.int_inv, hi], SqT.of (s2 _ _ (msk_same M H1 _ _ h1)), atI_nat hw, k' w H2 (s1.trans s2) (qw.mono (msk_mono s2))⟩
def semO (X : Cx) (e : Option Expr) : TO := match e with
  | none => tNoPart
  | some e => tPart (semE X e)
theorem po_sem (e : Option Expr) : PO X e (semO X e) := match e with
  | none => po_none
  | some e => po_some (pe_sem e)
def BO (X : Cx) (C : Addr) (ρ : REnv) (e : Option Expr) (o : Option Int) : Prop := match e, o with
  | none, none => True
  | some e, some i => BE X C ρ e (.int i)
  | _, _ => False
theorem bo_run {oe : Option Expr} {o : Option Int} (h : BO X C ρ oe o) {M : List Addr} {H : Hp} {σ : L2.St} {Q : Option Int → Hp → Prop} (E : EnvOk X.K C M H σ ρ) (k : ∀ H', Same H H' → Q o H') : semO X oe σ H Q := by
  cases oe with
  | none =>
    cases o with
    | none => exact k H (Same.refl H)
    | some i => exact h.elim
  | some e =>
    cases o with
    | none => exact h.elim
    | some i => exact h M H σ _ E fun v H1 s1 q1 => ⟨i, q1.int_inv, k H1 s1⟩
/-- the items of a slice -/
def cutD (ds : List PyData) (lo hi : Option Int) : List PyData := (ds.drop (HT.sIx ds.length 0 lo)).take (HT.sIx ds.length ds.length hi - HT.sIx ds.length 0 lo)
theorem dn_cut {K : PySem.W.Frag} {H : Hp} {vs : List V} (h : DnAll K C H vs ds) (lo hi : Option Int) : DnAll K C H (cutV vs lo hi) (cutD ds lo hi) := by
  unfold cutV cutD
  rw [h.length]
  exact (h.drop _).take _
theorem be_slL {lo hi : Option Expr} {l u : Option Int} {p2 : Pos} (h : BL X C ρ e ds) (hl : BO X C ρ lo l) (hu : BO X C ρ hi u) : BE X C ρ (.Subscript e (.Slice lo hi none p2) pos) (.list (cutD ds l u)) :=
  be_of (pe_slice sl_list (pe_sem e) (po_sem lo) (po_sem hi)) fun M H σ Q E k => h M H σ _ E fun a vs H1 s1 h1 q1 => bo_run hl (E.mono s1) fun H2 s2 => bo_run hu (E.mono (s1.trans s2)) fun H3 s3 =>
    ⟨a, vs, rfl, SqL.of ((s2.trans s3) _ _ h1), fun q hq => k _ _ (((s1.trans s2).trans s3).trans (same_new hq)) (dn_new (E.own.mono ((s1.trans s2).trans s3)) ((dn_cut q1 l u).mono (msk_mono (s2.trans s3))) hq)⟩
theorem be_slT {lo hi : Option Expr} {l u : Option Int} {p2 : Pos} (h : BE X C ρ e (.tuple ds)) (hl : BO X C ρ lo l) (hu : BO X C ρ hi u) : BE X C ρ (.Subscript e (.Slice lo hi none p2) pos) (.tuple (cutD ds l u)) :=
  be_of (pe_slice sl_tupA (pe_sem e) (po_sem lo) (po_sem hi)) fun M H σ Q E k => h M H σ _ E fun v1 H1 s1 q1 => bo_run hl (E.mono s1) fun H2 s2 => bo_run hu (E.mono (s1.trans s2)) fun H3 s3 => by
    obtain ⟨a, vs, rfl, h1, q1⟩ := q1.tup_inv
    have s123 := (s1.trans s2).trans s3
    refine ⟨a, vs, rfl, SqT.of ((s2.trans s3) _ _ (msk_same M H1 _ _ h1)), fun hw => ?_, fun _ q hq => ?_⟩
    · have e1 : cutD ds l u = ds := by
        unfold cutD
        rw [← q1.length, hw.1, hw.2, List.drop_zero, Nat.sub_zero, q1.length, List.take_length]
      rw [e1] at k
      exact k _ H3 s123 (.tup (msk_mono (s2.trans s3) _ _ h1) (q1.mono (msk_mono (s2.trans s3))))
    · exact k _ _ (s123.trans (same_new hq)) (dn_newT (E.own.mono s123) ((dn_cut q1 l u).mono (msk_mono (s2.trans s3))) hq)
theorem be_revL {k : Nat} {p1 p2 p3 : Pos} (h : BL X C ρ e ds) : BE X C ρ (.Subscript e (.Slice none none (some (.UnaryOp .USub (.Constant (.int 1) k p1) p2)) p3) pos) (.list ds.reverse) :=
  be_of (pe_revL (pe_sem e)) fun M H σ Q E k => h M H σ _ E fun a vs H1 s1 h1 q1 => ⟨a, vs, rfl, SqL.of h1, fun q hq => k _ _ (s1.trans (same_new hq)) (dn_new (E.own.mono s1) q1.reverse hq)⟩

/-! ### + and * of sequences -/
theorem be_catL (ha : BE X C ρ a (.list ds)) (hb : BE X C ρ b (.list dt)) (hz : ds.length + dt.length ≤ 1000000) : BE X C ρ (.BinOp a .Add b pos) (.list (ds ++ dt)) :=
  be_op op_cat ha hb fun M H x y Q o hx hy k => by
    obtain ⟨a, vs, rfl, h1, q1⟩ := hx.lst_inv
    obtain ⟨b, ws, rfl, h2, q2⟩ := hy.lst_inv
    exact ⟨a, b, vs, ws, rfl, rfl, msk_same M H _ _ h1, msk_same M H _ _ h2, by rw [q1.length, q2.length]; exact line_of hz, fun q hq => k _ _ (same_new hq) (dn_new o (q1.append q2) hq)⟩
theorem be_catT (ha : BE X C ρ a (.tuple ds)) (hb : BE X C ρ b (.tuple dt)) (hz : ds.length + dt.length ≤ 1000000) : BE X C ρ (.BinOp a .Add b pos) (.tuple (ds ++ dt)) :=
  be_op op_catA ha hb fun M H x y Q o hx hy k => by
    obtain ⟨a, vs, rfl, h1, q1⟩ := hx.tup_inv
    obtain ⟨b, ws, rfl, h2, q2⟩ := hy.tup_inv
    refine ⟨a, b, vs, ws, rfl, rfl, SqT.of (msk_same M H _ _ h1), SqT.of (msk_same M H _ _ h2), by rw [q1.length, q2.length]; exact line_of hz, fun e1 => ?_, fun _ e2 => ?_, fun _ _ q hq => k _ _ (same_new hq) (dn_newT o (q1.append q2) hq)⟩
    · subst e1
      cases q1
      exact k _ H (Same.refl H) (.tup h2 q2)
    · subst e2
      cases q2
      rw [List.append_nil] at k
      exact k _ H (Same.refl H) (.tup h1 q1)
theorem be_repL {i : Int} (ha : BE X C ρ a (.list ds)) (hb : BE X C ρ b (.int i)) (h0 : 0 ≤ i) (h1 : i ≤ 1000) (hz : ds.length ≤ 1000) : BE X C ρ (.BinOp a .Mult b pos) (.list (List.replicate i.toNat ds).flatten) :=
  be_op op_rep ha hb fun M H x y Q o hx hy k => by
    obtain ⟨a, vs, rfl, h1', q1⟩ := hx.lst_inv
    refine ⟨a, i, vs, rfl, hy.int_inv, msk_same M H _ _ h1', by omega, by omega, ?_, fun q hq => k _ _ (same_new hq) (dn_new o (q1.rep _) hq)⟩
    rw [q1.length]
    refine line_of (Nat.le_trans (Nat.mul_le_mul hz (show i.toNat ≤ 1000 by omega)) (by decide))
theorem be_repT {i : Int} (ha : BE X C ρ a (.tuple ds)) (hb : BE X C ρ b (.int i)) (hne : ds ≠ []) (h0 : 0 ≤ i) (h1 : i ≤ 1000) (hz : ds.length ≤ 1000) : BE X C ρ (.BinOp a .Mult b pos) (.tuple (List.replicate i.toNat ds).flatten) :=
  be_op op_repE ha hb fun M H x y Q o hx hy k => by
    obtain ⟨a, vs, rfl, h1', q1⟩ := hx.tup_inv
    refine ⟨a, i, vs, rfl, hy.int_inv, SqT.of (msk_same M H _ _ h1'), fun e => ?_, h0, h1, by rw [q1.length]; exact hz, fun e => ?_, fun _ q hq => k _ _ (same_new hq) (dn_newT o (q1.rep _) hq)⟩
    · subst e
      cases q1
      exact hne rfl
    · subst e
      have e1 : (List.replicate (1 : Int).toNat ds).flatten = ds := by simp
      rw [e1] at k
      exact k _ H (Same.refl H) (.tup h1' q1)

/-! ### x in a list, a tuple -/
theorem bl_dn {K : PySem.W.Frag} {M : List Addr} {H : Hp} {a : Addr} {vs : List V} (h : H a = some (.lst vs)) (q : DnAll K C (Msk M H) vs ds) (c : PyData.canLay0 (.list ds) = true) : Dp K H (.ref a) (.list ds) :=
  .lst (SqL.of h) ((q.mono (msk_same M H)).dp (by simpa [PyData.canLay0] using c))
theorem be_inL (hu : X.A.units + 65 < cLine) (ha : BE X C ρ a d) (hb : BL X C ρ b ds) (sa : SeqAt.shaped d = true) (sb : SeqAt.shaped (.list ds) = true) (hm : behindInMarks .In b = false := by rfl) : BE X C ρ (.Compare a [.In] [b] pos) (.bool (ds.any fun z => PyData.eqv z d)) :=
  be_of (pe_cmpR (op_inD hu) (pe_sem a) (pe_sem b) hm) fun M H σ Q E k => ha M H σ _ E fun x H1 s1 q1 => hb M H1 σ _ (E.mono s1) fun l vs H2 s2 h2 q2 =>
    ⟨d, ds, ((q1.mono (msk_mono s2)).mono (msk_same M H2)).dp (SeqAt.canLay_of_shaped sa), bl_dn h2 q2 (SeqAt.canLay_of_shaped sb), sa, sb, k _ H2 (s1.trans s2) (.bl _)⟩
theorem bt_notInL (hu : X.A.units + 65 < cLine) (ha : BE X C ρ a d) (hb : BL X C ρ b ds) (sa : SeqAt.shaped d = true) (sb : SeqAt.shaped (.list ds) = true) (hm : behindInMarks .NotIn b = false := by rfl) : BT X C ρ (.Compare a [.NotIn] [b] pos) (!ds.any fun z => PyData.eqv z d) :=
  bt_of (pt_cmpR (op_notInD hu) (pe_sem a) (pe_sem b) hm) fun M H σ Q E k => ha M H σ _ E fun x H1 s1 q1 => hb M H1 σ _ (E.mono s1) fun l vs H2 s2 h2 q2 =>
    ⟨d, ds, ((q1.mono (msk_mono s2)).mono (msk_same M H2)).dp (SeqAt.canLay_of_shaped sa), bl_dn h2 q2 (SeqAt.canLay_of_shaped sb), sa, sb, _, rfl, k H2 (s1.trans s2)⟩
theorem be_inT (hu : X.A.units + 65 < cLine) (ha : BE X C ρ a d) (hb : BE X C ρ b (.tuple ds)) (sa : SeqAt.shaped d = true) (sb : SeqAt.shaped (.tuple ds) = true) (hm : behindInMarks .In b = false := by rfl) : BE X C ρ (.Compare a [.In] [b] pos) (.bool (ds.any fun z => PyData.eqv z d)) :=
  be_cmp (op_inT hu) ha hb hm fun M H x y Q o hx hy k => ⟨d, ds, (hx.mono (msk_same M H)).dp (SeqAt.canLay_of_shaped sa), (hy.mono (msk_same M H)).dp (SeqAt.canLay_of_shaped sb), sa, sb, k _ H (Same.refl H) (.bl _)⟩

/-! ### isinstance -/
theorem tyx_of {K : PySem.W.Frag} {H : Hp} {v : V} {d : PyData} (h : Dn K C H v d) : match d with
    | .int _ => TyX K H v (.type "int")
    | .bool _ => TyX K H v (.type "bool")
    | .list _ => TyX K H v (.type "list")
    | .tuple _ => TyX K H v (.type "tuple")
    | _ => True := by
  cases h with
  | non => trivial
  | bl b => exact .base (.bl b)
  | int i => exact .base (.int i)
  | str x => trivial
  | lst h a => exact .base (.lst h)
  | tup h a => exact .base (.tup h)
  | obj h a b => trivial
end
end G6

set_option Elab.async false
set_option linter.all false
set_option maxRecDepth 100000
set_option maxHeartbeats 4000000
namespace G6
open PySem PySem.Spec PyProof.Rows L2
section
variable {X : Cx} {C : Addr} {ρ : REnv} {e a b tg : Expr} {es : List Expr} {d da db : PyData} {ds dt : List PyData} {pos p : Pos}

/-! ### what is walked -/
theorem bi_list (h : BL X C ρ e ds) : BI X C ρ tg e ds :=
  bi_of (pi_list (pe_sem e)) fun M H σ R E k => h M H σ _ E fun a vs H1 s1 h1 q1 => ⟨a, rfl, ⟨vs, SqL.of h1⟩, k _ H1 s1 fun M' H2 e1 e2 o i => ⟨fun hi =>
    ⟨vs, SqL.of (e2 _ _ h1), by rw [q1.length]; exact hi⟩, fun d hd => by
      obtain ⟨v, hv, qv⟩ := q1.get hd
      refine ⟨⟨vs, v, SqL.of (e2 _ _ h1), hv⟩, fun x H' y => ?_⟩
      obtain ⟨rfl, y⟩ := y
      have z := y vs (SqL.of (e2 _ _ h1))
      rw [hv] at z
      cases z
      exact ⟨Same.refl _, qv.mono e1⟩⟩⟩
theorem bi_tup (h : BE X C ρ e (.tuple ds)) : BI X C ρ tg e ds :=
  bi_of (pi_tup (pe_sem e)) fun M H σ R E k => h M H σ _ E fun v1 H1 s1 q1 => by
    obtain ⟨a, vs, rfl, h1, q1⟩ := q1.tup_inv
    have h1' := msk_same M H1 _ _ h1
    exact ⟨a, rfl, ⟨vs, SqT.of h1'⟩, k _ H1 s1 fun M' H2 e1 e2 o i => ⟨fun hi =>
      ⟨vs, SqT.of (e2 _ _ h1'), by rw [q1.length]; exact hi⟩, fun d hd => by
        obtain ⟨v, hv, qv⟩ := q1.get hd
        refine ⟨⟨vs, v, SqT.of (e2 _ _ h1'), hv⟩, fun x H' y => ?_⟩
        obtain ⟨rfl, y⟩ := y
        have z := y vs (SqT.of (e2 _ _ h1'))
        rw [hv] at z
        cases z
        exact ⟨Same.refl _, qv.mono e1⟩⟩⟩
def rngD (n : Nat) : List PyData := (List.range n).map fun (i : Nat) => PyData.int i
theorem rngD_get {n i : Nat} {d : PyData} (h : (rngD n)[i]? = some d) : i < n ∧ d = .int i := by
  unfold rngD at h
  rw [List.getElem?_map] at h
  by_cases hi : i < n
  · rw [List.getElem?_range hi] at h
    cases h
    exact ⟨hi, rfl⟩
  · rw [List.getElem?_eq_none (by simpa using hi)] at h
    cases h
theorem bi_range {n : Nat} {j : Int} {pn : Pos} (hg : Gl X "range") (hm : X.mg "range" = none) (h : BE X C ρ a (.int j)) (hj : j = (n : Int)) (hb : n ≤ 1000000) (he : NS X a := by rfl) (he2 : starEach [a] X.env = [(false, eval a X.env)] := by rfl) : BI X C ρ tg (.Call (.Name "range" pn) [a] [] pos) (rngD n) :=
  bi_of (pi_range1 hg hm (pa_cons (pe_sem a) pa_nil he) he2) fun M H σ R E k => h M H σ _ E fun v H1 s1 q1 => by
    subst hj
    refine ⟨(n : Int), by rw [q1.int_inv], by omega, by omega, k _ H1 s1 fun M' H2 e1 e2 o i => ⟨fun hi => ?_, fun d hd => ?_⟩⟩
    · show (n : Int).toNat ≤ i
      have z : (rngD n).length = n := by unfold rngD; rw [List.length_map, List.length_range]
      rw [z] at hi
      exact hi
    · obtain ⟨h1, rfl⟩ := rngD_get hd
      refine ⟨by show i < (n : Int).toNat; exact h1, fun x H' y => ?_⟩
      obtain ⟨rfl, rfl⟩ := y
      rw [Int.zero_add]
      exact ⟨Same.refl _, .int _⟩
def enumD (ds : List PyData) : List PyData := ds.mapIdx fun (i : Nat) d => PyData.tuple [.int i, d]
theorem bi_enum {pn tpos : Pos} {elts : List Expr} {kk : Nat} (hg : Gl X "enumerate") (hm : X.mg "enumerate" = none) (h : BL X C ρ a ds) (he : NS X a := by rfl) (he2 : starEach [a] X.env = [(false, eval a X.env)] := by rfl) :
    BI X C ρ (.Tuple elts kk tpos) (.Call (.Name "enumerate" pn) [a] [] pos) (enumD ds) :=
  bi_of (pi_enum hg hm (pa_cons (pe_sem a) pa_nil he) he2) fun M H σ R E k => h M H σ _ E fun a vs H1 s1 h1 q1 =>
    ⟨a, vs, rfl, SqL.of h1, k _ H1 s1 fun M' H2 e1 e2 o i => ⟨fun hi => by
      have z : (enumD ds).length = ds.length := by unfold enumD; rw [List.length_mapIdx]
      exact ⟨vs, SqL.of (e2 _ _ h1), by rw [q1.length, ← z]; exact hi⟩, fun d hd => by
      unfold enumD at hd
      rw [List.getElem?_mapIdx] at hd
      obtain ⟨d0, hd0, rfl⟩ := Option.map_eq_some_iff.mp hd
      obtain ⟨v, hv, qv⟩ := q1.get hd0
      refine ⟨⟨vs, v, SqL.of (e2 _ _ h1), hv⟩, fun x H' y => ?_⟩
      obtain ⟨T, w, rfl, hT, rfl, y⟩ := y
      have z := y vs (SqL.of (e2 _ _ h1))
      rw [hv] at z
      cases z
      exact ⟨same_new hT, dn_newT o (.cons (.int _) (.cons (qv.mono e1) .nil)) hT⟩⟩⟩
def zipD (ds dt : List PyData) : List PyData := (ds.zip dt).map fun p => PyData.tuple [p.1, p.2]
theorem bi_zip {pn tpos : Pos} {elts : List Expr} {kk : Nat} (hg : Gl X "zip") (hm : X.mg "zip" = none) (ha : BL X C ρ a ds) (hb : BL X C ρ b dt) (he : starEach [a, b] X.env = (false, eval a X.env) :: starEach [b] X.env := by rfl) (he2 : NS X b := by rfl)
    (hpl : (backTo pos (starEach [b] X.env)).any (·.1) = false := by rfl) : BI X C ρ (.Tuple elts kk tpos) (.Call (.Name "zip" pn) [a, b] [] pos) (zipD ds dt) :=
  bi_of (pi_zip hg hm (pa_cons (pe_sem a) (pa_cons (pe_sem b) pa_nil he2) he) he hpl) fun M H σ R E k => ha M H σ _ E fun a vs H1 s1 h1 q1 => hb M H1 σ _ (E.mono s1) fun b ws H2 s2 h2 q2 =>
    ⟨a, b, vs, ws, rfl, SqL.of (s2 _ _ h1), SqL.of h2, k _ H2 (s1.trans s2) fun M' H3 e1 e2 o i => by
      have k1 := SqL.of (K := X.K) (e2 _ _ (s2 _ _ h1))
      have k2 := SqL.of (K := X.K) (e2 _ _ h2)
      have z : (zipD ds dt).length = min ds.length dt.length := by unfold zipD; rw [List.length_map, List.length_zip]
      refine ⟨fun hi => ⟨vs, ws, k1, k2, ?_⟩, fun d hd => ?_⟩
      · rw [q1.length, q2.length]
        rw [z] at hi
        omega
      · unfold zipD at hd
        rw [List.getElem?_map] at hd
        obtain ⟨⟨d1, d2⟩, hd0, rfl⟩ := Option.map_eq_some_iff.mp hd
        rw [List.getElem?_zip_eq_some] at hd0
        obtain ⟨v, hv, qv⟩ := q1.get hd0.1
        obtain ⟨w, hw, qw⟩ := q2.get hd0.2
        refine ⟨⟨vs, ws, v, w, k1, k2, hv, hw⟩, fun x H' y => ?_⟩
        obtain ⟨T, v', w', rfl, hT, rfl, y1, y2⟩ := y
        have z1 := y1 vs k1
        have z2 := y2 ws k2
        rw [hv] at z1
        rw [hw] at z2
        cases z1
        cases z2
        exact ⟨same_new hT, dn_newT o (.cons ((qv.mono (msk_mono s2)).mono e1) (.cons (qw.mono e1) .nil)) hT⟩⟩

/-! ### targets -/
theorem wipe_set_in {σ : L2.St} {i : Nat} {x : Option V} : ∀ {vs : List Nat}, i ∈ vs → wipe (σ.set i x) vs = wipe σ vs
  | [], h => nomatch h
  | v :: vs, h => by
    show (wipe (σ.set i x) vs).set v none = (wipe σ vs).set v none
    by_cases hi : i ∈ vs
    · rw [wipe_set_in hi]
    · have e : i = v := by
        rcases List.mem_cons.mp h with e | h
        · exact e
        · exact absurd h hi
      subst e
      have g : ∀ {us : List Nat}, i ∉ us → wipe (σ.set i x) us = (wipe σ us).set i x := by
        intro us
        induction us with
        | nil => intro _; rfl
        | cons u us ih =>
          intro hu
          simp only [List.mem_cons, not_or] at hu
          show (wipe (σ.set i x) us).set u none = ((wipe σ us).set u none).set i x
          rw [ih hu.2, List.set_comm _ _ hu.1]
      rw [g hi, List.set_set]
theorem set_im_own {ρ : REnv} {σ : L2.St} {i j : Nat} {d : PyData} {es : List PyData} {x : Option V} (h : (ρ.set i (.im d))[j]? = some (.ow es)) : ρ[j]? = some (.ow es) ∧ (σ.set i x)[j]? = σ[j]? := by
  by_cases e : i = j
  · subst e
    by_cases hl : i < ρ.length
    · rw [List.getElem?_set_self hl] at h; cases h
    · rw [List.getElem?_eq_none (by simpa using hl)] at h; cases h
  · rw [List.getElem?_set_ne e] at h
    exact ⟨h, List.getElem?_set_ne e⟩
theorem bg_name (i : Nat) {x : Str} (hN : X.N.Nodup) (hi : X.N[i]? = some x := by rfl) (hx : Loc X.env.scope x := by first | exact Or.inl rfl | exact Or.inr rfl) (hf : X.fn x = true ∨ X.env.scope.names.lookup x = some .local := by first | exact .inl rfl | exact .inr rfl) :
    BG X C ρ [i] (.Name x pos) d (ρ.set i (.im d)) := fun M H σ v Q E h k pins s u I r =>
  (pg_name hN hi hx hf).run pins s σ H v u Q I r (k _ (E.set h) ⟨fun vs hv => wipe_set_in (hv i (List.mem_singleton.mpr rfl)), fun j es hj => set_im_own hj⟩)
theorem bgs_nil : BGs X C ρ [] [] [] ρ := fun M H σ vs Q E h k pins s us I r => by
  cases h
  exact pgs_nil.run pins s σ H [] us Q I r ⟨rfl, k σ E ⟨fun _ _ => rfl, fun _ _ h => ⟨h, rfl⟩⟩⟩
theorem bgs_cons {ts us : List Nat} {ρ1 ρ2 : REnv} (h1 : BG X C ρ ts e d ρ1) (h2 : BGs X C ρ1 us es ds ρ2) (hs : (assignEach (e :: es) X.env).map (·.2) = assign e X.env :: (assignEach es X.env).map (·.2) := by rfl) : BGs X C ρ (ts ++ us) (e :: es) (d :: ds) ρ2 := fun M H σ vs Q E h k pins s w I r => by
  cases h with
  | cons ha hb =>
    refine (pgs_cons (pg_sem e) (pgs_sem es) hs).run pins s σ H _ w Q I r ⟨_, _, rfl, h1 M H σ _ _ E ha fun σ1 E1 w1 => h2 M H σ1 _ _ E1 hb fun σ2 E2 w2 => k σ2 E2 ⟨fun vs hv => ?_, fun i us hi => ?_⟩⟩
    · rw [w2.wipe vs fun i hi => hv i (List.mem_append_right _ hi), w1.wipe vs fun i hi => hv i (List.mem_append_left _ hi)]
    · obtain ⟨a1, a2⟩ := w2.own i us hi
      obtain ⟨b1, b2⟩ := w1.own i us a1
      exact ⟨b1, a2.trans b2⟩
theorem bg_tup {ts : List Nat} {ρ1 : REnv} {k n : Nat} (hc : X.calm = true) (h : BGs X C ρ ts es ds ρ1) (hl : ds.length = n := by rfl) (hn : (assignEach es X.env).length = n := by rfl) (hst : (assignEach es X.env).findIdx? (·.1) = none := by rfl) : BG X C ρ ts (.Tuple es k pos) (.tuple ds) ρ1 := fun M H σ v Q E hv k pins s u I r => by
  obtain ⟨a, xs, rfl, h1, q1⟩ := hv.tup_inv
  exact (pg_tup hc (pgs_sem es) hn hst).run pins s σ H _ u Q I r ⟨a, xs, rfl, SqT.of (msk_same M H _ _ h1), by rw [q1.length, hl], h M H σ xs _ E q1 fun σ' E' w' => k σ' E' w'⟩

/-! ### comprehensions -/
theorem same_upd {H H' : Hp} {D : Addr} {u : HO} (e : Same H H') (h : H D = none) : Same H (upd H' D u) := fun a o q => by
  rw [upd_ne (ne_of_none q h)]
  exact e a o q
theorem filter_take_succ {α : Type} (p : α → Bool) {xs : List α} {i : Nat} {x : α} (h : xs[i]? = some x) : (xs.take (i + 1)).filter p = (xs.take i).filter p ++ (if p x = true then [x] else []) := by
  rw [List.take_succ, h, List.filter_append]
  cases hp : p x <;> simp [hp]
/-- readings of a comprehension's parts, for every block that may run -/
def gB (X : Cx) (scope : Scope) (tg : Expr) : TG := fun v σ H Q => ∀ s0 H0 Cc cl fp, semG (X.blk s0 H0 scope (compEnvC scope cl Cc X.env) fp) tg v σ H Q
def tBs (X : Cx) (scope : Scope) (ifs : List Expr) : TT := fun σ H Q => ∀ s0 H0 Cc cl fp, semTs (X.blk s0 H0 scope (compEnvC scope cl Cc X.env) fp) ifs σ H Q
def eB (X : Cx) (scope : Scope) (elt : Expr) : TE := fun σ H Q => ∀ s0 H0 Cc cl fp, semE (X.blk s0 H0 scope (compEnvC scope cl Cc X.env) fp) elt σ H Q
def iB (X : Cx) (scope : Scope) (tg iter : Expr) : TI := fun σ H Q => ∀ s0 H0 Cc cl fp, semI (X.blk s0 H0 scope (compEnvC scope cl Cc X.env) fp) tg iter σ H Q
theorem gB_ok {scope : Scope} (s0 : Shared) (H0 : Hp) (Cc : Addr) (cl : List (Str × Addr)) (fp : List Addr) : PG (X.blk s0 H0 scope (compEnvC scope cl Cc X.env) fp) tg (gB X scope tg) := ⟨fun pins s σ H v u Q I r h => h s0 H0 Cc cl fp pins s u I r⟩
theorem tBs_ok {scope : Scope} (s0 : Shared) (H0 : Hp) (Cc : Addr) (cl : List (Str × Addr)) (fp : List Addr) : PTs (X.blk s0 H0 scope (compEnvC scope cl Cc X.env) fp) es (tBs X scope es) := ⟨fun pins s σ H Q I h => h s0 H0 Cc cl fp pins s I⟩
theorem eB_ok {scope : Scope} (s0 : Shared) (H0 : Hp) (Cc : Addr) (cl : List (Str × Addr)) (fp : List Addr) : PE (X.blk s0 H0 scope (compEnvC scope cl Cc X.env) fp) e (eB X scope e) := ⟨fun pins s σ H Q I h => h s0 H0 Cc cl fp pins s I⟩
theorem iB_ok {scope : Scope} (s0 : Shared) (H0 : Hp) (Cc : Addr) (cl : List (Str × Addr)) (fp : List Addr) : PI (X.blk s0 H0 scope (compEnvC scope cl Cc X.env) fp) tg e (iB X scope tg e) := ⟨fun pins s σ H Q I h => h s0 H0 Cc cl fp pins s I⟩
/-- a reading that gives a new list -/
def FrT (X : Cx) (C : Addr) (ρ : REnv) (t : TE) (ds : List PyData) : Prop := ∀ M H σ Q, EnvOk X.K C M H σ ρ → (∀ l vs H', Same H H' → H l = none → H' l = some (.lst vs) → DnAll X.K C (Msk (l :: M) H') vs ds → Q (.ref l) H') → t σ H Q
abbrev BF (X : Cx) (C : Addr) (ρ : REnv) (e : Expr) (ds : List PyData) : Prop := FrT X C ρ (semE X e) ds
theorem bf_of {t : TE} (h : PE X e t) (q : FrT X C ρ t ds) : BF X C ρ e ds := fun M H σ Q E k pins s I => h.run pins s σ H Q I (q M H σ Q E k)
theorem be_bf (h : BF X C ρ e ds) : BE X C ρ e (.list ds) := fun M H σ Q E k => h M H σ Q E fun l vs H' s hn hl q => k _ H' s (.lst (by rw [msk_nin (E.own.new hn)]; exact hl) (q.mono msk_out))
theorem bl_bf (h : BF X C ρ e ds) : BL X C ρ e ds := fun M H σ Q E k => h M H σ Q E fun l vs H' s hn hl q => k l vs H' s hl (q.mono msk_out)
theorem bf_lst (h : BA X C ρ es ds) (hl : ds.length ≤ 1000000 := by first | decide | simp) : BF X C ρ (.List es pos) ds :=
  bf_of (pe_lst (pa_sem es)) fun M H σ Q E k => h M H σ _ E fun vs H1 s1 q1 => ⟨by rw [q1.length]; exact line_of hl, fun q hq =>
    k q vs _ (s1.trans (same_new hq)) (s1.free hq) upd_same (q1.mono (msk_open hq))⟩
theorem bf_listT {pn : Pos} (hg : Gl X "list") (hm : X.mg "list" = none) (h : BE X C ρ e (.tuple ds)) (he : NS X e := by rfl) : BF X C ρ (.Call (.Name "list" pn) [e] [] pos) ds :=
  bf_of (pe_callTy call_list_of hg hm (by decide +kernel) (pa_cons (pe_sem e) pa_nil he) (he := he)) fun M H σ Q E k => h M H σ _ E fun v H1 s1 q1 => by
    obtain ⟨a, vs, rfl, h1, h2⟩ := q1.tup_inv
    exact ⟨a, vs, rfl, .inr (SqT.of (msk_same M H1 _ _ h1)), fun l hl => k l vs _ (s1.trans (same_new hl)) (s1.free hl) upd_same (h2.mono (msk_open hl))⟩
theorem bf_listL {pn : Pos} (hg : Gl X "list") (hm : X.mg "list" = none) (h : BL X C ρ e ds) (he : NS X e := by rfl) : BF X C ρ (.Call (.Name "list" pn) [e] [] pos) ds :=
  bf_of (pe_callTy call_list_of hg hm (by decide +kernel) (pa_cons (pe_sem e) pa_nil he) (he := he)) fun M H σ Q E k => h M H σ _ E fun a vs H1 s1 h1 q1 =>
    ⟨a, vs, rfl, .inl (SqL.of h1), fun l hl => k l vs _ (s1.trans (same_new hl)) (s1.free hl) upd_same (q1.mono (msk_open hl))⟩
theorem fr_lc {α : Type} (xs : List α) (enc : α → PyData) (q : α → Bool) (g : α → PyData) (ρ' : α → REnv) (ts : List Nat) {elt iter : Expr} {ifs : List Expr} {scope : Scope} {own : List (Str × Nat)} (hc : X.calm = true) (hN : X.N.Nodup) (src : BI X C ρ tg iter (xs.map enc)) (ok : BlkOk X.N X.env.scope scope own)
    (hts : ∀ i ∈ ts, i ∈ own.map (·.2))
    (tgt : ∀ x ∈ xs, ∀ s H Cc cl fp, BG (X.blk s H scope (compEnvC scope cl Cc X.env) fp) C (wipeR ρ (own.map (·.2))) ts tg (enc x) (ρ' x))
    (tst : ∀ x ∈ xs, ∀ s H Cc cl fp, BTs (X.blk s H scope (compEnvC scope cl Cc X.env) fp) C (ρ' x) ifs (q x))
    (el : ∀ x ∈ xs, q x = true → ∀ s H Cc cl fp, BE (X.blk s H scope (compEnvC scope cl Cc X.env) fp) C (ρ' x) elt (g x))
    (hlen : xs.length ≤ 1000000) : FrT X C ρ (tLc (semI X tg iter) (gB X scope tg) (tBs X scope ifs) (eB X scope elt) (own.map (·.2))) ((xs.filter q).map g) :=
  fun M H σ Q E k => src M H σ _ E fun J H1 s1 j D hD => by
    have E1 := E.mono s1
    have oD : D ∉ M := E1.own.new hD
    refine ⟨fun i m H' => m = xs.length - i ∧ i ≤ xs.length ∧ Same H1 H' ∧ Own (D :: M) H' ∧ Same (Msk M H1) (Msk (D :: M) H') ∧ ∃ vs, H' D = some (.lst vs) ∧ DnAll X.K C (Msk (D :: M) H') vs (((xs.take i).filter q).map g),
      ⟨_, rfl, Nat.zero_le _, same_new hD, E1.own.open hD, msk_open hD, [], upd_same, .nil⟩, ?_⟩
    rintro i m H2 ⟨rfl, hi, s2, o2, e2, vs, hDv, hvs⟩
    by_cases hlt : i < xs.length
    · have hx : xs[i]? = some xs[i] := List.getElem?_eq_getElem hlt
      have hmem : xs[i] ∈ xs := List.getElem_mem hlt
      obtain ⟨hgo, hy⟩ := (j (D :: M) H2 e2 s2 o2 i).2 (enc xs[i]) (by rw [List.getElem?_map, hx]; rfl)
      refine .inr ⟨hgo, fun H' => (i + 1) ≤ xs.length ∧ Same H1 H' ∧ Own (D :: M) H' ∧ Same (Msk M H1) (Msk (D :: M) H') ∧ ∃ vs, H' D = some (.lst vs) ∧ DnAll X.K C (Msk (D :: M) H') vs (((xs.take (i + 1)).filter q).map g),
        fun H' w => ⟨xs.length - (i + 1), by omega, rfl, w⟩, fun x H3 y s0 H0 Cc cl fp => ?_⟩
      obtain ⟨s3, qx⟩ := hy x H3 y
      have s13 := s2.trans s3
      have e3 : Same (Msk M H1) (Msk (D :: M) H3) := e2.trans (msk_mono s3)
      have E3 : EnvOk X.K C (D :: M) H3 (wipe σ (own.map (·.2))) (wipeR ρ (own.map (·.2))) := (E1.to s13 e3 (o2.mono s3) fun a h => List.mem_cons_of_mem _ h).wipe _
      refine tgt _ hmem s0 H0 Cc cl fp (D :: M) H3 _ x _ E3 qx fun σ' E4 w4 => ⟨?_, fun s0 H0 Cc cl fp => tst _ hmem s0 H0 Cc cl fp (D :: M) H3 σ' _ E4 fun H5 s5 => ?_⟩
      · have z := w4.wipe (own.map (·.2)) hts
        have z2 : wipe (wipe σ (own.map (·.2))) (own.map (·.2)) = wipe σ (own.map (·.2)) := by
          have gg : ∀ (us : List Nat) (τ : L2.St), (∀ u ∈ us, ∀ v, τ[u]? = some v → v = none) → wipe τ us = τ := by
            intro us
            induction us with
            | nil => intro τ _; rfl
            | cons u us ih =>
              intro τ hτ
              show (wipe τ us).set u none = τ
              rw [ih τ fun v hv => hτ v (List.mem_cons_of_mem _ hv)]
              apply List.ext_getElem?
              intro n
              by_cases e : u = n
              · subst e
                by_cases hl : u < τ.length
                · rw [List.getElem?_set_self hl, List.getElem?_eq_getElem hl, hτ u List.mem_cons_self _ (List.getElem?_eq_getElem hl)]
                · rw [List.getElem?_eq_none (by simpa using hl), List.getElem?_eq_none (by simpa using hl)]
              · rw [List.getElem?_set_ne e]
          refine gg _ _ fun u hu v hv => ?_
          cases v with
          | none => rfl
          | some x => exact absurd hu (wipe_some hv).2
        rw [z, z2]
      · have E5 := E4.mono s5
        have s15 := s13.trans s5
        have e5 : Same (Msk M H1) (Msk (D :: M) H5) := e3.trans (msk_mono s5)
        have d5 : H5 D = some (.lst vs) := s5 _ _ (s3 _ _ hDv)
        have v5 : DnAll X.K C (Msk (D :: M) H5) vs (((xs.take i).filter q).map g) := hvs.mono (msk_mono (s3.trans s5))
        rw [filter_take_succ q hx]
        cases hq : q xs[i] with
        | false =>
          refine iteF ⟨hlt, s15, E5.own, e5, vs, d5, ?_⟩
          rw [if_neg Bool.false_ne_true, List.append_nil]
          exact v5
        | true =>
          refine iteT fun s0 H0 Cc cl fp => el _ hmem hq s0 H0 Cc cl fp (D :: M) H5 σ' _ E5 fun y H6 s6 q6 => ⟨vs, s6 _ _ d5, ?_, hlt, same_upd (s15.trans s6) hD, own_upd (E5.own.mono s6), ?_, vs ++ [y], upd_same, ?_⟩
          · have z : vs.length ≤ xs.length := by
              rw [v5.length, List.length_map]
              refine Nat.le_trans (List.length_filter_le _ _) ?_
              rw [List.length_take]
              omega
            have z2 : ((xs.take i).filter q).length ≤ i := Nat.le_trans (List.length_filter_le _ _) (by rw [List.length_take]; omega)
            refine line_lt ?_
            rw [v5.length, List.length_map]
            omega
          · rw [msk_upd List.mem_cons_self]
            exact e5.trans (msk_mono s6)
          · rw [msk_upd List.mem_cons_self, if_pos rfl, List.map_append]
            exact (v5.mono (msk_mono s6)).append (.cons q6 .nil)
    · have e : i = xs.length := by omega
      subst e
      rw [List.take_length] at hvs
      refine .inl ⟨(j (D :: M) H2 e2 s2 o2 _).1 (by rw [List.length_map]; exact Nat.le_refl _), k D vs H2 (s1.trans s2) (s1.free hD) hDv hvs⟩
theorem bf_lc {α : Type} (xs : List α) (enc : α → PyData) (q : α → Bool) (g : α → PyData) (ρ' : α → REnv) (ts : List Nat) {elt iter : Expr} {ifs : List Expr} {scope : Scope} {own : List (Str × Nat)} (hc : X.calm = true) (hN : X.N.Nodup) (src : BI X C ρ tg iter (xs.map enc)) (ok : BlkOk X.N X.env.scope scope own)
    (hts : ∀ i ∈ ts, i ∈ own.map (·.2))
    (tgt : ∀ x ∈ xs, ∀ s H Cc cl fp, BG (X.blk s H scope (compEnvC scope cl Cc X.env) fp) C (wipeR ρ (own.map (·.2))) ts tg (enc x) (ρ' x))
    (tst : ∀ x ∈ xs, ∀ s H Cc cl fp, BTs (X.blk s H scope (compEnvC scope cl Cc X.env) fp) C (ρ' x) ifs (q x))
    (el : ∀ x ∈ xs, q x = true → ∀ s H Cc cl fp, BE (X.blk s H scope (compEnvC scope cl Cc X.env) fp) C (ρ' x) elt (g x))
    (hlen : xs.length ≤ 1000000) (hs : ∀ x, foldedSetIterable iter X.env x = pure x := by intro _; rfl) : BF X C ρ (.ListComp elt [⟨tg, iter, ifs, 0⟩] scope pos) ((xs.filter q).map g) :=
  bf_of (pe_lc hc hN (pi_sem tg iter) ok gB_ok tBs_ok eB_ok hs) (fr_lc xs enc q g ρ' ts hc hN src ok hts tgt tst el hlen)
theorem filter_all {α : Type} (xs : List α) : xs.filter (fun _ => true) = xs := by
  induction xs with
  | nil => rfl
  | cons x xs ih => rw [List.filter_cons_of_pos rfl, ih]
/-- without a test -/
theorem bf_map {α : Type} (xs : List α) (enc : α → PyData) (g : α → PyData) (ρ' : α → REnv) (ts : List Nat) {elt iter : Expr} {scope : Scope} {own : List (Str × Nat)} (hc : X.calm = true) (hN : X.N.Nodup) (src : BI X C ρ tg iter (xs.map enc)) (ok : BlkOk X.N X.env.scope scope own)
    (hts : ∀ i ∈ ts, i ∈ own.map (·.2))
    (tgt : ∀ x ∈ xs, ∀ s H Cc cl fp, BG (X.blk s H scope (compEnvC scope cl Cc X.env) fp) C (wipeR ρ (own.map (·.2))) ts tg (enc x) (ρ' x))
    (el : ∀ x ∈ xs, ∀ s H Cc cl fp, BE (X.blk s H scope (compEnvC scope cl Cc X.env) fp) C (ρ' x) elt (g x))
    (hlen : xs.length ≤ 1000000) (hs : ∀ x, foldedSetIterable iter X.env x = pure x := by intro _; rfl) : BF X C ρ (.ListComp elt [⟨tg, iter, [], 0⟩] scope pos) (xs.map g) := by
  have h := bf_lc xs enc (fun _ => true) g ρ' ts (pos := pos) hc hN src ok hts tgt (fun x hx s H Cc cl fp => bts_nil) (fun x hx _ => el x hx) hlen hs
  rw [filter_all] at h
  exact h
end
end G6

set_option Elab.async false
set_option linter.all false
set_option maxRecDepth 100000
set_option maxHeartbeats 4000000
namespace G6
open PySem PySem.Spec PyProof.Rows L2
theorem wipe_idem (σ : L2.St) (vs : List Nat) : wipe (wipe σ vs) vs = wipe σ vs := by
  have gg : ∀ (us : List Nat) (τ : L2.St), (∀ u ∈ us, ∀ v, τ[u]? = some v → v = none) → wipe τ us = τ := by
    intro us
    induction us with
    | nil => intro τ _; rfl
    | cons u us ih =>
      intro τ hτ
      show (wipe τ us).set u none = τ
      rw [ih τ fun v hv => hτ v (List.mem_cons_of_mem _ hv)]
      apply List.ext_getElem?
      intro n
      by_cases e : u = n
      · subst e
        by_cases hl : u < τ.length
        · rw [List.getElem?_set_self hl, List.getElem?_eq_getElem hl, hτ u List.mem_cons_self _ (List.getElem?_eq_getElem hl)]
        · rw [List.getElem?_eq_none (by simpa using hl), List.getElem?_eq_none (by simpa using hl)]
      · rw [List.getElem?_set_ne e]
  refine gg _ _ fun u hu v hv => ?_
  cases v with
  | none => rfl
  | some x => exact absurd hu (wipe_some hv).2
section
variable {X : Cx} {C : Addr} {ρ : REnv} {e a b tg tg1 : Expr} {es : List Expr} {d da db : PyData} {ds dt : List PyData} {pos p : Pos}
/-- a source that stands for good -/
def JOkM (K : PySem.W.Frag) (C : Addr) (J : It) (M : List Addr) (H0 : Hp) (ds : List PyData) : Prop :=
  ∀ M' H, Same (Msk M H0) (Msk M' H) → Own M' H → ∀ i : Nat, (ds.length ≤ i → J.stop i H) ∧ ∀ d, ds[i]? = some d → J.go i H ∧ ∀ x H', J.yld i H x H' → Same H H' ∧ Dn K C (Msk M' H') x d
def BIm (X : Cx) (C : Addr) (ρ : REnv) (tg iter : Expr) (ds : List PyData) : Prop := ∀ M H σ R, EnvOk X.K C M H σ ρ → (∀ J H', Same H H' → JOkM X.K C J M H' ds → R J H') → semI X tg iter σ H R
theorem bim_of {iter : Expr} {t : TI} (h : PI X tg iter t) (q : ∀ M H σ R, EnvOk X.K C M H σ ρ → (∀ J H', Same H H' → JOkM X.K C J M H' ds → R J H') → t σ H R) : BIm X C ρ tg iter ds :=
  fun M H σ Q E k pins s I => h.run pins s σ H Q I (q M H σ Q E k)
theorem BIm.bi {iter : Expr} (h : BIm X C ρ tg iter ds) : BI X C ρ tg iter ds := fun M H σ R E k => h M H σ R E fun J H' s j => k J H' s fun M' H2 e1 _ o i => j M' H2 e1 o i
theorem bim_list (h : BE X C ρ e (.list ds)) : BIm X C ρ tg e ds :=
  bim_of (pi_list (pe_sem e)) fun M H σ R E k => h M H σ _ E fun v1 H1 s1 q1 => by
    obtain ⟨a, vs, rfl, h1, q1⟩ := q1.lst_inv
    exact ⟨a, rfl, ⟨vs, SqL.of (msk_same M H1 _ _ h1)⟩, k _ H1 s1 fun M' H2 e1 o i => by
      have h2 := msk_same M' H2 _ _ (e1 _ _ h1)
      refine ⟨fun hi => ⟨vs, SqL.of h2, by rw [q1.length]; exact hi⟩, fun d hd => ?_⟩
      obtain ⟨v, hv, qv⟩ := q1.get hd
      refine ⟨⟨vs, v, SqL.of h2, hv⟩, fun x H' y => ?_⟩
      obtain ⟨rfl, y⟩ := y
      have z := y vs (SqL.of h2)
      rw [hv] at z
      cases z
      exact ⟨Same.refl _, qv.mono e1⟩⟩
theorem bim_range {n : Nat} {j : Int} {pn : Pos} (hg : Gl X "range") (hm : X.mg "range" = none) (h : BE X C ρ a (.int j)) (hj : j = (n : Int)) (hb : n ≤ 1000000) (he : NS X a := by rfl) (he2 : starEach [a] X.env = [(false, eval a X.env)] := by rfl) : BIm X C ρ tg (.Call (.Name "range" pn) [a] [] pos) (rngD n) :=
  bim_of (pi_range1 hg hm (pa_cons (pe_sem a) pa_nil he) he2) fun M H σ R E k => h M H σ _ E fun v H1 s1 q1 => by
    subst hj
    refine ⟨(n : Int), by rw [q1.int_inv], by omega, by omega, k _ H1 s1 fun M' H2 e1 o i => ⟨fun hi => ?_, fun d hd => ?_⟩⟩
    · show (n : Int).toNat ≤ i
      have z : (rngD n).length = n := by unfold rngD; rw [List.length_map, List.length_range]
      rw [z] at hi
      exact hi
    · obtain ⟨h1, rfl⟩ := rngD_get hd
      refine ⟨by show i < (n : Int).toNat; exact h1, fun x H' y => ?_⟩
      obtain ⟨rfl, rfl⟩ := y
      rw [Int.zero_add]
      exact ⟨Same.refl _, .int _⟩
def Sl.imm : Sl → Bool
  | .ow _ => false
  | .im _ => true
  | .no => true
def noOw (ρ : REnv) : Bool := ρ.all Sl.imm
theorem noOw_at {ρ : REnv} (h : noOw ρ = true) {n : Nat} {us : List PyData} (e : ρ[n]? = some (.ow us)) : False := by
  have z := List.all_eq_true.mp h _ (List.mem_of_getElem? e)
  cases z
theorem fr_lc2 {α β : Type} (xs : List α) (enc : α → PyData) (ys : α → List β) (enc1 : α → β → PyData) (g : α → β → PyData) (ρ' : α → REnv) (ρ2 : α → β → REnv) (ts ts1 vs1 : List Nat) {elt iter iter1 : Expr} {scope : Scope} {own : List (Str × Nat)} (hc : X.calm = true) (hN : X.N.Nodup)
    (src : BI X C ρ tg iter (xs.map enc)) (ok : BlkOk X.N X.env.scope scope own) (hts : ∀ i ∈ ts, i ∈ own.map (·.2)) (hts1 : ∀ i ∈ ts1, i ∈ vs1) (hvs1 : ∀ i ∈ vs1, i ∈ own.map (·.2))
    (tgt : ∀ x ∈ xs, ∀ s H Cc cl fp, BG (X.blk s H scope (compEnvC scope cl Cc X.env) fp) C (wipeR ρ (own.map (·.2))) ts tg (enc x) (ρ' x))
    (src1 : ∀ x ∈ xs, ∀ s H Cc cl fp, BIm (X.blk s H scope (compEnvC scope cl Cc X.env) fp) C (ρ' x) tg1 iter1 ((ys x).map (enc1 x)))
    (tgt1 : ∀ x ∈ xs, ∀ y ∈ ys x, ∀ s H Cc cl fp, BG (X.blk s H scope (compEnvC scope cl Cc X.env) fp) C (wipeR (ρ' x) vs1) ts1 tg1 (enc1 x y) (ρ2 x y))
    (el : ∀ x ∈ xs, ∀ y ∈ ys x, ∀ s H Cc cl fp, BE (X.blk s H scope (compEnvC scope cl Cc X.env) fp) C (ρ2 x y) elt (g x y))
    (hno : ∀ x ∈ xs, noOw (ρ' x) = true) (hlen : ∀ i ≤ xs.length, (((xs.take i).map fun x => (ys x).map (g x)).flatten).length ≤ 100000) (hlen1 : ∀ x ∈ xs, (ys x).length ≤ 100000) :
    FrT X C ρ (tLc2 (semI X tg iter) (gB X scope tg) tYes (iB X scope tg1 iter1) (gB X scope tg1) tYes (eB X scope elt) (own.map (·.2)) vs1) ((xs.map fun x => (ys x).map (g x)).flatten) :=
  fun M H σ Q E k => src M H σ _ E fun J H1 s1 j D hD => by
    have E1 := E.mono s1
    have oD : D ∉ M := E1.own.new hD
    refine ⟨fun i m H' => m = xs.length - i ∧ i ≤ xs.length ∧ Same H1 H' ∧ Own (D :: M) H' ∧ Same (Msk M H1) (Msk (D :: M) H') ∧ ∃ vs, H' D = some (.lst vs) ∧ DnAll X.K C (Msk (D :: M) H') vs (((xs.take i).map fun x => (ys x).map (g x)).flatten),
      ⟨_, rfl, Nat.zero_le _, same_new hD, E1.own.open hD, msk_open hD, [], upd_same, .nil⟩, ?_⟩
    rintro i m H2 ⟨rfl, hi, s2, o2, e2, vs, hDv, hvs⟩
    by_cases hlt : i < xs.length
    · have hx : xs[i]? = some xs[i] := List.getElem?_eq_getElem hlt
      have hmem : xs[i] ∈ xs := List.getElem_mem hlt
      obtain ⟨hgo, hy⟩ := (j (D :: M) H2 e2 s2 o2 i).2 (enc xs[i]) (by rw [List.getElem?_map, hx]; rfl)
      refine .inr ⟨hgo, fun H' => (i + 1) ≤ xs.length ∧ Same H1 H' ∧ Own (D :: M) H' ∧ Same (Msk M H1) (Msk (D :: M) H') ∧ ∃ vs, H' D = some (.lst vs) ∧ DnAll X.K C (Msk (D :: M) H') vs (((xs.take (i + 1)).map fun x => (ys x).map (g x)).flatten),
        fun H' w => ⟨xs.length - (i + 1), by omega, rfl, w⟩, fun x H3 y s0 H0 Cc cl fp => ?_⟩
      obtain ⟨s3, qx⟩ := hy x H3 y
      have s13 := s2.trans s3
      have e3 : Same (Msk M H1) (Msk (D :: M) H3) := e2.trans (msk_mono s3)
      have E3 : EnvOk X.K C (D :: M) H3 (wipe σ (own.map (·.2))) (wipeR ρ (own.map (·.2))) := (E1.to s13 e3 (o2.mono s3) fun a h => List.mem_cons_of_mem _ h).wipe _
      refine tgt _ hmem s0 H0 Cc cl fp (D :: M) H3 _ x _ E3 qx fun σ' E4 w4 => ⟨by rw [w4.wipe (own.map (·.2)) hts, wipe_idem], ?_⟩
      unfold tYes
      dsimp only
      rw [if_pos rfl]
      intro s0 H0 Cc cl fp
      refine src1 _ hmem s0 H0 Cc cl fp (D :: M) H3 σ' _ E4 fun J1 H4 s4 j1 => ?_
      have E4' := E4.mono s4
      have s14 := s13.trans s4
      have e4 : Same (Msk M H1) (Msk (D :: M) H4) := e3.trans (msk_mono s4)
      have nD : H1 D = none := hD
      have hsplit : ((xs.take (i + 1)).map fun x => (ys x).map (g x)).flatten = ((xs.take i).map fun x => (ys x).map (g x)).flatten ++ (ys xs[i]).map (g xs[i]) := by
        rw [List.take_succ, hx, List.map_append, List.flatten_append]
        simp
      have hb1 := hlen i hi
      have hb2 := hlen1 _ hmem
      refine ⟨fun i1 m1 H' => m1 = (ys xs[i]).length - i1 ∧ i1 ≤ (ys xs[i]).length ∧ Same H1 H' ∧ Own (D :: M) H' ∧ Same (Msk (D :: M) H4) (Msk (D :: M) H') ∧ (∀ a o, a ≠ D → H4 a = some o → H' a = some o) ∧ ∃ vs, H' D = some (.lst vs) ∧ DnAll X.K C (Msk (D :: M) H') vs (((xs.take i).map fun x => (ys x).map (g x)).flatten ++ ((ys xs[i]).take i1).map (g xs[i])),
        ⟨_, rfl, Nat.zero_le _, s14, E4'.own, Same.refl _, fun _ _ _ h => h, vs, s4 _ _ (s3 _ _ hDv), ?_⟩, ?_⟩
      · rw [List.take_zero, List.map_nil, List.append_nil]
        exact hvs.mono (msk_mono (s3.trans s4))
      · rintro i1 m1 H5 ⟨rfl, hi1, s5, o5, e5, f5, vs5, hDv5, hvs5⟩
        by_cases hlt1 : i1 < (ys xs[i]).length
        · have hx1 : (ys xs[i])[i1]? = some (ys xs[i])[i1] := List.getElem?_eq_getElem hlt1
          have hmem1 : (ys xs[i])[i1] ∈ ys xs[i] := List.getElem_mem hlt1
          obtain ⟨hgo1, hy1⟩ := (j1 (D :: M) H5 e5 o5 i1).2 (enc1 xs[i] (ys xs[i])[i1]) (by rw [List.getElem?_map, hx1]; rfl)
          refine .inr ⟨hgo1, fun H' => (i1 + 1) ≤ (ys xs[i]).length ∧ Same H1 H' ∧ Own (D :: M) H' ∧ Same (Msk (D :: M) H4) (Msk (D :: M) H') ∧ (∀ a o, a ≠ D → H4 a = some o → H' a = some o) ∧ ∃ vs, H' D = some (.lst vs) ∧ DnAll X.K C (Msk (D :: M) H') vs (((xs.take i).map fun x => (ys x).map (g x)).flatten ++ ((ys xs[i]).take (i1 + 1)).map (g xs[i])),
            fun H' w => ⟨(ys xs[i]).length - (i1 + 1), by omega, rfl, w⟩, fun x1 H6 y1 s0 H0 Cc cl fp => ?_⟩
          obtain ⟨s6, qx1⟩ := hy1 x1 H6 y1
          have e6 : Same (Msk (D :: M) H4) (Msk (D :: M) H6) := e5.trans (msk_mono s6)
          have E6 : EnvOk X.K C (D :: M) H6 (wipe σ' vs1) (wipeR (ρ' xs[i]) vs1) := by
            refine EnvOk.wipe ⟨o5.mono s6, E4'.len, fun n sl hsl => ?_, E4'.dist⟩ _
            have q := E4'.slot n sl hsl
            cases sl with
            | no => trivial
            | im d => obtain ⟨v, h1, h2⟩ := q; exact ⟨v, h1, h2.mono e6⟩
            | ow us => exact (noOw_at (hno _ hmem) hsl).elim
          refine tgt1 _ hmem _ hmem1 s0 H0 Cc cl fp (D :: M) H6 _ x1 _ E6 qx1 fun σ3 E7 w7 => ⟨by rw [w7.wipe vs1 hts1, wipe_idem], ?_⟩
          dsimp only
          rw [if_pos rfl]
          intro s0 H0 Cc cl fp
          refine el _ hmem _ hmem1 s0 H0 Cc cl fp (D :: M) H6 σ3 _ E7 fun y H7 s7 q7 => ⟨vs5, s7 _ _ (s6 _ _ hDv5), ?_, hlt1, same_upd ((s5.trans s6).trans s7) nD, own_upd (E7.own.mono s7), ?_, fun a o ha h => ?_, vs5 ++ [y], upd_same, ?_⟩
          · refine line_lt ?_
            rw [hvs5.length, List.length_append, List.length_map, List.length_take]
            omega
          · rw [msk_upd List.mem_cons_self]
            exact e6.trans (msk_mono s7)
          · rw [upd_ne ha]
            exact s7 _ _ (s6 _ _ (f5 a o ha h))
          · rw [msk_upd List.mem_cons_self, List.take_succ, hx1, List.map_append, ← List.append_assoc]
            exact (hvs5.mono (msk_mono (s6.trans s7))).append (.cons q7 .nil)
        · have e : i1 = (ys xs[i]).length := by omega
          subst e
          rw [List.take_length] at hvs5
          refine .inl ⟨(j1 (D :: M) H5 e5 o5 _).1 (by rw [List.length_map]; exact Nat.le_refl _), hlt, s5, o5, e4.trans e5, vs5, hDv5, ?_⟩
          rw [hsplit]
          exact hvs5
    · have e : i = xs.length := by omega
      subst e
      rw [List.take_length] at hvs
      refine .inl ⟨(j (D :: M) H2 e2 s2 o2 _).1 (by rw [List.length_map]; exact Nat.le_refl _), k D vs H2 (s1.trans s2) (s1.free hD) hDv hvs⟩
theorem bf_lc2 {α β : Type} (xs : List α) (enc : α → PyData) (ys : α → List β) (enc1 : α → β → PyData) (g : α → β → PyData) (ρ' : α → REnv) (ρ2 : α → β → REnv) (ts ts1 vs1 : List Nat) {elt iter iter1 : Expr} {scope : Scope} {own : List (Str × Nat)} (hc : X.calm = true) (hN : X.N.Nodup)
    (src : BI X C ρ tg iter (xs.map enc)) (ok : BlkOk X.N X.env.scope scope own) (hts : ∀ i ∈ ts, i ∈ own.map (·.2)) (hts1 : ∀ i ∈ ts1, i ∈ vs1) (hvs1 : ∀ i ∈ vs1, i ∈ own.map (·.2))
    (tgt : ∀ x ∈ xs, ∀ s H Cc cl fp, BG (X.blk s H scope (compEnvC scope cl Cc X.env) fp) C (wipeR ρ (own.map (·.2))) ts tg (enc x) (ρ' x))
    (src1 : ∀ x ∈ xs, ∀ s H Cc cl fp, BIm (X.blk s H scope (compEnvC scope cl Cc X.env) fp) C (ρ' x) tg1 iter1 ((ys x).map (enc1 x)))
    (tgt1 : ∀ x ∈ xs, ∀ y ∈ ys x, ∀ s H Cc cl fp, BG (X.blk s H scope (compEnvC scope cl Cc X.env) fp) C (wipeR (ρ' x) vs1) ts1 tg1 (enc1 x y) (ρ2 x y))
    (el : ∀ x ∈ xs, ∀ y ∈ ys x, ∀ s H Cc cl fp, BE (X.blk s H scope (compEnvC scope cl Cc X.env) fp) C (ρ2 x y) elt (g x y))
    (hno : ∀ x ∈ xs, noOw (ρ' x) = true) (hlen : ∀ i ≤ xs.length, (((xs.take i).map fun x => (ys x).map (g x)).flatten).length ≤ 100000) (hlen1 : ∀ x ∈ xs, (ys x).length ≤ 100000) (hs : ∀ x, foldedSetIterable iter X.env x = pure x := by intro _; rfl) (hs1 : ∀ env x, foldedSetIterable iter1 env x = pure x := by intro _ _; rfl) :
    BF X C ρ (.ListComp elt [⟨tg, iter, [], 0⟩, ⟨tg1, iter1, [], 0⟩] scope pos) ((xs.map fun x => (ys x).map (g x)).flatten) :=
  bf_of (pe_lc2 hc hN (pi_sem tg iter) ok hvs1 gB_ok (fun _ _ _ _ _ => pts_nil) iB_ok gB_ok (fun _ _ _ _ _ => pts_nil) eB_ok hs hs1) (fr_lc2 xs enc ys enc1 g ρ' ρ2 ts ts1 vs1 hc hN src ok hts hts1 hvs1 tgt src1 tgt1 el hno hlen hlen1)
end
end G6

set_option Elab.async false
set_option linter.all false
set_option maxRecDepth 100000
set_option maxHeartbeats 4000000
namespace G6
open PySem PySem.Spec PyProof.Rows L2
/-! ### statements over data -/
inductive Out where
  | nx (ρ : REnv)
  | rt (d : PyData)
/-- within a def that was entered at the heap H0, its callers' owned lists M0 -/
structure EnvS (K : PySem.W.Frag) (C : Addr) (M0 : List Addr) (H0 : Hp) (M : List Addr) (H : Hp) (σ : L2.St) (ρ : REnv) : Prop where
  ok : EnvOk K C M H σ ρ
  same : Same H0 H
  sub : ∀ a ∈ M0, a ∈ M
  fresh : ∀ (i : Nat) (ds : List PyData) (l : Addr), ρ[i]? = some (.ow ds) → σ[i]? = some (some (.ref l)) → H0 l = none
def PostO (K : PySem.W.Frag) (C : Addr) (M0 : List Addr) (H0 : Hp) (M : List Addr) (H : Hp) (D : Ends) : Out → Prop
  | .nx ρ' => ∀ M' H' σ', EnvS K C M0 H0 M' H' σ' ρ' → Same (Msk M H) (Msk M' H') → D.nx σ' H'
  | .rt d => ∀ v H', Same H0 H' → Dn K C (Msk M0 H') v d → D.rt v H'
section
variable (X : Cx) (C : Addr) (ρ : REnv)
def BS (st : Stmt) (o : Out) : Prop := ∀ M0 H0 M H σ D, Own M0 H0 → EnvS X.K C M0 H0 M H σ ρ → PostO X.K C M0 H0 M H D o → semS X st D σ H
def BSs (sts : List Stmt) (o : Out) : Prop := ∀ M0 H0 M H σ D, Own M0 H0 → EnvS X.K C M0 H0 M H σ ρ → PostO X.K C M0 H0 M H D o → semSs X sts D σ H
end
section
variable {K : PySem.W.Frag} {C : Addr} {M0 M : List Addr} {H0 H H' : Hp} {σ : L2.St} {ρ : REnv}
theorem EnvS.mono (E : EnvS K C M0 H0 M H σ ρ) (e : Same H H') : EnvS K C M0 H0 M H' σ ρ := ⟨E.ok.mono e, E.same.trans e, E.sub, E.fresh⟩
/-- a new list becomes a slot's own -/
theorem EnvS.put {i : Nat} {l : Addr} {vs : List V} {ds : List PyData} (E : EnvS K C M0 H0 M H σ ρ) (e : Same H H') (hn : H l = none) (hl : H' l = some (.lst vs)) (hd : DnAll K C (Msk (l :: M) H') vs ds) :
    EnvS K C M0 H0 (l :: M) H' (σ.set i (some (.ref l))) (ρ.set i (.ow ds)) ∧ Same (Msk M H) (Msk (l :: M) H') := by
  have nl : l ∉ M := E.ok.own.new hn
  have e2 : Same (Msk M H) (Msk (l :: M) H') := fun a o h => by
    have ha := msk_same M H a o h
    have ne := ne_of_none ha hn
    have q : a ∉ M := fun z => by rw [msk_in z] at h; cases h
    rw [msk_nin (by simp [ne, q])]
    exact e _ _ ha
  have o2 : Own (l :: M) H' := fun a h => by
    rcases List.mem_cons.mp h with z | h
    · rw [z, hl]; exact fun z => nomatch z
    · exact E.ok.own.mono e a h
  have E2 := E.ok.to e e2 o2 fun a h => List.mem_cons_of_mem _ h
  have at_ : ∀ {j : Nat} {es : List PyData}, (ρ.set i (.ow ds))[j]? = some (.ow es) → (j = i ∧ i < ρ.length ∧ es = ds) ∨ (j ≠ i ∧ ρ[j]? = some (.ow es)) := fun {j es} h => by
    by_cases z : i = j
    · subst z
      by_cases hl : i < ρ.length
      · rw [List.getElem?_set_self hl] at h
        cases h
        exact .inl ⟨rfl, hl, rfl⟩
      · rw [List.getElem?_eq_none (by simpa using hl)] at h; cases h
    · rw [List.getElem?_set_ne z] at h
      exact .inr ⟨fun q => z q.symm, h⟩
  refine ⟨⟨⟨o2, by rw [List.length_set, List.length_set, E.ok.len], fun j s hj => ?_, fun j k dj dk m h1 h2 h3 h4 => ?_⟩, E.same.trans e, fun a h => List.mem_cons_of_mem _ (E.sub a h), fun j es m h1 h2 => ?_⟩, e2⟩
  · by_cases z : i = j
    · subst z
      by_cases hl2 : i < ρ.length
      · rw [List.getElem?_set_self hl2] at hj
        cases hj
        exact ⟨l, vs, by rw [List.getElem?_set_self (by rw [← E.ok.len]; exact hl2)], List.mem_cons_self, hl, hd⟩
      · rw [List.getElem?_eq_none (by simpa using hl2)] at hj; cases hj
    · rw [List.getElem?_set_ne z] at hj ⊢
      exact E2.slot j s hj
  · have old : ∀ {n : Nat} {es : List PyData}, ρ[n]? = some (.ow es) → σ[n]? = some (some (.ref l)) → False := fun {n es} h h' => by
      obtain ⟨l', ws, a1, a2, a3, _⟩ := E.ok.ow h
      rw [a1] at h'
      cases h'
      rw [a3] at hn
      cases hn
    rcases at_ h1 with ⟨z1, hlen, _⟩ | ⟨z1, q1⟩
    · rcases at_ h2 with ⟨z2, _⟩ | ⟨z2, q2⟩
      · rw [z1, z2]
      · subst z1
        rw [List.getElem?_set_self (by rw [← E.ok.len]; exact hlen)] at h3
        cases h3
        rw [List.getElem?_set_ne (Ne.symm z2)] at h4
        exact (old q2 h4).elim
    · rcases at_ h2 with ⟨z2, hlen, _⟩ | ⟨z2, q2⟩
      · subst z2
        rw [List.getElem?_set_self (by rw [← E.ok.len]; exact hlen)] at h4
        cases h4
        rw [List.getElem?_set_ne (Ne.symm z1)] at h3
        exact (old q1 h3).elim
      · rw [List.getElem?_set_ne (Ne.symm z1)] at h3
        rw [List.getElem?_set_ne (Ne.symm z2)] at h4
        exact E.ok.dist j k dj dk m q1 q2 h3 h4
  · rcases at_ h1 with ⟨z1, hlen, _⟩ | ⟨z1, q1⟩
    · subst z1
      rw [List.getElem?_set_self (by rw [← E.ok.len]; exact hlen)] at h2
      cases h2
      exact E.same.free hn
    · rw [List.getElem?_set_ne (Ne.symm z1)] at h2
      exact E.fresh j es m q1 h2
/-- an owned list is changed -/
theorem EnvS.mut {i : Nat} {l : Addr} {ws : List V} {ds es : List PyData} (E : EnvS K C M0 H0 M H σ ρ) (hr : ρ[i]? = some (.ow ds)) (hs : σ[i]? = some (some (.ref l))) (hd : DnAll K C (Msk M H) ws es) :
    EnvS K C M0 H0 M (upd H l (.lst ws)) σ (ρ.set i (.ow es)) ∧ Msk M (upd H l (.lst ws)) = Msk M H := by
  obtain ⟨l', vs, a1, a2, a3, a4⟩ := E.ok.ow hr
  rw [hs] at a1
  cases a1
  have em : Msk M (upd H l (.lst ws)) = Msk M H := msk_upd a2
  have hi : i < ρ.length := (List.getElem?_eq_some_iff.mp hr).1
  have at_ : ∀ {j : Nat} {e : List PyData}, (ρ.set i (.ow es))[j]? = some (.ow e) → ∃ e', ρ[j]? = some (.ow e') := fun {j e} h => by
    by_cases z : i = j
    · subst z; exact ⟨ds, hr⟩
    · rw [List.getElem?_set_ne z] at h; exact ⟨e, h⟩
  refine ⟨⟨⟨own_upd E.ok.own, by rw [List.length_set, E.ok.len], fun j s hj => ?_, fun j k dj dk m h1 h2 h3 h4 => ?_⟩, same_upd E.same (E.fresh i ds l hr hs), E.sub, fun j e m h1 h2 => ?_⟩, em⟩
  · by_cases z : i = j
    · subst z
      rw [List.getElem?_set_self hi] at hj
      cases hj
      exact ⟨l, ws, hs, a2, upd_same, by rw [em]; exact hd⟩
    · rw [List.getElem?_set_ne z] at hj
      have q := E.ok.slot j s hj
      cases s with
      | no => trivial
      | im d => obtain ⟨v, b1, b2⟩ := q; exact ⟨v, b1, by rw [em]; exact b2⟩
      | ow e =>
        obtain ⟨m, us, b1, b2, b3, b4⟩ := q
        have ne : m ≠ l := fun q => by
          subst q
          exact z (E.ok.dist i j ds e m hr hj hs b1)
        exact ⟨m, us, b1, b2, by rw [upd_ne ne]; exact b3, by rw [em]; exact b4⟩
  · obtain ⟨e1, q1⟩ := at_ h1
    obtain ⟨e2, q2⟩ := at_ h2
    exact E.ok.dist j k e1 e2 m q1 q2 h3 h4
  · obtain ⟨e1, q1⟩ := at_ h1
    exact E.fresh j e1 m q1 h2
/-- an owned list is owned no more -/
theorem EnvS.freeze {i : Nat} {ds : List PyData} (E : EnvS K C M0 H0 M H σ ρ) (o0 : Own M0 H0) (hr : ρ[i]? = some (.ow ds)) : ∃ M', EnvS K C M0 H0 M' H σ (ρ.set i (.im (.list ds))) ∧ Same (Msk M H) (Msk M' H) := by
  obtain ⟨l, vs, a1, a2, a3, a4⟩ := E.ok.ow hr
  have hf := E.fresh i ds l hr a1
  have hi : i < ρ.length := (List.getElem?_eq_some_iff.mp hr).1
  have e2 : Same (Msk M H) (Msk (M.filter fun a => decide (a ≠ l)) H) := msk_sub fun a h => (List.mem_filter.mp h).1
  refine ⟨M.filter fun a => decide (a ≠ l), ⟨⟨fun a h => E.ok.own a (List.mem_filter.mp h).1, by rw [List.length_set, E.ok.len], fun j s hj => ?_, fun j k dj dk m h1 h2 h3 h4 => ?_⟩, E.same, fun a h => ?_, fun j e m h1 h2 => ?_⟩, e2⟩
  · by_cases z : i = j
    · subst z
      rw [List.getElem?_set_self hi] at hj
      cases hj
      exact ⟨.ref l, a1, .lst (by rw [msk_nin (by simp)]; exact a3) (a4.mono e2)⟩
    · rw [List.getElem?_set_ne z] at hj
      have q := E.ok.slot j s hj
      cases s with
      | no => trivial
      | im d => obtain ⟨v, b1, b2⟩ := q; exact ⟨v, b1, b2.mono e2⟩
      | ow e =>
        obtain ⟨m, us, b1, b2, b3, b4⟩ := q
        have ne : m ≠ l := fun q => by
          subst q
          exact z (E.ok.dist i j ds e m hr hj a1 b1)
        exact ⟨m, us, b1, List.mem_filter.mpr ⟨b2, decide_eq_true ne⟩, b3, b4.mono e2⟩
  · exact E.ok.dist j k dj dk m (set_im_own (σ := σ) (x := none) h1).1 (set_im_own (σ := σ) (x := none) h2).1 h3 h4
  · refine List.mem_filter.mpr ⟨E.sub a h, decide_eq_true fun q => ?_⟩
    subst q
    exact o0 a h hf
  · exact E.fresh j e m (set_im_own (σ := σ) (x := none) h1).1 h2
/-- behind a target -/
theorem EnvS.tgt {ts : List Nat} {ρ' : REnv} {σ' : L2.St} (E : EnvS K C M0 H0 M H σ ρ) (E' : EnvOk K C M H σ' ρ') (t : TgtOk ts ρ ρ' σ σ') : EnvS K C M0 H0 M H σ' ρ' :=
  ⟨E', E.same, E.sub, fun i ds l h1 h2 => by
    obtain ⟨a, b⟩ := t.own i ds h1
    rw [b] at h2
    exact E.fresh i ds l a h2⟩
end
section
variable {X : Cx} {C : Addr} {ρ ρ1 : REnv} {e a b tg : Expr} {es : List Expr} {d da db : PyData} {ds dt : List PyData} {pos p : Pos} {st : Stmt} {rest : List Stmt} {o : Out}
theorem bs_of {t : TS} (h : PS X st t) (q : ∀ M0 H0 M H σ D, Own M0 H0 → EnvS X.K C M0 H0 M H σ ρ → PostO X.K C M0 H0 M H D o → t D σ H) : BS X C ρ st o :=
  fun M0 H0 M H σ D o0 E k pins s I => h.run pins s σ H D I (q M0 H0 M H σ D o0 E k)
theorem bss_of {t : TS} {sts : List Stmt} (h : PSs X sts t) (q : ∀ M0 H0 M H σ D, Own M0 H0 → EnvS X.K C M0 H0 M H σ ρ → PostO X.K C M0 H0 M H D o → t D σ H) : BSs X C ρ sts o :=
  fun M0 H0 M H σ D o0 E k pins s I => h.run pins s σ H D I (q M0 H0 M H σ D o0 E k)
theorem bss_nil : BSs X C ρ [] (.nx ρ) := bss_of pss_nil fun M0 H0 M H σ D o0 E k => k M H σ E (Same.refl _)
theorem post_after {M0 M M1 : List Addr} {H0 H H1 : Hp} {D : Ends} (k : PostO X.K C M0 H0 M H D o) (s : Same (Msk M H) (Msk M1 H1)) : PostO X.K C M0 H0 M1 H1 D o := by
  cases o with
  | nx ρ' => exact fun M' H' σ' E s' => k M' H' σ' E (s.trans s')
  | rt d => exact k
theorem bss_cons (h : BS X C ρ st (.nx ρ1)) (hr : BSs X C ρ1 rest o) : BSs X C ρ (st :: rest) o :=
  bss_of (pss_cons (ps_sem st) (pss_sem rest)) fun M0 H0 M H σ D o0 E k => h M0 H0 M H σ _ o0 E fun M1 H1 σ1 E1 s1 => hr M0 H0 M1 H1 σ1 D o0 E1 (post_after k s1)
theorem bss_rt (h : BS X C ρ st (.rt d)) : BSs X C ρ (st :: rest) (.rt d) :=
  bss_of (pss_cons (ps_sem st) (pss_sem rest)) fun M0 H0 M H σ D o0 E k => h M0 H0 M H σ _ o0 E k
theorem bss_one (h : BS X C ρ st o) : BSs X C ρ [st] o :=
  bss_of (pss_one (ps_sem st)) fun M0 H0 M H σ D o0 E k => h M0 H0 M H σ D o0 E k
theorem bss_freeze (i : Nat) {sts : List Stmt} (hr : ρ[i]? = some (.ow ds)) (h : BSs X C (ρ.set i (.im (.list ds))) sts o) : BSs X C ρ sts o := fun M0 H0 M H σ D o0 E k => by
  obtain ⟨M', E', s'⟩ := E.freeze o0 hr
  exact h M0 H0 M' H σ D o0 E' (post_after k s')
theorem bs_ret (h : BE X C ρ e d) : BS X C ρ (.Return (some e) pos) (.rt d) :=
  bs_of (ps_ret (pe_sem e)) fun M0 H0 M H σ D o0 E k => h M H σ _ E.ok fun v H' s q => k v H' (E.same.trans s) (q.mono (msk_sub E.sub))
theorem bs_asg {ts : List Nat} (h : BE X C ρ e d) (hg : BG X C ρ ts tg d ρ1) (hs : swapsWithSole [tg] e pos.line X.env = pure false := by rfl) (hw : swappedStores [tg] e X.env = pure none := by rfl)
    (h1 : (assignEach [tg] X.env).map (·.2) = [assign tg X.env] := by rfl) : BS X C ρ (.Assign [tg] e pos) (.nx ρ1) :=
  bs_of (ps_asg (pe_sem e) (pg_sem tg) hs hw h1) fun M0 H0 M H σ D o0 E k => h M H σ _ E.ok fun v H' s q => hg M H' σ v _ (E.ok.mono s) q fun σ' E' t => k M H' σ' ((E.mono s).tgt E' t) (msk_mono s)
theorem bs_setT {i : Nat} {t : TE} (hp : PS X st (tAsg t (gName i))) (h : ∀ M H σ Q, EnvOk X.K C M H σ ρ → (∀ v H', Same H H' → Dn X.K C (Msk M H') v d → Q v H') → t σ H Q) : BS X C ρ st (.nx (ρ.set i (.im d))) :=
  bs_of hp fun M0 H0 M H σ D o0 E k => h M H σ _ E.ok fun v H' s q => k M H' _ ⟨(E.ok.mono s).set q, E.same.trans s, E.sub, fun j es l h1 h2 => by
    obtain ⟨a, b⟩ := set_im_own (σ := σ) (x := some v) h1
    rw [b] at h2
    exact E.fresh j es l a h2⟩ (msk_mono s)
theorem bs_set (i : Nat) {x : Str} {pos' : Pos} (hN : X.N.Nodup) (h : BE X C ρ e d) (hi : X.N[i]? = some x := by rfl) (hx : Loc X.env.scope x := by first | exact Or.inl rfl | exact Or.inr rfl) (hs : swapsWith e (some (.Name x pos')) pos.line X.env = pure false := by rfl)
    (hf : X.fn x = true ∨ X.env.scope.names.lookup x = some .local := by first | exact .inl rfl | exact .inr rfl) : BS X C ρ (.Assign [.Name x pos'] e pos) (.nx (ρ.set i (.im d))) :=
  bs_setT (ps_set hN hi hx (pe_sem e) hs hf) h
theorem bs_fresh {i : Nat} {t : TE} (hp : PS X st (tAsg t (gName i))) (h : FrT X C ρ t ds) : BS X C ρ st (.nx (ρ.set i (.ow ds))) :=
  bs_of hp fun M0 H0 M H σ D o0 E k => h M H σ _ E.ok fun l vs H' s hn hl q => by
    obtain ⟨E', s'⟩ := E.put (i := i) s hn hl q
    exact k _ H' _ E' s'
theorem bs_setF (i : Nat) {x : Str} {pos' : Pos} (hN : X.N.Nodup) (h : BF X C ρ e ds) (hi : X.N[i]? = some x := by rfl) (hx : Loc X.env.scope x := by first | exact Or.inl rfl | exact Or.inr rfl) (hs : swapsWith e (some (.Name x pos')) pos.line X.env = pure false := by rfl)
    (hf : X.fn x = true ∨ X.env.scope.names.lookup x = some .local := by first | exact .inl rfl | exact .inr rfl) : BS X C ρ (.Assign [.Name x pos'] e pos) (.nx (ρ.set i (.ow ds))) :=
  bs_fresh (ps_set hN hi hx (pe_sem e) hs hf) h
theorem frt_be {t : TE} (h : FrT X C ρ t ds) : ∀ M H σ Q, EnvOk X.K C M H σ ρ → (∀ v H', Same H H' → Dn X.K C (Msk M H') v (.list ds) → Q v H') → t σ H Q := fun M H σ Q E k =>
  h M H σ Q E fun l vs H' s hn hl q => k _ H' s (.lst (by rw [msk_nin (E.own.new hn)]; exact hl) (q.mono msk_out))
theorem bs_if {A B : List Stmt} {c : Expr} {q : Bool} (hc : BT X C ρ c q) (hA : q = true → BSs X C ρ A o) (hB : q = false → BSs X C ρ B o) : BS X C ρ (.If c A B pos) o :=
  bs_of (ps_if (pt_sem c) (pss_sem A) (pss_sem B)) fun M0 H0 M H σ D o0 E k => hc M H σ _ E.ok fun H1 s1 => by
    cases q with
    | true => exact iteT (hA rfl M0 H0 M H1 σ D o0 (E.mono s1) (post_after k (msk_mono s1)))
    | false => exact iteF (hB rfl M0 H0 M H1 σ D o0 (E.mono s1) (post_after k (msk_mono s1)))
/-! #### loops -/
inductive Lp (X : Cx) (C : Addr) (tg : Expr) (body : List Stmt) : REnv → List PyData → Out → Prop
  | nil {ρ : REnv} : Lp X C tg body ρ [] (.nx ρ)
  | step {ρ ρ1 ρ2 : REnv} {d : PyData} {ds : List PyData} {o : Out} (ts : List Nat) : BG X C ρ ts tg d ρ1 → BSs X C ρ1 body (.nx ρ2) → Lp X C tg body ρ2 ds o → Lp X C tg body ρ (d :: ds) o
  | ret {ρ ρ1 : REnv} {d d' : PyData} {ds : List PyData} (ts : List Nat) : BG X C ρ ts tg d ρ1 → BSs X C ρ1 body (.rt d') → Lp X C tg body ρ (d :: ds) (.rt d')
theorem bs_for {iter : Expr} {body : List Stmt} (hp : PassesOwn (model X.prog X.w) X.A X.env X.xe) (hc : X.calm = true) (hi : BIm X C ρ tg iter ds) (hl : Lp X C tg body ρ ds o) (hs : ∀ x, foldedSetIterable iter X.env x = pure x := by intro _; rfl) :
    BS X C ρ (.For tg iter body [] pos) o :=
  bs_of (ps_for hp hc (pi_sem tg iter) (pg_sem tg) (pss_sem body) hs) fun M0 H0 M H σ D o0 E k => hi M H σ _ E.ok fun J H1 s1 j => by
    refine ⟨fun i m σ' H' => m = ds.length - i ∧ i ≤ ds.length ∧ ∃ M' ρ', EnvS X.K C M0 H0 M' H' σ' ρ' ∧ Same (Msk M H1) (Msk M' H') ∧ Lp X C tg body ρ' (ds.drop i) o, ⟨_, rfl, Nat.zero_le _, M, ρ, E.mono s1, Same.refl _, hl⟩, ?_⟩
    rintro i m σ' H' ⟨rfl, hi, M', ρ', E', s', L⟩
    by_cases hlt : i < ds.length
    · rw [List.drop_eq_getElem_cons hlt] at L
      obtain ⟨hgo, hy⟩ := (j M' H' s' E'.ok.own i).2 ds[i] (List.getElem?_eq_getElem hlt)
      refine .inr ⟨hgo, fun σ2 H2 => (i + 1) ≤ ds.length ∧ ∃ M' ρ', EnvS X.K C M0 H0 M' H2 σ2 ρ' ∧ Same (Msk M H1) (Msk M' H2) ∧ Lp X C tg body ρ' (ds.drop (i + 1)) o, fun σ2 H2 w => ⟨ds.length - (i + 1), by omega, rfl, w⟩, fun x H2 y => ?_⟩
      obtain ⟨s2, qx⟩ := hy x H2 y
      have E2 := E'.mono s2
      have sm := s'.trans (msk_mono s2)
      cases L with
      | step ts hg hb hn =>
        exact hg M' H2 σ' x _ E2.ok qx fun σ3 E3 t3 => hb M0 H0 M' H2 σ3 _ o0 (E2.tgt E3 t3) fun M4 H4 σ4 E4 s4 => ⟨hlt, M4, _, E4, sm.trans s4, hn⟩
      | ret ts hg hb =>
        exact hg M' H2 σ' x _ E2.ok qx fun σ3 E3 t3 => hb M0 H0 M' H2 σ3 _ o0 (E2.tgt E3 t3) k
    · have e : i = ds.length := by omega
      subst e
      rw [List.drop_length] at L
      cases L
      exact .inl ⟨(j M' H' s' E'.ok.own _).1 (Nat.le_refl _), k M' H' σ' E' ((msk_mono s1).trans s')⟩
inductive Wl (X : Cx) (C : Addr) (c : Expr) (body : List Stmt) : Nat → REnv → Out → Prop
  | stop {ρ : REnv} {n : Nat} : BT X C ρ c false → Wl X C c body n ρ (.nx ρ)
  | step {ρ ρ1 : REnv} {o : Out} {n : Nat} : BT X C ρ c true → BSs X C ρ body (.nx ρ1) → Wl X C c body n ρ1 o → Wl X C c body (n + 1) ρ o
theorem bs_while {c : Expr} {body : List Stmt} {n : Nat} (hp : PassesOwn (model X.prog X.w) X.A X.env X.xe) (hw : Wl X C c body n ρ o) : BS X C ρ (.While c body [] pos) o :=
  bs_of (ps_while hp (pt_sem c) (pss_sem body)) fun M0 H0 M H σ D o0 E k => by
    refine ⟨fun m σ' H' => ∃ M' ρ', EnvS X.K C M0 H0 M' H' σ' ρ' ∧ Same (Msk M H) (Msk M' H') ∧ Wl X C c body m ρ' o, ⟨n, M, ρ, E, Same.refl _, hw⟩, ?_⟩
    rintro m σ' H' ⟨M', ρ', E', s', W⟩
    cases W with
    | stop ht => exact ht M' H' σ' _ E'.ok fun H2 s2 => iteF (k M' H2 σ' (E'.mono s2) (s'.trans (msk_mono s2)))
    | @step _ ρ1 _ n ht hb hn =>
      exact ht M' H' σ' _ E'.ok fun H2 s2 => iteT ⟨fun σ3 H3 => ∃ M' ρ', EnvS X.K C M0 H0 M' H3 σ3 ρ' ∧ Same (Msk M H) (Msk M' H3) ∧ Wl X C c body n ρ' o, fun σ3 H3 w => ⟨n, Nat.lt_succ_self n, w⟩,
        hb M0 H0 M' H2 σ' _ o0 (E'.mono s2) fun M4 H4 σ4 E4 s4 => ⟨M4, ρ1, E4, (s'.trans (msk_mono s2)).trans s4, hn⟩⟩
/-! #### owned lists changed -/
theorem bs_append (i : Nat) {x : Str} {p1 apos pos2 : Pos} (hr : ρ[i]? = some (.ow ds)) (h : BE X C ρ e d) (hlen : ds.length < 1000000) (hN : X.N[i]? = some x := by rfl) (hv : Vis X.env.scope x := by first | exact Or.inl rfl | exact Or.inr (Or.inl rfl) | exact Or.inr (Or.inr rfl))
    (hd : (x == ("__debug__" : Str)) = false := by decide) (hcd : (x == ("__classdict__" : Str)) = false := by decide) (he : NS X e := by rfl) (hbase : attributeBase (.Name x p1) "append" X.env (eval (.Name x p1) X.env) = eval (.Name x p1) X.env := by rfl)
    (hfew : FewOk X pos [e] := by rfl) (hline : (apos.endLine == pos.line) = true := by rfl) (hsw : swapsWith (.Call (.Attribute (.Name x p1) "append" apos) [e] [] pos) none pos2.line X.env = pure false := by rfl) :
    BS X C ρ (.Expr (.Call (.Attribute (.Name x p1) "append" apos) [e] [] pos) pos2) (.nx (ρ.set i (.ow (ds ++ [d])))) :=
  bs_of (ps_expr (pe_bm PySem.F.plainAttrs_list PySem.F.slot_list_append PySem.F.type_list_append mt_append (pe_var hN hv hd hcd) (pa_cons (pe_sem e) pa_nil he) hbase hfew hline he) hsw) fun M0 H0 M H σ D o0 E k => by
    obtain ⟨l, vs, a1, a2, a3, a4⟩ := E.ok.ow hr
    refine ⟨_, a1, .inl ⟨rfl, _, SqL.of a3⟩, h M H σ _ E.ok fun y H2 s2 q2 => ⟨l, vs, y, rfl, rfl, s2 _ _ a3, ?_, ?_⟩⟩
    · rw [a4.length]; exact line_lt hlen
    · obtain ⟨E3, e3⟩ := (E.mono s2).mut hr a1 ((a4.mono (msk_mono s2)).append (.cons q2 .nil))
      exact k M _ σ E3 (by rw [e3]; exact msk_mono s2)
theorem bs_extend (i : Nat) {x : Str} {p1 apos pos2 : Pos} (hr : ρ[i]? = some (.ow ds)) (h : BE X C ρ e (.list dt)) (hlen : ds.length + dt.length ≤ 1000000) (hN : X.N[i]? = some x := by rfl) (hv : Vis X.env.scope x := by first | exact Or.inl rfl | exact Or.inr (Or.inl rfl) | exact Or.inr (Or.inr rfl))
    (hd : (x == ("__debug__" : Str)) = false := by decide) (hcd : (x == ("__classdict__" : Str)) = false := by decide) (he : NS X e := by rfl) (hbase : attributeBase (.Name x p1) "extend" X.env (eval (.Name x p1) X.env) = eval (.Name x p1) X.env := by rfl)
    (hfew : FewOk X pos [e] := by rfl) (hline : (apos.endLine == pos.line) = true := by rfl) (hsw : swapsWith (.Call (.Attribute (.Name x p1) "extend" apos) [e] [] pos) none pos2.line X.env = pure false := by rfl) :
    BS X C ρ (.Expr (.Call (.Attribute (.Name x p1) "extend" apos) [e] [] pos) pos2) (.nx (ρ.set i (.ow (ds ++ dt)))) :=
  bs_of (ps_expr (pe_bm PySem.F.plainAttrs_list PySem.F.slot_list_extend PySem.F.type_list_extend mt_extend (pe_var hN hv hd hcd) (pa_cons (pe_sem e) pa_nil he) hbase hfew hline he) hsw) fun M0 H0 M H σ D o0 E k => by
    obtain ⟨l, vs, a1, a2, a3, a4⟩ := E.ok.ow hr
    refine ⟨_, a1, .inl ⟨rfl, _, SqL.of a3⟩, h M H σ _ E.ok fun y H2 s2 q2 => ?_⟩
    obtain ⟨b, ws, rfl, b1, b2⟩ := q2.lst_inv
    refine ⟨l, b, vs, ws, rfl, rfl, s2 _ _ a3, msk_same M H2 _ _ b1, ?_, ?_⟩
    · rw [a4.length, b2.length]; exact line_of hlen
    · obtain ⟨E3, e3⟩ := (E.mono s2).mut hr a1 ((a4.mono (msk_mono s2)).append b2)
      exact k M _ σ E3 (by rw [e3]; exact msk_mono s2)
end
end G6

set_option Elab.async false
set_option linter.all false
set_option maxRecDepth 100000
set_option maxHeartbeats 4000000
namespace G6
open PySem PySem.Spec PyProof.Rows L2
/-! ### the class -/
def objD (dn dl : PyData) : PyData := .dict [(.str "net", dn), (.str "layers", dl)]
structure ClsF (K : PySem.W.Frag) (C : Addr) : Prop where
  cl : Cls K C
  nN : NoAttr K C "net"
  nL : NoAttr K C "layers"
  ha : PySem.W.findIn K (.ref C) "__class__" = some (some (.builtin "object.__class__"))
  hn : PySem.W.specialIn K (.builtin "object.__class__") "__get__" = some (some (.builtin "getset_descriptor.__get__"))
  ht : PySem.W.takesIn K (.builtin "object.__class__") = some true
  hm : PySem.W.mroIn K C (.type "object") = some true
theorem Dn.obj_inv {K : PySem.W.Frag} {C : Addr} {H : Hp} {v : V} {dn dl : PyData} (h : Dn K C H v (objD dn dl)) : ∃ a dx vn vl, v = .ref a ∧ H a = some (.ins C dx [("net", vn), ("layers", vl)]) ∧ Dn K C H vn dn ∧ Dn K C H vl dl := by
  unfold objD at h
  cases h with
  | obj h1 h2 h3 => exact ⟨_, _, _, _, rfl, h1, h2, h3⟩
theorem lk_net (vn vl : V) : ([(("net" : Str), vn), (("layers" : Str), vl)] : List (Str × V)).lookup ("net" : Str) = some vn := rfl
theorem ln_ne : (("layers" : Str) == ("net" : Str)) = false := by decide +kernel
theorem lk_layers (vn vl : V) : ([(("net" : Str), vn), (("layers" : Str), vl)] : List (Str × V)).lookup ("layers" : Str) = some vl := by
  rw [List.lookup_cons, ln_ne]
  rfl
section
variable {X : Cx} {C : Addr} {ρ ρ1 : REnv} {e a b tg : Expr} {es : List Expr} {d da db dn dl : PyData} {ds dt : List PyData} {pos p : Pos} {st : Stmt} {rest : List Stmt} {o : Out}
theorem be_net (T : ClsF X.K C) (h : BE X C ρ e (objD dn dl)) (hb : attributeBase e "net" X.env (eval e X.env) = eval e X.env := by rfl) : BE X C ρ (.Attribute e "net" pos) dn :=
  be_of (pe_fld (pe_sem e) hb) fun M H σ Q E k => h M H σ _ E fun v H1 s1 q1 => by
    obtain ⟨a, dx, vn, vl, rfl, h1, h2, h3⟩ := q1.obj_inv
    exact ⟨a, C, dx, _, vn, rfl, msk_same M H1 _ _ h1, T.cl, T.nN, lk_net vn vl, k vn H1 s1 h2⟩
theorem be_layers (T : ClsF X.K C) (h : BE X C ρ e (objD dn dl)) (hb : attributeBase e "layers" X.env (eval e X.env) = eval e X.env := by rfl) : BE X C ρ (.Attribute e "layers" pos) dl :=
  be_of (pe_fld (pe_sem e) hb) fun M H σ Q E k => h M H σ _ E fun v H1 s1 q1 => by
    obtain ⟨a, dx, vn, vl, rfl, h1, h2, h3⟩ := q1.obj_inv
    exact ⟨a, C, dx, _, vl, rfl, msk_same M H1 _ _ h1, T.cl, T.nL, lk_layers vn vl, k vl H1 s1 h3⟩
/-- the promise of __init__ -/
def spInit (K : PySem.W.Frag) (C : Addr) (R : PyData → PyData → PyData → PyData → Prop) : Sp := fun vs H Q _ => ∃ M x dx v1 v2 d1 d2 dn dl, vs = [.ref x, v1, v2] ∧ Own M H ∧ H x = some (.ins C dx []) ∧ x ∉ M ∧ (∀ a o, H a = some o → a ≠ x → H a = some o) ∧ Dn K C (Msk (x :: M) H) v1 d1 ∧ Dn K C (Msk (x :: M) H) v2 d2 ∧ R d1 d2 dn dl ∧
  ∀ H' vn vl, (∀ a o, a ≠ x → H a = some o → H' a = some o) → H' x = some (.ins C dx [("net", vn), ("layers", vl)]) → Dn K C (Msk (x :: M) H') vn dn → Dn K C (Msk (x :: M) H') vl dl → Q .non H'
theorem be_make {R : PyData → PyData → PyData → PyData → Prop} {k : Nat} {f : Addr} {fd : FuncData} {x : Str} (Mk' : Mk X.K C f) (F : FnOk X.prog X.w X.K X.mg X.base CX0 k f fd ["self", "net", "layers"] (spInit X.K C R)) (hr : Room (k + 1) X.A) (hg : Gl X x) (hm : X.mg x = some (.ref C)) (hb : Binds X.K fd ["self", "net", "layers"] [])
    (ha : BE X C ρ a da) (hbb : BE X C ρ b db) (hR : R da db dn dl) (hdb : (x == ("__debug__" : Str)) = false := by decide) (he : starEach [a, b] X.env = (false, eval a X.env) :: starEach [b] X.env := by rfl) (he2 : NS X b := by rfl) (hpl : (backTo pos (starEach [b] X.env)).any (·.1) = false := by rfl) :
    BE X C ρ (.Call (.Name x p) [a, b] [] pos) (objD dn dl) :=
  be_of (pe_make Mk' F hr hg hm hb .nil pass0 (pa_cons (pe_sem a) (pa_cons (pe_sem b) pa_nil he2) he) hdb he hpl) fun M H σ Q E k => ha M H σ _ E fun v1 H1 s1 q1 => hbb M H1 σ _ (E.mono s1) fun v2 H2 s2 q2 => fun x dx hx hdx hne => by
    have o2 := E.own.mono (s1.trans s2)
    have nx : x ∉ M := o2.new hx
    have ndx : dx ∉ M := o2.new hdx
    have sm : Same H2 (upd (upd H2 dx (.own x)) x (.ins C dx [])) := fun c u h => by rw [upd_ne (ne_of_none h hx), upd_ne (ne_of_none h hdx)]; exact h
    have sk : Same (Msk M H2) (Msk (x :: M) (upd (upd H2 dx (.own x)) x (.ins C dx []))) := fun c u h => by
      have hc := msk_same M H2 c u h
      have n1 := ne_of_none hc hx
      have q : c ∉ M := fun z => by rw [msk_in z] at h; cases h
      rw [msk_nin (by simp [n1, q])]
      exact sm c u hc
    refine ⟨M, x, dx, v1, v2, da, db, dn, dl, rfl, o2.mono sm, upd_same, nx, fun a o h _ => h, (q1.mono (msk_mono s2)).mono sk, q2.mono sk, hR, fun H' vn vl hk hx' hn hl => ⟨rfl, ?_⟩⟩
    have s3 : Same H2 H' := fun c u h => hk c u (ne_of_none h hx) (sm c u h)
    refine k _ H' ((s1.trans s2).trans s3) (.obj (dx := dx) (vn := vn) (vl := vl) (by rw [msk_nin nx]; exact hx') (hn.mono msk_out) (hl.mono msk_out))
/-- o.m(e, ..) -/
theorem be_meth {R : List PyData → PyData → Prop} {k : Nat} {f : Addr} {fd : FuncData} {ps : List Str} {m : Str} {apos : Pos} {pl : Sem Bool} (T : ClsF X.K C) (hm : Meth X.K C m f) (F : FnOk X.prog X.w X.K X.mg X.base CX0 k f fd ps (spD X.K C R)) (hr : Room k X.A) (hb : Binds X.K fd ps [])
    (h1 : ¬ m = "net") (h2 : ¬ m = "layers") (ho : BE X C ρ e (objD dn dl)) (ha : BA X C ρ (a :: es) ds) (hR : R (objD dn dl :: ds) d) (hst : starEach (a :: es) X.env = (false, eval a X.env) :: starEach es X.env := by rfl) (hpl : (backTo pos (starEach es X.env)).any (·.1) = false := by rfl)
    (ht : eval (.Call (.Attribute e m apos) (a :: es) [] pos) X.env = (do
      let ov ← eval e X.env
      standAt apos.atName
      let (f, first) ← holding [ov] (getMethod ov m pl)
      callWith pos f first (backTo pos (starEach (a :: es) X.env)) (backToKw pos (keywordEach [] X.env))) := by rfl) : BE X C ρ (.Call (.Attribute e m apos) (a :: es) [] pos) d :=
  be_of (pe_meth (pe_sem e) T.cl hm F hr hb .nil pass0 (pa_sem _) hst hpl ht) fun M H σ Q E k => ho M H σ _ E fun v H1 s1 q1 => by
    obtain ⟨c, dx, vn, vl, rfl, g1, g2, g3⟩ := id q1.obj_inv
    refine ⟨c, dx, _, rfl, msk_same M H1 _ _ g1, ?_, ha M H1 σ _ (E.mono s1) fun vs H2 s2 q2 => ⟨M, _, d, E.own.mono (s1.trans s2), ?_, hR, fun v H' s q => k v H' ((s1.trans s2).trans s) q⟩⟩
    · rw [List.lookup_cons, beq_eq_false_iff_ne.mpr h1, List.lookup_cons, beq_eq_false_iff_ne.mpr h2]
      rfl
    · rw [List.append_nil]
      exact .cons (q1.mono (msk_mono s2)) q2
/-- len(o) by an own __len__ -/
theorem call_lenO {R : List PyData → PyData → Prop} {k n : Nat} {f : Addr} {fd : FuncData} {ps : List Str} (hs : PySem.W.findIn X.K (.ref C) "__len__" = some (some (.ref f))) (hf : PySem.W.isFn X.K (.ref f) = true) (F : FnOk X.prog X.w X.K X.mg X.base CX0 k f fd ps (spD X.K C R)) (hr : Room (k + 1) X.A) (hb : Binds X.K fd ps [])
    (hc : X.calm = true) (hR : R [objD dn dl] (.int (n : Nat))) (hn : n ≤ 1000000) : CallR X (.builtin "len") fun xs H Q => ∃ M v, xs = [v] ∧ Own M H ∧ Dn X.K C (Msk M H) v (objD dn dl) ∧ ∀ H', Same H H' → Q (.int (n : Nat)) H' := by
  intro pins s σ H xs us Q I r h
  obtain ⟨M, v, rfl, o, q, k'⟩ := h
  obtain ⟨a, dx, vn, vl, rfl, h1, h2, h3⟩ := id q.obj_inv
  rw [Vals.ref1 r]
  obtain ⟨mA, J, _⟩ := ins_get I.hok (msk_same M H _ _ h1)
  obtain ⟨od, J, _⟩ := J.look
  obtain ⟨m, hF⟩ := I.fr
  refine PySem.W.len_K hF I.ok.mod.kin J hs hf ?_
  have hsp : spD X.K C R [.ref a] H (fun v H' => v = .int (n : Nat) ∧ Same H H') (fun _ _ _ => False) := ⟨M, _, _, o, .cons q .nil, hR, fun v H' s q => ⟨q.int_inv, s⟩⟩
  have hl := F.len _ _ _ _ hsp
  have r2 : Vals [V.ref a] [Value.ref a] := .cons rfl .nil
  refine wpAny_call (codeAny_mono (F.run X.A.in1 X.stack s H ⟨[.ref a], []⟩ [.ref a] [.ref a] _ _ hr.in1 I.env0.in1 (by
    have z := hb s [.ref a] I.kIn (by simpa using hl)
    simpa using z) r2 hsp) fun r s' hq => ?_)
  cases r with
  | error e => exact False.elim hq
  | ok fl =>
    cases fl with
    | ret u =>
      obtain ⟨z, H', I', rz, ez, ex⟩ := I.after hq
      subst ez
      obtain ⟨t, rfl⟩ := rz
      exact ⟨by omega, .int (n : Nat), H', I'.tok _, ⟨_, rfl⟩, k' H' ex⟩
    | next => exact False.elim hq
    | brk => exact False.elim hq
    | cont => exact False.elim hq
theorem be_lenO {R : List PyData → PyData → Prop} {k n : Nat} {f : Addr} {fd : FuncData} {ps : List Str} {pn : Pos} (hs : PySem.W.findIn X.K (.ref C) "__len__" = some (some (.ref f))) (hf : PySem.W.isFn X.K (.ref f) = true) (F : FnOk X.prog X.w X.K X.mg X.base CX0 k f fd ps (spD X.K C R)) (hr : Room (k + 1) X.A) (hb : Binds X.K fd ps [])
    (hc : X.calm = true) (hg : Gl X "len") (hm : X.mg "len" = none) (hR : R [objD dn dl] (.int (n : Nat))) (hn : n ≤ 1000000) (h : BE X C ρ e (objD dn dl)) (he : NS X e := by rfl) : BE X C ρ (.Call (.Name "len" pn) [e] [] pos) (.int (n : Nat)) :=
  be_callB (he := he) (call_lenO hs hf F hr hb hc hR hn) hg hm PySem.boot_len (ba_cons h ba_nil he) fun M H xs Q o q k => by
    obtain ⟨v, rfl, qv⟩ := q.one
    exact ⟨M, v, rfl, o, qv, fun H' s => k _ H' s (.int _)⟩
/-- o == p by an own __eq__ that says True -/
def eqRel (K : PySem.W.Frag) (C : Addr) (R : List PyData → PyData → Prop) : Addr → Addr → Hp → Prop := fun a b H => ∃ M d e, Own M H ∧ Dn K C (Msk M H) (.ref a) d ∧ Dn K C (Msk M H) (.ref b) e ∧ R [d, e] (.bool true)
theorem be_eqO {R : List PyData → PyData → Prop} {k : Nat} {f : Addr} {fd : FuncData} {ps : List Str} {dn' dl' : PyData} (hs : PySem.W.findIn X.K (.ref C) "__eq__" = some (some (.ref f))) (hf : PySem.W.isFn X.K (.ref f) = true) (F : FnOk X.prog X.w X.K X.mg X.base CX0 k f fd ps (spD X.K C R)) (hr : Room k X.A) (hb : Binds X.K fd ps [])
    (ha : BE X C ρ a (objD dn dl)) (hbb : BE X C ρ b (objD dn' dl')) (hR : R [objD dn dl, objD dn' dl'] (.bool true)) : BE X C ρ (.Compare a [.Eq] [b] pos) (.bool true) :=
  be_cmp (op_eqG (rcG_ins (R := eqRel X.K C R) (E := E0) (F.imp fun vs H Q E h => by
    obtain ⟨a, b, rfl, ⟨M, d, e, o, h1, h2, hR⟩, k⟩ := h
    exact ⟨M, _, _, o, .cons h1 (.cons h2 .nil), hR, fun v H' s q => by rw [q.bl_inv]; exact k H' s⟩) hs hf hb pass0) hr) ha hbb (nomark _) fun M H x y Q o hx hy k => by
    obtain ⟨c, dx, vn, vl, rfl, g1, g2, g3⟩ := id hx.obj_inv
    obtain ⟨c', dx', vn', vl', rfl, g1', g2', g3'⟩ := id hy.obj_inv
    exact ⟨⟨c, c', dx, dx', _, _, rfl, rfl, msk_same M H _ _ g1, msk_same M H _ _ g1', M, _, _, o, hx, hy, hR⟩, fun H' s => k _ H' s (.bl _)⟩

/-! ### isinstance -/
theorem tyx_any {K : PySem.W.Frag} {H : Hp} {v : V} {d : PyData} (T : ClsF K C) (h : Dn K C H v d) : ∃ t, TyX K H v t ∧ match d with
    | .int _ => t = .type "int"
    | .bool _ => t = .type "bool"
    | .list _ => t = .type "list"
    | .tuple _ => t = .type "tuple"
    | .dict _ => t = .ref C
    | _ => True := by
  cases h with
  | non => exact ⟨_, .base .non, trivial⟩
  | bl b => exact ⟨_, .base (.bl b), rfl⟩
  | int i => exact ⟨_, .base (.int i), rfl⟩
  | str x => exact ⟨_, .base (.str x), trivial⟩
  | lst h a => exact ⟨_, .base (.lst h), rfl⟩
  | tup h a => exact ⟨_, .base (.tup h), rfl⟩
  | obj h a b => exact ⟨_, .base (.ins h T.cl T.ha T.hn T.ht T.hm), rfl⟩
theorem Dn.up {K : PySem.W.Frag} {M : List Addr} {H : Hp} {v : V} (h : Dn K C (Msk M H) v d) : Dn K C H v d := h.mono (msk_same M H)
/-- isinstance(e, T), T a built-in class by its name; the answer by k -/
theorem be_isi {pn pt : Pos} {T : String} {c : Bool} (hg : Gl X "isinstance") (hm : X.mg "isinstance" = none) (h : BE X C ρ e d) {x : Str} (hgT : Gl X x) (hmT : X.mg x = none) (hbT : bootBuiltins x = some (.type T))
    (hty : ∀ H v, Dn X.K C H v d → ∃ t, TyX X.K H v t ∧ PySem.W.kitOne X.K t (.type T) = some c) (hn : x ≠ "__name__" := by decide) (hd : (x == ("__debug__" : Str)) = false := by decide) (he : starEach [e, .Name x pt] X.env = (false, eval e X.env) :: starEach [.Name x pt] X.env := by rfl) : BE X C ρ (.Call (.Name "isinstance" pn) [e, .Name x pt] [] pos) (.bool c) :=
  be_of (pe_callB call_isi hg hm PyProof.Rows.boot_isinstance (pa_cons (pe_sem e) (pa_cons (pe_bltn (v := .ty T) hgT hmT hbT rfl hn hd) pa_nil) he) (he := he)) fun M H σ Q E k => h M H σ _ E fun v H1 s1 q1 => by
    obtain ⟨t, h1, h2⟩ := hty H1 v q1.up
    exact ⟨v, .ty T, t, .type T, c, rfl, .ty T, h1, h2, k _ H1 s1 (.bl _)⟩
theorem be_isiC {pn pt : Pos} {c : Bool} (hg : Gl X "isinstance") (hm : X.mg "isinstance" = none) (h : BE X C ρ e d) {x : Str} (hgT : Gl X x) (hmT : X.mg x = some (.ref C))
    (hty : ∀ H v, Dn X.K C H v d → ∃ t, TyX X.K H v t ∧ PySem.W.kitOne X.K t (.ref C) = some c) (hd : (x == ("__debug__" : Str)) = false := by decide) (he : starEach [e, .Name x pt] X.env = (false, eval e X.env) :: starEach [.Name x pt] X.env := by rfl) : BE X C ρ (.Call (.Name "isinstance" pn) [e, .Name x pt] [] pos) (.bool c) :=
  be_of (pe_callB call_isi hg hm PyProof.Rows.boot_isinstance (pa_cons (pe_sem e) (pa_cons (pe_glob (v := .ref C) hgT hmT rfl hd) pa_nil) he) (he := he)) fun M H σ Q E k => h M H σ _ E fun v H1 s1 q1 => by
    obtain ⟨t, h1, h2⟩ := hty H1 v q1.up
    exact ⟨v, .ref C, t, .ref C, c, rfl, .own C, h1, h2, k _ H1 s1 (.bl _)⟩
theorem be_isiTT {pn pt p1 p2 : Pos} {kk : Nat} {c : Bool} {T1 T2 : String} {x y : Str} (hg : Gl X "isinstance") (hm : X.mg "isinstance" = none) (h : BE X C ρ e d) (hg1 : Gl X x) (hm1 : X.mg x = none) (hb1 : bootBuiltins x = some (.type T1)) (hg2 : Gl X y) (hm2 : X.mg y = none) (hb2 : bootBuiltins y = some (.type T2))
    (hty : ∀ H v, Dn X.K C H v d → ∃ t, TyX X.K H v t ∧ PySem.W.kitAny X.K t [.type T1, .type T2] = some c) (hn : x ≠ "__name__" := by decide) (hd : (x == ("__debug__" : Str)) = false := by decide) (hn2 : y ≠ "__name__" := by decide) (hd2 : (y == ("__debug__" : Str)) = false := by decide)
    (he : starEach [e, .Tuple [.Name x p1, .Name y p2] kk pt] X.env = (false, eval e X.env) :: starEach [.Tuple [.Name x p1, .Name y p2] kk pt] X.env := by rfl) : BE X C ρ (.Call (.Name "isinstance" pn) [e, .Tuple [.Name x p1, .Name y p2] kk pt] [] pos) (.bool c) :=
  be_of (pe_callB call_isiT hg hm PyProof.Rows.boot_isinstance (pa_cons (pe_sem e) (pa_cons (pe_tup (pa_cons (pe_bltn (v := .ty T1) hg1 hm1 hb1 rfl hn hd) (pa_cons (pe_bltn (v := .ty T2) hg2 hm2 hb2 rfl hn2 hd2) pa_nil))) pa_nil) he) (he := he)) fun M H σ Q E k => h M H σ _ E fun v H1 s1 q1 =>
    ⟨by show 2 ≤ sizeLine; decide, fun q hq => by
      obtain ⟨t, h1, h2⟩ := hty _ v (q1.up.mono (same_new (u := .tup [.ty T1, .ty T2]) hq))
      exact ⟨v, q, [.ty T1, .ty T2], t, [.type T1, .type T2], c, rfl, upd_same, .cons (.ty T1) (.cons (.ty T2) .nil), h1, h2, k _ _ (s1.trans (same_new hq)) (.bl _)⟩⟩
end
end G6

set_option Elab.async false
set_option linter.all false
set_option maxRecDepth 100000
set_option maxHeartbeats 4000000
namespace G6
open PySem PySem.Spec PyProof.Rows L2
/-! ### tuples of ints, sets and sorted lists of them -/
def tupI (r : List Int) : PyData := .tuple (r.map PyData.int)
abbrev PT1 (K : PySem.W.Frag) (C : Addr) (H : Hp) : V → List Int → Prop := fun v r => ∃ a, v = .ref a ∧ H a = some (.tup (r.map V.int))
theorem pt1_of {K : PySem.W.Frag} {C : Addr} {H : Hp} : ∀ {rows : List (List Int)} {vs : List V}, DnAll K C H vs (rows.map tupI) → Paired (PT1 K C H) vs rows
  | [], _, h => by cases h; exact .nil
  | r :: rows, _, h => by
    cases h with
    | cons a b =>
      obtain ⟨c, xs, rfl, h1, h2⟩ := a.tup_inv
      rw [h2.ints] at h1
      exact .cons ⟨c, rfl, h1⟩ (pt1_of b)
theorem pt1_to {K : PySem.W.Frag} {C : Addr} {H : Hp} : ∀ {rows : List (List Int)} {vs : List V}, Paired (PT1 K C H) vs rows → DnAll K C H vs (rows.map tupI)
  | _, _, .nil => .nil
  | _, _, .cons ⟨c, e, h⟩ b => by
    subst e
    exact .cons (.tup h (dnAll_ints _)) (pt1_to b)
theorem paired_perm {α β : Type} {P : α → β → Prop} {xs xs' : List α} (p : xs.Perm xs') : ∀ {ys : List β}, Paired P xs ys → ∃ ys', ys.Perm ys' ∧ Paired P xs' ys' := by
  induction p with
  | nil => intro ys h; cases h; exact ⟨[], .refl _, .nil⟩
  | cons x _ ih =>
    intro ys h
    cases h with
    | cons a b =>
      obtain ⟨ys', h1, h2⟩ := ih b
      exact ⟨_ :: ys', h1.cons _, .cons a h2⟩
  | swap x y l =>
    intro ys h
    cases h with
    | cons a b =>
      cases b with
      | cons c d => exact ⟨_, List.Perm.swap _ _ _, .cons c (.cons a d)⟩
  | trans _ _ i1 i2 =>
    intro ys h
    obtain ⟨y1, h1, h2⟩ := i1 h
    obtain ⟨y2, h3, h4⟩ := i2 h2
    exact ⟨y2, h1.trans h3, h4⟩
theorem paired_ks {K : PySem.W.Frag} {C : Addr} {H : Hp} : ∀ {rows : List (List Int)} {vs : List V}, Paired (PT1 K C H) vs rows → ∃ ks : List (Addr × List Int), vs = ks.map (fun p => V.ref p.1) ∧ rows = ks.map (·.2) ∧ ∀ p ∈ ks, H p.1 = some (.tup (p.2.map V.int))
  | _, _, .nil => ⟨[], rfl, rfl, fun p h => nomatch h⟩
  | r :: _, _, .cons ⟨c, e, h⟩ b => by
    subst e
    obtain ⟨ks, e1, e2, h3⟩ := paired_ks b
    refine ⟨(c, r) :: ks, by rw [List.map_cons, e1], by rw [List.map_cons, e2], fun p hp => ?_⟩
    rcases List.mem_cons.mp hp with rfl | hp
    · exact h
    · exact h3 p hp
theorem ks_paired {K : PySem.W.Frag} {C : Addr} {H : Hp} : ∀ {ks : List (Addr × List Int)}, (∀ p ∈ ks, H p.1 = some (.tup (p.2.map V.int))) → Paired (PT1 K C H) (ks.map fun p => V.ref p.1) (ks.map (·.2))
  | [], _ => .nil
  | p :: ks, h => .cons ⟨p.1, rfl, h p List.mem_cons_self⟩ (ks_paired fun q hq => h q (List.mem_cons_of_mem _ hq))
section
variable {X : Cx} {C : Addr} {ρ ρ1 : REnv} {e a b tg : Expr} {es : List Expr} {d da db dn dl : PyData} {ds dt : List PyData} {pos p : Pos} {st : Stmt} {rest : List Stmt} {o : Out}
/-- sorted(xs), xs a list of tuples of n ints in [0, B) -/
theorem be_sortedTs {pn : Pos} {rows ms : List (List Int)} {n : Nat} {B : Int} (hn : 1 ≤ n) (hg : Gl X "sorted") (hm : X.mg "sorted" = none) (h : BL X C ρ e (rows.map tupI)) (h64 : rows.length < 64) (hrow : ∀ r ∈ rows, r.length = n ∧ TS.Bd B r)
    (hms : ∀ rows' : List (List Int), rows'.Perm rows → rows'.Pairwise (fun q r => TS.code B q ≤ TS.code B r) → rows' = ms) (he : NS X e := by rfl) : BF X C ρ (.Call (.Name "sorted" pn) [e] [] pos) (ms.map tupI) :=
  bf_of (pe_callB (cr_sortT (d := n) (B := B) hn) hg hm (by decide +kernel) (pa_cons (pe_sem e) pa_nil he) (he := he)) fun M H σ Q E k => h M H σ _ E fun a vs H1 s1 h1 q1 => by
    have P0 := pt1_of q1
    have key : ∀ {us : List V} {rs : List (List Int)}, Paired (PT1 X.K C (Msk M H1)) us rs → (∀ r ∈ rs, r ∈ rows) → ∀ x ∈ us, ∃ r ∈ rs, TupI X.K H1 x r := by
      intro us rs P
      induction P with
      | nil => intro _ x hx; cases hx
      | cons hab _ ih =>
        intro hr x hx
        rcases List.mem_cons.mp hx with rfl | hx
        · obtain ⟨c, rfl, hc⟩ := hab
          exact ⟨_, List.mem_cons_self, c, rfl, SqT.of (msk_same M H1 _ _ hc)⟩
        · obtain ⟨r, h1, h2⟩ := ih (fun r h => hr r (List.mem_cons_of_mem _ h)) x hx
          exact ⟨r, List.mem_cons_of_mem _ h1, h2⟩
    refine ⟨a, vs, rfl, SqL.of h1, by rw [q1.length, List.length_map]; exact h64, fun x hx => ?_, fun ys q pm pw hq => ?_⟩
    · obtain ⟨r, h1, h2⟩ := key P0 (fun r h => h) x hx
      exact ⟨r, h2, hrow r h1⟩
    · obtain ⟨rows', p1, P1⟩ := paired_perm pm.symm P0
      have pw2 : rows'.Pairwise (fun q r => TS.code B q ≤ TS.code B r) := by
        have gen : ∀ {us : List V} {rs : List (List Int)}, Paired (PT1 X.K C (Msk M H1)) us rs → us.Pairwise (fun x y => ∀ n m, TupI X.K H1 x n → TupI X.K H1 y m → TS.code B n ≤ TS.code B m) → rs.Pairwise (fun q r => TS.code B q ≤ TS.code B r) := by
          intro us rs P
          induction P with
          | nil => intro _; exact .nil
          | @cons x r us rs hab P ih =>
            intro hp
            cases hp with
            | cons h1 h2 =>
              refine .cons (fun r2 hr2 => ?_) (ih h2)
              obtain ⟨c, rfl, hc⟩ := hab
              have : ∀ {us : List V} {rs : List (List Int)}, Paired (PT1 X.K C (Msk M H1)) us rs → ∀ r2 ∈ rs, ∃ y ∈ us, TupI X.K H1 y r2 := by
                intro us rs P
                induction P with
                | nil => intro r2 h; cases h
                | cons hab _ ih =>
                  intro r2 h
                  rcases List.mem_cons.mp h with rfl | h
                  · obtain ⟨c, rfl, hc⟩ := hab
                    exact ⟨_, List.mem_cons_self, c, rfl, SqT.of (msk_same M H1 _ _ hc)⟩
                  · obtain ⟨y, h1, h2⟩ := ih r2 h
                    exact ⟨y, List.mem_cons_of_mem _ h1, h2⟩
              obtain ⟨y, hy, ty⟩ := this P r2 hr2
              exact h1 y hy _ _ ⟨c, rfl, SqT.of (msk_same M H1 _ _ hc)⟩ ty
        exact gen P1 pw
      have e1 := hms rows' p1.symm pw2
      subst e1
      exact k q ys _ (s1.trans (same_new hq)) (s1.free hq) upd_same ((pt1_to P1).mono (msk_open hq))
/-- sorted(set(xs)) -/
theorem be_sortedSet {pn ps2 pos2 : Pos} {rows ms : List (List Int)} {n : Nat} {B : Int} (hc : X.calm = true) (hu : X.A.units + 64 < cLine) (hn : 1 ≤ n) (hg : Gl X "sorted") (hm : X.mg "sorted" = none) (hg2 : Gl X "set") (hm2 : X.mg "set" = none) (h : BL X C ρ e (rows.map tupI)) (h64 : rows.length < 64) (hrow : ∀ r ∈ rows, r.length = n ∧ TS.Bd B r)
    (hms : ∀ rows' : List (List Int), (∀ r, r ∈ rows' ↔ r ∈ rows) → rows'.Nodup → rows'.Pairwise (fun q r => TS.code B q ≤ TS.code B r) → rows' = ms) (he : NS X e := by rfl) (he2 : NS X (.Call (.Name "set" ps2) [e] [] pos2) := by rfl) : BF X C ρ (.Call (.Name "sorted" pn) [.Call (.Name "set" ps2) [e] [] pos2] [] pos) (ms.map tupI) :=
  bf_of (pe_callB (cr_sortedT hc) hg hm (by decide +kernel) (pa_cons (pe_callTy (cr_setOfT hc hu) hg2 hm2 (by decide +kernel) (pa_cons (pe_sem e) pa_nil he) (he := he)) pa_nil he2) (he := he2)) fun M H σ Q E k => h M H σ _ E fun a vs H1 s1 h1 q1 => by
    obtain ⟨ks, ev, er, hk⟩ := paired_ks (pt1_of q1)
    subst ev
    refine ⟨a, ks, rfl, SqL.of h1, fun p hp => SqT.of (msk_same M H1 _ _ (hk p hp)), by rw [er, List.length_map] at h64; exact h64, fun q L hq hsub hall => ?_⟩
    have sq : Same H1 (upd H1 q (SetTO X.prog X.w q L)) := same_new hq
    have o1 := E.own.mono s1
    refine ⟨q, L, n, B, rfl, upd_same, fun p hp => SqT.of (sq _ _ (msk_same M H1 _ _ (hk p (hsub p hp)))), hn, fun p hp => hrow _ (by rw [er]; exact List.mem_map.mpr ⟨p, hsub p hp, rfl⟩), fun L' q2 pm nd _ pw hq2 => ?_⟩
    have e1 : L'.map (·.2) = ms := by
      refine hms _ (fun r => ⟨fun hr => ?_, fun hr => ?_⟩) nd (List.pairwise_map.mpr pw)
      · obtain ⟨p, hp, rfl⟩ := List.mem_map.mp hr
        rw [er]
        exact List.mem_map.mpr ⟨p, hsub p (pm.mem_iff.mp hp), rfl⟩
      · rw [er] at hr
        obtain ⟨p, hp, rfl⟩ := List.mem_map.mp hr
        obtain ⟨p', hp', e'⟩ := List.mem_map.mp (hall p hp)
        exact List.mem_map.mpr ⟨p', pm.mem_iff.mpr hp', e'⟩
    have sm : Same (Msk M H1) (Msk (q2 :: M) (upd (upd H1 q (SetTO X.prog X.w q L)) q2 (.lst (L'.map fun p => V.ref p.1)))) := (msk_mono sq).trans (msk_open hq2)
    refine k q2 _ _ ((s1.trans sq).trans (same_new hq2)) ((s1.trans sq).free hq2) upd_same ?_
    rw [← e1]
    exact pt1_to (ks_paired fun p hp => sm _ _ (hk p (hsub p (pm.mem_iff.mp hp))))

/-! ### stores to owned lists -/
theorem set_own_at {i : Nat} {s : Sl} (hr : ρ[i]? = some s) (t : Sl) : (ρ.set i t)[i]? = some t := List.getElem?_set_self (List.getElem?_eq_some_iff.mp hr).1
theorem ixN_nat {n k : Nat} (h : k < n) : ixN n (k : Int) = some k := by
  unfold ixN
  rw [if_pos (by omega), if_pos (by omega)]
  rfl
theorem bs_store (i : Nat) {x : Str} {p1 p2 : Pos} {k : Nat} {ix : Int} (hr : ρ[i]? = some (.ow ds)) (he : BE X C ρ e d) (hb : BE X C ρ b (.int ix)) (hix : ix = (k : Int)) (hk : k < ds.length) (hN : X.N[i]? = some x := by rfl) (hv : Vis X.env.scope x := by first | exact Or.inl rfl | exact Or.inr (Or.inl rfl) | exact Or.inr (Or.inr rfl))
    (hd : (x == ("__debug__" : Str)) = false := by decide) (hcd : (x == ("__classdict__" : Str)) = false := by decide) (hs : swapsWithSole [.Subscript (.Name x p1) b p2] e pos.line X.env = pure false := by rfl) (hw : swappedStores [.Subscript (.Name x p1) b p2] e X.env = pure none := by rfl)
    (h1 : (assignEach [.Subscript (.Name x p1) b p2] X.env).map (·.2) = [assign (.Subscript (.Name x p1) b p2) X.env] := by rfl)
    (ha : ∀ v, assign (.Subscript (.Name x p1) b p2) X.env v = (do
      let ov ← holding [v] (eval (.Name x p1) X.env)
      let iv ← holding [v, ov] (eval b X.env)
      standAt p2
      holding [v, ov, iv] (setItem ov iv v)
      release [v, ov, iv] []) := by intro _; rfl) : BS X C ρ (.Assign [.Subscript (.Name x p1) b p2] e pos) (.nx (ρ.set i (.ow (ds.set k d)))) :=
  bs_of (ps_asg (pe_sem e) (pg_sub (pe_var hN hv hd hcd) (pe_sem b) set_list ha) hs hw h1) fun M0 H0 M H σ D o0 E kk => he M H σ _ E.ok fun v H1 s1 q1 => by
    obtain ⟨l, vs, a1, a2, a3, a4⟩ := E.ok.ow hr
    refine ⟨_, a1, hb M H1 σ _ (E.ok.mono s1) fun w H2 s2 q2 => ⟨l, vs, ix, k, rfl, q2.int_inv, s2 _ _ (s1 _ _ a3), ?_, ?_⟩⟩
    · rw [hix]
      exact ixN_nat (by rw [a4.length]; exact hk)
    · obtain ⟨E3, e3⟩ := (E.mono (s1.trans s2)).mut hr a1 (DnAll.set (q1.mono (msk_mono s2)) k (a4.mono (msk_mono (s1.trans s2))))
      exact kk M _ σ E3 (by rw [e3]; exact msk_mono (s1.trans s2))
/-- x[b1], x[b2] = a pair -/
theorem bs_store2 (i : Nat) {x : Str} {p1 p2 p3 p4 pt : Pos} {b2 : Expr} {kt : Nat} {d1 d2 : PyData} {k1 k2 : Nat} (hc : X.calm = true) (hr : ρ[i]? = some (.ow ds)) (he : BE X C ρ e (.tuple [d1, d2])) (hb : BE X C ρ b (.int (k1 : Nat))) (hb2 : BE X C (ρ.set i (.ow (ds.set k1 d1))) b2 (.int (k2 : Nat)))
    (hk1 : k1 < ds.length) (hk2 : k2 < ds.length) (hN : X.N[i]? = some x := by rfl) (hv : Vis X.env.scope x := by first | exact Or.inl rfl | exact Or.inr (Or.inl rfl) | exact Or.inr (Or.inr rfl))
    (hd : (x == ("__debug__" : Str)) = false := by decide) (hcd : (x == ("__classdict__" : Str)) = false := by decide) (hs : swapsWithSole [.Tuple [.Subscript (.Name x p1) b p2, .Subscript (.Name x p3) b2 p4] kt pt] e pos.line X.env = pure false := by rfl) (hw : swappedStores [.Tuple [.Subscript (.Name x p1) b p2, .Subscript (.Name x p3) b2 p4] kt pt] e X.env = pure none := by rfl)
    (h1 : (assignEach [.Tuple [.Subscript (.Name x p1) b p2, .Subscript (.Name x p3) b2 p4] kt pt] X.env).map (·.2) = [assign (.Tuple [.Subscript (.Name x p1) b p2, .Subscript (.Name x p3) b2 p4] kt pt) X.env] := by rfl)
    (ha : ∀ v, assign (.Subscript (.Name x p1) b p2) X.env v = (do
      let ov ← holding [v] (eval (.Name x p1) X.env)
      let iv ← holding [v, ov] (eval b X.env)
      standAt p2
      holding [v, ov, iv] (setItem ov iv v)
      release [v, ov, iv] []) := by intro _; rfl)
    (ha2 : ∀ v, assign (.Subscript (.Name x p3) b2 p4) X.env v = (do
      let ov ← holding [v] (eval (.Name x p3) X.env)
      let iv ← holding [v, ov] (eval b2 X.env)
      standAt p4
      holding [v, ov, iv] (setItem ov iv v)
      release [v, ov, iv] []) := by intro _; rfl)
    (hn : (assignEach [.Subscript (.Name x p1) b p2, .Subscript (.Name x p3) b2 p4] X.env).length = 2 := by rfl) (hst : (assignEach [.Subscript (.Name x p1) b p2, .Subscript (.Name x p3) b2 p4] X.env).findIdx? (·.1) = none := by rfl)
    (hs1 : (assignEach [.Subscript (.Name x p1) b p2, .Subscript (.Name x p3) b2 p4] X.env).map (·.2) = assign (.Subscript (.Name x p1) b p2) X.env :: (assignEach [.Subscript (.Name x p3) b2 p4] X.env).map (·.2) := by rfl)
    (hs2 : (assignEach [.Subscript (.Name x p3) b2 p4] X.env).map (·.2) = assign (.Subscript (.Name x p3) b2 p4) X.env :: (assignEach [] X.env).map (·.2) := by rfl) :
    BS X C ρ (.Assign [.Tuple [.Subscript (.Name x p1) b p2, .Subscript (.Name x p3) b2 p4] kt pt] e pos) (.nx (ρ.set i (.ow ((ds.set k1 d1).set k2 d2)))) :=
  bs_of (ps_asg (pe_sem e) (pg_tup hc (pgs_cons (pg_sub (pe_var hN hv hd hcd) (pe_sem b) set_list ha) (pgs_cons (pg_sub (pe_var hN hv hd hcd) (pe_sem b2) set_list ha2) pgs_nil hs2) hs1) hn hst) hs hw h1) fun M0 H0 M H σ D o0 E kk => he M H σ _ E.ok fun v H1 s1 q1 => by
    obtain ⟨t, xs, rfl, ht, qt⟩ := q1.tup_inv
    obtain ⟨v1, v2, rfl, qv1, qv2⟩ := qt.two
    obtain ⟨l, vs, a1, a2, a3, a4⟩ := E.ok.ow hr
    refine ⟨t, _, rfl, SqT.of (msk_same M H1 _ _ ht), rfl, v1, _, rfl, _, a1, hb M H1 σ _ (E.ok.mono s1) fun w H2 s2 q2 => ⟨l, vs, _, k1, rfl, q2.int_inv, s2 _ _ (s1 _ _ a3), ixN_nat (by rw [a4.length]; exact hk1), ?_⟩⟩
    obtain ⟨E3, e3⟩ := (E.mono (s1.trans s2)).mut hr a1 (DnAll.set (qv1.mono (msk_mono s2)) k1 (a4.mono (msk_mono (s1.trans s2))))
    have m3 : Same (Msk M H1) (Msk M (upd H2 l (.lst (vs.set k1 v1)))) := by rw [e3]; exact msk_mono s2
    refine ⟨v2, _, rfl, _, a1, hb2 M _ σ _ E3.ok fun w2 H4 s4 q4 => ⟨l, vs.set k1 v1, _, k2, rfl, q4.int_inv, s4 _ _ upd_same, ixN_nat (by rw [List.length_set, a4.length]; exact hk2), ?_⟩⟩
    have hr3 := set_own_at hr (.ow (ds.set k1 d1))
    obtain ⟨E5, e5⟩ := (E3.mono s4).mut hr3 a1 (DnAll.set ((qv2.mono m3).mono (msk_mono s4)) k2 ((DnAll.set (qv1.mono m3) k1 (a4.mono ((msk_mono s1).trans m3))).mono (msk_mono s4)))
    rw [List.set_set] at E5
    exact ⟨rfl, kk M _ σ E5 (by rw [e5]; exact ((msk_mono s1).trans m3).trans (msk_mono s4))⟩
/-- a, b = x, y with local names -/
theorem bs_par2 (i j : Nat) {x y : Str} {px py pt : Pos} {kt k2 : Nat} {pt2 : Pos} (hc : X.calm = true) (hN : X.N.Nodup) (h : BA X C ρ [a, b] [da, db]) (hij : i ≠ j) (hi : X.N[i]? = some x := by rfl) (hj : X.N[j]? = some y := by rfl) (hx : X.env.scope.names.lookup x = some .local := by rfl) (hy : X.env.scope.names.lookup y = some .local := by rfl)
    (hw : swappedStores [.Tuple [.Name x px, .Name y py] kt pt] (.Tuple [a, b] k2 pt2) X.env = pure (some [x, y]) := by rfl) (hs : swapsWithSole [.Tuple [.Name x px, .Name y py] kt pt] (.Tuple [a, b] k2 pt2) pos.line X.env = pure false := by rfl) :
    BS X C ρ (.Assign [.Tuple [.Name x px, .Name y py] kt pt] (.Tuple [a, b] k2 pt2) pos) (.nx ((ρ.set i (.im da)).set j (.im db))) :=
  bs_of (ps_par hc hN hi hj hij hx hy (pa_sem _) hw hs) fun M0 H0 M H σ D o0 E k => h M H σ _ E.ok fun vs H1 s1 q1 => by
    obtain ⟨v, w, rfl, q2, q3⟩ := q1.two
    refine ⟨v, w, rfl, k M H1 _ ⟨((E.ok.mono s1).set q2).set q3, E.same.trans s1, E.sub, fun n es l h1 h2 => ?_⟩ (msk_mono s1)⟩
    obtain ⟨a1, b1⟩ := set_im_own (σ := σ.set i (some v)) (x := some w) h1
    obtain ⟨a2, b2⟩ := set_im_own (σ := σ) (x := some v) a1
    rw [b1, b2] at h2
    exact E.fresh n es l a2 h2
/-- a, b, c = x, [], z with local names: the middle one owned -/
theorem bs_par3 (i j l : Nat) {x y z : Str} {c : Expr} {dc : PyData} {px py pz pt pl : Pos} {kt k2 : Nat} {pt2 : Pos} (hc : X.calm = true) (hN : X.N.Nodup) (ha : BE X C ρ a da) (hcc : BE X C ρ c dc) (hij : i ≠ j) (hil : i ≠ l) (hjl : j ≠ l) (hi : X.N[i]? = some x := by rfl) (hj : X.N[j]? = some y := by rfl) (hl : X.N[l]? = some z := by rfl)
    (hx : X.env.scope.names.lookup x = some .local := by rfl) (hy : X.env.scope.names.lookup y = some .local := by rfl) (hz : X.env.scope.names.lookup z = some .local := by rfl)
    (hs1 : starEach [a, .List [] pl, c] X.env = (false, eval a X.env) :: starEach [.List [] pl, c] X.env := by rfl) (hs2 : starEach [.List [] pl, c] X.env = (false, eval (.List [] pl) X.env) :: starEach [c] X.env := by rfl) (hs3 : NS X c := by rfl)
    (hw : swappedStores [.Tuple [.Name x px, .Name y py, .Name z pz] kt pt] (.Tuple [a, .List [] pl, c] k2 pt2) X.env = pure (some [x, y, z]) := by rfl) (hs : swapsWithSole [.Tuple [.Name x px, .Name y py, .Name z pz] kt pt] (.Tuple [a, .List [] pl, c] k2 pt2) pos.line X.env = pure false := by rfl) :
    BS X C ρ (.Assign [.Tuple [.Name x px, .Name y py, .Name z pz] kt pt] (.Tuple [a, .List [] pl, c] k2 pt2) pos) (.nx (((ρ.set i (.im da)).set j (.ow [])).set l (.im dc))) :=
  bs_of (ps_par3 hc hN hi hj hl hij hil hjl hx hy hz (pa_cons (pe_sem a) (pa_cons (pe_lst pa_nil) (pa_cons (pe_sem c) pa_nil hs3) hs2) hs1) hw hs) fun M0 H0 M H σ D o0 E k => ha M H σ _ E.ok fun v H1 s1 q1 => ⟨Nat.zero_le _, fun q hq => hcc (q :: M) _ σ _ ((E.ok.mono s1).open hq) fun w H3 s3 q3 => by
    refine ⟨v, .ref q, w, rfl, ?_⟩
    have Ea : EnvS X.K C M0 H0 M H1 (σ.set i (some v)) (ρ.set i (.im da)) := ⟨(E.ok.mono s1).set q1, E.same.trans s1, E.sub, fun n es l h1 h2 => by
      obtain ⟨a2, b2⟩ := set_im_own (σ := σ) (x := some v) h1
      rw [b2] at h2
      exact E.fresh n es l a2 h2⟩
    have hq3 : H3 q = some (.lst []) := s3 _ _ upd_same
    have sH : Same H1 H3 := (same_new (u := .lst []) hq).trans s3
    obtain ⟨Eb, sb⟩ := Ea.put (i := j) (l := q) (vs := []) (ds := []) sH hq hq3 .nil
    refine k (q :: M) H3 _ ⟨Eb.ok.set q3, Eb.same, Eb.sub, fun n es l h1 h2 => ?_⟩ ((msk_mono s1).trans sb)
    obtain ⟨a2, b2⟩ := set_im_own (σ := ((σ.set i (some v)).set j (some (.ref q)))) (x := some w) h1
    rw [b2] at h2
    exact Eb.fresh n es l a2 h2⟩
end
/-! ### a def by its body, over data -/
def startR (N : List Str) (ds : List PyData) : REnv := ds.map Sl.im ++ List.replicate (N.length - ds.length) .no
theorem start_env {K : PySem.W.Frag} {C : Addr} {M : List Addr} {H : Hp} {vs : List V} {ds : List PyData} {N : List Str} (o : Own M H) (h : DnAll K C (Msk M H) vs ds) : EnvOk K C M H (start N vs) (startR N ds) := by
  have hl := h.length
  have no_ow : ∀ (i : Nat) (es : List PyData), (startR N ds)[i]? = some (.ow es) → False := fun i es hi => by
    unfold startR at hi
    have hm := List.mem_of_getElem? hi
    rcases List.mem_append.mp hm with z | z
    · obtain ⟨d, _, e⟩ := List.mem_map.mp z
      cases e
    · have e := (List.mem_replicate.mp z).2
      cases e
  refine ⟨o, ?_, fun i s hi => ?_, fun i j di dj l h1 _ _ _ => (no_ow i di h1).elim⟩
  · unfold L2.start startR
    rw [List.length_append, List.length_append, List.length_map, List.length_map, List.length_replicate, List.length_replicate, hl]
  · cases s with
    | no => trivial
    | ow es => exact (no_ow i es hi).elim
    | im d =>
      unfold startR at hi
      by_cases hlt : i < ds.length
      · rw [List.getElem?_append_left (by rw [List.length_map]; exact hlt), List.getElem?_map, List.getElem?_eq_getElem hlt] at hi
        cases hi
        obtain ⟨v, hv, qv⟩ := h.get (List.getElem?_eq_getElem hlt)
        refine ⟨v, ?_, qv⟩
        unfold L2.start
        rw [List.getElem?_append_left (by rw [List.length_map, hl]; exact hlt), List.getElem?_map, hv]
        rfl
      · rw [List.getElem?_append_right (by rw [List.length_map]; omega)] at hi
        have e := (List.mem_replicate.mp (List.mem_of_getElem? hi)).2
        cases e
section
variable {P : Program} {w : World} {K : PySem.W.Frag} {mg : Str → Option Value} {base : Heap} {C : Addr}
theorem fnD {R : List PyData → PyData → Prop} {x qual : Str} {st : Stmt} {f : Addr} {fd : FuncData} {N ps : List Str} {k : Nat} (F : Fun K x qual st f fd) (S : FnScope N ps (defScope st)) (hl : ∀ ds d, R ds d → ds.length = ps.length)
    (body : ∀ (cdv : Value) (A : Around) (outer : List Env) (s : Shared) (H : Hp) (E : XK), Room k (A.deeper (envOfC qual (defScope st) s.heap.objs.size f cdv)) → ∀ ds d, R ds d →
      BSs (cxOf CX0 P w K mg base N qual (defScope st) f cdv A outer s H E).nox C (startR N ds) (defBody st) (.rt d) ∨ (d = .none ∧ ∃ ρ', BSs (cxOf CX0 P w K mg base N qual (defScope st) f cdv A outer s H E).nox C (startR N ds) (defBody st) (.nx ρ'))) :
    FnOk P w K mg base CX0 (k + 1) f fd ps (spD K C R) := by
  refine F.ok S (fun vs H Q E h => ?_) (fun cdv A outer s H vs Q E hr h => ?_)
  · obtain ⟨M, ds, d, o, h1, h2, _⟩ := h
    rw [h1.length]
    exact hl ds d h2
  · obtain ⟨M, ds, d, o, h1, h2, kk⟩ := h
    have E0 : EnvS K C M H M H (start N vs) (startR N ds) := ⟨start_env o h1, Same.refl H, fun _ h => h, fun i es l hi _ => by
      have E1 := start_env (N := N) o h1
      unfold startR at hi
      have hm := List.mem_of_getElem? hi
      rcases List.mem_append.mp hm with z | z
      · obtain ⟨d, _, e⟩ := List.mem_map.mp z
        cases e
      · have e := (List.mem_replicate.mp z).2
        cases e⟩
    refine ⟨_, pss_sem _, ?_⟩
    rcases body cdv A outer s H E hr ds d h2 with b | ⟨rfl, ρ', b⟩
    · exact b M H M H (start N vs) _ o E0 fun v H' s' q => kk v H' s' q
    · exact b M H M H (start N vs) _ o E0 fun M' H' σ' E' _ => kk .non H' E'.same .non
end
end G6

set_option Elab.async false
set_option linter.all false
set_option maxRecDepth 100000
namespace G6
/-! The mirrors: what each def computes, over lists of Nat. -/
abbrev Row := List Nat
abbrev Net := List (Nat × Nat)
def codeN : Row → Nat
  | [] => 0
  | x :: xs => x * 2 ^ xs.length + codeN xs
/-- put in by code, equal codes once -/
def insU (r : Row) : List Row → List Row
  | [] => [r]
  | h :: t => if codeN r < codeN h then r :: h :: t else if codeN r = codeN h then h :: t else h :: insU r t
def srtU : List Row → List Row
  | [] => []
  | r :: t => insU r (srtU t)
/-- put in by code, each kept -/
def insD (r : Row) : List Row → List Row
  | [] => [r]
  | h :: t => if codeN r ≤ codeN h then r :: h :: t else h :: insD r t
def srtD : List Row → List Row
  | [] => []
  | r :: t => insD r (srtD t)
def swp (r : Row) (p : Nat × Nat) : Row := if r.getD p.2 0 < r.getD p.1 0 then (r.set p.1 (r.getD p.2 0)).set p.2 (r.getD p.1 0) else r
def led (net : Net) (r : Row) : Row := net.foldl swp r
def beh (rows : List Row) (net : Net) : List Row := srtU (rows.map (led net))
def insN (a : Nat) : List Nat → List Nat
  | [] => [a]
  | h :: t => if a ≤ h then a :: h :: t else h :: insN a t
def isort : List Nat → List Nat
  | [] => []
  | a :: t => insN a (isort t)
def ascR (r : Row) : Bool := decide (r = isort r)
def asc (rows : List Row) : Bool := rows.all ascR
def partStep (found : List Row) (many : Nat) : List Row := (found.map fun row => (List.range (many + 1)).map fun ones => row ++ (List.replicate (many - ones) 0 ++ List.replicate ones 1)).flatten
def parted (parts : List Nat) : List Row := parts.foldl partStep [[]]
def rowsOf (parts : List Nat) : List Row := srtD (parted parts)
def excs (w : Nat) : Net := ((List.range w).map fun second => (List.range second).map fun first => (first, second)).flatten
def ordStep (found : List Row) (lane : Nat) : List Row := (found.map fun row => (List.range (row.length + 1)).map fun at_ => row.take at_ ++ lane :: row.drop at_).flatten
def ords (w : Nat) : List Row := (List.range w).foldl ordStep [[]]
def maxN : List Nat → Nat
  | [] => 0
  | a :: t => max a (maxN t)
def cnts (rows : List Row) : List Nat := (List.range (maxN (rows.map List.sum) + 1)).map fun n => (rows.map List.sum).count n
def permR (r od : Row) : Row := od.map fun l => r.getD l 0
def covL (one other : List Row) (os : List Row) : Bool := os.any fun od => one.all fun r => other.any fun z => decide (z = permR r od)
def cov (one other : List Row) (os : List Row) : Bool :=
  if decide (other.length < one.length) || ((cnts one).zip (cnts other)).any (fun p => decide (p.2 < p.1)) then false else covL one other os
abbrev Layer := List (Net × List Row)
def nxtStep (os : List Row) (n : Net) (rows : List Row) (found : Layer) (x : Nat × Nat) : Layer :=
  if !decide (beh rows [x] = rows) && !(found.any fun p => cov p.2 (beh rows [x]) os) then (found.filter fun p => !cov (beh rows [x]) p.2 os) ++ [(n ++ [x], beh rows [x])] else found
def nxt (layer : Layer) (w : Nat) (os : List Row) : Layer := layer.foldl (fun f p => (excs w).foldl (nxtStep os p.1 p.2) f) []
def leastGo (w : Nat) (os : List Row) : Nat → Layer → List (List Net) → Option (Net × List (List Net))
  | 0, _, _ => none
  | k + 1, layer, layers => if 100 < layer.length then none else if layer.any (fun p => asc p.2) then (match layer.filter fun p => asc p.2 with
      | [] => none
      | p :: _ => some (p.1, layers))
    else leastGo w os k (nxt layer w os) (layers ++ [layer.map (·.1)])
def leastM (parts : List Nat) : Option (Net × List (List Net)) := leastGo parts.sum (ords parts.sum) 8 [([], rowsOf parts)] []
def isCov (one other : List (List Row)) (xs : Net) (os : List Row) : Bool := one.all fun rows => xs.all fun x => decide (beh rows [x] = rows) || other.any fun less => cov less (beh rows [x]) os
/-- the sets of the layers, where all nets have the numbers and lanes that they must -/
def pairsAll {α : Type} (f : α → α → Bool) : List α → Bool
  | a :: b :: t => f a b && pairsAll f (b :: t)
  | _ => true
def netIn (xs net : Net) : Bool := net.all fun p => xs.any fun q => decide (q = p)
def lensOk (xs : Net) : Nat → List (List Net) → Bool
  | _, [] => true
  | k, layer :: t => layer.all (fun net => decide (net.length = k) && netIn xs net) && lensOk xs (k + 1) t
def firstOk : List (List Net) → Bool
  | [] => true
  | l :: _ => decide (l = [[]])
def showsM (parts : List Nat) (net : Net) (layers : List (List Net)) : Bool :=
  netIn (excs parts.sum) net && asc (beh (rowsOf parts) net) && decide (layers.length = net.length) && lensOk (excs parts.sum) 0 layers && firstOk layers &&
  !((layers.map fun layer => layer.map (beh (rowsOf parts))).any fun layer => layer.any asc) && pairsAll (fun a b => isCov a b (excs parts.sum) (ords parts.sum)) (layers.map fun layer => layer.map (beh (rowsOf parts)))
def lcov (less more os : List Row) : Bool := if decide (more.length < less.length) then false else covL less more os
def lawNxtStep (one : List Row) (more : List (List Row)) (x : Nat × Nat) : List (List Row) := if !decide (beh one [x] = one) && !(more.any fun z => decide (z = beh one [x])) then more ++ [beh one [x]] else more
def lawNxt (sets : List (List Row)) (w : Nat) : List (List Row) := sets.foldl (fun m one => (excs w).foldl (lawNxtStep one) m) []
def lawLeastGo (w : Nat) : Nat → List (List Row) → Nat → Option Nat
  | 0, _, _ => none
  | k + 1, sets, many => if 1000 < sets.length then none else if sets.any asc then some many else lawLeastGo w k (lawNxt sets w) (many + 1)
def lawLeastM (parts : List Nat) : Option Nat := lawLeastGo parts.sum 8 [beh (parted parts) []] 0
def lawLens (xs : Net) (rows : List Row) : Nat → List (List Net) → Bool
  | _, [] => true
  | k, layer :: t => layer.all (fun net => decide (net.length = k) && netIn xs net && !asc (beh rows net)) && lawLens xs rows (k + 1) t
def lawIsCov (rows : List Row) (xs : Net) (os : List Row) (layer after : List Net) : Bool := layer.all fun net => xs.all fun x => decide (beh (beh rows net) [x] = beh rows net) || (after.map (beh rows)).any fun less => lcov less (beh (beh rows net) [x]) os
def rightM (parts : List Nat) (net : Net) (layers : List (List Net)) : Bool :=
  netIn (excs parts.sum) net && asc (beh (parted parts) net) && decide (layers.length = net.length) && lawLens (excs parts.sum) (parted parts) 0 layers && firstOk layers &&
  pairsAll (lawIsCov (parted parts) (excs parts.sum) (ords parts.sum)) layers
end G6

set_option Elab.async false
set_option linter.all false
set_option maxRecDepth 100000
namespace G6
def VRow (n : Nat) (r : Row) : Prop := r.length = n ∧ ∀ x ∈ r, x ≤ 1
theorem codeN_lt : ∀ (r : Row), (∀ x ∈ r, x ≤ 1) → codeN r < 2 ^ r.length
  | [], _ => by simp [codeN]
  | x :: xs, h => by
    have ih := codeN_lt xs fun y hy => h y (List.mem_cons_of_mem _ hy)
    have hx := h x List.mem_cons_self
    have e : x = 0 ∨ x = 1 := by omega
    simp only [codeN, List.length_cons, Nat.pow_succ]
    rcases e with e | e
    · subst e; omega
    · subst e; omega
theorem codeN_inj : ∀ (r q : Row), r.length = q.length → (∀ x ∈ r, x ≤ 1) → (∀ x ∈ q, x ≤ 1) → codeN r = codeN q → r = q
  | [], [], _, _, _, _ => rfl
  | [], _ :: _, h, _, _, _ => by simp at h
  | _ :: _, [], h, _, _, _ => by simp at h
  | x :: xs, y :: ys, hl, h1, h2, e => by
    have hl' : xs.length = ys.length := by simpa using hl
    have a1 := codeN_lt xs fun z hz => h1 z (List.mem_cons_of_mem _ hz)
    have a2 := codeN_lt ys fun z hz => h2 z (List.mem_cons_of_mem _ hz)
    have hx := h1 x List.mem_cons_self
    have hy := h2 y List.mem_cons_self
    simp only [codeN, hl'] at e
    rw [hl'] at a1
    have e1 : x = y := by
      have c1 : x = 0 ∨ x = 1 := by omega
      have c2 : y = 0 ∨ y = 1 := by omega
      rcases c1 with c | c <;> rcases c2 with c' | c' <;> subst c <;> subst c' <;> omega
    subst e1
    have e2 : codeN xs = codeN ys := by omega
    rw [codeN_inj xs ys hl' (fun z hz => h1 z (List.mem_cons_of_mem _ hz)) (fun z hz => h2 z (List.mem_cons_of_mem _ hz)) e2]
theorem VRow.inj {n : Nat} {r q : Row} (a : VRow n r) (b : VRow n q) (e : codeN r = codeN q) : r = q := codeN_inj r q (a.1.trans b.1.symm) a.2 b.2 e
theorem insU_mem {n : Nat} {r : Row} (hr : VRow n r) : ∀ {l : List Row}, (∀ y ∈ l, VRow n y) → ∀ x, x ∈ insU r l ↔ x = r ∨ x ∈ l
  | [], _, x => by simp [insU]
  | h :: t, hl, x => by
    have hh := hl h List.mem_cons_self
    unfold insU
    by_cases c1 : codeN r < codeN h
    · rw [if_pos c1, List.mem_cons]
    · rw [if_neg c1]
      by_cases c2 : codeN r = codeN h
      · rw [if_pos c2]
        have e := hr.inj hh c2
        subst e
        simp
      · rw [if_neg c2, List.mem_cons, insU_mem hr (fun y hy => hl y (List.mem_cons_of_mem _ hy)) x, List.mem_cons]
        constructor
        · rintro (a | a | a)
          · exact .inr (.inl a)
          · exact .inl a
          · exact .inr (.inr a)
        · rintro (a | a | a)
          · exact .inr (.inl a)
          · exact .inl a
          · exact .inr (.inr a)
theorem srtU_mem {n : Nat} : ∀ {l : List Row}, (∀ y ∈ l, VRow n y) → ∀ x, x ∈ srtU l ↔ x ∈ l
  | [], _, x => by simp [srtU]
  | r :: t, hl, x => by
    have ht : ∀ y ∈ t, VRow n y := fun y hy => hl y (List.mem_cons_of_mem _ hy)
    unfold srtU
    rw [insU_mem (hl r List.mem_cons_self) (fun y hy => ht y ((srtU_mem ht y).mp hy)) x, srtU_mem ht x, List.mem_cons]
theorem insU_lt {r : Row} : ∀ {l : List Row}, l.Pairwise (fun a b => codeN a < codeN b) → (insU r l).Pairwise (fun a b => codeN a < codeN b) ∧ ∀ c, c < codeN r → (∀ y ∈ l, c < codeN y) → ∀ y ∈ insU r l, c < codeN y
  | [], _ => by
    refine ⟨by simp [insU], fun c h1 _ y hy => ?_⟩
    simp only [insU, List.mem_singleton] at hy
    subst hy
    exact h1
  | h :: t, hp => by
    cases hp with
    | cons a b =>
      unfold insU
      by_cases c1 : codeN r < codeN h
      · rw [if_pos c1]
        refine ⟨.cons (fun y hy => ?_) (.cons a b), fun c h1 h2 y hy => ?_⟩
        · rcases List.mem_cons.mp hy with e | hy
          · subst e; exact c1
          · exact Nat.lt_trans c1 (a y hy)
        · rcases List.mem_cons.mp hy with e | hy
          · subst e; exact h1
          · exact h2 y hy
      · rw [if_neg c1]
        by_cases c2 : codeN r = codeN h
        · rw [if_pos c2]
          exact ⟨.cons a b, fun c h1 h2 y hy => h2 y hy⟩
        · rw [if_neg c2]
          obtain ⟨p1, p2⟩ := insU_lt (r := r) b
          refine ⟨.cons (p2 (codeN h) (by omega) a) p1, fun c h1 h2 y hy => ?_⟩
          rcases List.mem_cons.mp hy with e | hy
          · subst e; exact h2 _ List.mem_cons_self
          · exact p2 c h1 (fun z hz => h2 z (List.mem_cons_of_mem _ hz)) y hy
theorem srtU_lt : ∀ (l : List Row), (srtU l).Pairwise (fun a b => codeN a < codeN b)
  | [] => .nil
  | r :: t => (insU_lt (srtU_lt t)).1
theorem insD_perm (r : Row) : ∀ l : List Row, (insD r l).Perm (r :: l)
  | [] => .refl _
  | h :: t => by
    unfold insD
    split
    · exact .refl _
    · exact ((insD_perm r t).cons h).trans (.swap _ _ _)
theorem srtD_perm : ∀ l : List Row, (srtD l).Perm l
  | [] => .refl _
  | r :: t => (insD_perm r (srtD t)).trans ((srtD_perm t).cons r)
theorem insD_le {r : Row} : ∀ {l : List Row}, l.Pairwise (fun a b => codeN a ≤ codeN b) → (insD r l).Pairwise (fun a b => codeN a ≤ codeN b)
  | [], _ => by simp [insD]
  | h :: t, hp => by
    cases hp with
    | cons a b =>
      unfold insD
      by_cases c1 : codeN r ≤ codeN h
      · rw [if_pos c1]
        refine .cons (fun y hy => ?_) (.cons a b)
        rcases List.mem_cons.mp hy with e | hy
        · subst e; exact c1
        · exact Nat.le_trans c1 (a y hy)
      · rw [if_neg c1]
        refine .cons (fun y hy => ?_) (insD_le b)
        rcases List.mem_cons.mp ((insD_perm r t).mem_iff.mp hy) with e | hy
        · subst e; omega
        · exact a y hy
theorem srtD_le : ∀ l : List Row, (srtD l).Pairwise (fun a b => codeN a ≤ codeN b)
  | [] => .nil
  | r :: t => insD_le (srtD_le t)
theorem insN_perm (r : Nat) : ∀ l : List Nat, (insN r l).Perm (r :: l)
  | [] => .refl _
  | h :: t => by
    unfold insN
    split
    · exact .refl _
    · exact ((insN_perm r t).cons h).trans (.swap _ _ _)
theorem isort_perm : ∀ l : List Nat, (isort l).Perm l
  | [] => .refl _
  | r :: t => (insN_perm r (isort t)).trans ((isort_perm t).cons r)
theorem insN_le {r : Nat} : ∀ {l : List Nat}, l.Pairwise (· ≤ ·) → (insN r l).Pairwise (· ≤ ·)
  | [], _ => by simp [insN]
  | h :: t, hp => by
    cases hp with
    | cons a b =>
      unfold insN
      by_cases c1 : r ≤ h
      · rw [if_pos c1]
        refine .cons (fun y hy => ?_) (.cons a b)
        rcases List.mem_cons.mp hy with e | hy
        · subst e; exact c1
        · exact Nat.le_trans c1 (a y hy)
      · rw [if_neg c1]
        refine .cons (fun y hy => ?_) (insN_le b)
        rcases List.mem_cons.mp ((insN_perm r t).mem_iff.mp hy) with e | hy
        · subst e; omega
        · exact a y hy
theorem isort_le : ∀ l : List Nat, (isort l).Pairwise (· ≤ ·)
  | [] => .nil
  | r :: t => insN_le (isort_le t)
theorem swp_v {n : Nat} {r : Row} {p : Nat × Nat} (h : VRow n r) (hp : p.1 < n ∧ p.2 < n) : VRow n (swp r p) := by
  unfold swp
  have at_ : ∀ k, r.getD k 0 ≤ 1 := fun k => by
    rw [List.getD_eq_getElem?_getD]
    by_cases hk : k < r.length
    · rw [List.getElem?_eq_getElem hk]
      exact h.2 _ (List.getElem_mem hk)
    · rw [List.getElem?_eq_none (by omega)]
      exact Nat.zero_le _
  split
  · refine ⟨by rw [List.length_set, List.length_set]; exact h.1, fun x hx => ?_⟩
    rcases List.mem_or_eq_of_mem_set hx with hx | e
    · rcases List.mem_or_eq_of_mem_set hx with hx | e
      · exact h.2 x hx
      · subst e; exact at_ _
    · subst e; exact at_ _
  · exact h
theorem led_v {n : Nat} : ∀ {net : Net} {r : Row}, VRow n r → (∀ p ∈ net, p.1 < n ∧ p.2 < n) → VRow n (led net r)
  | [], r, h, _ => h
  | p :: t, r, h, hn => by
    show VRow n (led t (swp r p))
    exact led_v (swp_v h (hn p List.mem_cons_self)) fun q hq => hn q (List.mem_cons_of_mem _ hq)
theorem beh_v {n : Nat} {rows : List Row} {net : Net} (h : ∀ r ∈ rows, VRow n r) (hn : ∀ p ∈ net, p.1 < n ∧ p.2 < n) : ∀ r ∈ beh rows net, VRow n r := fun r hr => by
  have hv : ∀ y ∈ rows.map (led net), VRow n y := fun y hy => by
    obtain ⟨q, hq, e⟩ := List.mem_map.mp hy
    subst e
    exact led_v (h q hq) hn
  exact hv r ((srtU_mem hv r).mp hr)
theorem insU_len (r : Row) : ∀ l : List Row, (insU r l).length ≤ l.length + 1
  | [] => by simp [insU]
  | h :: t => by
    have ih := insU_len r t
    unfold insU
    split
    · simp
    · split
      · simp
      · simp only [List.length_cons]; omega
theorem srtU_len : ∀ l : List Row, (srtU l).length ≤ l.length
  | [] => Nat.le_refl _
  | r :: t => by
    have h1 := insU_len r (srtU t)
    have h2 := srtU_len t
    simp only [srtU, List.length_cons]
    omega
theorem beh_len (rows : List Row) (net : Net) : (beh rows net).length ≤ rows.length := by
  have h := srtU_len (rows.map (led net))
  rw [List.length_map] at h
  exact h
theorem beh_ne {n : Nat} {rows : List Row} {net : Net} (h : ∀ r ∈ rows, VRow n r) (hn : ∀ p ∈ net, p.1 < n ∧ p.2 < n) (hne : rows ≠ []) : beh rows net ≠ [] := by
  have hv : ∀ y ∈ rows.map (led net), VRow n y := fun y hy => by
    obtain ⟨q, hq, e⟩ := List.mem_map.mp hy
    subst e
    exact led_v (h q hq) hn
  cases rows with
  | nil => exact absurd rfl hne
  | cons r t =>
    have : led net r ∈ beh (r :: t) net := (srtU_mem hv _).mpr (by simp)
    intro e
    rw [e] at this
    cases this
end G6

set_option Elab.async false
set_option linter.all false
set_option maxRecDepth 100000
set_option maxHeartbeats 4000000
namespace G6
open PySem PySem.Spec PyProof.Rows L2
/-! ### the text by places -/
def topS (i : Nat) : Stmt := PySem.Challenge.pw_strandloom_k60_whole_fewest.main.body.getD i (.Pass ⟨0, 0, 0, 0⟩)
def stAt (b : List Stmt) (i : Nat) : Stmt := b.getD i (.Pass ⟨0, 0, 0, 0⟩)
def forT : Stmt → Expr
  | .For t _ _ _ _ => t
  | _ => .Name "" ⟨0, 0, 0, 0⟩
def forI : Stmt → Expr
  | .For _ i _ _ _ => i
  | _ => .Name "" ⟨0, 0, 0, 0⟩
def forB : Stmt → List Stmt
  | .For _ _ b _ _ => b
  | .While _ b _ _ => b
  | _ => []
def whC : Stmt → Expr
  | .While c _ _ _ => c
  | _ => .Name "" ⟨0, 0, 0, 0⟩
structure TxtB (mg : Str → Option Value) : Prop where
  isinstance : mg "isinstance" = none
  int : mg "int" = none
  bool : mg "bool" = none
  list : mg "list" = none
  tuple : mg "tuple" = none
  all : mg "all" = none
  any : mg "any" = none
  sum : mg "sum" = none
  range : mg "range" = none
  sorted : mg "sorted" = none
  set : mg "set" = none
  zip : mg "zip" = none
  max : mg "max" = none
  len : mg "len" = none
  enumerate : mg "enumerate" = none
theorem bb_int : bootBuiltins "int" = some (.type "int") := by decide +kernel
theorem bb_bool : bootBuiltins "bool" = some (.type "bool") := by decide +kernel
theorem bb_list : bootBuiltins "list" = some (.type "list") := by decide +kernel
theorem bb_tuple : bootBuiltins "tuple" = some (.type "tuple") := by decide +kernel
/-! ### data -/
def iD (n : Nat) : PyData := .int n
def encR (r : Row) : PyData := .tuple (r.map iD)
def encX (p : Nat × Nat) : PyData := .tuple [iD p.1, iD p.2, .str "up"]
def encN (n : Net) : PyData := .list (n.map encX)
theorem encR_tupI (r : Row) : encR r = tupI (r.map fun (n : Nat) => (n : Int)) := by
  unfold encR tupI
  rw [List.map_map]
  rfl
def NetOk (w : Nat) (n : Net) : Prop := ∀ p ∈ n, p.1 < w ∧ p.2 < w
def RowOk (w : Nat) (r : Row) : Prop := r.length = w ∧ ∀ x ∈ r, x ≤ 1
section
variable {P : Program} {w : World} {K : PySem.W.Frag} {mg : Str → Option Value} {base : Heap} {C : Addr}
/-! ### is_whole -/
abbrev sWhole : Stmt := topS 4
theorem scWhole : FnScope ["thing"] ["thing"] (defScope sWhole) := ⟨rfl, rfl, rfl, by decide +kernel, rfl, by decide +kernel, by decide +kernel⟩
def R_whole : List PyData → PyData → Prop := fun ds d => ∃ i : Int, ds = [.int i] ∧ d = .bool true
theorem ok_whole {f : Addr} {fd : FuncData} (F : Fun K "is_whole" "is_whole" sWhole f fd) (T : TxtB mg) (TC : ClsF K C) : FnOk P w K mg base CX0 1 f fd ["thing"] (spD K C R_whole) := by
  refine fnD F scWhole (fun ds d h => by obtain ⟨i, rfl, _⟩ := h; rfl) fun cdv A outer s H E hr ds d h => ?_
  obtain ⟨i, rfl, rfl⟩ := h
  refine .inl (bss_one (bs_ret (be_eq (be_and (c := true) (be_isi (by rfl) T.isinstance (be_var 0) (by rfl) T.int bb_int fun H v q => ?_) fun _ => be_one (be_not (c := false) (be_isi (by rfl) T.isinstance (be_var 0) (by rfl) T.bool bb_bool fun H v q => ?_))) rfl)))
  · obtain ⟨t, h1, h2⟩ := tyx_any TC q
    exact ⟨t, h1, by rw [h2]; exact kit_ty (by decide +kernel)⟩
  · obtain ⟨t, h1, h2⟩ := tyx_any TC q
    exact ⟨t, h1, by rw [h2]; exact kit_ty (by decide +kernel)⟩
end
end G6

set_option Elab.async false
set_option linter.all false
set_option maxRecDepth 100000
set_option maxHeartbeats 4000000
namespace G6
open PySem PySem.Spec PyProof.Rows L2
theorem sh_int (i : Int) : SeqAt.shaped (.int i) = true := rfl
theorem sh_bool (b : Bool) : SeqAt.shaped (.bool b) = true := rfl
theorem sh_up : SeqAt.shaped (.str ("up" : Str)) = true := by decide +kernel
theorem iD_at {r : Row} {k : Nat} (h : k < r.length) : (r.map iD)[k]? = some (iD (r.getD k 0)) := by
  rw [List.getElem?_map, List.getElem?_eq_getElem h, List.getD_eq_getElem?_getD, List.getElem?_eq_getElem h]
  rfl
theorem swp_len (r : Row) (p : Nat × Nat) : (swp r p).length = r.length := by
  unfold swp
  split
  · rw [List.length_set, List.length_set]
  · rfl
theorem led_len (net : Net) : ∀ r : Row, (led net r).length = r.length := by
  induction net with
  | nil => intro r; rfl
  | cons p t ih => intro r; show (led t (swp r p)).length = _; rw [ih, swp_len]
theorem bs_eq {X : Cx} {C : Addr} {ρ : REnv} {st : Stmt} {o o' : Out} (h : BS X C ρ st o) (e : o = o') : BS X C ρ st o' := e ▸ h
theorem bss_eq {X : Cx} {C : Addr} {ρ : REnv} {st : List Stmt} {o o' : Out} (h : BSs X C ρ st o) (e : o = o') : BSs X C ρ st o' := e ▸ h
/-- the test of an exchange up -/
theorem exch_test (a b : Nat) (s : Str) : ((!PyData.eqv (iD a) (iD b)) && PyData.eqv (.bool (decide ((b : Int) < (a : Int)))) (.bool (PyData.eqv (.str s) (.str s)))) = decide (b < a) := by
  have e1 : PyData.eqv (.str s) (.str s) = true := by simp [PyData.eqv]
  have e2 : PyData.eqv (iD a) (iD b) = decide (a = b) := by
    by_cases h : a = b
    · subst h; simp [iD, PyData.eqv]
    · have : ¬ ((a : Int) = (b : Int)) := by omega
      simp only [iD, PyData.eqv, h, decide_false]
      exact beq_eq_false_iff_ne.mpr this
  rw [e1, e2]
  by_cases h : b < a
  · have h1 : ¬ a = b := by omega
    have h2 : (b : Int) < (a : Int) := by omega
    simp [h, h1, h2, PyData.eqv]
  · have h2 : ¬ (b : Int) < (a : Int) := by omega
    simp [h, h2, PyData.eqv]
section
variable {P : Program} {w : World} {K : PySem.W.Frag} {mg : Str → Option Value} {base : Heap} {C : Addr}
/-! ### led_through -/
abbrev sLed : Stmt := topS 6
abbrev nLed : List Str := ["net", "row", "late", "first", "second", "order"]
theorem scLed : FnScope nLed ["net", "row"] (defScope sLed) := ⟨rfl, rfl, rfl, by decide +kernel, rfl, by decide +kernel, by decide +kernel⟩
def R_led : List PyData → PyData → Prop := fun ds d => ∃ net r, ds = [encN net, encR r] ∧ NetOk r.length net ∧ d = .list ((led net r).map iD)
theorem ok_led {f : Addr} {fd : FuncData} (F : Fun K "led_through" "led_through" sLed f fd) (T : TxtB mg) : FnOk P w K mg base CX0 1 f fd ["net", "row"] (spD K C R_led) := by
  refine fnD F scLed (fun ds d h => by obtain ⟨i, r, rfl, _⟩ := h; rfl) fun cdv A outer s H E hr ds d h => ?_
  obtain ⟨net, r, rfl, hn, rfl⟩ := h
  have loop : ∀ (net : Net) (r : Row) (a b : PyData) (s3 s4 s5 : Sl), NetOk r.length net → ∃ t3 t4 t5 : Sl,
      Lp (cxOf CX0 P w K mg base nLed "led_through" (defScope sLed) f cdv A outer s H E).nox C (forT (stAt (defBody sLed) 1)) (forB (stAt (defBody sLed) 1)) [.im a, .im b, .ow (r.map iD), s3, s4, s5] (net.map encX) (.nx [.im a, .im b, .ow ((led net r).map iD), t3, t4, t5]) := by
    intro net
    induction net with
    | nil => intro r a b s3 s4 s5 _; exact ⟨s3, s4, s5, .nil⟩
    | cons p net ih =>
      intro r a b s3 s4 s5 hn
      have hp := hn p List.mem_cons_self
      obtain ⟨t3, t4, t5, hl⟩ := ih (swp r p) a b (.im (iD p.1)) (.im (iD p.2)) (.im (.str "up")) (by rw [swp_len]; exact fun q hq => hn q (List.mem_cons_of_mem _ hq))
      refine ⟨t3, t4, t5, .step _ (bg_tup rfl (bgs_cons (bg_name 3 scLed.nd) (bgs_cons (bg_name 4 scLed.nd) (bgs_cons (bg_name 5 scLed.nd) bgs_nil)))) ?_ hl⟩
      have e1 : ∀ {ρ : REnv}, ρ[2]? = some (.ow (r.map iD)) → ρ[3]? = some (.im (iD p.1)) → True := fun _ _ => trivial
      refine bss_one (bs_if (bt_bw (bw_and (bt_neD hr.units (be_ixL (bl_own 2) (be_var 3) rfl (iD_at hp.1)) (be_ixL (bl_own 2) (be_var 4) rfl (iD_at hp.2)) rfl rfl) fun _ =>
        bw_and1 (bt_eqD hr.units (be_lt (be_ixL (bl_own 2) (be_var 4) rfl (iD_at hp.2)) (be_ixL (bl_own 2) (be_var 3) rfl (iD_at hp.1))) (be_eqD hr.units (be_var 5) be_str sh_up sh_up) rfl rfl))) (fun hq => ?_) (fun hq => ?_))
      · rw [exch_test] at hq
        have hq := of_decide_eq_true hq
        refine bss_eq (bss_one (bs_store2 2 rfl rfl (be_tup (ba_cons (be_ixL (bl_own 2) (be_var 4) rfl (iD_at hp.2)) (ba_cons (be_ixL (bl_own 2) (be_var 3) rfl (iD_at hp.1)) ba_nil))) (be_var 3) (be_var 4) (by rw [List.length_map]; exact hp.1) (by rw [List.length_map]; exact hp.2))) ?_
        have e : (swp r p).map iD = ((r.map iD).set p.1 (iD (r.getD p.2 0))).set p.2 (iD (r.getD p.1 0)) := by
          unfold swp
          rw [if_pos hq, List.map_set, List.map_set]
        rw [e]
        rfl
      · rw [exch_test] at hq
        have hq := of_decide_eq_false hq
        have e : swp r p = r := by
          unfold swp
          rw [if_neg hq]
        rw [e]
        exact bss_nil
  obtain ⟨t3, t4, t5, hl⟩ := loop net r (encN net) (encR r) .no .no .no hn
  exact .inl (bss_cons (bs_setF 2 scLed.nd (bf_listT (by rfl) T.list (be_var 1))) (bss_cons (bs_for PassesOwn.never rfl (bim_list (be_var 0)) hl) (bss_freeze 2 rfl (bss_one (bs_ret (be_var 2))))))
end
end G6

set_option Elab.async false
set_option linter.all false
set_option maxRecDepth 100000
set_option maxHeartbeats 4000000
namespace G6
open PySem PySem.Spec PyProof.Rows L2
/-! ### codes, sorts, over the ints that the library speaks of -/
def toI (r : Row) : List Int := r.map fun (n : Nat) => (n : Int)
theorem encR_I (r : Row) : encR r = tupI (toI r) := encR_tupI r
theorem encR_map (rows : List Row) : rows.map encR = (rows.map toI).map tupI := by
  rw [List.map_map]
  exact List.map_congr_left fun r _ => encR_I r
theorem toI_inj : ∀ {r q : Row}, toI r = toI q → r = q
  | [], [], _ => rfl
  | [], _ :: _, h => by simp [toI] at h
  | _ :: _, [], h => by simp [toI] at h
  | x :: xs, y :: ys, h => by
    have h' : (x : Int) = (y : Int) ∧ toI xs = toI ys := by
      unfold toI at h
      rw [List.map_cons, List.map_cons] at h
      exact ⟨(List.cons.inj h).1, (List.cons.inj h).2⟩
    have e : x = y := by omega
    rw [e, toI_inj h'.2]
theorem code_toI : ∀ r : Row, TS.code 2 (toI r) = (codeN r : Int)
  | [] => rfl
  | x :: xs => by
    have ih := code_toI xs
    show (x : Int) * 2 ^ (toI xs).length + TS.code 2 (toI xs) = ((x * 2 ^ xs.length + codeN xs : Nat) : Int)
    rw [ih, show (toI xs).length = xs.length by unfold toI; rw [List.length_map], Int.natCast_add, Int.natCast_mul, Int.natCast_pow]
    rfl
theorem bd_toI {n : Nat} {r : Row} (h : VRow n r) : (toI r).length = n ∧ TS.Bd 2 (toI r) := by
  refine ⟨by unfold toI; rw [List.length_map]; exact h.1, fun m hm => ?_⟩
  obtain ⟨x, hx, rfl⟩ := List.mem_map.mp hm
  have := h.2 x hx
  omega
theorem srtU_unique {n : Nat} {rows : List Row} (hv : ∀ r ∈ rows, VRow n r) (rows' : List (List Int)) (hm : ∀ r, r ∈ rows' ↔ r ∈ rows.map toI) (nd : rows'.Nodup) (pw : rows'.Pairwise (fun q r => TS.code 2 q ≤ TS.code 2 r)) : rows' = (srtU rows).map toI := by
  have hlt := srtU_lt rows
  have nd2 : ((srtU rows).map toI).Nodup := by
    unfold List.Nodup
    rw [List.pairwise_map]
    exact hlt.imp fun {a b} h e => by
      have := toI_inj e
      subst this
      exact Nat.lt_irrefl _ h
  have pw2 : ((srtU rows).map toI).Pairwise (fun q r => TS.code 2 q ≤ TS.code 2 r) := by
    rw [List.pairwise_map]
    exact hlt.imp fun {a b} h => by rw [code_toI, code_toI]; omega
  have hm2 : ∀ r, r ∈ rows' ↔ r ∈ (srtU rows).map toI := fun r => by
    rw [hm r, List.mem_map, List.mem_map]
    exact ⟨fun ⟨q, hq, e⟩ => ⟨q, (srtU_mem hv q).mpr hq, e⟩, fun ⟨q, hq, e⟩ => ⟨q, (srtU_mem hv q).mp hq, e⟩⟩
  refine List.Perm.eq_of_pairwise (fun a b ha hb h1 h2 => ?_) pw pw2 ((List.perm_ext_iff_of_nodup nd nd2).mpr hm2)
  obtain ⟨q, hq, rfl⟩ := List.mem_map.mp ((hm a).mp ha)
  obtain ⟨q', hq', rfl⟩ := List.mem_map.mp ((hm _).mp ((hm2 b).mpr hb))
  rw [code_toI, code_toI] at h1 h2
  rw [(hv q hq).inj (hv q' hq') (by omega)]
theorem srtD_unique {n : Nat} {rows : List Row} (hv : ∀ r ∈ rows, VRow n r) (rows' : List (List Int)) (pm : rows'.Perm (rows.map toI)) (pw : rows'.Pairwise (fun q r => TS.code 2 q ≤ TS.code 2 r)) : rows' = (srtD rows).map toI := by
  have pm2 : ((srtD rows).map toI).Perm (rows.map toI) := (srtD_perm rows).map toI
  have pw2 : ((srtD rows).map toI).Pairwise (fun q r => TS.code 2 q ≤ TS.code 2 r) := by
    rw [List.pairwise_map]
    exact (srtD_le rows).imp fun {a b} h => by rw [code_toI, code_toI]; omega
  refine List.Perm.eq_of_pairwise (fun a b ha hb h1 h2 => ?_) pw pw2 (pm.trans pm2.symm)
  obtain ⟨q, hq, rfl⟩ := List.mem_map.mp (pm.mem_iff.mp ha)
  obtain ⟨q', hq', rfl⟩ := List.mem_map.mp (pm2.mem_iff.mp hb)
  rw [code_toI, code_toI] at h1 h2
  rw [(hv q hq).inj (hv q' hq') (by omega)]
theorem isort_unique (r : Row) (ns' : List Int) (pm : ns'.Perm (toI r)) (pw : ns'.Pairwise (· ≤ ·)) : ns' = toI (isort r) := by
  have pm2 : (toI (isort r)).Perm (toI r) := (isort_perm r).map _
  have pw2 : (toI (isort r)).Pairwise (· ≤ ·) := by
    unfold toI
    rw [List.pairwise_map]
    exact (isort_le r).imp fun {a b} h => by omega
  exact List.Perm.eq_of_pairwise (fun a b _ _ h1 h2 => Int.le_antisymm h1 h2) pw pw2 (pm.trans pm2.symm)
/-! ### a def of the text, called -/
structure FnB (P : Program) (w : World) (K : PySem.W.Frag) (mg : Str → Option Value) (base : Heap) (C : Addr) (x : Str) (k : Nat) (ps : List Str) (R : List PyData → PyData → Prop) : Prop where
  ex : ∃ (f : Addr) (fd : FuncData), FnOk P w K mg base CX0 k f fd ps (spD K C R) ∧ mg x = some (.ref f) ∧ PySem.W.keepIn K (.ref f) = true ∧ Binds K fd ps []
theorem be_callF {X : Cx} {C : Addr} {ρ : REnv} {e : Expr} {es : List Expr} {d : PyData} {ds : List PyData} {pos p : Pos} {R : List PyData → PyData → Prop} {k : Nat} {ps : List Str} {x : Str} (F : FnB X.prog X.w X.K X.mg X.base C x k ps R) (hr : Room k X.A) (ha : BA X C ρ (e :: es) ds) (hR : R ds d) (hg : Gl X x := by rfl)
    (hdb : (x == ("__debug__" : Str)) = false := by decide) (he : starEach (e :: es) X.env = (false, eval e X.env) :: starEach es X.env := by rfl) (hpl : (backTo pos (starEach es X.env)).any (·.1) = false := by rfl) : BE X C ρ (.Call (.Name x p) (e :: es) [] pos) d := by
  obtain ⟨f, fd, h1, h2, h3, h4⟩ := F.ex
  exact be_call h1 hr hg h2 h3 h4 ha hR hdb he hpl
def encRT (rows : List Row) : PyData := .tuple (rows.map encR)
def encRL (rows : List Row) : PyData := .list (rows.map encR)
def RowsOk (n : Nat) (rows : List Row) : Prop := 1 ≤ n ∧ n ≤ 5 ∧ rows.length < 64 ∧ ∀ r ∈ rows, VRow n r
section
variable {P : Program} {w : World} {K : PySem.W.Frag} {mg : Str → Option Value} {base : Heap} {C : Addr}
/-! ### behind -/
abbrev sBehind : Stmt := topS 12
abbrev nBehind : List Str := ["rows", "net", "row"]
theorem scBehind : FnScope nBehind ["rows", "net"] (defScope sBehind) := ⟨rfl, rfl, rfl, by decide +kernel, rfl, by decide +kernel, by decide +kernel⟩
def R_behind : List PyData → PyData → Prop := fun ds d => ∃ n rows net, ds = [encRT rows, encN net] ∧ RowsOk n rows ∧ NetOk n net ∧ d = encRT (beh rows net)
theorem ok_behind {f : Addr} {fd : FuncData} (F : Fun K "behind" "behind" sBehind f fd) (T : TxtB mg) (FL : FnB P w K mg base C "led_through" 1 ["net", "row"] R_led) : FnOk P w K mg base CX0 2 f fd ["rows", "net"] (spD K C R_behind) := by
  refine fnD F scBehind (fun ds d h => by obtain ⟨n, r, i, rfl, _⟩ := h; rfl) fun cdv A outer s H E hr ds d h => ?_
  obtain ⟨n, rows, net, rfl, ⟨h1, h5, h64, hv⟩, hn, rfl⟩ := h
  have hv2 : ∀ y ∈ rows.map (led net), VRow n y := fun y hy => by
    obtain ⟨q, hq, e⟩ := List.mem_map.mp hy
    subst e
    exact led_v (hv q hq) hn
  have comp := fun (ds : List PyData) => ds
  refine .inl (bss_one (bs_ret (be_eq (be_tupleL (by rfl) T.tuple (bl_bf (be_sortedSet (rows := (rows.map (led net)).map toI) (ms := (srtU (rows.map (led net))).map toI) (n := n) (B := 2) rfl hr.units h1 (by rfl) T.sorted (by rfl) T.set
    (bl_bf ?_) (by rw [List.length_map, List.length_map]; exact h64) (fun r hr' => ?_) (srtU_unique hv2)))) ?_)))
  · rw [← encR_map, List.map_map]
    exact bf_map rows encR _ (fun r => [.im (encRT rows), .im (encN net), .im (encR r)]) [2] (own := [("row", 2)]) rfl scBehind.nd (bi_tup (be_var 0)) (blkOk_by (N := nBehind) (sc := defScope sBehind) (by decide +kernel)) (by decide) (fun r hr' s H Cc cl fp => bg_name 2 scBehind.nd)
      (fun r hr' s H Cc cl fp => be_tupleL (by rfl) T.tuple (bl_im (be_callF FL hr (ba_cons (be_var 1) (ba_cons (be_var 2) ba_nil)) ⟨net, r, rfl, by rw [(hv r hr').1]; exact hn, rfl⟩))) (by omega)
  · obtain ⟨q, hq, rfl⟩ := List.mem_map.mp hr'
    exact bd_toI (hv2 q hq)
  · rw [← encR_map]
    rfl
end
end G6

set_option Elab.async false
set_option linter.all false
set_option maxRecDepth 100000
set_option maxHeartbeats 4000000
namespace G6
open PySem PySem.Spec PyProof.Rows L2
/-! ### == of encoded data -/
structure Enc {α : Type} [DecidableEq α] (f : α → PyData) (n : Nat) : Prop where
  eq : ∀ a b, PyData.eqv (f a) (f b) = decide (a = b)
  lay : ∀ a, (f a).canLay0 = true
  dep : ∀ a, (f a).depth ≤ n
section
variable {α : Type} [DecidableEq α] {f : α → PyData} {n : Nat}
theorem Enc.all_eq (h : Enc f n) : ∀ xs ys : List α, PyData.eqvAll (xs.map f) (ys.map f) = decide (xs = ys)
  | [], [] => by simp [PyData.eqvAll]
  | [], _ :: _ => by simp [PyData.eqvAll]
  | _ :: _, [] => by simp [PyData.eqvAll]
  | x :: xs, y :: ys => by
    rw [List.map_cons, List.map_cons, PyData.eqvAll, h.eq, h.all_eq xs ys]
    by_cases e : x = y <;> by_cases e2 : xs = ys <;> simp [e, e2]
theorem Enc.all_lay (h : Enc f n) : ∀ xs : List α, PyData.canLayAll0 (xs.map f) = true
  | [] => by simp [PyData.canLayAll0]
  | x :: xs => by rw [List.map_cons, PyData.canLayAll0, h.lay, h.all_lay xs]; rfl
theorem Enc.all_dep (h : Enc f n) : ∀ xs : List α, PyData.depthAll (xs.map f) ≤ n
  | [] => by simp [PyData.depthAll]
  | x :: xs => by
    have h1 := h.dep x
    have h2 := h.all_dep xs
    rw [List.map_cons, PyData.depthAll]
    omega
theorem Enc.list (h : Enc f n) : Enc (fun xs : List α => PyData.list (xs.map f)) (n + 1) where
  eq := fun a b => by
    show PyData.eqv (.list (a.map f)) (.list (b.map f)) = _
    rw [PyData.eqv, h.all_eq]
  lay := fun a => by
    show PyData.canLay0 (.list (a.map f)) = true
    rw [PyData.canLay0]; exact h.all_lay a
  dep := fun a => by
    have := h.all_dep a
    show PyData.depth (.list (a.map f)) ≤ n + 1
    rw [PyData.depth]; omega
theorem Enc.tup (h : Enc f n) : Enc (fun xs : List α => PyData.tuple (xs.map f)) (n + 1) where
  eq := fun a b => by
    show PyData.eqv (.tuple (a.map f)) (.tuple (b.map f)) = _
    rw [PyData.eqv, h.all_eq]
  lay := fun a => by
    show PyData.canLay0 (.tuple (a.map f)) = true
    rw [PyData.canLay0]; exact h.all_lay a
  dep := fun a => by
    have := h.all_dep a
    show PyData.depth (.tuple (a.map f)) ≤ n + 1
    rw [PyData.depth]; omega
theorem Enc.sh (h : Enc f n) (hn : n ≤ 64) (a : α) : SeqAt.shaped (f a) = true := by
  have := h.dep a
  show ((f a).canLay0 && decide ((f a).depth ≤ 64)) = true
  rw [h.lay a, decide_eq_true (by omega)]
  rfl
end
theorem enc_i : Enc iD 0 where
  eq := fun a b => by
    show PyData.eqv (.int a) (.int b) = _
    rw [PyData.eqv]
    by_cases e : a = b
    · subst e; simp
    · have : ¬ (a : Int) = (b : Int) := by omega
      rw [decide_eq_false e]
      exact beq_eq_false_iff_ne.mpr this
  lay := fun a => rfl
  dep := fun a => Nat.le_refl _
theorem enc_R : Enc encR 1 := enc_i.tup
theorem enc_il : Enc (fun r : Row => PyData.list (r.map iD)) 1 := enc_i.list
theorem enc_RT : Enc encRT 2 := enc_R.tup
theorem enc_RL : Enc encRL 2 := enc_R.list
theorem enc_X : Enc encX 1 where
  eq := fun a b => by
    have e0 : PyData.eqv (.str ("up" : Str)) (.str "up") = true := by simp [PyData.eqv]
    show PyData.eqv (.tuple [iD a.1, iD a.2, .str "up"]) (.tuple [iD b.1, iD b.2, .str "up"]) = _
    rw [PyData.eqv, PyData.eqvAll, PyData.eqvAll, PyData.eqvAll, enc_i.eq, enc_i.eq, e0, PyData.eqvAll]
    obtain ⟨a1, a2⟩ := a
    obtain ⟨b1, b2⟩ := b
    by_cases e1 : a1 = b1 <;> by_cases e2 : a2 = b2 <;> simp [e1, e2]
  lay := fun a => by
    have e0 : PyData.canLay0 (.str ("up" : Str)) = true := by decide +kernel
    show PyData.canLay0 (.tuple [iD a.1, iD a.2, .str "up"]) = true
    simp [PyData.canLay0, PyData.canLayAll0, iD]
    simpa [PyData.canLay0] using e0
  dep := fun a => by
    show PyData.depth (.tuple [iD a.1, iD a.2, .str "up"]) ≤ 1
    simp [PyData.depth, PyData.depthAll, iD]
theorem enc_N : Enc encN 2 := enc_X.list
def encNs (ns : List Net) : PyData := .list (ns.map encN)
def encLs (ls : List (List Net)) : PyData := .list (ls.map encNs)
theorem enc_Ns : Enc encNs 3 := enc_N.list
theorem enc_Ls : Enc encLs 4 := enc_Ns.list
/-! ### parts of the syntax -/
def lcScope : Expr → Scope
  | .ListComp _ _ sc _ => sc
  | _ => { kind := .function, names := [], isGenerator := false, isCoroutine := false }
def eltE : Expr → Expr
  | .ListComp e _ _ _ => e
  | _ => .Name "" ⟨0, 0, 0, 0⟩
def argE : Expr → Nat → Expr
  | .Call _ as _ _, i => as.getD i (.Name "" ⟨0, 0, 0, 0⟩)
  | _, _ => .Name "" ⟨0, 0, 0, 0⟩
def cmpL : Expr → Expr
  | .Compare a _ _ _ => a
  | e => e
def opE : Expr → Nat → Expr
  | .BoolOp _ as _, i => as.getD i (.Name "" ⟨0, 0, 0, 0⟩)
  | .UnaryOp _ a _, _ => a
  | e, _ => e
def stE : Stmt → Expr
  | .Return (some e) _ => e
  | .Assign _ e _ => e
  | .If c _ _ _ => c
  | .While c _ _ _ => c
  | .Expr e _ => e
  | _ => .Name "" ⟨0, 0, 0, 0⟩
section
variable {X : Cx} {C : Addr} {ρ : REnv} {e : Expr} {ds ds' : List PyData}
theorem bl_eq (h : BL X C ρ e ds) (q : ds = ds') : BL X C ρ e ds' := q ▸ h
theorem bf_eq (h : BF X C ρ e ds) (q : ds = ds') : BF X C ρ e ds' := q ▸ h
theorem bi_eq {tg : Expr} (h : BI X C ρ tg e ds) (q : ds = ds') : BI X C ρ tg e ds' := q ▸ h
theorem bim_eq {tg : Expr} (h : BIm X C ρ tg e ds) (q : ds = ds') : BIm X C ρ tg e ds' := q ▸ h
end
theorem rngD_iD (n : Nat) : rngD n = (List.range n).map iD := rfl
theorem zipD_map (a b : List Nat) : zipD (a.map iD) (b.map iD) = (a.zip b).map fun p => PyData.tuple [iD p.1, iD p.2] := by
  unfold zipD
  rw [List.zip_map, List.map_map]
  rfl
theorem toI_D (r : Row) : (toI r).map PyData.int = r.map iD := by
  unfold toI
  rw [List.map_map]
  rfl
theorem count_toI (r : Row) (n : Nat) : (toI r).count (n : Int) = r.count n := by
  induction r with
  | nil => rfl
  | cons x xs ih =>
    show ((x : Int) :: toI xs).count (n : Int) = _
    rw [List.count_cons, List.count_cons, ih]
    by_cases e : x = n
    · subst e; simp
    · have : ¬ (x : Int) = (n : Int) := by omega
      simp [e, this]
theorem sum_toI (r : Row) : (toI r).sum = (r.sum : Int) := by
  induction r with
  | nil => rfl
  | cons x xs ih =>
    show ((x : Int) :: toI xs).sum = _
    rw [List.sum_cons, List.sum_cons, ih]
    omega
theorem maxN_mem : ∀ {l : List Nat}, l ≠ [] → maxN l ∈ l
  | [], h => absurd rfl h
  | [a], _ => by simp [maxN]
  | a :: b :: t, _ => by
    have ih := maxN_mem (l := b :: t) (by simp)
    show max a (maxN (b :: t)) ∈ _
    by_cases h : maxN (b :: t) ≤ a
    · rw [Nat.max_eq_left h]; exact List.mem_cons_self
    · rw [Nat.max_eq_right (by omega)]; exact List.mem_cons_of_mem _ ih
theorem maxN_le : ∀ {l : List Nat} {x : Nat}, x ∈ l → x ≤ maxN l
  | a :: t, x, h => by
    show x ≤ max a (maxN t)
    rcases List.mem_cons.mp h with e | h
    · subst e; exact Nat.le_max_left _ _
    · exact Nat.le_trans (maxN_le h) (Nat.le_max_right _ _)
theorem sum_le_len : ∀ {r : Row}, (∀ x ∈ r, x ≤ 1) → r.sum ≤ r.length
  | [], _ => Nat.zero_le _
  | x :: xs, h => by
    have h1 := h x List.mem_cons_self
    have h2 := sum_le_len fun y hy => h y (List.mem_cons_of_mem _ hy)
    rw [List.sum_cons, List.length_cons]
    omega
section
variable {P : Program} {w : World} {K : PySem.W.Frag} {mg : Str → Option Value} {base : Heap} {C : Addr}
/-! ### are_ascending -/
abbrev sAsc : Stmt := topS 13
abbrev nAsc : List Str := ["rows", "row"]
theorem scAsc : FnScope nAsc ["rows"] (defScope sAsc) := ⟨rfl, rfl, rfl, by decide +kernel, rfl, by decide +kernel, by decide +kernel⟩
def R_asc : List PyData → PyData → Prop := fun ds d => ∃ n rows, ds = [encRT rows] ∧ RowsOk n rows ∧ d = .bool (asc rows)
theorem ok_asc {f : Addr} {fd : FuncData} (F : Fun K "are_ascending" "are_ascending" sAsc f fd) (T : TxtB mg) : FnOk P w K mg base CX0 1 f fd ["rows"] (spD K C R_asc) := by
  refine fnD F scAsc (fun ds d h => by obtain ⟨n, r, rfl, _⟩ := h; rfl) fun cdv A outer s H E hr ds d h => ?_
  obtain ⟨n, rows, rfl, ⟨h1, h5, h64, hv⟩, rfl⟩ := h
  refine .inl (bss_one (bs_ret (be_eq (be_allL (bs := rows.map ascR) rfl (by rfl) T.all (bl_bf (bf_eq (bf_map rows encR (fun r => .bool (ascR r)) (fun r => [.im (encRT rows), .im (encR r)]) [1] (own := [("row", 1)]) rfl scAsc.nd (bi_tup (be_var 0)) (blkOk_by (N := nAsc) (sc := defScope sAsc) (by decide +kernel)) (by decide)
    (fun r hr' s H Cc cl fp => bg_name 1 scAsc.nd) (fun r hr' s H Cc cl fp => ?_) (by omega)) ?_))) ?_)))
  · refine be_eq (be_eqD hr.units (be_listT (by rfl) T.list (ds := r.map iD) (be_var 1)) (be_eq (be_sortedT (ns := toI r) (ms := toI (isort r)) (by rfl) T.sorted (be_eq (be_var 1) (encR_I r)) (by unfold toI; rw [List.length_map, (hv r hr').1]; omega) (isort_unique r)) (by rw [toI_D])) (enc_il.sh (by decide) r) (enc_il.sh (by decide) (isort r))) ?_
    rw [enc_il.eq]
    rfl
  · rw [List.map_map]; rfl
  · unfold asc
    rw [List.all_map]
    rfl
/-! ### counts_of -/
abbrev sCnt : Stmt := topS 15
abbrev nCnt : List Str := ["rows", "ones", "row", "number"]
theorem scCnt : FnScope nCnt ["rows"] (defScope sCnt) := ⟨rfl, rfl, rfl, by decide +kernel, rfl, by decide +kernel, by decide +kernel⟩
def R_cnt : List PyData → PyData → Prop := fun ds d => ∃ n rows, ds = [encRT rows] ∧ RowsOk n rows ∧ rows ≠ [] ∧ d = .list ((cnts rows).map iD)
theorem ok_cnt {f : Addr} {fd : FuncData} (F : Fun K "counts_of" "counts_of" sCnt f fd) (T : TxtB mg) : FnOk P w K mg base CX0 1 f fd ["rows"] (spD K C R_cnt) := by
  refine fnD F scCnt (fun ds d h => by obtain ⟨n, r, rfl, _⟩ := h; rfl) fun cdv A outer s H E hr ds d h => ?_
  obtain ⟨n, rows, rfl, ⟨h1, h5, h64, hv⟩, hne, rfl⟩ := h
  have hm : maxN (rows.map List.sum) ≤ 5 := by
    have h := maxN_mem (l := rows.map List.sum) (by simpa using hne)
    obtain ⟨r, hr', e⟩ := List.mem_map.mp h
    rw [← e]
    have := sum_le_len (hv r hr').2
    have := (hv r hr').1
    omega
  refine .inl (bss_cons (bs_set 1 scCnt.nd (d := .list ((rows.map List.sum).map iD)) (be_bf (bf_eq (bf_map rows encR (fun r => iD r.sum) (fun r => [.im (encRT rows), .no, .im (encR r), .no]) [2] (own := [("row", 2)]) rfl scCnt.nd (bi_tup (be_var 0)) (blkOk_by (N := nCnt) (sc := defScope sCnt) (by decide +kernel)) (by decide)
    (fun r hr' s H Cc cl fp => bg_name 2 scCnt.nd) (fun r hr' s H Cc cl fp => be_eq (be_sumT (ns := toI r) rfl (by rfl) T.sum (be_eq (be_var 2) (encR_I r))) (by rw [sum_toI]; rfl)) (by omega)) (by rw [List.map_map]; rfl)))) (bss_one (bs_ret (be_bf (bf_eq
    (bf_map (List.range (maxN (rows.map List.sum) + 1)) iD (fun n => iD ((rows.map List.sum).count n)) (fun n => [.im (encRT rows), .im (.list ((rows.map List.sum).map iD)), .no, .im (iD n)]) [3] (own := [("number", 3)]) rfl scCnt.nd (bi_range (n := maxN (rows.map List.sum) + 1) (by rfl) T.range
      (be_add (be_maxL (ns := toI (rows.map List.sum)) (m := (maxN (rows.map List.sum) : Nat)) rfl (by rfl) T.max (bl_eq (bl_im (be_var 1)) (toI_D _).symm) ?_ ?_) be_int) (by omega) (by omega)) (blkOk_by (N := nCnt) (sc := defScope sCnt) (by decide +kernel)) (by decide) (fun r hr' s H Cc cl fp => bg_name 3 scCnt.nd)
      (fun k hk s H Cc cl fp => be_eq (be_countL (ns := toI (rows.map List.sum)) (bl_eq (bl_im (be_var 1)) (toI_D _).symm) (be_var 3)) (by rw [count_toI]; rfl)) (by rw [List.length_range]; omega)) (by unfold cnts; rw [List.map_map]; rfl))))))
  · exact List.mem_map.mpr ⟨_, maxN_mem (by simpa using hne), rfl⟩
  · intro y hy
    obtain ⟨x, hx, rfl⟩ := List.mem_map.mp hy
    have := maxN_le hx
    omega
end
end G6

set_option Elab.async false
set_option linter.all false
set_option maxRecDepth 100000
set_option maxHeartbeats 4000000
namespace G6
open PySem PySem.Spec PyProof.Rows L2
theorem room65 {k : Nat} {A : Around} (r : Room k A) : A.units + 65 < cLine := by have := r.un; omega
section
variable {X : Cx} {C : Addr} {ρ : REnv} {e c : Expr} {d : PyData} {A rest : List Stmt} {pos : Pos}
/-- if c: return ..; rest -/
theorem bss_if {q : Bool} (hc : BT X C ρ c q) (hA : q = true → BSs X C ρ A (.rt d)) (hB : q = false → BSs X C ρ rest (.rt d)) : BSs X C ρ (.If c A [] pos :: rest) (.rt d) := by
  cases q with
  | true => exact bss_rt (bs_if hc hA fun h => nomatch h)
  | false => exact bss_cons (bs_if hc (fun h => nomatch h) fun _ => bss_nil) (hB rfl)
theorem dec_nat (a b : Nat) : decide ((a : Int) < (b : Int)) = decide (a < b) := by
  by_cases h : a < b
  · rw [decide_eq_true h, decide_eq_true (by omega)]
  · rw [decide_eq_false h, decide_eq_false (by omega)]
end
theorem any_enc {α : Type} [DecidableEq α] {f : α → PyData} {n : Nat} (h : Enc f n) (xs : List α) (a : α) : ((xs.map f).any fun z => PyData.eqv z (f a)) = xs.any fun z => decide (z = a) := by
  rw [List.any_map]
  congr 1
  funext z
  exact h.eq z a
def ORow (n : Nat) (od : Row) : Prop := od.length = n ∧ ∀ l ∈ od, l < n
section
variable {P : Program} {w : World} {K : PySem.W.Frag} {mg : Str → Option Value} {base : Heap} {C : Addr}
/-! ### covers -/
abbrev sCov : Stmt := topS 16
abbrev nCov : List Str := ["one", "other", "orders", "mine", "yours", "lane", "row", "order"]
theorem scCov : FnScope nCov ["one", "other", "orders"] (defScope sCov) := ⟨rfl, rfl, rfl, by decide +kernel, rfl, by decide +kernel, by decide +kernel⟩
abbrev cov1 : Expr := argE (stE (stAt (defBody sCov) 1)) 0
abbrev cov2 : Expr := argE (eltE cov1) 0
def encOs (os : List Row) : PyData := .list (os.map encR)
def R_cov : List PyData → PyData → Prop := fun ds d => ∃ n one other os, ds = [encRT one, encRT other, encOs os] ∧ RowsOk n one ∧ RowsOk n other ∧ one ≠ [] ∧ other ≠ [] ∧ (∀ od ∈ os, ORow n od) ∧ os.length ≤ 1000 ∧ d = .bool (cov one other os)
theorem ok_cov {f : Addr} {fd : FuncData} (F : Fun K "covers" "covers" sCov f fd) (T : TxtB mg) (FC : FnB P w K mg base C "counts_of" 1 ["rows"] R_cnt) : FnOk P w K mg base CX0 2 f fd ["one", "other", "orders"] (spD K C R_cov) := by
  refine fnD F scCov (fun ds d h => by obtain ⟨n, a, b, c, rfl, _⟩ := h; rfl) fun cdv A outer s H E hr ds d h => ?_
  obtain ⟨n, one, other, os, rfl, o1, o2, ne1, ne2, hos, hlen, rfl⟩ := h
  have l1 := o1.2.2.1
  have l2 := o2.2.2.1
  have zl : ((cnts one).zip (cnts other)).length ≤ 1000 := by
    have hm : maxN (one.map List.sum) ≤ 5 := by
      have h := maxN_mem (l := one.map List.sum) (by simpa using ne1)
      obtain ⟨r, hr', e⟩ := List.mem_map.mp h
      rw [← e]
      have := sum_le_len (o1.2.2.2 r hr').2
      have := (o1.2.2.2 r hr').1
      have := o1.2.1
      omega
    rw [List.length_zip]
    unfold cnts
    rw [List.length_map, List.length_range]
    omega
  refine .inl (bss_if (bt_bw (bw_or (bt_gt (be_lenT (by rfl) T.len (be_var 0)) (be_lenT (by rfl) T.len (be_var 1))) fun _ => bw_or1 (bt_val (be_anyL (bs := ((cnts one).zip (cnts other)).map fun p => decide (p.2 < p.1)) rfl (by rfl) T.any (bl_bf (bf_eq
    (bf_map ((cnts one).zip (cnts other)) (fun p => PyData.tuple [iD p.1, iD p.2]) (fun p => .bool (decide (p.2 < p.1))) (fun p => [.im (encRT one), .im (encRT other), .im (encOs os), .im (iD p.1), .im (iD p.2), .no, .no, .no]) [3, 4] (own := [("mine", 3), ("yours", 4)]) rfl scCov.nd
      (bi_eq (bi_zip (by rfl) T.zip (bl_im (be_callF FC hr (ba_cons (be_var 0) ba_nil) ⟨n, one, rfl, o1, ne1, rfl⟩)) (bl_im (be_callF FC hr (ba_cons (be_var 1) ba_nil) ⟨n, other, rfl, o2, ne2, rfl⟩))) (zipD_map _ _))
      (blkOk_by (N := nCov) (sc := defScope sCov) (by decide +kernel)) (by decide) (fun p hp s H Cc cl fp => bg_tup rfl (bgs_cons (bg_name 3 scCov.nd) (bgs_cons (bg_name 4 scCov.nd) bgs_nil))) (fun p hp s H Cc cl fp => be_eq (be_gt (be_var 3) (be_var 4)) (by rw [dec_nat])) (by omega)) (by rw [List.map_map]; rfl))))))) ?_ ?_)
  · intro hq
    refine bss_one (bs_ret (be_eq be_bl ?_))
    rw [List.length_map, List.length_map, dec_nat, List.any_map] at hq
    unfold cov
    have hq2 : (decide (other.length < one.length) || ((cnts one).zip (cnts other)).any fun p => decide (p.2 < p.1)) = true := hq
    rw [if_pos hq2]
  · intro hq
    rw [List.length_map, List.length_map, dec_nat, List.any_map] at hq
    have e0 : cov one other os = covL one other os := by
      unfold cov
      have hq2 : (decide (other.length < one.length) || ((cnts one).zip (cnts other)).any fun p => decide (p.2 < p.1)) = false := hq
      rw [hq2, if_neg Bool.false_ne_true]
    rw [e0]
    refine bss_one (bs_ret (be_eq (be_anyL (bs := os.map fun od => one.all fun r => other.any fun z => decide (z = permR r od)) rfl (by rfl) T.any (bl_bf (bf_eq (bf_map os encR (fun od => .bool (one.all fun r => other.any fun z => decide (z = permR r od))) (fun od => [.im (encRT one), .im (encRT other), .im (encOs os), .no, .no, .no, .no, .im (encR od)]) [7] (own := [("order", 7)]) rfl scCov.nd (bim_list (be_var 2)).bi
      (blkOk_by (N := nCov) (sc := defScope sCov) (by decide +kernel)) (by decide) (fun od hod s H Cc cl fp => bg_name 7 scCov.nd) (fun od hod s H Cc cl fp => ?_) (by omega)) (by rw [List.map_map]; rfl)))) (by rw [List.any_map]; rfl)))
    refine be_eq (be_allL (bs := one.map fun r => other.any fun z => decide (z = permR r od)) rfl (by rfl) T.all (bl_bf (bf_eq (bf_map one encR (fun r => .bool (other.any fun z => decide (z = permR r od))) (fun r => [.im (encRT one), .im (encRT other), .im (encOs os), .no, .no, .no, .im (encR r), .im (encR od)]) [6] (own := [("row", 6)]) rfl scCov.nd (bi_tup (be_var 0))
      (blkOk_by (N := nCov) (sc := relS (lcScope cov1) (defScope sCov)) (by decide +kernel)) (by decide) (fun r hr' s H Cc cl fp => bg_name 6 scCov.nd) (fun r hr' s H Cc cl fp => ?_) (by omega)) (by rw [List.map_map]; rfl)))) (by rw [List.all_map]; rfl)
    have hod' := hos od hod
    have hr'' := o1.2.2.2 r hr'
    refine be_eq (be_inT (ds := other.map encR) (d := encR (permR r od)) (room65 hr) (be_eq (be_tupleL (by rfl) T.tuple (bl_bf (bf_map od iD (fun l => iD (r.getD l 0)) (fun l => [.im (encRT one), .im (encRT other), .im (encOs os), .no, .no, .im (iD l), .im (encR r), .im (encR od)]) [5] (own := [("lane", 5)]) rfl scCov.nd (bi_tup (be_var 7))
      (blkOk_by (N := nCov) (sc := relS (lcScope cov2) (relS (lcScope cov1) (defScope sCov))) (by decide +kernel)) (by decide) (fun l hl s H Cc cl fp => bg_name 5 scCov.nd) (fun l hl s H Cc cl fp => be_ixT (be_var 6) (be_var 5) rfl (iD_at (by rw [hr''.1]; exact hod'.2 l hl))) (by have := hod'.1; have := o1.2.1; omega)))) ?_) (be_var 1) (enc_R.sh (by decide) _) (enc_RT.sh (by decide) other)) ?_
    · unfold encR permR
      rw [List.map_map]
      rfl
    · rw [any_enc enc_R]
end
end G6

set_option Elab.async false
set_option linter.all false
set_option maxRecDepth 100000
set_option maxHeartbeats 4000000
namespace G6
open PySem PySem.Spec PyProof.Rows L2
theorem flat_len {α : Type} {m : Nat} : ∀ {ls : List (List α)}, (∀ l ∈ ls, l.length ≤ m) → ls.flatten.length ≤ ls.length * m
  | [], _ => by simp
  | l :: t, h => by
    have h1 := h l List.mem_cons_self
    have h2 := flat_len fun q hq => h q (List.mem_cons_of_mem _ hq)
    rw [List.flatten_cons, List.length_append, List.length_cons, Nat.succ_mul]
    omega
theorem rep_one {α : Type} (a : α) : ∀ n : Nat, (List.replicate n [a]).flatten = List.replicate n a
  | 0 => rfl
  | n + 1 => by rw [List.replicate_succ, List.flatten_cons, rep_one a n, List.replicate_succ]; rfl
theorem cut_take (ds : List PyData) (k : Nat) : cutD ds none (some (k : Int)) = ds.take k := by
  unfold cutD
  rw [HT.sIx_none, HT.sIx_nat, List.drop_zero, Nat.sub_zero]
  by_cases h : k ≤ ds.length
  · rw [Nat.min_eq_left h]
  · rw [Nat.min_eq_right (by omega), List.take_length, List.take_of_length_le (by omega)]
theorem cut_drop (ds : List PyData) (k : Nat) : cutD ds (some (k : Int)) none = ds.drop k := by
  unfold cutD
  rw [HT.sIx_none, HT.sIx_nat]
  by_cases h : k ≤ ds.length
  · rw [Nat.min_eq_left h, List.take_of_length_le (by rw [List.length_drop]; omega)]
  · rw [Nat.min_eq_right (by omega), List.drop_length, List.drop_of_length_le (by omega), List.take_nil]
section
variable {X : Cx} {C : Addr} {ρ : REnv} {e a b c tg tg1 : Expr} {d : PyData} {ds : List PyData} {pos : Pos}
theorem bim_tup (h : BE X C ρ e (.tuple ds)) : BIm X C ρ tg e ds :=
  bim_of (pi_tup (pe_sem e)) fun M H σ R E k => h M H σ _ E fun v1 H1 s1 q1 => by
    obtain ⟨a, vs, rfl, h1, q1⟩ := q1.tup_inv
    exact ⟨a, rfl, ⟨vs, SqT.of (msk_same M H1 _ _ h1)⟩, k _ H1 s1 fun M' H2 e1 o i => by
      have h2 := msk_same M' H2 _ _ (e1 _ _ h1)
      refine ⟨fun hi => ⟨vs, SqT.of h2, by rw [q1.length]; exact hi⟩, fun d hd => ?_⟩
      obtain ⟨v, hv, qv⟩ := q1.get hd
      refine ⟨⟨vs, v, SqT.of h2, hv⟩, fun x H' y => ?_⟩
      obtain ⟨rfl, y⟩ := y
      have z := y vs (SqT.of h2)
      rw [hv] at z
      cases z
      exact ⟨Same.refl _, qv.mono e1⟩⟩
theorem bt_le2 {i j k : Int} (ha : BE X C ρ a (.int i)) (hb : BE X C ρ b (.int j)) (hc : BE X C ρ c (.int k)) (hm : lastMarks [.LtE, .LtE] [b, c] = false := by with_unfolding_all rfl) : BT X C ρ (.Compare a [.LtE, .LtE] [b, c] pos) (decide (i ≤ j) && decide (j ≤ k)) :=
  bt_of (pt_chain op_le op_le (pe_sem a) (pe_sem b) (pe_sem c) hm) fun M H σ Q E kk => ha M H σ _ E fun x H1 s1 q1 => hb M H1 σ _ (E.mono s1) fun y H2 s2 q2 =>
    ⟨i, j, q1.int_inv, q2.int_inv, _, rfl, by
      cases hq : decide (i ≤ j) with
      | false => exact iteF ⟨_, rfl, by have z := kk H2 (s1.trans s2); rw [hq] at z; exact z⟩
      | true => exact iteT (hc M H2 σ _ (E.mono (s1.trans s2)) fun w H3 s3 q3 => ⟨j, k, q2.int_inv, q3.int_inv, _, rfl, by have z := kk H3 ((s1.trans s2).trans s3); rw [hq] at z; exact z⟩)⟩
/-- name = [.. for .. for ..] -/
theorem bs_setLc2 (i : Nat) {α β : Type} (xs : List α) (enc : α → PyData) (ys : α → List β) (enc1 : α → β → PyData) (g : α → β → PyData) (ρ' : α → REnv) (ρ2 : α → β → REnv) (ts ts1 vs1 : List Nat) {elt iter iter1 : Expr} {scope : Scope} {own : List (Str × Nat)} {y : Str} {py spos : Pos} (hc : X.calm = true) (hN : X.N.Nodup)
    (hy : X.N[i]? = some y) (hyl : X.env.scope.names.lookup y = some .local) (hsw : swapsWith (.ListComp elt [⟨tg, iter, [], 0⟩, ⟨tg1, iter1, [], 0⟩] scope pos) (some (.Name y py)) spos.line X.env = pure true)
    (src : BI X C ρ tg iter (xs.map enc)) (ok : BlkOk X.N X.env.scope scope own) (hts : ∀ i ∈ ts, i ∈ own.map (·.2)) (hts1 : ∀ i ∈ ts1, i ∈ vs1) (hvs1 : ∀ i ∈ vs1, i ∈ own.map (·.2))
    (tgt : ∀ x ∈ xs, ∀ s H Cc cl fp, BG (X.blk s H scope (compEnvC scope cl Cc X.env) fp) C (wipeR ρ (own.map (·.2))) ts tg (enc x) (ρ' x))
    (src1 : ∀ x ∈ xs, ∀ s H Cc cl fp, BIm (X.blk s H scope (compEnvC scope cl Cc X.env) fp) C (ρ' x) tg1 iter1 ((ys x).map (enc1 x)))
    (tgt1 : ∀ x ∈ xs, ∀ y ∈ ys x, ∀ s H Cc cl fp, BG (X.blk s H scope (compEnvC scope cl Cc X.env) fp) C (wipeR (ρ' x) vs1) ts1 tg1 (enc1 x y) (ρ2 x y))
    (el : ∀ x ∈ xs, ∀ y ∈ ys x, ∀ s H Cc cl fp, BE (X.blk s H scope (compEnvC scope cl Cc X.env) fp) C (ρ2 x y) elt (g x y))
    (hno : ∀ x ∈ xs, noOw (ρ' x) = true) (hlen : ∀ i ≤ xs.length, (((xs.take i).map fun x => (ys x).map (g x)).flatten).length ≤ 100000) (hlen1 : ∀ x ∈ xs, (ys x).length ≤ 100000) (hs : ∀ x, foldedSetIterable iter X.env x = pure x := by intro _; rfl) (hs1 : ∀ env x, foldedSetIterable iter1 env x = pure x := by intro _ _; rfl) :
    BS X C ρ (.Assign [.Name y py] (.ListComp elt [⟨tg, iter, [], 0⟩, ⟨tg1, iter1, [], 0⟩] scope pos) spos) (.nx (ρ.set i (.im (.list ((xs.map fun x => (ys x).map (g x)).flatten))))) :=
  bs_setT (ps_setLc2 hc hN hy hyl hsw (pi_sem tg iter) ok hvs1 gB_ok (fun _ _ _ _ _ => pts_nil) iB_ok gB_ok (fun _ _ _ _ _ => pts_nil) eB_ok hs hs1) (frt_be (fr_lc2 xs enc ys enc1 g ρ' ρ2 ts ts1 vs1 hc hN src ok hts hts1 hvs1 tgt src1 tgt1 el hno hlen hlen1))
end
/-! ### mathematics -/
theorem ords_ok : ∀ k, k ≤ 5 → (ords k).length ≤ 200 ∧ ∀ od ∈ ords k, ORow k od := by
  have h : ((List.range 6).all fun k => decide ((ords k).length ≤ 200) && (ords k).all fun od => decide (od.length = k) && od.all fun l => decide (l < k)) = true := by decide +kernel
  intro k hk
  have z := List.all_eq_true.mp h k (List.mem_range.mpr (by omega))
  simp only [Bool.and_eq_true, List.all_eq_true, decide_eq_true_eq] at z
  exact ⟨z.1, fun od ho => ⟨(z.2 od ho).1, (z.2 od ho).2⟩⟩
theorem ords_succ (k : Nat) : ords (k + 1) = ordStep (ords k) k := by
  unfold ords
  rw [List.range_succ, List.foldl_append]
  rfl
theorem mem_flat_map {α β : Type} {f : α → List β} {xs : List α} {y : β} (h : y ∈ (xs.map f).flatten) : ∃ x ∈ xs, y ∈ f x := by
  obtain ⟨l, hl, hy⟩ := List.mem_flatten.mp h
  obtain ⟨x, hx, rfl⟩ := List.mem_map.mp hl
  exact ⟨x, hx, hy⟩
theorem partStep_v {n m : Nat} {found : List Row} (h : ∀ r ∈ found, VRow n r) : ∀ r ∈ partStep found m, VRow (n + m) r := fun r hr => by
  obtain ⟨q, hq, hr⟩ := mem_flat_map hr
  obtain ⟨k, hk, rfl⟩ := List.mem_map.mp hr
  have hk' := List.mem_range.mp hk
  have hv := h q hq
  refine ⟨?_, fun x hx => ?_⟩
  · rw [List.length_append, List.length_append, List.length_replicate, List.length_replicate, hv.1]
    omega
  · rcases List.mem_append.mp hx with hx | hx
    · exact hv.2 x hx
    · rcases List.mem_append.mp hx with hx | hx
      · rw [(List.mem_replicate.mp hx).2]; exact Nat.zero_le _
      · rw [(List.mem_replicate.mp hx).2]; exact Nat.le_refl _
theorem succ_le_pow (m : Nat) : m + 1 ≤ 2 ^ m := Nat.lt_two_pow_self
theorem partStep_len {n m : Nat} {found : List Row} (h : found.length ≤ 2 ^ n) : (partStep found m).length ≤ 2 ^ (n + m) := by
  have h1 : (partStep found m).length ≤ (found.map fun row => (List.range (m + 1)).map fun ones => row ++ (List.replicate (m - ones) 0 ++ List.replicate ones 1)).length * (m + 1) := flat_len fun l hl => by
    obtain ⟨q, _, rfl⟩ := List.mem_map.mp hl
    rw [List.length_map, List.length_range]
    exact Nat.le_refl _
  rw [List.length_map] at h1
  refine Nat.le_trans h1 ?_
  rw [Nat.pow_add]
  exact Nat.mul_le_mul h (succ_le_pow m)
theorem parted_v : ∀ {parts : List Nat} {n : Nat} {found : List Row}, (∀ r ∈ found, VRow n r) → found.length ≤ 2 ^ n → (∀ r ∈ parts.foldl partStep found, VRow (n + parts.sum) r) ∧ (parts.foldl partStep found).length ≤ 2 ^ (n + parts.sum)
  | [], n, found, h1, h2 => by
    rw [List.sum_nil, Nat.add_zero]
    exact ⟨h1, h2⟩
  | m :: t, n, found, h1, h2 => by
    rw [List.sum_cons, ← Nat.add_assoc]
    exact parted_v (partStep_v h1) (partStep_len h2)
theorem parted_ok {parts : List Nat} (h1 : 1 ≤ parts.sum) (h5 : parts.sum ≤ 5) : RowsOk parts.sum (parted parts) := by
  have h := parted_v (parts := parts) (n := 0) (found := [[]]) (fun r hr => by
    rw [List.mem_singleton.mp hr]
    exact ⟨rfl, fun x hx => nomatch hx⟩) (by decide)
  rw [Nat.zero_add] at h
  refine ⟨h1, h5, Nat.lt_of_le_of_lt h.2 (Nat.lt_of_le_of_lt (Nat.pow_le_pow_right (by decide) h5) (by decide)), h.1⟩
theorem rowsOf_ok {parts : List Nat} (h1 : 1 ≤ parts.sum) (h5 : parts.sum ≤ 5) : RowsOk parts.sum (rowsOf parts) := by
  obtain ⟨a, b, c, d⟩ := parted_ok h1 h5
  exact ⟨a, b, by unfold rowsOf; rw [(srtD_perm _).length_eq]; exact c, fun r hr => d r ((srtD_perm _).mem_iff.mp hr)⟩
section
variable {P : Program} {w : World} {K : PySem.W.Frag} {mg : Str → Option Value} {base : Heap} {C : Addr}
/-! ### exchanges_of -/
abbrev sExc : Stmt := topS 11
abbrev nExc : List Str := ["width", "second", "first"]
theorem scExc : FnScope nExc ["width"] (defScope sExc) := ⟨rfl, rfl, rfl, by decide +kernel, rfl, by decide +kernel, by decide +kernel⟩
def R_exc : List PyData → PyData → Prop := fun ds d => ∃ n, ds = [iD n] ∧ n ≤ 5 ∧ d = encN (excs n)
theorem excs_enc (n : Nat) : ((List.range n).map fun s => (List.range s).map fun f => encX (f, s)).flatten = (excs n).map encX := by
  unfold excs
  rw [List.map_flatten, List.map_map]
  congr 1
  apply List.map_congr_left
  intro s _
  show _ = ((List.range s).map fun first => (first, s)).map encX
  rw [List.map_map]
  rfl
theorem ok_exc {f : Addr} {fd : FuncData} (F : Fun K "exchanges_of" "exchanges_of" sExc f fd) (T : TxtB mg) : FnOk P w K mg base CX0 1 f fd ["width"] (spD K C R_exc) := by
  refine fnD F scExc (fun ds d h => by obtain ⟨n, rfl, _⟩ := h; rfl) fun cdv A outer s H E hr ds d h => ?_
  obtain ⟨n, rfl, h5, rfl⟩ := h
  refine .inl (bss_one (bs_ret (be_bf (bf_eq (bf_lc2 (List.range n) iD (fun s => List.range s) (fun _ f => iD f) (fun s f => encX (f, s)) (fun s => [.im (iD n), .im (iD s), .no]) (fun s f => [.im (iD n), .im (iD s), .im (iD f)]) [1] [2] [2] (own := [("second", 1), ("first", 2)]) rfl scExc.nd
    (bim_range (n := n) (by rfl) T.range (be_var 0) rfl (by omega)).bi (blkOk_by (N := nExc) (sc := defScope sExc) (by decide +kernel)) (by decide) (by decide) (by decide) (fun x hx s H Cc cl fp => bg_name 1 scExc.nd)
    (fun x hx s H Cc cl fp => bim_range (n := x) (by rfl) T.range (be_var 1) rfl (by have := List.mem_range.mp hx; omega)) (fun x hx y hy s H Cc cl fp => bg_name 2 scExc.nd) (fun x hx y hy s H Cc cl fp => be_tup (ba_cons (be_var 2) (ba_cons (be_var 1) (ba_cons be_str ba_nil))))
    (fun x hx => rfl) (fun i hi => ?_) (fun x hx => by rw [List.length_range]; have := List.mem_range.mp hx; omega)) (excs_enc n)))))
  refine Nat.le_trans (flat_len (m := 5) fun l hl => ?_) ?_
  · obtain ⟨x, hx, rfl⟩ := List.mem_map.mp hl
    have hx2 := List.mem_range.mp (List.mem_of_mem_take hx)
    rw [List.length_map, List.length_range]
    omega
  · rw [List.length_map, List.length_take, List.length_range]
    omega
/-! ### orders_of -/
abbrev sOrd : Stmt := topS 14
abbrev nOrd : List Str := ["width", "found", "lane", "row", "at"]
theorem scOrd : FnScope nOrd ["width"] (defScope sOrd) := ⟨rfl, rfl, rfl, by decide +kernel, rfl, by decide +kernel, by decide +kernel⟩
def R_ord : List PyData → PyData → Prop := fun ds d => ∃ n, ds = [iD n] ∧ n ≤ 5 ∧ d = encOs (ords n)
theorem ordStep_enc (found : List Row) (k : Nat) : (found.map fun row => (List.range (row.length + 1)).map fun at_ => encR (row.take at_ ++ k :: row.drop at_)).flatten = (ordStep found k).map encR := by
  unfold ordStep
  rw [List.map_flatten, List.map_map]
  congr 1
  apply List.map_congr_left
  intro row _
  show _ = ((List.range (row.length + 1)).map fun at_ => row.take at_ ++ k :: row.drop at_).map encR
  rw [List.map_map]
  rfl
theorem range_cons (k m : Nat) : (List.range' k (m + 1)).map iD = iD k :: (List.range' (k + 1) m).map iD := rfl
theorem ok_ord {f : Addr} {fd : FuncData} (F : Fun K "orders_of" "orders_of" sOrd f fd) (T : TxtB mg) : FnOk P w K mg base CX0 1 f fd ["width"] (spD K C R_ord) := by
  refine fnD F scOrd (fun ds d h => by obtain ⟨n, rfl, _⟩ := h; rfl) fun cdv A outer s H E hr ds d h => ?_
  obtain ⟨n, rfl, h5, rfl⟩ := h
  have loop : ∀ (m k : Nat) (s2 : Sl), k + m = n → ∃ t2 : Sl,
      Lp (cxOf CX0 P w K mg base nOrd "orders_of" (defScope sOrd) f cdv A outer s H E).nox C (forT (stAt (defBody sOrd) 1)) (forB (stAt (defBody sOrd) 1)) [.im (iD n), .im (encOs (ords k)), s2, .no, .no] ((List.range' k m).map iD) (.nx [.im (iD n), .im (encOs (ords n)), t2, .no, .no]) := by
    intro m
    induction m with
    | zero =>
      intro k s2 e
      have e' : k = n := by omega
      subst e'
      exact ⟨s2, .nil⟩
    | succ m ih =>
      intro k s2 e
      obtain ⟨t2, hl⟩ := ih (k + 1) (.im (iD k)) (by omega)
      obtain ⟨o1, o2⟩ := ords_ok k (by omega)
      refine ⟨t2, .step [2] (bg_name 2 scOrd.nd) ?_ hl⟩
      have e1 : encOs (ords (k + 1)) = .list ((ords k).map fun row => (List.range (row.length + 1)).map fun at_ => encR (row.take at_ ++ k :: row.drop at_)).flatten := by
        rw [ordStep_enc, ords_succ]
        rfl
      rw [e1]
      refine bss_one (bs_setLc2 1 (ords k) encR (fun row => List.range (row.length + 1)) (fun _ a => iD a) (fun row at_ => encR (row.take at_ ++ k :: row.drop at_)) (fun row => [.im (iD n), .im (encOs (ords k)), .im (iD k), .im (encR row), .no]) (fun row a => [.im (iD n), .im (encOs (ords k)), .im (iD k), .im (encR row), .im (iD a)]) [3] [4] [4] (own := [("row", 3), ("at", 4)]) rfl scOrd.nd
        rfl rfl (sw_true rfl rfl rfl (by decide +kernel)) (bim_list (be_var 1)).bi (blkOk_by (N := nOrd) (sc := defScope sOrd) (by decide +kernel)) (by decide) (by decide) (by decide) (fun x hx s H Cc cl fp => bg_name 3 scOrd.nd)
        (fun x hx s H Cc cl fp => bim_range (n := x.length + 1) (by rfl) T.range (be_add (be_lenT (by rfl) T.len (ds := x.map iD) (be_var 3)) be_int) (by rw [List.length_map]; omega) (by have := (o2 x hx).1; omega)) (fun x hx y hy s H Cc cl fp => bg_name 4 scOrd.nd) (fun x hx y hy s H Cc cl fp => ?_)
        (fun x hx => rfl) (fun i hi => ?_) (fun x hx => by rw [List.length_range]; have := (o2 x hx).1; omega))
      · have hx1 := (o2 x hx).1
        refine be_eq (be_tup (ba_starT (be_slT (l := none) (u := some (y : Int)) (ds := x.map iD) (be_var 3) trivial (be_var 4)) (ba_cons (be_var 2) (ba_starT (be_slT (l := some (y : Int)) (u := none) (ds := x.map iD) (be_var 3) (be_var 4) trivial) ba_nil))) ?_) ?_
        · rw [cut_take, cut_drop, List.length_append, List.length_cons, List.length_append, List.length_take, List.length_drop, List.length_map, List.length_nil]
          omega
        · rw [cut_take, cut_drop, List.append_nil]
          unfold encR
          rw [List.map_append, List.map_cons, List.map_take, List.map_drop]
      · refine Nat.le_trans (flat_len (m := 6) fun l hl => ?_) ?_
        · obtain ⟨x, hx, rfl⟩ := List.mem_map.mp hl
          have := (o2 x (List.mem_of_mem_take hx)).1
          rw [List.length_map, List.length_range]
          omega
        · rw [List.length_map, List.length_take]
          omega
  obtain ⟨t2, hl⟩ := loop n 0 .no (by omega)
  refine .inl (bss_cons (bs_set 1 scOrd.nd (d := encOs (ords 0)) (be_lst (ba_cons (be_tup ba_nil) ba_nil))) (bss_cons (bs_for PassesOwn.never rfl (bim_eq (bim_range (n := n) (by rfl) T.range (be_var 0) rfl (by omega)) ?_) hl) (bss_one (bs_ret (be_var 1)))))
  rw [rngD_iD, List.range_eq_range']
end
end G6

set_option Elab.async false
set_option linter.all false
set_option maxRecDepth 100000
set_option maxHeartbeats 4000000
namespace G6
open PySem PySem.Spec PyProof.Rows L2
theorem partStep_enc (found : List Row) (m : Nat) : (found.map fun row => (List.range (m + 1)).map fun ones => encR (row ++ (List.replicate (m - ones) 0 ++ List.replicate ones 1))).flatten = (partStep found m).map encR := by
  unfold partStep
  rw [List.map_flatten, List.map_map]
  congr 1
  apply List.map_congr_left
  intro row _
  show _ = ((List.range (m + 1)).map fun ones => row ++ (List.replicate (m - ones) 0 ++ List.replicate ones 1)).map encR
  rw [List.map_map]
  rfl
/-- numbers of lanes, in a list or a tuple -/
def seqD (t : Bool) (ns : List Nat) : PyData := if t = true then .tuple (ns.map iD) else .list (ns.map iD)
def PartsOk (ps : List Nat) : Prop := (∀ p ∈ ps, 1 ≤ p) ∧ 1 ≤ ps.sum ∧ ps.sum ≤ 5
theorem sum_len : ∀ {ps : List Nat}, (∀ p ∈ ps, 1 ≤ p) → ps.length ≤ ps.sum
  | [], _ => Nat.le_refl _
  | p :: t, h => by
    have h1 := h p List.mem_cons_self
    have h2 := sum_len fun q hq => h q (List.mem_cons_of_mem _ hq)
    rw [List.length_cons, List.sum_cons]
    omega
section
variable {X : Cx} {C : Addr} {ρ : REnv} {e tg : Expr} {t : Bool} {ns : List Nat} {pos : Pos}
theorem bim_seq (h : BE X C ρ e (seqD t ns)) : BIm X C ρ tg e (ns.map iD) := by
  cases t with
  | true => exact bim_tup h
  | false => exact bim_list h
theorem be_sumS {pn : Pos} (hc : X.calm = true) (hg : Gl X "sum") (hm : X.mg "sum" = none) (h : BE X C ρ e (seqD t ns)) (he : NS X e := by rfl) : BE X C ρ (.Call (.Name "sum" pn) [e] [] pos) (iD ns.sum) := by
  have e1 : PyData.int (toI ns).sum = iD ns.sum := by rw [sum_toI]; rfl
  rw [← e1]
  cases t with
  | true => exact be_sumT hc hg hm (be_eq h (by rw [toI_D]; rfl)) he
  | false => exact be_sumL hc hg hm (bl_im (be_eq h (by rw [toI_D]; rfl))) he
end
section
variable {P : Program} {w : World} {K : PySem.W.Frag} {mg : Str → Option Value} {base : Heap} {C : Addr}
/-! ### check_parts -/
abbrev sCheck : Stmt := topS 9
abbrev nCheck : List Str := ["parts", "one"]
theorem scCheck : FnScope nCheck ["parts"] (defScope sCheck) := ⟨rfl, rfl, rfl, by decide +kernel, rfl, by decide +kernel, by decide +kernel⟩
def R_check : List PyData → PyData → Prop := fun ds d => ∃ t ps, ds = [seqD t ps] ∧ PartsOk ps ∧ d = .none
theorem ok_check {f : Addr} {fd : FuncData} (F : Fun K "check_parts" "check_parts" sCheck f fd) (T : TxtB mg) (TC : ClsF K C) (mL : ∃ t, mg "MOST_LANES" = some (.int 5 t)) (FW : FnB P w K mg base C "is_whole" 1 ["thing"] R_whole) : FnOk P w K mg base CX0 2 f fd ["parts"] (spD K C R_check) := by
  refine fnD F scCheck (fun ds d h => by obtain ⟨t, n, rfl, _⟩ := h; rfl) fun cdv A outer s H E hr ds d h => ?_
  obtain ⟨t, ps, rfl, ⟨h1, hs1, hs5⟩, rfl⟩ := h
  obtain ⟨tk, hL⟩ := mL
  have hlen := sum_len h1
  refine .inr ⟨rfl, _, bss_cons (bs_if (q := false) (o := .nx [.im (seqD t ps), .no]) (bt_bw (bw_or (c := false) (f := false) (bt_eq (bt_not (c := true) (bt_val (be_isiTT (by rfl) T.isinstance (be_var 0) (by rfl) T.list bb_list (by rfl) T.tuple bb_tuple fun H v q => ?_))) rfl) fun _ =>
    bw_or1 (bt_eq (bt_not (c := true) (bt_val (be_eq (be_allL (bs := ps.map fun (p : Nat) => true && decide (1 ≤ (p : Int))) rfl (by rfl) T.all (bl_bf (bf_eq (bf_map ps iD (fun (p : Nat) => .bool (true && decide (1 ≤ (p : Int)))) (fun p => [.im (seqD t ps), .im (iD p)]) [1] (own := [("one", 1)]) rfl scCheck.nd (bim_seq (be_var 0)).bi
      (blkOk_by (N := nCheck) (sc := defScope sCheck) (by decide +kernel)) (by decide) (fun x hx s H Cc cl fp => bg_name 1 scCheck.nd) (fun x hx s H Cc cl fp => be_and (c := true) (be_callF FW hr (ba_cons (be_var 1) ba_nil) ⟨_, rfl, rfl⟩) fun _ => be_one (be_ge (be_var 1) be_int)) (by omega)) (by rw [List.map_map]; rfl)))) ?_))) rfl))) (fun h => nomatch h) (fun _ => bss_nil))
    (bss_cons (bs_if (q := false) (o := .nx [.im (seqD t ps), .no]) (bt_eq (bt_not (bt_le2 be_int (be_sumS rfl (by rfl) T.sum (be_var 0)) (be_of (pe_glob (v := .int 5) (by rfl) hL ⟨_, rfl⟩) fun M H σ Q E k => k _ H (Same.refl H) (.int 5)))) ?_) (fun h => nomatch h) (fun _ => bss_nil)) bss_nil)⟩
  · cases t with
    | true =>
      obtain ⟨ty, h1, h2⟩ := tyx_any (d := .tuple (ps.map iD)) TC q
      exact ⟨ty, h1, by rw [h2]; exact kitAny_cons (b := false) (kit_ty (by decide +kernel)) (fun _ => kitAny_cons (b := true) (kit_ty (by decide +kernel)) (fun h => nomatch h) fun _ => rfl) fun h => nomatch h⟩
    | false =>
      obtain ⟨ty, h1, h2⟩ := tyx_any (d := .list (ps.map iD)) TC q
      exact ⟨ty, h1, by rw [h2]; exact kitAny_cons (b := true) (kit_ty (by decide +kernel)) (fun h => nomatch h) fun _ => rfl⟩
  · congr 1
    rw [List.all_map, List.all_eq_true]
    intro x hx
    have := h1 x hx
    show (true && decide (1 ≤ (x : Int))) = true
    rw [Bool.true_and]
    exact decide_eq_true (by omega)
  · rw [decide_eq_true (show (1 : Int) ≤ (ps.sum : Int) by omega), decide_eq_true (show (ps.sum : Int) ≤ 5 by omega)]
    rfl
/-! ### rows_of -/
abbrev sRows : Stmt := topS 10
abbrev nRows : List Str := ["parts", "found", "many", "row", "ones"]
theorem scRows : FnScope nRows ["parts"] (defScope sRows) := ⟨rfl, rfl, rfl, by decide +kernel, rfl, by decide +kernel, by decide +kernel⟩
def R_rows : List PyData → PyData → Prop := fun ds d => ∃ t ps, ds = [seqD t ps] ∧ PartsOk ps ∧ d = encRT (rowsOf ps)
theorem ok_rows {f : Addr} {fd : FuncData} (F : Fun K "rows_of" "rows_of" sRows f fd) (T : TxtB mg) : FnOk P w K mg base CX0 1 f fd ["parts"] (spD K C R_rows) := by
  refine fnD F scRows (fun ds d h => by obtain ⟨t, n, rfl, _⟩ := h; rfl) fun cdv A outer s H E hr ds d h => ?_
  obtain ⟨t, ps, rfl, ⟨h1, hs1, hs5⟩, rfl⟩ := h
  have loop : ∀ (a : PyData) (qs : List Nat) (n : Nat) (found : List Row) (s2 : Sl), (∀ r ∈ found, VRow n r) → found.length ≤ 2 ^ n → n + qs.sum ≤ 5 → ∃ t2 : Sl,
      Lp (cxOf CX0 P w K mg base nRows "rows_of" (defScope sRows) f cdv A outer s H E).nox C (forT (stAt (defBody sRows) 1)) (forB (stAt (defBody sRows) 1)) [.im a, .im (encOs found), s2, .no, .no] (qs.map iD) (.nx [.im a, .im (encOs (qs.foldl partStep found)), t2, .no, .no]) := by
    intro a qs
    induction qs with
    | nil => intro n found s2 _ _ _; exact ⟨s2, .nil⟩
    | cons m qs ih =>
      intro n found s2 hv hl5 hn
      rw [List.sum_cons] at hn
      obtain ⟨t2, hl⟩ := ih (n + m) (partStep found m) (.im (iD m)) (partStep_v hv) (partStep_len hl5) (by omega)
      have hf : found.length ≤ 32 := Nat.le_trans hl5 (Nat.le_trans (Nat.pow_le_pow_right (by decide) (show n ≤ 5 by omega)) (by decide))
      refine ⟨t2, .step [2] (bg_name 2 scRows.nd) ?_ hl⟩
      have e1 : encOs (partStep found m) = .list (found.map fun row => (List.range (m + 1)).map fun ones => encR (row ++ (List.replicate (m - ones) 0 ++ List.replicate ones 1))).flatten := by
        rw [partStep_enc]
        rfl
      rw [e1]
      refine bss_one (bs_setLc2 1 found encR (fun row => List.range (m + 1)) (fun _ a => iD a) (fun row ones => encR (row ++ (List.replicate (m - ones) 0 ++ List.replicate ones 1))) (fun row => [.im a, .im (encOs found), .im (iD m), .im (encR row), .no]) (fun row o => [.im a, .im (encOs found), .im (iD m), .im (encR row), .im (iD o)]) [3] [4] [4] (own := [("row", 3), ("ones", 4)]) rfl scRows.nd
        rfl rfl (sw_true rfl rfl rfl (by decide +kernel)) (bim_list (be_var 1)).bi (blkOk_by (N := nRows) (sc := defScope sRows) (by decide +kernel)) (by decide) (by decide) (by decide) (fun x hx s H Cc cl fp => bg_name 3 scRows.nd)
        (fun x hx s H Cc cl fp => bim_range (n := m + 1) (by rfl) T.range (be_add (be_var 2) be_int) (by omega) (by omega)) (fun x hx y hy s H Cc cl fp => bg_name 4 scRows.nd) (fun x hx y hy s H Cc cl fp => ?_)
        (fun x hx => rfl) (fun i hi => ?_) (fun x hx => by rw [List.length_range]; omega))
      · have hy2 := List.mem_range.mp hy
        have hx1 := (hv x hx).1
        have e2 : ((m : Int) - (y : Int)).toNat = m - y := by omega
        have e3 : ((y : Int)).toNat = y := by omega
        refine be_eq (be_tup (ba_starT (ws := x.map iD) (be_var 3) (ba_starL (bl_im (be_repL (be_lst (ba_cons be_int ba_nil)) (be_sub (be_var 2) (be_var 4)) (by omega) (by omega) (by decide))) (ba_starL (bl_im (be_repL (be_lst (ba_cons be_int ba_nil)) (be_var 4) (by omega) (by omega) (by decide))) ba_nil))) ?_) ?_
        · rw [e2, e3, rep_one, rep_one, List.append_nil, List.length_append, List.length_append, List.length_replicate, List.length_replicate, List.length_map]
          omega
        · rw [e2, e3, rep_one, rep_one, List.append_nil]
          unfold encR
          rw [List.map_append, List.map_append, List.map_replicate, List.map_replicate]
          rfl
      · refine Nat.le_trans (flat_len (m := 6) fun l hl => ?_) ?_
        · obtain ⟨x, hx, rfl⟩ := List.mem_map.mp hl
          rw [List.length_map, List.length_range]
          omega
        · rw [List.length_map, List.length_take]
          omega
  obtain ⟨t2, hl⟩ := loop (seqD t ps) ps 0 [[]] .no (fun r hr => by
    rw [List.mem_singleton.mp hr]
    exact ⟨rfl, fun x hx => nomatch hx⟩) (by decide) (by omega)
  have po := parted_ok hs1 hs5
  refine .inl (bss_cons (bs_set 1 scRows.nd (d := encOs [[]]) (be_lst (ba_cons (be_tup ba_nil) ba_nil))) (bss_cons (bs_for PassesOwn.never rfl (bim_seq (be_var 0)) hl) (bss_one (bs_ret (be_eq (be_tupleL (by rfl) T.tuple (bl_bf (be_sortedTs (rows := (parted ps).map toI) (ms := (srtD (parted ps)).map toI) (n := ps.sum) (B := 2) hs1 (by rfl) T.sorted
    (bl_im (be_eq (be_var 1) ?_)) (by rw [List.length_map]; exact po.2.2.1) (fun r hr' => ?_) (srtD_unique po.2.2.2)))) ?_)))))
  · rw [← encR_map]; rfl
  · obtain ⟨q, hq, rfl⟩ := List.mem_map.mp hr'
    exact bd_toI (po.2.2.2 q hq)
  · rw [← encR_map]
    rfl
end
end G6

set_option Elab.async false
set_option linter.all false
set_option maxRecDepth 100000
set_option maxHeartbeats 4000000
namespace G6
open PySem PySem.Spec PyProof.Rows L2
section
variable {X : Cx} {C : Addr} {ρ : REnv} {tg : Expr} {pos : Pos}
/-- name = [..], the list owned -/
theorem bs_setLcF (i : Nat) {α : Type} (xs : List α) (enc : α → PyData) (q : α → Bool) (g : α → PyData) (ρ' : α → REnv) (ts : List Nat) {elt iter : Expr} {ifs : List Expr} {scope : Scope} {own : List (Str × Nat)} {y : Str} {py spos : Pos} (hc : X.calm = true) (hN : X.N.Nodup)
    (hy : X.N[i]? = some y) (hyl : X.env.scope.names.lookup y = some .local) (hsw : swapsWith (.ListComp elt [⟨tg, iter, ifs, 0⟩] scope pos) (some (.Name y py)) spos.line X.env = pure true)
    (src : BI X C ρ tg iter (xs.map enc)) (ok : BlkOk X.N X.env.scope scope own) (hts : ∀ i ∈ ts, i ∈ own.map (·.2))
    (tgt : ∀ x ∈ xs, ∀ s H Cc cl fp, BG (X.blk s H scope (compEnvC scope cl Cc X.env) fp) C (wipeR ρ (own.map (·.2))) ts tg (enc x) (ρ' x))
    (tst : ∀ x ∈ xs, ∀ s H Cc cl fp, BTs (X.blk s H scope (compEnvC scope cl Cc X.env) fp) C (ρ' x) ifs (q x))
    (el : ∀ x ∈ xs, q x = true → ∀ s H Cc cl fp, BE (X.blk s H scope (compEnvC scope cl Cc X.env) fp) C (ρ' x) elt (g x))
    (hlen : xs.length ≤ 1000000) (hs : ∀ x, foldedSetIterable iter X.env x = pure x := by intro _; rfl) :
    BS X C ρ (.Assign [.Name y py] (.ListComp elt [⟨tg, iter, ifs, 0⟩] scope pos) spos) (.nx (ρ.set i (.ow ((xs.filter q).map g)))) :=
  bs_fresh (ps_setLc hc hN hy hyl hsw (pi_sem tg iter) ok gB_ok tBs_ok eB_ok hs) (fr_lc xs enc q g ρ' ts hc hN src ok hts tgt tst el hlen)
end
def encP (p : Net × List Row) : PyData := .tuple [encN p.1, encRT p.2]
def encL (l : Layer) : PyData := .list (l.map encP)
def LOk (n : Nat) (l : Layer) : Prop := ∀ p ∈ l, RowsOk n p.2 ∧ p.2 ≠ [] ∧ NetOk n p.1 ∧ p.1.length ≤ 1000
def FOk (n : Nat) (l : Layer) : Prop := ∀ p ∈ l, RowsOk n p.2 ∧ p.2 ≠ []
def OsOk (n : Nat) (os : List Row) : Prop := (∀ od ∈ os, ORow n od) ∧ os.length ≤ 1000
theorem excs_lt {n : Nat} : ∀ x ∈ excs n, x.1 < n ∧ x.2 < n := fun x hx => by
  obtain ⟨s, hs, hx⟩ := mem_flat_map hx
  obtain ⟨f, hf, rfl⟩ := List.mem_map.mp hx
  have a := List.mem_range.mp hs
  have b := List.mem_range.mp hf
  exact ⟨by show f < n; omega, a⟩
theorem excs_len {n : Nat} (h : n ≤ 5) : (excs n).length ≤ 25 := by
  unfold excs
  refine Nat.le_trans (flat_len (m := 5) fun l hl => ?_) ?_
  · obtain ⟨x, hx, rfl⟩ := List.mem_map.mp hl
    have := List.mem_range.mp hx
    rw [List.length_map, List.length_range]
    omega
  · rw [List.length_map, List.length_range]
    omega
theorem beh_rok {n : Nat} {rows : List Row} {net : Net} (h : RowsOk n rows) (ne : rows ≠ []) (hn : NetOk n net) : RowsOk n (beh rows net) ∧ beh rows net ≠ [] :=
  ⟨⟨h.1, h.2.1, Nat.lt_of_le_of_lt (beh_len rows net) h.2.2.1, beh_v h.2.2.2 hn⟩, beh_ne h.2.2.2 hn ne⟩
theorem nxtStep_ok {n : Nat} {os : List Row} {net : Net} {rows : List Row} {found : Layer} {x : Nat × Nat} (hf : FOk n found) (hr : RowsOk n rows) (ne : rows ≠ []) (hx : x.1 < n ∧ x.2 < n) : FOk n (nxtStep os net rows found x) ∧ (nxtStep os net rows found x).length ≤ found.length + 1 := by
  unfold nxtStep
  split
  · refine ⟨fun p hp => ?_, ?_⟩
    · rcases List.mem_append.mp hp with hp | hp
      · exact hf p (List.mem_filter.mp hp).1
      · rw [List.mem_singleton.mp hp]
        exact beh_rok hr ne fun q hq => by rw [List.mem_singleton.mp hq]; exact hx
    · rw [List.length_append, List.length_singleton]
      have := List.length_filter_le (fun p : Net × List Row => !cov (beh rows [x]) p.2 os) found
      omega
  · exact ⟨hf, Nat.le_succ _⟩
theorem nxtIn_ok {n : Nat} {os : List Row} {net : Net} {rows : List Row} (hr : RowsOk n rows) (ne : rows ≠ []) : ∀ {xs : Net} {found : Layer}, FOk n found → (∀ x ∈ xs, x.1 < n ∧ x.2 < n) → FOk n (xs.foldl (nxtStep os net rows) found) ∧ (xs.foldl (nxtStep os net rows) found).length ≤ found.length + xs.length
  | [], found, hf, _ => ⟨hf, Nat.le_refl _⟩
  | x :: xs, found, hf, hx => by
    obtain ⟨a, b⟩ := nxtStep_ok (os := os) (net := net) hf hr ne (hx x List.mem_cons_self)
    obtain ⟨c, d⟩ := nxtIn_ok (os := os) (net := net) hr ne a fun y hy => hx y (List.mem_cons_of_mem _ hy)
    refine ⟨c, ?_⟩
    rw [List.length_cons]
    show (xs.foldl (nxtStep os net rows) (nxtStep os net rows found x)).length ≤ _
    omega
section
variable {P : Program} {w : World} {K : PySem.W.Frag} {mg : Str → Option Value} {base : Heap} {C : Addr}
/-! ### next_layer -/
abbrev sNext : Stmt := topS 17
abbrev nNext : List Str := ["layer", "width", "orders", "found", "net", "rows", "exchange", "late", "more", "other"]
theorem scNext : FnScope nNext ["layer", "width", "orders"] (defScope sNext) := ⟨rfl, rfl, rfl, by decide +kernel, rfl, by decide +kernel, by decide +kernel⟩
def R_next : List PyData → PyData → Prop := fun ds d => ∃ n l os, ds = [encL l, iD n, encOs os] ∧ n ≤ 5 ∧ LOk n l ∧ l.length ≤ 1000 ∧ OsOk n os ∧ d = encL (nxt l n os)
theorem ok_next {f : Addr} {fd : FuncData} (F : Fun K "next_layer" "next_layer" sNext f fd) (T : TxtB mg) (FE : FnB P w K mg base C "exchanges_of" 1 ["width"] R_exc) (FB : FnB P w K mg base C "behind" 2 ["rows", "net"] R_behind) (FC : FnB P w K mg base C "covers" 2 ["one", "other", "orders"] R_cov) :
    FnOk P w K mg base CX0 3 f fd ["layer", "width", "orders"] (spD K C R_next) := by
  refine fnD F scNext (fun ds d h => by obtain ⟨n, l, o, rfl, _⟩ := h; rfl) fun cdv A outer s H E hr ds d h => ?_
  obtain ⟨n, l, os, rfl, h5, hl, hlen, hos, rfl⟩ := h
  have inner : ∀ (net : Net) (rows : List Row) (a b : PyData), RowsOk n rows → rows ≠ [] → net.length ≤ 1000 → ∀ (xs : Net) (found : Layer) (s6 s7 : Sl), (∀ x ∈ xs, x.1 < n ∧ x.2 < n) → FOk n found → found.length + xs.length ≤ 100000 → ∃ t6 t7 : Sl,
      Lp (cxOf CX0 P w K mg base nNext "next_layer" (defScope sNext) f cdv A outer s H E).nox C (forT (stAt (forB (stAt (defBody sNext) 1)) 0)) (forB (stAt (forB (stAt (defBody sNext) 1)) 0)) [.im a, .im b, .im (encOs os), .ow (found.map encP), .im (encN net), .im (encRT rows), s6, s7, .no, .no] (xs.map encX)
        (.nx [.im a, .im b, .im (encOs os), .ow ((xs.foldl (nxtStep os net rows) found).map encP), .im (encN net), .im (encRT rows), t6, t7, .no, .no]) := by
    intro net rows a b hrk hne hnl xs
    induction xs with
    | nil => intro found s6 s7 _ _ _; exact ⟨s6, s7, .nil⟩
    | cons x xs ih =>
      intro found s6 s7 hx hf hln
      rw [List.length_cons] at hln
      have hx1 := hx x List.mem_cons_self
      have hnx : NetOk n [x] := fun q hq => by rw [List.mem_singleton.mp hq]; exact hx1
      obtain ⟨hlk, hlne⟩ := beh_rok hrk hne hnx
      obtain ⟨nf, nl⟩ := nxtStep_ok (os := os) (net := net) hf hrk hne hx1
      obtain ⟨t6, t7, hl⟩ := ih (nxtStep os net rows found x) (.im (encX x)) (.im (encRT (beh rows [x]))) (fun y hy => hx y (List.mem_cons_of_mem _ hy)) nf (by omega)
      refine ⟨t6, t7, .step [6] (bg_name 6 scNext.nd) (bss_cons (bs_set 7 scNext.nd (d := encRT (beh rows [x])) (be_callF FB hr (ba_cons (be_var 5) (ba_cons (be_lst (ba_cons (be_var 6) ba_nil)) ba_nil)) ⟨n, rows, [x], rfl, hrk, hnx, rfl⟩)) ?_) hl⟩
      have e1 : (!PyData.eqv (encRT (beh rows [x])) (encRT rows) && !((found.map fun p => cov p.2 (beh rows [x]) os).any id)) = (!decide (beh rows [x] = rows) && !(found.any fun p => cov p.2 (beh rows [x]) os)) := by
        rw [enc_RT.eq, List.any_map]
        rfl
      refine bss_one (bs_if (bt_bw (bw_and (bt_neD (Room.units hr) (be_var 7) (be_var 5) (enc_RT.sh (by decide) _) (enc_RT.sh (by decide) _)) fun _ => bw_and1 (bt_not (bt_val (be_anyL (bs := found.map fun p => cov p.2 (beh rows [x]) os) rfl (by rfl) T.any (bl_bf (bf_eq
        (bf_map found encP (fun p => .bool (cov p.2 (beh rows [x]) os)) (fun p => [.im a, .im b, .im (encOs os), .ow (found.map encP), .im (encN net), .im (encRT rows), .im (encX x), .im (encRT (beh rows [x])), .im (encN p.1), .im (encRT p.2)]) [8, 9] (own := [("more", 8), ("other", 9)]) rfl scNext.nd (bi_list (bl_own 3))
          (blkOk_by (N := nNext) (sc := defScope sNext) (by decide +kernel)) (by decide) (fun p hp s H Cc cl fp => bg_tup rfl (bgs_cons (bg_name 8 scNext.nd) (bgs_cons (bg_name 9 scNext.nd) bgs_nil)))
          (fun p hp s H Cc cl fp => be_callF FC hr (ba_cons (be_var 9) (ba_cons (be_var 7) (ba_cons (be_var 2) ba_nil))) ⟨n, p.2, beh rows [x], os, rfl, (hf p hp).1, hlk, (hf p hp).2, hlne, hos.1, hos.2, rfl⟩) (by omega)) (by rw [List.map_map]; rfl)))))))) (fun hq => ?_) (fun hq => ?_))
      · rw [e1] at hq
        have e2 : nxtStep os net rows found x = (found.filter fun p => !cov (beh rows [x]) p.2 os) ++ [(net ++ [x], beh rows [x])] := by
          unfold nxtStep
          rw [if_pos hq]
        rw [e2]
        refine bss_cons (bs_setLcF 3 found encP (fun p => !cov (beh rows [x]) p.2 os) encP (fun p => [.im a, .im b, .im (encOs os), .ow (found.map encP), .im (encN net), .im (encRT rows), .im (encX x), .im (encRT (beh rows [x])), .im (encN p.1), .im (encRT p.2)]) [8, 9] (own := [("more", 8), ("other", 9)]) rfl scNext.nd rfl rfl (sw_true rfl rfl rfl (by decide +kernel)) (bi_list (bl_own 3))
          (blkOk_by (N := nNext) (sc := defScope sNext) (by decide +kernel)) (by decide) (fun p hp s H Cc cl fp => bg_tup rfl (bgs_cons (bg_name 8 scNext.nd) (bgs_cons (bg_name 9 scNext.nd) bgs_nil)))
          (fun p hp s H Cc cl fp => bts_one (bt_not (bt_val (be_callF FC hr (ba_cons (be_var 7) (ba_cons (be_var 9) (ba_cons (be_var 2) ba_nil))) ⟨n, beh rows [x], p.2, os, rfl, hlk, (hf p hp).1, hlne, (hf p hp).2, hos.1, hos.2, rfl⟩))))
          (fun p hp _ s H Cc cl fp => be_tup (ba_cons (be_var 8) (ba_cons (be_var 9) ba_nil))) (by omega)) ?_
        refine bss_eq (bss_one (bs_append 3 rfl (be_tup (ba_cons (be_lst (ba_starL (bl_im (be_var 4)) (ba_cons (be_var 6) ba_nil)) ?_) (ba_cons (be_var 7) ba_nil))) ?_)) ?_
        · rw [List.length_append, List.length_map, List.length_singleton]
          omega
        · rw [List.length_map]
          have := List.length_filter_le (fun p : Net × List Row => !cov (beh rows [x]) p.2 os) found
          omega
        · have e3 : encP (net ++ [x], beh rows [x]) = .tuple [.list (net.map encX ++ [encX x]), encRT (beh rows [x])] := by
            unfold encP encN
            rw [List.map_append]
            rfl
          rw [List.map_append, List.map_singleton, e3]
          rfl
      · rw [e1] at hq
        have e2 : nxtStep os net rows found x = found := by
          unfold nxtStep
          rw [if_neg (by rw [hq]; exact Bool.false_ne_true)]
        rw [e2]
        exact bss_nil
  have outer' : ∀ (a : PyData) (l : Layer) (found : Layer) (s4 s5 s6 s7 : Sl), LOk n l → FOk n found → found.length + l.length * 25 ≤ 100000 → ∃ t4 t5 t6 t7 : Sl,
      Lp (cxOf CX0 P w K mg base nNext "next_layer" (defScope sNext) f cdv A outer s H E).nox C (forT (stAt (defBody sNext) 1)) (forB (stAt (defBody sNext) 1)) [.im a, .im (iD n), .im (encOs os), .ow (found.map encP), s4, s5, s6, s7, .no, .no] (l.map encP)
        (.nx [.im a, .im (iD n), .im (encOs os), .ow ((l.foldl (fun f p => (excs n).foldl (nxtStep os p.1 p.2) f) found).map encP), t4, t5, t6, t7, .no, .no]) := by
    intro a l
    induction l with
    | nil => intro found s4 s5 s6 s7 _ _ _; exact ⟨s4, s5, s6, s7, .nil⟩
    | cons p l ih =>
      intro found s4 s5 s6 s7 hl hf hln
      rw [List.length_cons] at hln
      obtain ⟨hrk, hne, hnk, hnl⟩ := hl p List.mem_cons_self
      have hel := excs_len h5
      obtain ⟨t6, t7, hin⟩ := inner p.1 p.2 a (iD n) hrk hne hnl (excs n) found s6 s7 excs_lt hf (by omega)
      obtain ⟨nf, nl⟩ := nxtIn_ok (os := os) (net := p.1) hrk hne hf (excs_lt (n := n))
      obtain ⟨u4, u5, u6, u7, hout⟩ := ih ((excs n).foldl (nxtStep os p.1 p.2) found) (.im (encN p.1)) (.im (encRT p.2)) t6 t7 (fun q hq => hl q (List.mem_cons_of_mem _ hq)) nf (by omega)
      exact ⟨u4, u5, u6, u7, .step [4, 5] (bg_tup rfl (bgs_cons (bg_name 4 scNext.nd) (bgs_cons (bg_name 5 scNext.nd) bgs_nil))) (bss_one (bs_for PassesOwn.never rfl (bim_list (be_callF FE (hr.mono (by decide)) (ba_cons (be_var 1) ba_nil) ⟨n, rfl, h5, rfl⟩)) hin)) hout⟩
  obtain ⟨t4, t5, t6, t7, hout⟩ := outer' (encL l) l [] .no .no .no .no hl (fun p hp => nomatch hp) (by rw [List.length_nil]; omega)
  exact .inl (bss_cons (bs_setF 3 scNext.nd (bf_lst ba_nil)) (bss_cons (bs_for PassesOwn.never rfl (bim_list (be_var 0)) hout) (bss_freeze 3 rfl (bss_one (bs_ret (be_var 3))))))
end
end G6

set_option Elab.async false
set_option linter.all false
set_option maxRecDepth 100000
set_option maxHeartbeats 4000000
namespace G6
open PySem PySem.Spec PyProof.Rows L2
def encSs (ss : List (List Row)) : PyData := .list (ss.map encRT)
def SsOk (n : Nat) (ss : List (List Row)) : Prop := ∀ s ∈ ss, RowsOk n s ∧ s ≠ []
theorem any_id {α : Type} (f : α → Bool) (l : List α) : (l.map f).any id = l.any f := by rw [List.any_map]; rfl
theorem all_id {α : Type} (f : α → Bool) (l : List α) : (l.map f).all id = l.all f := by rw [List.all_map]; rfl
section
variable {P : Program} {w : World} {K : PySem.W.Frag} {mg : Str → Option Value} {base : Heap} {C : Addr}
/-! ### is_covered -/
abbrev sIsc : Stmt := topS 19
abbrev nIsc : List Str := ["one", "other", "exchanges", "orders", "rows", "exchange", "late", "less"]
theorem scIsc : FnScope nIsc ["one", "other", "exchanges", "orders"] (defScope sIsc) := ⟨rfl, rfl, rfl, by decide +kernel, rfl, by decide +kernel, by decide +kernel⟩
def R_isc : List PyData → PyData → Prop := fun ds d => ∃ n one other xs os, ds = [encSs one, encSs other, encN xs, encOs os] ∧ SsOk n one ∧ SsOk n other ∧ other.length ≤ 10000 ∧ NetOk n xs ∧ OsOk n os ∧ d = .bool (isCov one other xs os)
theorem ok_isc {f : Addr} {fd : FuncData} (F : Fun K "is_covered" "is_covered" sIsc f fd) (T : TxtB mg) (FB : FnB P w K mg base C "behind" 2 ["rows", "net"] R_behind) (FC : FnB P w K mg base C "covers" 2 ["one", "other", "orders"] R_cov) : FnOk P w K mg base CX0 3 f fd ["one", "other", "exchanges", "orders"] (spD K C R_isc) := by
  refine fnD F scIsc (fun ds d h => by obtain ⟨n, l, o, a, b, rfl, _⟩ := h; rfl) fun cdv A outer s H E hr ds d h => ?_
  obtain ⟨n, one, other, xs, os, rfl, ho1, ho2, hlen, hxs, hos, rfl⟩ := h
  have inner : ∀ (a b : PyData) (rows : List Row), RowsOk n rows → rows ≠ [] → ∀ (ys : Net) (s5 s6 : Sl), NetOk n ys →
      ((ys.all fun x => decide (beh rows [x] = rows) || other.any fun less => cov less (beh rows [x]) os) = true → ∃ t5 t6 : Sl, Lp (cxOf CX0 P w K mg base nIsc "is_covered" (defScope sIsc) f cdv A outer s H E).nox C (forT (stAt (forB (stAt (defBody sIsc) 0)) 0)) (forB (stAt (forB (stAt (defBody sIsc) 0)) 0)) [.im a, .im (encSs other), .im b, .im (encOs os), .im (encRT rows), s5, s6, .no] (ys.map encX)
        (.nx [.im a, .im (encSs other), .im b, .im (encOs os), .im (encRT rows), t5, t6, .no])) ∧
      ((ys.all fun x => decide (beh rows [x] = rows) || other.any fun less => cov less (beh rows [x]) os) = false → Lp (cxOf CX0 P w K mg base nIsc "is_covered" (defScope sIsc) f cdv A outer s H E).nox C (forT (stAt (forB (stAt (defBody sIsc) 0)) 0)) (forB (stAt (forB (stAt (defBody sIsc) 0)) 0)) [.im a, .im (encSs other), .im b, .im (encOs os), .im (encRT rows), s5, s6, .no] (ys.map encX) (.rt (.bool false))) := by
    intro a b rows hrk hne ys
    induction ys with
    | nil => intro s5 s6 _; exact ⟨fun _ => ⟨s5, s6, .nil⟩, fun h => nomatch h⟩
    | cons x ys ih =>
      intro s5 s6 hx
      have hnx : NetOk n [x] := fun q hq => by rw [List.mem_singleton.mp hq]; exact hx x List.mem_cons_self
      obtain ⟨hlk, hlne⟩ := beh_rok hrk hne hnx
      obtain ⟨i1, i2⟩ := ih (.im (encX x)) (.im (encRT (beh rows [x]))) fun q hq => hx q (List.mem_cons_of_mem _ hq)
      have e1 : (!PyData.eqv (encRT (beh rows [x])) (encRT rows) && !((other.map fun less => cov less (beh rows [x]) os).any id)) = !(decide (beh rows [x] = rows) || other.any fun less => cov less (beh rows [x]) os) := by
        rw [enc_RT.eq, any_id, Bool.not_or]
      have step : ∀ {o : Out}, (∀ q, (!(decide (beh rows [x] = rows) || other.any fun less => cov less (beh rows [x]) os)) = q → q = true → o = .rt (.bool false)) → (∀ q, (!(decide (beh rows [x] = rows) || other.any fun less => cov less (beh rows [x]) os)) = q → q = false → o = .nx [.im a, .im (encSs other), .im b, .im (encOs os), .im (encRT rows), .im (encX x), .im (encRT (beh rows [x])), .no]) →
          BSs (cxOf CX0 P w K mg base nIsc "is_covered" (defScope sIsc) f cdv A outer s H E).nox C [.im a, .im (encSs other), .im b, .im (encOs os), .im (encRT rows), .im (encX x), s6, .no] (forB (stAt (forB (stAt (defBody sIsc) 0)) 0)) o := fun {o} h1 h2 =>
        bss_cons (bs_set 6 scIsc.nd (d := encRT (beh rows [x])) (be_callF FB hr (ba_cons (be_var 4) (ba_cons (be_lst (ba_cons (be_var 5) ba_nil)) ba_nil)) ⟨n, rows, [x], rfl, hrk, hnx, rfl⟩))
          (bss_one (bs_if (bt_bw (bw_and (bt_neD (Room.units hr) (be_var 6) (be_var 4) (enc_RT.sh (by decide) _) (enc_RT.sh (by decide) _)) fun _ => bw_and1 (bt_not (bt_val (be_anyL (bs := other.map fun less => cov less (beh rows [x]) os) rfl (by rfl) T.any (bl_bf (bf_eq
            (bf_map other encRT (fun less => .bool (cov less (beh rows [x]) os)) (fun less => [.im a, .im (encSs other), .im b, .im (encOs os), .im (encRT rows), .im (encX x), .im (encRT (beh rows [x])), .im (encRT less)]) [7] (own := [("less", 7)]) rfl scIsc.nd (bim_list (be_var 1)).bi
              (blkOk_by (N := nIsc) (sc := defScope sIsc) (by decide +kernel)) (by decide) (fun p hp s H Cc cl fp => bg_name 7 scIsc.nd)
              (fun p hp s H Cc cl fp => be_callF FC hr (ba_cons (be_var 7) (ba_cons (be_var 6) (ba_cons (be_var 3) ba_nil))) ⟨n, p, beh rows [x], os, rfl, (ho2 p hp).1, hlk, (ho2 p hp).2, hlne, hos.1, hos.2, rfl⟩) (by omega)) (by rw [List.map_map]; rfl))))))))
            (fun hq => by rw [e1] at hq; rw [h1 _ rfl hq]; exact bss_one (bs_ret be_bl)) (fun hq => by rw [e1] at hq; rw [h2 _ rfl hq]; exact bss_nil)))
      rw [List.all_cons]
      cases hc : (decide (beh rows [x] = rows) || other.any fun less => cov less (beh rows [x]) os) with
      | true =>
        rw [hc] at step
        rw [Bool.true_and]
        refine ⟨fun h => ?_, fun h => ?_⟩
        · obtain ⟨t5, t6, hl⟩ := i1 h
          exact ⟨t5, t6, .step [5] (bg_name 5 scIsc.nd) (step (fun q a b => by rw [← a] at b; cases b) (fun _ _ _ => rfl)) hl⟩
        · exact .step [5] (bg_name 5 scIsc.nd) (step (fun q a b => by rw [← a] at b; cases b) (fun _ _ _ => rfl)) (i2 h)
      | false =>
        rw [hc] at step
        rw [Bool.false_and]
        refine ⟨(fun h => nomatch h), fun _ => ?_⟩
        exact .ret [5] (bg_name 5 scIsc.nd) (step (fun _ _ _ => rfl) (fun q a b => by rw [← a] at b; cases b))
  have outer' : ∀ (a : PyData) (ss : List (List Row)) (s4 s5 s6 : Sl), SsOk n ss →
      (isCov ss other xs os = true → ∃ t4 t5 t6 : Sl, Lp (cxOf CX0 P w K mg base nIsc "is_covered" (defScope sIsc) f cdv A outer s H E).nox C (forT (stAt (defBody sIsc) 0)) (forB (stAt (defBody sIsc) 0)) [.im a, .im (encSs other), .im (encN xs), .im (encOs os), s4, s5, s6, .no] (ss.map encRT)
        (.nx [.im a, .im (encSs other), .im (encN xs), .im (encOs os), t4, t5, t6, .no])) ∧
      (isCov ss other xs os = false → Lp (cxOf CX0 P w K mg base nIsc "is_covered" (defScope sIsc) f cdv A outer s H E).nox C (forT (stAt (defBody sIsc) 0)) (forB (stAt (defBody sIsc) 0)) [.im a, .im (encSs other), .im (encN xs), .im (encOs os), s4, s5, s6, .no] (ss.map encRT) (.rt (.bool false))) := by
    intro a ss
    induction ss with
    | nil => intro s4 s5 s6 _; exact ⟨fun _ => ⟨s4, s5, s6, .nil⟩, fun h => nomatch h⟩
    | cons rows ss ih =>
      intro s4 s5 s6 hss
      obtain ⟨hrk, hne⟩ := hss rows List.mem_cons_self
      obtain ⟨j1, j2⟩ := inner a (encN xs) rows hrk hne xs s5 s6 hxs
      unfold isCov
      rw [List.all_cons]
      cases hc : (xs.all fun x => decide (beh rows [x] = rows) || other.any fun less => cov less (beh rows [x]) os) with
      | true =>
        obtain ⟨t5, t6, hl⟩ := j1 hc
        obtain ⟨i1, i2⟩ := ih (.im (encRT rows)) t5 t6 fun q hq => hss q (List.mem_cons_of_mem _ hq)
        rw [Bool.true_and]
        refine ⟨fun h => ?_, fun h => ?_⟩
        · obtain ⟨u4, u5, u6, hl2⟩ := i1 h
          exact ⟨u4, u5, u6, .step [4] (bg_name 4 scIsc.nd) (bss_one (bs_for PassesOwn.never rfl (bim_list (be_var 2)) hl)) hl2⟩
        · exact .step [4] (bg_name 4 scIsc.nd) (bss_one (bs_for PassesOwn.never rfl (bim_list (be_var 2)) hl)) (i2 h)
      | false =>
        rw [Bool.false_and]
        refine ⟨(fun h => nomatch h), fun _ => ?_⟩
        exact .ret [4] (bg_name 4 scIsc.nd) (bss_one (bs_for PassesOwn.never rfl (bim_list (be_var 2)) (j2 hc)))
  obtain ⟨k1, k2⟩ := outer' (encSs one) one .no .no .no ho1
  cases hc : isCov one other xs os with
  | true =>
    obtain ⟨t4, t5, t6, hl⟩ := k1 hc
    exact .inl (bss_cons (bs_for PassesOwn.never rfl (bim_list (be_var 0)) hl) (bss_one (bs_ret be_bl)))
  | false => exact .inl (bss_rt (bs_for PassesOwn.never rfl (bim_list (be_var 0)) (k2 hc)))
/-! ### LeastNet -/
abbrev sEq : Stmt := inClass (topS 18) 1
theorem scEq : FnScope ["self", "other"] ["self", "other"] (defScope sEq) := ⟨rfl, rfl, rfl, by decide +kernel, rfl, by decide +kernel, by decide +kernel⟩
def R_eq : List PyData → PyData → Prop := fun ds d => ∃ n l n' l', ds = [objD (encN n) (encLs l), objD (encN n') (encLs l')] ∧ d = .bool (decide (n = n') && decide (l = l'))
theorem ok_eq {f : Addr} {fd : FuncData} (F : Fun K "__eq__" "LeastNet.__eq__" sEq f fd) (T : TxtB mg) (TC : ClsF K C) (mC : mg "LeastNet" = some (.ref C)) : FnOk P w K mg base CX0 1 f fd ["self", "other"] (spD K C R_eq) := by
  refine fnD F scEq (fun ds d h => by obtain ⟨n, l, o, a, rfl, _⟩ := h; rfl) fun cdv A outer s H E hr ds d h => ?_
  obtain ⟨n, l, n', l', rfl, rfl⟩ := h
  refine .inl (bss_one (bs_ret (be_eq (be_and (c := true) (be_isiC (by rfl) T.isinstance (be_var 1) (by rfl) mC fun H v q => ?_) fun _ => be_and (be_eqD (Room.units hr) (be_net TC (be_var 0)) (be_net TC (be_var 1)) (enc_N.sh (by decide) _) (enc_N.sh (by decide) _)) fun _ =>
    be_one (be_eqD (Room.units hr) (be_layers TC (be_var 0)) (be_layers TC (be_var 1)) (enc_Ls.sh (by decide) _) (enc_Ls.sh (by decide) _))) ?_)))
  · obtain ⟨t, h1, h2⟩ := tyx_any (d := objD (encN n') (encLs l')) TC q
    refine ⟨t, h1, ?_⟩
    have h3 : t = .ref C := h2
    rw [h3]
    unfold PySem.W.kitOne
    simp
  · rw [enc_N.eq, enc_Ls.eq, Bool.true_and]
abbrev sLen : Stmt := inClass (topS 18) 2
theorem scLen : FnScope ["self"] ["self"] (defScope sLen) := ⟨rfl, rfl, rfl, by decide +kernel, rfl, by decide +kernel, by decide +kernel⟩
def R_len : List PyData → PyData → Prop := fun ds d => ∃ n dl, ds = [objD (encN n) dl] ∧ d = .int (n.length : Nat)
theorem ok_len {f : Addr} {fd : FuncData} (F : Fun K "__len__" "LeastNet.__len__" sLen f fd) (T : TxtB mg) (TC : ClsF K C) : FnOk P w K mg base CX0 1 f fd ["self"] (spD K C R_len) := by
  refine fnD F scLen (fun ds d h => by obtain ⟨n, l, rfl, _⟩ := h; rfl) fun cdv A outer s H E hr ds d h => ?_
  obtain ⟨n, l, rfl, rfl⟩ := h
  exact .inl (bss_one (bs_ret (be_eq (be_lenL (by rfl) T.len (bl_im (be_net TC (be_var 0)))) (by rw [List.length_map]))))
end
end G6

set_option Elab.async false
set_option linter.all false
set_option maxRecDepth 100000
set_option maxHeartbeats 4000000
namespace G6
open PySem PySem.Spec PyProof.Rows L2
def netD (t : Bool) (n : Net) : PyData := if t = true then .tuple (n.map encX) else encN n
theorem EnvOk.stay {K : PySem.W.Frag} {C : Addr} {M : List Addr} {H H' : Hp} {σ : L2.St} {ρ : REnv} (E : EnvOk K C M H σ ρ) (hn : noOw ρ = true) (e : Same (Msk M H) (Msk M H')) (o : Own M H') : EnvOk K C M H' σ ρ where
  own := o
  len := E.len
  slot := fun i s h => by
    have q := E.slot i s h
    cases s with
    | no => trivial
    | im d => obtain ⟨v, h1, h2⟩ := q; exact ⟨v, h1, h2.mono e⟩
    | ow ds => exact (noOw_at hn h).elim
  dist := E.dist
theorem putF_two (vn vl : V) : putF "layers" vl (putF "net" vn []) = ([("net", vn), ("layers", vl)] : List (Str × V)) := by
  have h : ¬ (("net" : Str) = "layers") := by decide +kernel
  show (if ("net" : Str) = "layers" then [(("net" : Str), vl)] else (("net" : Str), vn) :: putF "layers" vl []) = _
  rw [if_neg h]
  rfl
section
variable {P : Program} {w : World} {K : PySem.W.Frag} {mg : Str → Option Value} {base : Heap} {C : Addr}
/-! ### __init__ -/
abbrev sInit : Stmt := inClass (topS 18) 0
abbrev nInit : List Str := ["self", "net", "layers", "other", "layer"]
theorem scInit : FnScope nInit ["self", "net", "layers"] (defScope sInit) := ⟨rfl, rfl, rfl, by decide +kernel, rfl, by decide +kernel, by decide +kernel⟩
def R_init : PyData → PyData → PyData → PyData → Prop := fun d1 d2 dn dl => ∃ t n l, d1 = netD t n ∧ d2 = encLs l ∧ dn = encN n ∧ dl = encLs l ∧ l.length ≤ 1000 ∧ ∀ y ∈ l, y.length ≤ 1000
theorem ok_init {f : Addr} {fd : FuncData} (F : Fun K "__init__" "LeastNet.__init__" sInit f fd) (T : TxtB mg) (TC : ClsF K C) : FnOk P w K mg base CX0 1 f fd ["self", "net", "layers"] (spInit K C R_init) := by
  refine F.ok scInit (fun vs H Q E h => ?_) (fun cdv A outer s H vs Q E hr h => ?_)
  · obtain ⟨M, x, dx, v1, v2, d1, d2, dn, dl, rfl, _⟩ := h
    rfl
  · obtain ⟨M, x, dx, v1, v2, d1, d2, dn, dl, rfl, o, hx, nx, _, q1, q2, ⟨t, n, l, rfl, rfl, rfl, rfl, hl1, hl2⟩, kk⟩ := h
    have o2 : Own (x :: M) H := fun a h => by
      rcases List.mem_cons.mp h with e | h
      · subst e; rw [hx]; exact fun z => nomatch z
      · exact o a h
    have E0 : EnvOk K C (x :: M) H (L2.start nInit [.ref x, v1, v2]) [.no, .im (netD t n), .im (encLs l), .no, .no] := by
      refine ⟨o2, rfl, fun i sl hi => ?_, fun i j di dj m h1 _ _ _ => ?_⟩
      · match i, hi with
        | 0, hi => cases hi; trivial
        | 1, hi => cases hi; exact ⟨v1, rfl, q1⟩
        | 2, hi => cases hi; exact ⟨v2, rfl, q2⟩
        | 3, hi => cases hi; trivial
        | 4, hi => cases hi; trivial
        | n + 5, hi => simp at hi
      · exact (noOw_at (ρ := [.no, .im (netD t n), .im (encLs l), .no, .no]) rfl h1).elim
    have b1 : BE (cxOf CX0 P w K mg base nInit "LeastNet.__init__" (defScope sInit) f cdv A outer s H E).nox C [.no, .im (netD t n), .im (encLs l), .no, .no] (stE (stAt (defBody sInit) 0)) (encN n) := by
      cases t with
      | true => exact be_listT (by rfl) T.list (be_var 1)
      | false => exact be_listL (by rfl) T.list (bl_im (be_var 1))
    have b2 : BE (cxOf CX0 P w K mg base nInit "LeastNet.__init__" (defScope sInit) f cdv A outer s H E).nox C [.no, .im (netD t n), .im (encLs l), .no, .no] (stE (stAt (defBody sInit) 1)) (encLs l) :=
      be_bf (bf_map l encNs encNs (fun y => [.no, .im (netD t n), .im (encLs l), .no, .im (encNs y)]) [4] (own := [("layer", 4)]) rfl scInit.nd (bim_list (be_var 2)).bi (blkOk_by (N := nInit) (sc := defScope sInit) (by decide +kernel)) (by decide) (fun y hy s H Cc cl fp => bg_name 4 scInit.nd)
        (fun y hy s H Cc cl fp => be_bf (bf_map y encN encN (fun z => [.no, .im (netD t n), .im (encLs l), .im (encN z), .im (encNs y)]) [3] (own := [("other", 3)]) rfl scInit.nd (bim_list (be_var 4)).bi (blkOk_by (N := nInit) (sc := relS (lcScope (stE (stAt (defBody sInit) 1))) (defScope sInit)) (by decide +kernel)) (by decide) (fun z hz s H Cc cl fp => bg_name 3 scInit.nd)
          (fun z hz s H Cc cl fp => be_listL (by rfl) T.list (bl_im (be_var 3))) (by have := hl2 y hy; omega))) (by omega))
    refine ⟨_, pss_cons (ps_fld (pv 0) (pe_sem _) rfl) (pss_one (ps_fld (pv 0) (pe_sem _) rfl)), ?_⟩
    refine b1 (x :: M) H _ _ E0 fun y1 H1 s1 p1 => ⟨_, rfl, x, C, dx, [], rfl, s1 _ _ hx, TC.cl, TC.nN, by show 0 < 1000; decide, ?_⟩
    have m1 : Msk (x :: M) (upd H1 x (.ins C dx (putF "net" y1 []))) = Msk (x :: M) H1 := msk_upd List.mem_cons_self
    have E1 := E0.stay (H' := upd H1 x (.ins C dx (putF "net" y1 []))) rfl (by rw [m1]; exact msk_mono s1) (own_upd (o2.mono s1))
    refine b2 (x :: M) _ _ _ E1 fun y2 H2 s2 p2 => ⟨_, rfl, x, C, dx, _, rfl, s2 _ _ upd_same, TC.cl, TC.nL, by show 1 < 1000; decide, ?_⟩
    have m2 : Msk (x :: M) (upd H2 x (.ins C dx (putF "layers" y2 (putF "net" y1 [])))) = Msk (x :: M) H2 := msk_upd List.mem_cons_self
    refine kk _ y1 y2 (fun a u ha hu => ?_) (by rw [upd_same, putF_two]) ?_ (by rw [m2]; exact p2)
    · rw [upd_ne ha]
      exact s2 _ _ (by rw [upd_ne ha]; exact s1 _ _ hu)
    · rw [m2]
      exact p1.mono (by rw [← m1]; exact msk_mono s2)
end
end G6

set_option Elab.async false
set_option linter.all false
set_option maxRecDepth 100000
set_option maxHeartbeats 4000000
namespace G6
open PySem PySem.Spec PyProof.Rows L2
def enF : Nat → List (List Net) → List PyData
  | _, [] => []
  | k, l :: t => .tuple [iD k, encNs l] :: enF (k + 1) t
theorem enumD_from : ∀ (k : Nat) (ls : List (List Net)), (ls.map encNs).mapIdx (fun (i : Nat) d => PyData.tuple [iD (k + i), d]) = enF k ls
  | _, [] => rfl
  | k, l :: t => by
    rw [List.map_cons, List.mapIdx_cons, enF, Nat.add_zero]
    congr 1
    rw [← enumD_from (k + 1) t]
    congr 1
    funext i d
    rw [show k + (i + 1) = k + 1 + i by omega]
theorem enumD_enF (ls : List (List Net)) : enumD (ls.map encNs) = enF 0 ls := by
  rw [← enumD_from 0 ls]
  unfold enumD
  congr 1
  funext i d
  rw [Nat.zero_add]
  rfl
theorem pairs_zip {α : Type} (f : α → α → Bool) : ∀ l : List α, ((l.zip (l.drop 1)).all fun p => f p.1 p.2) = pairsAll f l
  | [] => rfl
  | [a] => rfl
  | a :: b :: t => by
    have ih := pairs_zip f (b :: t)
    show (f a b && ((b :: t).zip t).all fun p => f p.1 p.2) = (f a b && pairsAll f (b :: t))
    rw [← ih]
    rfl
theorem zipD_map2 {α : Type} (f : α → PyData) (a b : List α) : zipD (a.map f) (b.map f) = (a.zip b).map fun p => PyData.tuple [f p.1, f p.2] := by
  unfold zipD
  rw [List.zip_map, List.map_map]
  rfl
theorem any_flat {α β : Type} (f : β → Bool) (g : α → List β) (l : List α) : (l.map fun x => (g x).map f).flatten.any id = l.any fun x => (g x).any f := by
  rw [List.any_flatten, List.any_map]
  congr 1
  funext x
  show ((g x).map f).any id = _
  rw [any_id]
theorem netIn_ok {n : Nat} {net : Net} (h : netIn (excs n) net = true) : NetOk n net := fun p hp => by
  have z := List.all_eq_true.mp h p hp
  obtain ⟨q, hq, e⟩ := List.any_eq_true.mp z
  have e' := of_decide_eq_true e
  subst e'
  exact excs_lt q hq
theorem partStep_ne {found : List Row} {m : Nat} (h : found ≠ []) : partStep found m ≠ [] := by
  cases found with
  | nil => exact absurd rfl h
  | cons r t =>
    unfold partStep
    rw [List.map_cons, List.flatten_cons, List.range_succ_eq_map, List.map_cons]
    simp
theorem parted_ne : ∀ {ps : List Nat} {found : List Row}, found ≠ [] → ps.foldl partStep found ≠ []
  | [], _, h => h
  | m :: t, _, h => parted_ne (ps := t) (partStep_ne h)
theorem rowsOf_ne (ps : List Nat) : rowsOf ps ≠ [] := by
  intro e
  have h := srtD_perm (parted ps)
  unfold rowsOf at e
  rw [e] at h
  exact parted_ne (ps := ps) (found := [[]]) (by simp) h.symm.eq_nil
theorem lensOk_mem {n : Nat} : ∀ {k : Nat} {ls : List (List Net)}, lensOk (excs n) k ls = true → ∀ l ∈ ls, ∀ net ∈ l, NetOk n net
  | _, [], _, l, h => nomatch h
  | k, a :: t, h, l, hl => by
    unfold lensOk at h
    rw [Bool.and_eq_true] at h
    rcases List.mem_cons.mp hl with e | hl
    · subst e
      intro net hn
      have z := List.all_eq_true.mp h.1 net hn
      rw [Bool.and_eq_true] at z
      exact netIn_ok z.2
    · exact lensOk_mem h.2 l hl
section
variable {X : Cx} {C : Addr} {ρ : REnv} {e a : Expr} {d : PyData} {ds : List PyData} {pos : Pos}
theorem bs_expr (h : BE X C ρ e d) (hs : swapsWith e none pos.line X.env = pure false := by rfl) : BS X C ρ (.Expr e pos) (.nx ρ) :=
  bs_of (ps_expr (pe_sem e) hs) fun M0 H0 M H σ D o0 E k => h M H σ _ E.ok fun v H1 s1 q1 => k M H1 σ (E.mono s1) (msk_mono s1)
theorem bim_enum {pn tpos : Pos} {elts : List Expr} {kk : Nat} (hg : Gl X "enumerate") (hm : X.mg "enumerate" = none) (h : BE X C ρ a (.list ds)) (he : NS X a := by rfl) (he2 : starEach [a] X.env = [(false, eval a X.env)] := by rfl) :
    BIm X C ρ (.Tuple elts kk tpos) (.Call (.Name "enumerate" pn) [a] [] pos) (enumD ds) :=
  bim_of (pi_enum hg hm (pa_cons (pe_sem a) pa_nil he) he2) fun M H σ R E k => h M H σ _ E fun v H1 s1 q1 => by
    obtain ⟨a, vs, rfl, h1, q1⟩ := q1.lst_inv
    refine ⟨a, vs, rfl, SqL.of (msk_same M H1 _ _ h1), k _ H1 s1 fun M' H2 e1 o i => ⟨fun hi => ?_, fun d hd => ?_⟩⟩
    · have z : (enumD ds).length = ds.length := by unfold enumD; rw [List.length_mapIdx]
      exact ⟨vs, SqL.of (msk_same M' H2 _ _ (e1 _ _ h1)), by rw [q1.length, ← z]; exact hi⟩
    · unfold enumD at hd
      rw [List.getElem?_mapIdx] at hd
      obtain ⟨d0, hd0, rfl⟩ := Option.map_eq_some_iff.mp hd
      obtain ⟨v, hv, qv⟩ := q1.get hd0
      have h2 := msk_same M' H2 _ _ (e1 _ _ h1)
      refine ⟨⟨vs, v, SqL.of h2, hv⟩, fun x H' y => ?_⟩
      obtain ⟨T, w, rfl, hT, rfl, y⟩ := y
      have z := y vs (SqL.of h2)
      rw [hv] at z
      cases z
      exact ⟨same_new hT, dn_newT o (.cons (.int _) (.cons (qv.mono e1) .nil)) hT⟩
end
section
variable {P : Program} {w : World} {K : PySem.W.Frag} {mg : Str → Option Value} {base : Heap} {C : Addr}
/-! ### shows -/
abbrev sShw : Stmt := inClass (topS 18) 3
abbrev nShw : List Str := ["self", "parts", "rows", "width", "exchanges", "exchange", "sets", "many", "layer", "one", "net", "late", "orders", "other"]
theorem scShw : FnScope nShw ["self", "parts"] (defScope sShw) := ⟨rfl, rfl, rfl, by decide +kernel, rfl, by decide +kernel, by decide +kernel⟩
abbrev shwC : Expr := argE (opE (stE (stAt (forB (stAt (defBody sShw) 6)) 0)) 0) 0
def SizeOk (net : Net) (ls : List (List Net)) : Prop := net.length ≤ 100 ∧ ls.length ≤ 100 ∧ ∀ l ∈ ls, l.length ≤ 100 ∧ ∀ m ∈ l, m.length ≤ 100
def R_shw : List PyData → PyData → Prop := fun ds d => ∃ t ps net ls, ds = [objD (encN net) (encLs ls), seqD t ps] ∧ PartsOk ps ∧ SizeOk net ls ∧ d = .bool (showsM ps net ls)
theorem ok_shw {f : Addr} {fd : FuncData} (F : Fun K "shows" "LeastNet.shows" sShw f fd) (T : TxtB mg) (TC : ClsF K C) (FK : FnB P w K mg base C "check_parts" 2 ["parts"] R_check) (FR : FnB P w K mg base C "rows_of" 1 ["parts"] R_rows) (FE : FnB P w K mg base C "exchanges_of" 1 ["width"] R_exc)
    (FO : FnB P w K mg base C "orders_of" 1 ["width"] R_ord) (FA : FnB P w K mg base C "are_ascending" 1 ["rows"] R_asc) (FB : FnB P w K mg base C "behind" 2 ["rows", "net"] R_behind) (FI : FnB P w K mg base C "is_covered" 3 ["one", "other", "exchanges", "orders"] R_isc) :
    FnOk P w K mg base CX0 4 f fd ["self", "parts"] (spD K C R_shw) := by
  refine fnD F scShw (fun ds d h => by obtain ⟨n, l, o, a, rfl, _⟩ := h; rfl) fun cdv A outer s H E hr ds d h => .inl ?_
  obtain ⟨t, ps, net, ls, rfl, hp, ⟨z1, z2, z3⟩, rfl⟩ := h
  have hr1 : Room 1 (A.deeper (envOfC "LeastNet.shows" (defScope sShw) s.heap.objs.size f cdv)) := hr.mono (by decide)
  have hr2 : Room 2 (A.deeper (envOfC "LeastNet.shows" (defScope sShw) s.heap.objs.size f cdv)) := hr.mono (by decide)
  have hu := Room.units hr
  have hu65 := room65 hr
  have w5 := hp.2.2
  have rok := rowsOf_ok hp.2.1 w5
  have rne := rowsOf_ne ps
  have el := excs_len w5
  generalize hw : ps.sum = n at *
  -- check_parts(parts); rows, width = ..; exchanges = ..
  refine bss_cons (bs_expr (be_callF FK hr2 (ba_cons (be_var 1) ba_nil) ⟨t, ps, rfl, hp, rfl⟩)) (bss_cons (bs_asg (ts := [2, 3]) (d := .tuple [encRT (rowsOf ps), iD n]) (be_tup (ba_cons (be_callF FR hr1 (ba_cons (be_var 1) ba_nil) ⟨t, ps, rfl, hp, rfl⟩) (ba_cons (be_eq (be_sumS rfl (by rfl) T.sum (be_var 1)) (by rw [hw])) ba_nil)))
    (bg_tup rfl (bgs_cons (bg_name 2 scShw.nd) (bgs_cons (bg_name 3 scShw.nd) bgs_nil)))) (bss_cons (bs_set 4 scShw.nd (d := encN (excs n)) (be_callF FE hr1 (ba_cons (be_var 3) ba_nil) ⟨n, rfl, w5, rfl⟩)) ?_))
  have hsh : showsM ps net ls = ((((((netIn (excs n) net && asc (beh (rowsOf ps) net)) && decide (ls.length = net.length)) && lensOk (excs n) 0 ls) && firstOk ls) && !((ls.map fun layer => layer.map (beh (rowsOf ps))).any fun layer => layer.any asc)) && pairsAll (fun a b => isCov a b (excs n) (ords n)) (ls.map fun layer => layer.map (beh (rowsOf ps)))) := by
    subst hw
    rfl
  refine bss_if (q := !netIn (excs n) net || !asc (beh (rowsOf ps) net)) (bt_bw (bw_or (bt_eq (bt_not (bt_val (be_allL (bs := net.map fun p => (excs n).any fun q => decide (q = p)) rfl (by rfl) T.all (bl_bf (bf_eq
    (bf_map net encX (fun p => .bool ((excs n).any fun q => decide (q = p))) (fun p => [.im (objD (encN net) (encLs ls)), .im (seqD t ps), .im (encRT (rowsOf ps)), .im (iD n), .im (encN (excs n)), .im (encX p), .no, .no, .no, .no, .no, .no, .no, .no]) [5] (own := [("exchange", 5)]) rfl scShw.nd (bim_list (be_net TC (be_var 0))).bi
      (blkOk_by (N := nShw) (sc := defScope sShw) (by decide +kernel)) (by decide) (fun p hp s H Cc cl fp => bg_name 5 scShw.nd) (fun p hp s H Cc cl fp => be_eq (be_inL (ds := (excs n).map encX) hu65 (be_var 5) (bl_im (be_var 4)) (enc_X.sh (by decide) _) (enc_N.sh (by decide) (excs n))) (by rw [any_enc enc_X])) (by omega)) (by rw [List.map_map]; rfl)))))) (by rw [all_id]; rfl)) fun hq =>
    bw_or1 (bt_not (bt_val (be_callF FA hr1 (ba_cons (be_callF FB hr2 (ba_cons (be_var 2) (ba_cons (be_net TC (be_var 0)) ba_nil)) ⟨n, rowsOf ps, net, rfl, rok, netIn_ok (by simpa using hq), rfl⟩) ba_nil) ⟨n, _, rfl, (beh_rok rok rne (netIn_ok (by simpa using hq))).1, rfl⟩))))) (fun hq => ?_) (fun hq => ?_)
  · refine bss_one (bs_ret (be_eq be_bl ?_))
    have e : (netIn (excs n) net && asc (beh (rowsOf ps) net)) = false := by
      rw [← Bool.not_eq_true, Bool.and_eq_true]
      rintro ⟨a, b⟩
      rw [a, b] at hq
      cases hq
    rw [hsh, e]
    simp
  have h12 : netIn (excs n) net = true ∧ asc (beh (rowsOf ps) net) = true := by
    simpa using hq
  rw [h12.1, h12.2] at hsh
  -- as many layers
  refine bss_if (q := !decide (ls.length = net.length)) (bt_eq (bt_neD hu (be_eq (be_lenL (by rfl) T.len (bl_im (be_layers TC (be_var 0)))) (by rw [List.length_map]; rfl)) (be_eq (be_lenL (by rfl) T.len (bl_im (be_net TC (be_var 0)))) (by rw [List.length_map]; rfl)) (enc_i.sh (by decide) ls.length) (enc_i.sh (by decide) net.length)) (by rw [enc_i.eq])) (fun hq => ?_) (fun hq => ?_)
  · refine bss_one (bs_ret (be_eq be_bl ?_))
    have e : decide (ls.length = net.length) = false := by simpa using hq
    rw [hsh, e]
    simp
  have h3 : decide (ls.length = net.length) = true := by simpa using hq
  rw [h3] at hsh
  -- the layers, one by one
  have loop : ∀ (y : List (List Net)) (k : Nat) (sets : List (List (List Row))) (s7 s8 : Sl), (∀ l ∈ y, l.length ≤ 100 ∧ ∀ m ∈ l, m.length ≤ 100) → sets.length + y.length ≤ 1000 → s7.imm = true → s8.imm = true →
      (lensOk (excs n) k y = true → ∃ t7 t8 : Sl, (t7.imm = true ∧ t8.imm = true) ∧ Lp (cxOf CX0 P w K mg base nShw "LeastNet.shows" (defScope sShw) f cdv A outer s H E).nox C (forT (stAt (defBody sShw) 6)) (forB (stAt (defBody sShw) 6)) [.im (objD (encN net) (encLs ls)), .im (seqD t ps), .im (encRT (rowsOf ps)), .im (iD n), .im (encN (excs n)), .no, .ow (sets.map encSs), s7, s8, .no, .no, .no, .no, .no] (enF k y)
        (.nx [.im (objD (encN net) (encLs ls)), .im (seqD t ps), .im (encRT (rowsOf ps)), .im (iD n), .im (encN (excs n)), .no, .ow ((sets ++ y.map fun layer => layer.map (beh (rowsOf ps))).map encSs), t7, t8, .no, .no, .no, .no, .no])) ∧
      (lensOk (excs n) k y = false → Lp (cxOf CX0 P w K mg base nShw "LeastNet.shows" (defScope sShw) f cdv A outer s H E).nox C (forT (stAt (defBody sShw) 6)) (forB (stAt (defBody sShw) 6)) [.im (objD (encN net) (encLs ls)), .im (seqD t ps), .im (encRT (rowsOf ps)), .im (iD n), .im (encN (excs n)), .no, .ow (sets.map encSs), s7, s8, .no, .no, .no, .no, .no] (enF k y) (.rt (.bool false))) := by
    intro y
    induction y with
    | nil =>
      intro k sets s7 s8 _ _ m7 m8
      refine ⟨fun _ => ⟨s7, s8, ⟨m7, m8⟩, ?_⟩, fun h => nomatch h⟩
      rw [List.map_nil, List.append_nil]
      exact .nil
    | cons l y ih =>
      intro k sets s7 s8 hz hln m7 m8
      rw [List.length_cons] at hln
      obtain ⟨hl1, hl2⟩ := hz l List.mem_cons_self
      have test : BT (cxOf CX0 P w K mg base nShw "LeastNet.shows" (defScope sShw) f cdv A outer s H E).nox C [.im (objD (encN net) (encLs ls)), .im (seqD t ps), .im (encRT (rowsOf ps)), .im (iD n), .im (encN (excs n)), .no, .ow (sets.map encSs), .im (iD k), .im (encNs l), .no, .no, .no, .no, .no] (stE (stAt (forB (stAt (defBody sShw) 6)) 0))
          (!(l.all fun m => decide (m.length = k) && netIn (excs n) m)) :=
        bt_not (bt_val (be_eq (be_allL (bs := l.map fun m => decide (m.length = k) && netIn (excs n) m) rfl (by rfl) T.all (bl_bf (bf_eq
          (bf_map l encN (fun m => .bool (decide (m.length = k) && netIn (excs n) m)) (fun m => [.im (objD (encN net) (encLs ls)), .im (seqD t ps), .im (encRT (rowsOf ps)), .im (iD n), .im (encN (excs n)), .no, .ow (sets.map encSs), .im (iD k), .im (encNs l), .no, .im (encN m), .no, .no, .no]) [10] (own := [("net", 10)]) rfl scShw.nd (bim_list (be_var 8)).bi
            (blkOk_by (N := nShw) (sc := defScope sShw) (by decide +kernel)) (by decide) (fun m hm s H Cc cl fp => bg_name 10 scShw.nd)
            (fun m hm s H Cc cl fp => be_eq (be_and (be_eqD hu (be_eq (be_lenL (by rfl) T.len (bl_im (be_var 10))) (by rw [List.length_map]; rfl)) (be_var 7) (enc_i.sh (by decide) m.length) (enc_i.sh (by decide) k)) fun _ => be_one (be_allL (bs := m.map fun p => (excs n).any fun q => decide (q = p)) rfl (by rfl) T.all (bl_bf (bf_eq
              (bf_map m encX (fun p => .bool ((excs n).any fun q => decide (q = p))) (fun p => [.im (objD (encN net) (encLs ls)), .im (seqD t ps), .im (encRT (rowsOf ps)), .im (iD n), .im (encN (excs n)), .no, .ow (sets.map encSs), .im (iD k), .im (encNs l), .im (encX p), .im (encN m), .no, .no, .no]) [9] (own := [("one", 9)]) rfl scShw.nd (bim_list (be_var 10)).bi
                (blkOk_by (N := nShw) (sc := relS (lcScope shwC) (defScope sShw)) (by decide +kernel)) (by decide) (fun p hp s H Cc cl fp => bg_name 9 scShw.nd)
                (fun p hp s H Cc cl fp => be_eq (be_inL (ds := (excs n).map encX) hu65 (be_var 9) (bl_im (be_var 4)) (enc_X.sh (by decide) _) (enc_N.sh (by decide) (excs n))) (by rw [any_enc enc_X])) (by have := hl2 m hm; omega)) (by rw [List.map_map]; rfl))))) (by rw [enc_i.eq, all_id]; rfl)) (by omega)) (by rw [List.map_map]; rfl)))) (by rw [all_id])))
      cases hc : (l.all fun m => decide (m.length = k) && netIn (excs n) m) with
      | true =>
        have hnet : ∀ m ∈ l, NetOk n m := fun m hm => by
          have z := List.all_eq_true.mp hc m hm
          rw [Bool.and_eq_true] at z
          exact netIn_ok z.2
        rw [hc] at test
        have body : BSs (cxOf CX0 P w K mg base nShw "LeastNet.shows" (defScope sShw) f cdv A outer s H E).nox C [.im (objD (encN net) (encLs ls)), .im (seqD t ps), .im (encRT (rowsOf ps)), .im (iD n), .im (encN (excs n)), .no, .ow (sets.map encSs), .im (iD k), .im (encNs l), .no, .no, .no, .no, .no] (forB (stAt (defBody sShw) 6))
            (.nx [.im (objD (encN net) (encLs ls)), .im (seqD t ps), .im (encRT (rowsOf ps)), .im (iD n), .im (encN (excs n)), .no, .ow ((sets ++ [l.map (beh (rowsOf ps))]).map encSs), .im (iD k), .im (encNs l), .no, .no, .no, .no, .no]) := by
          refine bss_cons (bs_if test (fun h => nomatch h) fun _ => bss_nil) ?_
          refine bss_eq (bss_one (bs_append 6 rfl (be_bf (bf_eq (bf_map l encN (fun m => encRT (beh (rowsOf ps) m)) (fun m => [.im (objD (encN net) (encLs ls)), .im (seqD t ps), .im (encRT (rowsOf ps)), .im (iD n), .im (encN (excs n)), .no, .ow (sets.map encSs), .im (iD k), .im (encNs l), .no, .im (encN m), .no, .no, .no]) [10] (own := [("net", 10)]) rfl scShw.nd (bim_list (be_var 8)).bi
            (blkOk_by (N := nShw) (sc := defScope sShw) (by decide +kernel)) (by decide) (fun m hm s H Cc cl fp => bg_name 10 scShw.nd) (fun m hm s H Cc cl fp => be_callF FB hr2 (ba_cons (be_var 2) (ba_cons (be_var 10) ba_nil)) ⟨n, rowsOf ps, m, rfl, rok, hnet m hm, rfl⟩) (by omega)) (show _ = (l.map (beh (rowsOf ps))).map encRT by rw [List.map_map]; rfl))) (by rw [List.length_map]; omega))) ?_
          rw [List.map_append]
          rfl
        obtain ⟨i1, i2⟩ := ih (k + 1) (sets ++ [l.map (beh (rowsOf ps))]) (.im (iD k)) (.im (encNs l)) (fun q hq => hz q (List.mem_cons_of_mem _ hq)) (by rw [List.length_append, List.length_singleton]; omega) rfl rfl
        unfold lensOk
        rw [hc, Bool.true_and]
        refine ⟨fun h => ?_, fun h => ?_⟩
        · obtain ⟨t7, t8, mm, hl⟩ := i1 h
          refine ⟨t7, t8, mm, .step [7, 8] (bg_tup rfl (bgs_cons (bg_name 7 scShw.nd) (bgs_cons (bg_name 8 scShw.nd) bgs_nil))) body ?_⟩
          rw [List.append_assoc] at hl
          exact hl
        · exact .step [7, 8] (bg_tup rfl (bgs_cons (bg_name 7 scShw.nd) (bgs_cons (bg_name 8 scShw.nd) bgs_nil))) body (i2 h)
      | false =>
        rw [hc] at test
        unfold lensOk
        rw [hc, Bool.false_and]
        refine ⟨(fun h => nomatch h), fun _ => ?_⟩
        exact .ret [7, 8] (bg_tup rfl (bgs_cons (bg_name 7 scShw.nd) (bgs_cons (bg_name 8 scShw.nd) bgs_nil))) (bss_rt (bs_if test (fun _ => bss_one (bs_ret be_bl)) fun h => nomatch h))
  refine bss_cons (bs_setF 6 scShw.nd (bf_lst ba_nil)) ?_
  obtain ⟨k1, k2⟩ := loop ls 0 [] .no .no z3 (by rw [List.length_nil]; omega) rfl rfl
  have src : BIm (cxOf CX0 P w K mg base nShw "LeastNet.shows" (defScope sShw) f cdv A outer s H E).nox C [.im (objD (encN net) (encLs ls)), .im (seqD t ps), .im (encRT (rowsOf ps)), .im (iD n), .im (encN (excs n)), .no, .ow [], .no, .no, .no, .no, .no, .no, .no] (forT (stAt (defBody sShw) 6)) (forI (stAt (defBody sShw) 6)) (enF 0 ls) :=
    bim_eq (bim_enum (by rfl) T.enumerate (be_layers TC (be_var 0))) (enumD_enF ls)
  cases h4 : lensOk (excs n) 0 ls with
  | false =>
    rw [h4] at hsh
    rw [show showsM ps net ls = false by rw [hsh]; simp]
    exact bss_rt (bs_for PassesOwn.never rfl src (k2 h4))
  | true =>
    rw [h4] at hsh
    obtain ⟨t7, t8, ⟨m7, m8⟩, hl⟩ := k1 h4
    refine bss_cons (bs_for PassesOwn.never rfl src hl) (bss_freeze 6 rfl ?_)
    rw [List.nil_append]
    have nets := lensOk_mem h4
    generalize hss : (ls.map fun layer => layer.map (beh (rowsOf ps))) = ss at *
    have ssl : ss.length ≤ 100 := by rw [← hss, List.length_map]; exact z2
    have ssl2 : ∀ s ∈ ss, s.length ≤ 100 := fun s hs => by
      rw [← hss] at hs
      obtain ⟨l, hl, rfl⟩ := List.mem_map.mp hs
      rw [List.length_map]
      exact (z3 l hl).1
    have ssok : ∀ s ∈ ss, SsOk n s := fun s hs => by
      rw [← hss] at hs
      obtain ⟨l, hl, rfl⟩ := List.mem_map.mp hs
      intro r hr'
      obtain ⟨m, hm, rfl⟩ := List.mem_map.mp hr'
      exact beh_rok rok rne (nets l hl m hm)
    -- the first layer
    refine bss_if (q := !firstOk ls) ?_ (fun hq => ?_) (fun hq => ?_)
    · cases ls with
      | nil => exact bt_eq (bt_bw (bw_and (c := false) (f := false) (bt_eq (bt_neD hu (be_layers TC (be_var 0)) (be_lst ba_nil) (enc_Ls.sh (by decide) []) (enc_Ls.sh (by decide) [])) (by rw [show PyData.list [] = encLs [] from rfl, enc_Ls.eq]; rfl)) fun h => nomatch h)) rfl
      | cons l lt =>
        refine bt_eq (bt_bw (bw_and (c := true) (f := !decide (l = [[]])) (bt_eq (bt_neD hu (be_layers TC (be_var 0)) (be_lst ba_nil) (enc_Ls.sh (by decide) (l :: lt)) (enc_Ls.sh (by decide) [])) (by rw [show PyData.list [] = encLs [] from rfl, enc_Ls.eq]; rfl)) fun _ =>
          bw_and1 (bt_eq (bt_neD hu (be_ixL (k := 0) (d := encNs l) (bl_im (be_layers TC (be_var 0))) be_int rfl rfl) (be_lst (ba_cons (be_lst ba_nil) ba_nil)) (enc_Ns.sh (by decide) l) (enc_Ns.sh (by decide) [[]])) (by rw [show PyData.list [PyData.list []] = encNs [[]] from rfl, enc_Ns.eq])))) (by rw [Bool.true_and]; rfl)
    · refine bss_one (bs_ret (be_eq be_bl ?_))
      have e : firstOk ls = false := by simpa using hq
      rw [hsh, e]
      simp
    have h5 : firstOk ls = true := by simpa using hq
    rw [h5] at hsh
    -- none of the sets ascending
    refine bss_if (q := ss.any fun layer => layer.any asc) (bt_val (be_eq (be_anyL (bs := (ss.map fun l => l.map asc).flatten) rfl (by rfl) T.any (bl_bf (bf_eq (bf_lc2 ss encSs (fun l => l) (fun _ r => encRT r) (fun _ r => .bool (asc r))
        (fun l => [.im (objD (encN net) (encLs ls)), .im (seqD t ps), .im (encRT (rowsOf ps)), .im (iD n), .im (encN (excs n)), .no, .im (.list (ss.map encSs)), t7, .im (encSs l), .no, .no, .no, .no, .no]) (fun l r => [.im (objD (encN net) (encLs ls)), .im (seqD t ps), .im (encRT (rowsOf ps)), .im (iD n), .im (encN (excs n)), .no, .im (.list (ss.map encSs)), t7, .im (encSs l), .no, .no, .im (encRT r), .no, .no]) [8] [11] [11] (own := [("layer", 8), ("late", 11)]) rfl scShw.nd
      (bim_list (be_var 6)).bi (blkOk_by (N := nShw) (sc := defScope sShw) (by decide +kernel)) (by decide) (by decide) (by decide) (fun x hx s H Cc cl fp => bg_name 8 scShw.nd) (fun x hx s H Cc cl fp => bim_list (be_var 8)) (fun x hx y hy s H Cc cl fp => bg_name 11 scShw.nd)
      (fun x hx y hy s H Cc cl fp => be_callF FA hr1 (ba_cons (be_var 11) ba_nil) ⟨n, y, rfl, (ssok x hx y hy).1, rfl⟩) (fun x hx => by simp only [noOw, List.all_cons, List.all_nil, m7]; rfl) (fun i hi => ?_) (fun x hx => by have := ssl2 x hx; omega)) ?_))) (any_flat asc (fun l => l) ss ▸ rfl))) (fun hq => ?_) (fun hq => ?_)
    · refine Nat.le_trans (flat_len (m := 100) fun l hl => ?_) ?_
      · obtain ⟨x, hx, rfl⟩ := List.mem_map.mp hl
        rw [List.length_map]
        exact ssl2 x (List.mem_of_mem_take hx)
      · rw [List.length_map, List.length_take]
        omega
    · rw [List.map_flatten, List.map_map]
      congr 1
      apply List.map_congr_left
      intro l _
      show _ = (l.map asc).map PyData.bool
      rw [List.map_map]
      rfl
    · refine bss_one (bs_ret (be_eq be_bl ?_))
      rw [hsh, hq]
      simp
    rw [hq] at hsh
    -- the layers cover
    have os1 := ords_ok n w5
    refine bss_cons (bs_set 12 scShw.nd (d := encOs (ords n)) (be_callF FO hr1 (ba_cons (be_var 3) ba_nil) ⟨n, rfl, w5, rfl⟩)) (bss_one (bs_ret (be_eq (be_allL (bs := (ss.zip (ss.drop 1)).map fun p => isCov p.1 p.2 (excs n) (ords n)) rfl (by rfl) T.all (bl_bf (bf_eq
      (bf_map (ss.zip (ss.drop 1)) (fun p => PyData.tuple [encSs p.1, encSs p.2]) (fun p => .bool (isCov p.1 p.2 (excs n) (ords n))) (fun p => [.im (objD (encN net) (encLs ls)), .im (seqD t ps), .im (encRT (rowsOf ps)), .im (iD n), .im (encN (excs n)), .no, .im (.list (ss.map encSs)), t7, t8, .im (encSs p.1), .no, .no, .im (encOs (ords n)), .im (encSs p.2)]) [9, 13] (own := [("one", 9), ("other", 13)]) rfl scShw.nd
        (bi_eq (bi_zip (by rfl) T.zip (bl_im (be_var 6)) (bl_im (be_slL (l := some ((1 : Nat) : Int)) (u := none) (bl_im (be_var 6)) be_int trivial))) (by rw [cut_drop, ← List.map_drop, zipD_map2]))
        (blkOk_by (N := nShw) (sc := defScope sShw) (by decide +kernel)) (by decide) (fun p hp s H Cc cl fp => bg_tup rfl (bgs_cons (bg_name 9 scShw.nd) (bgs_cons (bg_name 13 scShw.nd) bgs_nil)))
        (fun p hp s H Cc cl fp => be_callF FI hr (ba_cons (be_var 9) (ba_cons (be_var 13) (ba_cons (be_var 4) (ba_cons (be_var 12) ba_nil)))) ⟨n, p.1, p.2, excs n, ords n, rfl, ssok _ (List.of_mem_zip hp).1, ssok _ (List.mem_of_mem_drop (List.of_mem_zip hp).2), by have := ssl2 _ (List.mem_of_mem_drop (List.of_mem_zip hp).2); omega, excs_lt, ⟨os1.2, by omega⟩, rfl⟩)
        (by rw [List.length_zip]; omega)) (by rw [List.map_map]; rfl)))) ?_)))
    rw [all_id, pairs_zip (fun a b => isCov a b (excs n) (ords n)), hsh]
    simp
end
end G6

set_option Elab.async false
set_option linter.all false
set_option maxRecDepth 100000
set_option maxHeartbeats 4000000
namespace G6
open PySem PySem.Spec PyProof.Rows L2
/-- LeastNet(..) -/
structure FnI (P : Program) (w : World) (K : PySem.W.Frag) (mg : Str → Option Value) (base : Heap) (C : Addr) : Prop where
  ex : ∃ (f : Addr) (fd : FuncData), Mk K C f ∧ FnOk P w K mg base CX0 1 f fd ["self", "net", "layers"] (spInit K C R_init) ∧ mg "LeastNet" = some (.ref C) ∧ Binds K fd ["self", "net", "layers"] []
theorem be_new {X : Cx} {C : Addr} {ρ : REnv} {a b : Expr} {t : Bool} {n : Net} {l : List (List Net)} {pos p : Pos} (F : FnI X.prog X.w X.K X.mg X.base C) (hr : Room 2 X.A) (ha : BE X C ρ a (netD t n)) (hb : BE X C ρ b (encLs l)) (h1 : l.length ≤ 1000) (h2 : ∀ y ∈ l, y.length ≤ 1000) (hg : Gl X "LeastNet" := by rfl)
    (he : starEach [a, b] X.env = (false, eval a X.env) :: starEach [b] X.env := by rfl) (he2 : NS X b := by rfl) (hpl : (backTo pos (starEach [b] X.env)).any (·.1) = false := by rfl) : BE X C ρ (.Call (.Name "LeastNet" p) [a, b] [] pos) (objD (encN n) (encLs l)) := by
  obtain ⟨f, fd, h3, h4, h5, h6⟩ := F.ex
  exact be_make h3 h4 hr hg h5 h6 ha hb ⟨t, n, l, rfl, rfl, rfl, rfl, h1, h2⟩ (by decide) he he2 hpl
theorem nxt_ok {n m : Nat} {os : List Row} : ∀ {l found : Layer}, (∀ p ∈ l, RowsOk n p.2 ∧ p.2 ≠ [] ∧ NetOk n p.1 ∧ p.1.length ≤ m) → (∀ p ∈ found, RowsOk n p.2 ∧ p.2 ≠ [] ∧ NetOk n p.1 ∧ p.1.length ≤ m + 1) → ∀ p ∈ l.foldl (fun f p => (excs n).foldl (nxtStep os p.1 p.2) f) found, RowsOk n p.2 ∧ p.2 ≠ [] ∧ NetOk n p.1 ∧ p.1.length ≤ m + 1
  | [], _, _, hf => hf
  | q :: l, found, hl, hf => by
    refine nxt_ok (l := l) (fun p hp => hl p (List.mem_cons_of_mem _ hp)) ?_
    obtain ⟨q1, q2, q3, q4⟩ := hl q List.mem_cons_self
    have inn : ∀ (xs : Net) (found : Layer), (∀ x ∈ xs, x.1 < n ∧ x.2 < n) → (∀ p ∈ found, RowsOk n p.2 ∧ p.2 ≠ [] ∧ NetOk n p.1 ∧ p.1.length ≤ m + 1) → ∀ p ∈ xs.foldl (nxtStep os q.1 q.2) found, RowsOk n p.2 ∧ p.2 ≠ [] ∧ NetOk n p.1 ∧ p.1.length ≤ m + 1 := by
      intro xs
      induction xs with
      | nil => intro found _ hf; exact hf
      | cons x xs ih =>
        intro found hx hf
        refine ih _ (fun y hy => hx y (List.mem_cons_of_mem _ hy)) fun p hp => ?_
        unfold nxtStep at hp
        split at hp
        · rcases List.mem_append.mp hp with hp | hp
          · exact hf p (List.mem_filter.mp hp).1
          · rw [List.mem_singleton.mp hp]
            have hx1 := hx x List.mem_cons_self
            obtain ⟨a, b⟩ := beh_rok q1 q2 (net := [x]) fun y hy => by rw [List.mem_singleton.mp hy]; exact hx1
            refine ⟨a, b, fun y hy => ?_, ?_⟩
            · rcases List.mem_append.mp hy with hy | hy
              · exact q3 y hy
              · rw [List.mem_singleton.mp hy]; exact hx1
            · rw [List.length_append, List.length_singleton]
              omega
        · exact hf p hp
    exact inn (excs n) found excs_lt hf
section
variable {P : Program} {w : World} {K : PySem.W.Frag} {mg : Str → Option Value} {base : Heap} {C : Addr}
/-! ### least_net -/
abbrev sLeast : Stmt := topS 20
abbrev nLeast : List Str := ["parts", "width", "layer", "layers", "orders", "net", "rows"]
theorem scLeast : FnScope nLeast ["parts"] (defScope sLeast) := ⟨rfl, rfl, rfl, by decide +kernel, rfl, by decide +kernel, by decide +kernel⟩
def R_least : List PyData → PyData → Prop := fun ds d => ∃ t ps net ls, ds = [seqD t ps] ∧ PartsOk ps ∧ leastM ps = some (net, ls) ∧ d = objD (encN net) (encLs ls)
theorem ok_least {f : Addr} {fd : FuncData} (F : Fun K "least_net" "least_net" sLeast f fd) (T : TxtB mg) (TC : ClsF K C) (FK : FnB P w K mg base C "check_parts" 2 ["parts"] R_check) (FR : FnB P w K mg base C "rows_of" 1 ["parts"] R_rows)
    (FO : FnB P w K mg base C "orders_of" 1 ["width"] R_ord) (FA : FnB P w K mg base C "are_ascending" 1 ["rows"] R_asc) (FN : FnB P w K mg base C "next_layer" 3 ["layer", "width", "orders"] R_next) (FI : FnI P w K mg base C) :
    FnOk P w K mg base CX0 4 f fd ["parts"] (spD K C R_least) := by
  refine fnD F scLeast (fun ds d h => by obtain ⟨n, l, o, a, rfl, _⟩ := h; rfl) fun cdv A outer s H E hr ds d h => .inl ?_
  obtain ⟨t, ps, net, ls, rfl, hp, hm, rfl⟩ := h
  have hr1 : Room 1 (A.deeper (envOfC "least_net" (defScope sLeast) s.heap.objs.size f cdv)) := hr.mono (by decide)
  have hr2 : Room 2 (A.deeper (envOfC "least_net" (defScope sLeast) s.heap.objs.size f cdv)) := hr.mono (by decide)
  have w5 := hp.2.2
  have rok := rowsOf_ok hp.2.1 w5
  have rne := rowsOf_ne ps
  have os1 := ords_ok ps.sum w5
  unfold leastM at hm
  generalize hw : ps.sum = n at *
  have loop : ∀ (k m : Nat) (layer : Layer) (layers : List (List Net)), leastGo n (ords n) k layer layers = some (net, ls) → (∀ p ∈ layer, RowsOk n p.2 ∧ p.2 ≠ [] ∧ NetOk n p.1 ∧ p.1.length ≤ m) → m + k ≤ 100 → layers.length + k ≤ 100 → (∀ l ∈ layers, l.length ≤ 100) →
      ∃ (fl : Layer) (r : List Row) (tl : Layer), (Wl (cxOf CX0 P w K mg base nLeast "least_net" (defScope sLeast) f cdv A outer s H E).nox C (whC (stAt (defBody sLeast) 3)) (forB (stAt (defBody sLeast) 3)) k [.im (seqD t ps), .im (iD n), .im (encL layer), .ow (layers.map encNs), .im (encOs (ords n)), .no, .no]
        (.nx [.im (seqD t ps), .im (iD n), .im (encL fl), .ow (ls.map encNs), .im (encOs (ords n)), .no, .no])) ∧ fl.filter (fun p => asc p.2) = (net, r) :: tl ∧ fl.length ≤ 100 ∧ (∀ p ∈ fl, RowsOk n p.2) ∧ ls.length ≤ 100 ∧ ∀ l ∈ ls, l.length ≤ 100 := by
    intro k
    induction k with
    | zero => intro m layer layers h; cases h
    | succ k ih =>
      intro m layer layers h hl hmk hlk hlen
      unfold leastGo at h
      by_cases h100 : 100 < layer.length
      · rw [if_pos h100] at h; cases h
      rw [if_neg h100] at h
      have test : BT (cxOf CX0 P w K mg base nLeast "least_net" (defScope sLeast) f cdv A outer s H E).nox C [.im (seqD t ps), .im (iD n), .im (encL layer), .ow (layers.map encNs), .im (encOs (ords n)), .no, .no] (whC (stAt (defBody sLeast) 3)) (!(layer.any fun p => asc p.2)) :=
        bt_not (bt_val (be_eq (be_anyL (bs := layer.map fun p => asc p.2) rfl (by rfl) T.any (bl_bf (bf_eq (bf_map layer encP (fun p => .bool (asc p.2)) (fun p => [.im (seqD t ps), .im (iD n), .im (encL layer), .ow (layers.map encNs), .im (encOs (ords n)), .im (encN p.1), .im (encRT p.2)]) [5, 6] (own := [("net", 5), ("rows", 6)]) rfl scLeast.nd
          (bim_list (be_var 2)).bi (blkOk_by (N := nLeast) (sc := defScope sLeast) (by decide +kernel)) (by decide) (fun p hp s H Cc cl fp => bg_tup rfl (bgs_cons (bg_name 5 scLeast.nd) (bgs_cons (bg_name 6 scLeast.nd) bgs_nil)))
          (fun p hp s H Cc cl fp => be_callF FA hr1 (ba_cons (be_var 6) ba_nil) ⟨n, p.2, rfl, (hl p hp).1, rfl⟩) (by omega)) (by rw [List.map_map]; rfl)))) (by rw [any_id])))
      cases ha : layer.any fun p => asc p.2 with
      | true =>
        rw [ha, if_pos rfl] at h
        rw [ha] at test
        cases hf : layer.filter fun p => asc p.2 with
        | nil => rw [hf] at h; cases h
        | cons q tl =>
          rw [hf] at h
          cases h
          exact ⟨layer, q.2, tl, .stop test, hf, by omega, fun p hp => (hl p hp).1, by omega, hlen⟩
      | false =>
        rw [ha, if_neg Bool.false_ne_true] at h
        rw [ha] at test
        obtain ⟨fl, r, tl, W, q⟩ := ih (m + 1) (nxt layer n (ords n)) (layers ++ [layer.map (·.1)]) h (nxt_ok hl fun p hp => nomatch hp) (by omega) (by rw [List.length_append, List.length_singleton]; omega) (fun l hl2 => by
          rcases List.mem_append.mp hl2 with hl2 | hl2
          · exact hlen l hl2
          · rw [List.mem_singleton.mp hl2, List.length_map]; omega)
        refine ⟨fl, r, tl, .step test ?_ W, q⟩
        refine bss_cons (bs_append 3 rfl (be_bf (bf_eq (bf_map layer encP (fun p => encN p.1) (fun p => [.im (seqD t ps), .im (iD n), .im (encL layer), .ow (layers.map encNs), .im (encOs (ords n)), .im (encN p.1), .im (encRT p.2)]) [5, 6] (own := [("net", 5), ("rows", 6)]) rfl scLeast.nd
          (bim_list (be_var 2)).bi (blkOk_by (N := nLeast) (sc := defScope sLeast) (by decide +kernel)) (by decide) (fun p hp s H Cc cl fp => bg_tup rfl (bgs_cons (bg_name 5 scLeast.nd) (bgs_cons (bg_name 6 scLeast.nd) bgs_nil))) (fun p hp s H Cc cl fp => be_var 5) (by omega)) (show _ = (layer.map (·.1)).map encN by rw [List.map_map]; rfl))) (by rw [List.length_map]; omega)) ?_
        refine bss_eq (bss_one (bs_set 2 scLeast.nd (d := encL (nxt layer n (ords n))) (be_callF FN hr (ba_cons (be_var 2) (ba_cons (be_var 1) (ba_cons (be_var 4) ba_nil))) ⟨n, layer, ords n, rfl, w5, fun p hp => ?_, by omega, ⟨os1.2, by omega⟩, rfl⟩))) ?_
        · obtain ⟨a1, a2, a3, a4⟩ := hl p hp
          exact ⟨a1, a2, a3, by omega⟩
        · rw [List.map_append]
          rfl
  obtain ⟨fl, r, tl, W, hf, hfl, hfr, hls, hls2⟩ := loop 8 0 [([], rowsOf ps)] [] hm (fun p hp => by
    rw [List.mem_singleton.mp hp]
    exact ⟨rok, rne, (fun x hx => nomatch hx), Nat.le_refl _⟩) (by omega) (by rw [List.length_nil]; omega) (fun l hl => nomatch hl)
  refine bss_cons (bs_expr (be_callF FK hr2 (ba_cons (be_var 0) ba_nil) ⟨t, ps, rfl, hp, rfl⟩)) (bss_cons (bs_set 1 scLeast.nd (d := iD n) (be_eq (be_sumS rfl (by rfl) T.sum (be_var 0)) (by rw [hw]))) (bss_cons (bs_par3 2 3 4 (da := encL [([], rowsOf ps)]) (dc := encOs (ords n)) rfl scLeast.nd
    (be_lst (ba_cons (be_tup (ba_cons (be_lst ba_nil) (ba_cons (be_callF FR hr1 (ba_cons (be_var 0) ba_nil) ⟨t, ps, rfl, hp, rfl⟩) ba_nil))) ba_nil)) (be_callF FO hr1 (ba_cons (be_var 1) ba_nil) ⟨n, rfl, w5, rfl⟩) (by decide) (by decide) (by decide)) (bss_cons (bs_while PassesOwn.never W) (bss_freeze 3 rfl (bss_one (bs_ret ?_))))))
  refine be_new FI hr2 (t := false) (be_ixL (k := 0) (d := encN net) (bl_bf (bf_lc fl encP (fun p => asc p.2) (fun p => encN p.1) (fun p => [.im (seqD t ps), .im (iD n), .im (encL fl), .im (.list (ls.map encNs)), .im (encOs (ords n)), .im (encN p.1), .im (encRT p.2)]) [5, 6] (own := [("net", 5), ("rows", 6)]) rfl scLeast.nd
    (bim_list (be_var 2)).bi (blkOk_by (N := nLeast) (sc := defScope sLeast) (by decide +kernel)) (by decide) (fun p hp s H Cc cl fp => bg_tup rfl (bgs_cons (bg_name 5 scLeast.nd) (bgs_cons (bg_name 6 scLeast.nd) bgs_nil)))
    (fun p hp s H Cc cl fp => bts_one (bt_val (be_callF FA hr1 (ba_cons (be_var 6) ba_nil) ⟨n, p.2, rfl, hfr p hp, rfl⟩))) (fun p hp _ s H Cc cl fp => be_var 5) (by omega))) be_int rfl (by rw [hf]; rfl)) (be_var 3) (by omega) (fun y hy => by have := hls2 y hy; omega)
end
end G6

set_option Elab.async false
set_option linter.all false
set_option maxRecDepth 100000
set_option maxHeartbeats 4000000
namespace G6
open PySem PySem.Spec PyProof.Rows L2
section
variable {P : Program} {w : World} {K : PySem.W.Frag} {mg : Str → Option Value} {base : Heap} {C : Addr}
/-! ### _law_up -/
abbrev sUp : Stmt := topS 29
abbrev nUp : List Str := ["_law_rows", "_law_row"]
theorem scUp : FnScope nUp ["_law_rows"] (defScope sUp) := ⟨rfl, rfl, rfl, by decide +kernel, rfl, by decide +kernel, by decide +kernel⟩
def R_up : List PyData → PyData → Prop := fun ds d => ∃ n rows, ds = [encRL rows] ∧ RowsOk n rows ∧ d = .bool (asc rows)
theorem ok_up {f : Addr} {fd : FuncData} (F : Fun K "_law_up" "_law_up" sUp f fd) (T : TxtB mg) : FnOk P w K mg base CX0 1 f fd ["_law_rows"] (spD K C R_up) := by
  refine fnD F scUp (fun ds d h => by obtain ⟨n, r, rfl, _⟩ := h; rfl) fun cdv A outer s H E hr ds d h => ?_
  obtain ⟨n, rows, rfl, ⟨h1, h5, h64, hv⟩, rfl⟩ := h
  refine .inl (bss_one (bs_ret (be_eq (be_allL (bs := rows.map ascR) rfl (by rfl) T.all (bl_bf (bf_eq (bf_map rows encR (fun r => .bool (ascR r)) (fun r => [.im (encRL rows), .im (encR r)]) [1] (own := [("_law_row", 1)]) rfl scUp.nd (bim_list (be_var 0)).bi (blkOk_by (N := nUp) (sc := defScope sUp) (by decide +kernel)) (by decide)
    (fun r hr' s H Cc cl fp => bg_name 1 scUp.nd) (fun r hr' s H Cc cl fp => ?_) (by omega)) ?_))) ?_)))
  · refine be_eq (be_eqD (Room.units hr) (be_listT (by rfl) T.list (ds := r.map iD) (be_var 1)) (be_eq (be_sortedT (ns := toI r) (ms := toI (isort r)) (by rfl) T.sorted (be_eq (be_var 1) (encR_I r)) (by unfold toI; rw [List.length_map, (hv r hr').1]; omega) (isort_unique r)) (by rw [toI_D])) (enc_il.sh (by decide) r) (enc_il.sh (by decide) (isort r))) ?_
    rw [enc_il.eq]
    rfl
  · rw [List.map_map]; rfl
  · unfold asc
    rw [all_id]
/-! ### _law_covers -/
abbrev sLcov : Stmt := topS 32
abbrev nLcov : List Str := ["_law_less", "_law_more", "_law_orders_here", "_law_lane", "_law_row", "_law_order"]
theorem scLcov : FnScope nLcov ["_law_less", "_law_more", "_law_orders_here"] (defScope sLcov) := ⟨rfl, rfl, rfl, by decide +kernel, rfl, by decide +kernel, by decide +kernel⟩
abbrev lcov1 : Expr := argE (stE (stAt (defBody sLcov) 1)) 0
abbrev lcov2 : Expr := argE (eltE lcov1) 0
def R_lcov : List PyData → PyData → Prop := fun ds d => ∃ n one other os, ds = [encRL one, encRL other, encOs os] ∧ RowsOk n one ∧ RowsOk n other ∧ OsOk n os ∧ d = .bool (lcov one other os)
theorem ok_lcov {f : Addr} {fd : FuncData} (F : Fun K "_law_covers" "_law_covers" sLcov f fd) (T : TxtB mg) : FnOk P w K mg base CX0 1 f fd ["_law_less", "_law_more", "_law_orders_here"] (spD K C R_lcov) := by
  refine fnD F scLcov (fun ds d h => by obtain ⟨n, a, b, c, rfl, _⟩ := h; rfl) fun cdv A outer s H E hr ds d h => ?_
  obtain ⟨n, one, other, os, rfl, o1, o2, ⟨hos, hlen⟩, rfl⟩ := h
  have l1 := o1.2.2.1
  have l2 := o2.2.2.1
  refine .inl (bss_if (q := decide (other.length < one.length)) (bt_eq (bt_gt (be_lenL (by rfl) T.len (bl_im (be_var 0))) (be_lenL (by rfl) T.len (bl_im (be_var 1)))) (by rw [List.length_map, List.length_map, dec_nat])) (fun hq => ?_) (fun hq => ?_))
  · refine bss_one (bs_ret (be_eq be_bl ?_))
    unfold lcov
    rw [hq, if_pos rfl]
  · have e0 : lcov one other os = covL one other os := by
      unfold lcov
      rw [hq, if_neg Bool.false_ne_true]
    rw [e0]
    refine bss_one (bs_ret (be_eq (be_anyL (bs := os.map fun od => one.all fun r => other.any fun z => decide (z = permR r od)) rfl (by rfl) T.any (bl_bf (bf_eq (bf_map os encR (fun od => .bool (one.all fun r => other.any fun z => decide (z = permR r od))) (fun od => [.im (encRL one), .im (encRL other), .im (encOs os), .no, .no, .im (encR od)]) [5] (own := [("_law_order", 5)]) rfl scLcov.nd (bim_list (be_var 2)).bi
      (blkOk_by (N := nLcov) (sc := defScope sLcov) (by decide +kernel)) (by decide) (fun od hod s H Cc cl fp => bg_name 5 scLcov.nd) (fun od hod s H Cc cl fp => ?_) (by omega)) (by rw [List.map_map]; rfl)))) (by rw [any_id]; rfl)))
    refine be_eq (be_allL (bs := one.map fun r => other.any fun z => decide (z = permR r od)) rfl (by rfl) T.all (bl_bf (bf_eq (bf_map one encR (fun r => .bool (other.any fun z => decide (z = permR r od))) (fun r => [.im (encRL one), .im (encRL other), .im (encOs os), .no, .im (encR r), .im (encR od)]) [4] (own := [("_law_row", 4)]) rfl scLcov.nd (bim_list (be_var 0)).bi
      (blkOk_by (N := nLcov) (sc := relS (lcScope lcov1) (defScope sLcov)) (by decide +kernel)) (by decide) (fun r hr' s H Cc cl fp => bg_name 4 scLcov.nd) (fun r hr' s H Cc cl fp => ?_) (by omega)) (by rw [List.map_map]; rfl)))) (by rw [all_id])
    have hod' := hos od hod
    have hr'' := o1.2.2.2 r hr'
    refine be_eq (be_inL (ds := other.map encR) (d := encR (permR r od)) (room65 hr) (be_eq (be_tupleL (by rfl) T.tuple (bl_bf (bf_map od iD (fun l => iD (r.getD l 0)) (fun l => [.im (encRL one), .im (encRL other), .im (encOs os), .im (iD l), .im (encR r), .im (encR od)]) [3] (own := [("_law_lane", 3)]) rfl scLcov.nd (bi_tup (be_var 5))
      (blkOk_by (N := nLcov) (sc := relS (lcScope lcov2) (relS (lcScope lcov1) (defScope sLcov))) (by decide +kernel)) (by decide) (fun l hl s H Cc cl fp => bg_name 3 scLcov.nd) (fun l hl s H Cc cl fp => be_ixT (be_var 4) (be_var 3) rfl (iD_at (by rw [hr''.1]; exact hod'.2 l hl))) (by have := hod'.1; have := o1.2.1; omega)))) ?_) (bl_im (be_var 1)) (enc_R.sh (by decide) _) (enc_RL.sh (by decide) other)) ?_
    · unfold encR permR
      rw [List.map_map]
      rfl
    · rw [any_enc enc_R]
/-! ### _law_pairs -/
abbrev sPairs : Stmt := topS 30
abbrev nPairs : List Str := ["_law_width", "_law_found", "_law_second", "_law_first"]
theorem scPairs : FnScope nPairs ["_law_width"] (defScope sPairs) := ⟨rfl, rfl, rfl, by decide +kernel, rfl, by decide +kernel, by decide +kernel⟩
theorem excs_succ (k : Nat) : excs (k + 1) = excs k ++ (List.range k).map fun first => (first, k) := by
  unfold excs
  rw [List.range_succ, List.map_append, List.flatten_append]
  simp
theorem ok_pairs {f : Addr} {fd : FuncData} (F : Fun K "_law_pairs" "_law_pairs" sPairs f fd) (T : TxtB mg) : FnOk P w K mg base CX0 1 f fd ["_law_width"] (spD K C R_exc) := by
  refine fnD F scPairs (fun ds d h => by obtain ⟨n, rfl, _⟩ := h; rfl) fun cdv A outer s H E hr ds d h => .inl ?_
  obtain ⟨n, rfl, h5, rfl⟩ := h
  have loop : ∀ (m k : Nat) (s2 : Sl), k + m = n → ∃ t2 : Sl,
      Lp (cxOf CX0 P w K mg base nPairs "_law_pairs" (defScope sPairs) f cdv A outer s H E).nox C (forT (stAt (defBody sPairs) 1)) (forB (stAt (defBody sPairs) 1)) [.im (iD n), .ow ((excs k).map encX), s2, .no] ((List.range' k m).map iD) (.nx [.im (iD n), .ow ((excs n).map encX), t2, .no]) := by
    intro m
    induction m with
    | zero =>
      intro k s2 e
      have e' : k = n := by omega
      subst e'
      exact ⟨s2, .nil⟩
    | succ m ih =>
      intro k s2 e
      obtain ⟨t2, hl⟩ := ih (k + 1) (.im (iD k)) (by omega)
      refine ⟨t2, .step [2] (bg_name 2 scPairs.nd) ?_ hl⟩
      have el := excs_len (n := k) (by omega)
      rw [excs_succ, List.map_append, List.map_map]
      refine bss_one (bs_extend 1 rfl (be_bf (bf_map (List.range k) iD (encX ∘ fun first => (first, k)) (fun f => [.im (iD n), .ow ((excs k).map encX), .im (iD k), .im (iD f)]) [3] (own := [("_law_first", 3)]) rfl scPairs.nd (bim_range (n := k) (by rfl) T.range (be_var 2) rfl (by omega)).bi
        (blkOk_by (N := nPairs) (sc := defScope sPairs) (by decide +kernel)) (by decide) (fun f hf s H Cc cl fp => bg_name 3 scPairs.nd) (fun f hf s H Cc cl fp => be_tup (ba_cons (be_var 3) (ba_cons (be_var 2) (ba_cons be_str ba_nil)))) (by rw [List.length_range]; omega))) (by rw [List.length_map, List.length_map, List.length_range]; omega))
  obtain ⟨t2, hl⟩ := loop n 0 .no (by omega)
  refine bss_cons (bs_setF 1 scPairs.nd (bf_lst ba_nil)) (bss_cons (bs_for PassesOwn.never rfl (bim_eq (bim_range (n := n) (by rfl) T.range (be_var 0) rfl (by omega)) ?_) hl) (bss_freeze 1 rfl (bss_one (bs_ret (be_var 1)))))
  rw [rngD_iD, List.range_eq_range']
/-! ### _law_orders -/
abbrev sLord : Stmt := topS 31
abbrev nLord : List Str := ["_law_width", "_law_rows", "_law_lane", "_law_more", "_law_row", "_law_at"]
theorem scLord : FnScope nLord ["_law_width"] (defScope sLord) := ⟨rfl, rfl, rfl, by decide +kernel, rfl, by decide +kernel, by decide +kernel⟩
theorem ok_lord {f : Addr} {fd : FuncData} (F : Fun K "_law_orders" "_law_orders" sLord f fd) (T : TxtB mg) : FnOk P w K mg base CX0 1 f fd ["_law_width"] (spD K C R_ord) := by
  refine fnD F scLord (fun ds d h => by obtain ⟨n, rfl, _⟩ := h; rfl) fun cdv A outer s H E hr ds d h => .inl ?_
  obtain ⟨n, rfl, h5, rfl⟩ := h
  have inner : ∀ (a : PyData) (k : Nat), k < n → ∀ (rows acc : List Row) (s4 : Sl), (∀ r ∈ rows, ORow k r) → acc.length + rows.length * 6 ≤ 10000 → ∃ t4 : Sl,
      Lp (cxOf CX0 P w K mg base nLord "_law_orders" (defScope sLord) f cdv A outer s H E).nox C (forT (stAt (forB (stAt (defBody sLord) 1)) 1)) (forB (stAt (forB (stAt (defBody sLord) 1)) 1)) [.im (iD n), .im a, .im (iD k), .ow (acc.map encR), s4, .no] (rows.map encR)
        (.nx [.im (iD n), .im a, .im (iD k), .ow ((acc ++ ordStep rows k).map encR), t4, .no]) := by
    intro a k hk rows
    induction rows with
    | nil =>
      intro acc s4 _ _
      refine ⟨s4, ?_⟩
      rw [show ordStep [] k = [] from rfl, List.append_nil]
      exact .nil
    | cons r rows ih =>
      intro acc s4 hv hln
      rw [List.length_cons] at hln
      have hr1 := (hv r List.mem_cons_self).1
      obtain ⟨t4, hl⟩ := ih (acc ++ (List.range (r.length + 1)).map fun at_ => r.take at_ ++ k :: r.drop at_) (.im (encR r)) (fun q hq => hv q (List.mem_cons_of_mem _ hq)) (by rw [List.length_append, List.length_map, List.length_range, hr1]; omega)
      refine ⟨t4, .step [4] (bg_name 4 scLord.nd) ?_ (by
        rw [List.append_assoc] at hl
        exact hl)⟩
      rw [List.map_append, List.map_map]
      refine bss_one (bs_extend 3 rfl (be_bf (bf_map (List.range (r.length + 1)) iD (encR ∘ fun at_ => r.take at_ ++ k :: r.drop at_) (fun at_ => [.im (iD n), .im a, .im (iD k), .ow (acc.map encR), .im (encR r), .im (iD at_)]) [5] (own := [("_law_at", 5)]) rfl scLord.nd (bim_range (n := r.length + 1) (by rfl) T.range (be_add (be_var 2) be_int) (by rw [hr1]; omega) (by omega)).bi
        (blkOk_by (N := nLord) (sc := defScope sLord) (by decide +kernel)) (by decide) (fun f hf s H Cc cl fp => bg_name 5 scLord.nd) (fun y hy s H Cc cl fp => ?_) (by rw [List.length_range]; omega))) (by rw [List.length_map, List.length_map, List.length_range]; omega))
      refine be_eq (be_catT (be_catT (be_slT (l := none) (u := some (y : Int)) (ds := r.map iD) (be_var 4) trivial (be_var 5)) (be_tup (ba_cons (be_var 2) ba_nil)) ?_) (be_slT (l := some (y : Int)) (u := none) (ds := r.map iD) (be_var 4) (be_var 5) trivial) ?_) ?_
      · rw [cut_take, List.length_take, List.length_map, List.length_singleton]
        omega
      · rw [cut_take, cut_drop, List.length_append, List.length_singleton, List.length_take, List.length_drop, List.length_map]
        omega
      · rw [cut_take, cut_drop]
        show _ = encR (r.take y ++ k :: r.drop y)
        unfold encR
        rw [List.map_append, List.map_cons, List.map_take, List.map_drop, List.append_assoc]
        rfl
  have loop : ∀ (m k : Nat) (s2 s3 s4 : Sl), k + m = n → ∃ t2 t3 t4 : Sl,
      Lp (cxOf CX0 P w K mg base nLord "_law_orders" (defScope sLord) f cdv A outer s H E).nox C (forT (stAt (defBody sLord) 1)) (forB (stAt (defBody sLord) 1)) [.im (iD n), .im (encOs (ords k)), s2, s3, s4, .no] ((List.range' k m).map iD) (.nx [.im (iD n), .im (encOs (ords n)), t2, t3, t4, .no]) := by
    intro m
    induction m with
    | zero =>
      intro k s2 s3 s4 e
      have e' : k = n := by omega
      subst e'
      exact ⟨s2, s3, s4, .nil⟩
    | succ m ih =>
      intro k s2 s3 s4 e
      obtain ⟨o1, o2⟩ := ords_ok k (by omega)
      obtain ⟨t4, hin⟩ := inner (encOs (ords k)) k (by omega) (ords k) [] s4 o2 (by rw [List.length_nil]; omega)
      rw [List.nil_append, ← ords_succ] at hin
      obtain ⟨u2, u3, u4, hl⟩ := ih (k + 1) (.im (iD k)) (.im (.list ((ords (k + 1)).map encR))) t4 (by omega)
      exact ⟨u2, u3, u4, .step [2] (bg_name 2 scLord.nd) (bss_cons (bs_setF 3 scLord.nd (bf_lst ba_nil)) (bss_cons (bs_for PassesOwn.never rfl (bim_list (be_var 1)) hin) (bss_freeze 3 rfl (bss_one (bs_set 1 scLord.nd (be_var 3)))))) hl⟩
  obtain ⟨t2, t3, t4, hl⟩ := loop n 0 .no .no .no (by omega)
  refine bss_cons (bs_set 1 scLord.nd (d := encOs (ords 0)) (be_lst (ba_cons (be_tup ba_nil) ba_nil))) (bss_cons (bs_for PassesOwn.never rfl (bim_eq (bim_range (n := n) (by rfl) T.range (be_var 0) rfl (by omega)) ?_) hl) (bss_one (bs_ret (be_var 1))))
  rw [rngD_iD, List.range_eq_range']
end
end G6

set_option Elab.async false
set_option linter.all false
set_option maxRecDepth 100000
set_option maxHeartbeats 4000000
namespace G6
open PySem PySem.Spec PyProof.Rows L2
section
variable {P : Program} {w : World} {K : PySem.W.Frag} {mg : Str → Option Value} {base : Heap} {C : Addr}
/-! ### _law_parted -/
abbrev sPart : Stmt := topS 27
abbrev nPart : List Str := ["_law_parts", "_law_rows", "_law_many", "_law_more", "_law_row", "_law_ones"]
theorem scPart : FnScope nPart ["_law_parts"] (defScope sPart) := ⟨rfl, rfl, rfl, by decide +kernel, rfl, by decide +kernel, by decide +kernel⟩
def R_part : List PyData → PyData → Prop := fun ds d => ∃ t ps, ds = [seqD t ps] ∧ PartsOk ps ∧ d = encRL (parted ps)
theorem ok_part {f : Addr} {fd : FuncData} (F : Fun K "_law_parted" "_law_parted" sPart f fd) (T : TxtB mg) : FnOk P w K mg base CX0 1 f fd ["_law_parts"] (spD K C R_part) := by
  refine fnD F scPart (fun ds d h => by obtain ⟨t, n, rfl, _⟩ := h; rfl) fun cdv A outer s H E hr ds d h => .inl ?_
  obtain ⟨t, ps, rfl, ⟨h1, hs1, hs5⟩, rfl⟩ := h
  have inner : ∀ (a : PyData) (m : Nat), m ≤ 5 → ∀ (rows acc : List Row) (s4 : Sl), (∀ r ∈ rows, r.length ≤ 5) → acc.length + rows.length * 6 ≤ 10000 → ∃ t4 : Sl,
      Lp (cxOf CX0 P w K mg base nPart "_law_parted" (defScope sPart) f cdv A outer s H E).nox C (forT (stAt (forB (stAt (defBody sPart) 1)) 1)) (forB (stAt (forB (stAt (defBody sPart) 1)) 1)) [.im (seqD t ps), .im a, .im (iD m), .ow (acc.map encR), s4, .no] (rows.map encR)
        (.nx [.im (seqD t ps), .im a, .im (iD m), .ow ((acc ++ partStep rows m).map encR), t4, .no]) := by
    intro a m hm rows
    induction rows with
    | nil =>
      intro acc s4 _ _
      refine ⟨s4, ?_⟩
      rw [show partStep [] m = [] from rfl, List.append_nil]
      exact .nil
    | cons r rows ih =>
      intro acc s4 hv hln
      rw [List.length_cons] at hln
      have hr1 := hv r List.mem_cons_self
      obtain ⟨t4, hl⟩ := ih (acc ++ (List.range (m + 1)).map fun ones => r ++ (List.replicate (m - ones) 0 ++ List.replicate ones 1)) (.im (encR r)) (fun q hq => hv q (List.mem_cons_of_mem _ hq)) (by rw [List.length_append, List.length_map, List.length_range]; omega)
      refine ⟨t4, .step [4] (bg_name 4 scPart.nd) ?_ (by
        rw [List.append_assoc] at hl
        exact hl)⟩
      rw [List.map_append, List.map_map]
      refine bss_one (bs_extend 3 rfl (be_bf (bf_map (List.range (m + 1)) iD (encR ∘ fun ones => r ++ (List.replicate (m - ones) 0 ++ List.replicate ones 1)) (fun o => [.im (seqD t ps), .im a, .im (iD m), .ow (acc.map encR), .im (encR r), .im (iD o)]) [5] (own := [("_law_ones", 5)]) rfl scPart.nd (bim_range (n := m + 1) (by rfl) T.range (be_add (be_var 2) be_int) (by omega) (by omega)).bi
        (blkOk_by (N := nPart) (sc := defScope sPart) (by decide +kernel)) (by decide) (fun f hf s H Cc cl fp => bg_name 5 scPart.nd) (fun y hy s H Cc cl fp => ?_) (by rw [List.length_range]; omega))) (by rw [List.length_map, List.length_map, List.length_range]; omega))
      have hy2 := List.mem_range.mp hy
      have e2 : ((m : Int) - (y : Int)).toNat = m - y := by omega
      have e3 : ((y : Int)).toNat = y := by omega
      refine be_eq (be_catT (be_catT (ds := r.map iD) (be_var 4) (be_repT (be_tup (ba_cons be_int ba_nil)) (be_sub (be_var 2) (be_var 5)) (by simp) (by omega) (by omega) (by decide)) ?_) (be_repT (be_tup (ba_cons be_int ba_nil)) (be_var 5) (by simp) (by omega) (by omega) (by decide)) ?_) ?_
      · rw [e2, rep_one, List.length_replicate, List.length_map]
        omega
      · rw [e2, e3, rep_one, rep_one, List.length_append, List.length_replicate, List.length_replicate, List.length_map]
        omega
      · rw [e2, e3, rep_one, rep_one]
        show _ = encR (r ++ (List.replicate (m - y) 0 ++ List.replicate y 1))
        unfold encR
        rw [List.map_append, List.map_append, List.map_replicate, List.map_replicate, List.append_assoc]
        rfl
  have loop : ∀ (qs : List Nat) (n : Nat) (found : List Row) (s2 s3 s4 : Sl), (∀ r ∈ found, VRow n r) → found.length ≤ 2 ^ n → n + qs.sum ≤ 5 → ∃ t2 t3 t4 : Sl,
      Lp (cxOf CX0 P w K mg base nPart "_law_parted" (defScope sPart) f cdv A outer s H E).nox C (forT (stAt (defBody sPart) 1)) (forB (stAt (defBody sPart) 1)) [.im (seqD t ps), .im (encRL found), s2, s3, s4, .no] (qs.map iD) (.nx [.im (seqD t ps), .im (encRL (qs.foldl partStep found)), t2, t3, t4, .no]) := by
    intro qs
    induction qs with
    | nil => intro n found s2 s3 s4 _ _ _; exact ⟨s2, s3, s4, .nil⟩
    | cons m qs ih =>
      intro n found s2 s3 s4 hv hl5 hn
      rw [List.sum_cons] at hn
      have hf : found.length ≤ 32 := Nat.le_trans hl5 (Nat.le_trans (Nat.pow_le_pow_right (by decide) (show n ≤ 5 by omega)) (by decide))
      obtain ⟨t4, hin⟩ := inner (encRL found) m (by omega) found [] s4 (fun r hr' => by rw [(hv r hr').1]; omega) (by rw [List.length_nil]; omega)
      rw [List.nil_append] at hin
      obtain ⟨u2, u3, u4, hl⟩ := ih (n + m) (partStep found m) (.im (iD m)) (.im (.list ((partStep found m).map encR))) t4 (partStep_v hv) (partStep_len hl5) (by omega)
      exact ⟨u2, u3, u4, .step [2] (bg_name 2 scPart.nd) (bss_cons (bs_setF 3 scPart.nd (bf_lst ba_nil)) (bss_cons (bs_for PassesOwn.never rfl (bim_list (be_var 1)) hin) (bss_freeze 3 rfl (bss_one (bs_set 1 scPart.nd (be_var 3)))))) hl⟩
  obtain ⟨t2, t3, t4, hl⟩ := loop ps 0 [[]] .no .no .no (fun r hr => by
    rw [List.mem_singleton.mp hr]
    exact ⟨rfl, fun x hx => nomatch hx⟩) (by decide) (by omega)
  exact bss_cons (bs_set 1 scPart.nd (d := encRL [[]]) (be_lst (ba_cons (be_tup ba_nil) ba_nil))) (bss_cons (bs_for PassesOwn.never rfl (bim_seq (be_var 0)) hl) (bss_one (bs_ret (be_var 1))))
/-! ### _law_led -/
abbrev sLled : Stmt := topS 28
abbrev nLled : List Str := ["_law_rows", "_law_net", "_law_found", "_law_row", "_law_late", "_law_first", "_law_second", "_law_order"]
theorem scLled : FnScope nLled ["_law_rows", "_law_net"] (defScope sLled) := ⟨rfl, rfl, rfl, by decide +kernel, rfl, by decide +kernel, by decide +kernel⟩
def R_lled : List PyData → PyData → Prop := fun ds d => ∃ n rows net, ds = [encRL rows, encN net] ∧ RowsOk n rows ∧ NetOk n net ∧ d = encRL (beh rows net)
theorem ok_lled {f : Addr} {fd : FuncData} (F : Fun K "_law_led" "_law_led" sLled f fd) (T : TxtB mg) : FnOk P w K mg base CX0 1 f fd ["_law_rows", "_law_net"] (spD K C R_lled) := by
  refine fnD F scLled (fun ds d h => by obtain ⟨n, r, i, rfl, _⟩ := h; rfl) fun cdv A outer s H E hr ds d h => .inl ?_
  obtain ⟨n, rows, net, rfl, ⟨h1, h5, h64, hv⟩, hn, rfl⟩ := h
  have inner : ∀ (c : PyData) (acc : List Row) (net : Net) (r : Row) (s3 s5 s6 s7 : Sl), NetOk r.length net → ∃ t5 t6 t7 : Sl,
      Lp (cxOf CX0 P w K mg base nLled "_law_led" (defScope sLled) f cdv A outer s H E).nox C (forT (stAt (forB (stAt (defBody sLled) 1)) 1)) (forB (stAt (forB (stAt (defBody sLled) 1)) 1)) [.im (encRL rows), .im c, .ow (acc.map encR), s3, .ow (r.map iD), s5, s6, s7] (net.map encX) (.nx [.im (encRL rows), .im c, .ow (acc.map encR), s3, .ow ((led net r).map iD), t5, t6, t7]) := by
    intro c acc net
    induction net with
    | nil => intro r s5 s6 s7 s8 _; exact ⟨s6, s7, s8, .nil⟩
    | cons p net ih =>
      intro r s5 s6 s7 s8 hn
      have hp := hn p List.mem_cons_self
      obtain ⟨t5, t6, t7, hl⟩ := ih (swp r p) s5 (.im (iD p.1)) (.im (iD p.2)) (.im (.str "up")) (by rw [swp_len]; exact fun q hq => hn q (List.mem_cons_of_mem _ hq))
      refine ⟨t5, t6, t7, .step [5, 6, 7] (bg_tup rfl (bgs_cons (bg_name 5 scLled.nd) (bgs_cons (bg_name 6 scLled.nd) (bgs_cons (bg_name 7 scLled.nd) bgs_nil)))) ?_ hl⟩
      refine bss_one (bs_if (bt_gt (be_ixL (bl_own 4) (be_var 5) rfl (iD_at hp.1)) (be_ixL (bl_own 4) (be_var 6) rfl (iD_at hp.2))) (fun hq => ?_) (fun hq => ?_))
      · have hq : r.getD p.2 0 < r.getD p.1 0 := by have := of_decide_eq_true hq; omega
        refine bss_eq (bss_one (bs_store2 4 rfl rfl (be_tup (ba_cons (be_ixL (bl_own 4) (be_var 6) rfl (iD_at hp.2)) (ba_cons (be_ixL (bl_own 4) (be_var 5) rfl (iD_at hp.1)) ba_nil))) (be_var 5) (be_var 6) (by rw [List.length_map]; exact hp.1) (by rw [List.length_map]; exact hp.2))) ?_
        have e : (swp r p).map iD = ((r.map iD).set p.1 (iD (r.getD p.2 0))).set p.2 (iD (r.getD p.1 0)) := by
          unfold swp
          rw [if_pos hq, List.map_set, List.map_set]
        rw [e]
        rfl
      · have hq : ¬ r.getD p.2 0 < r.getD p.1 0 := by have := of_decide_eq_false hq; omega
        have e : swp r p = r := by
          unfold swp
          rw [if_neg hq]
        rw [e]
        exact bss_nil
  have loop : ∀ (qs acc : List Row) (s3 s4 s5 s6 s7 : Sl), (∀ r ∈ qs, VRow n r) → acc.length + qs.length < 64 → ∃ t3 t4 t5 t6 t7 : Sl,
      Lp (cxOf CX0 P w K mg base nLled "_law_led" (defScope sLled) f cdv A outer s H E).nox C (forT (stAt (defBody sLled) 1)) (forB (stAt (defBody sLled) 1)) [.im (encRL rows), .im (encN net), .ow (acc.map encR), s3, s4, s5, s6, s7] (qs.map encR)
        (.nx [.im (encRL rows), .im (encN net), .ow ((acc ++ qs.map (led net)).map encR), t3, t4, t5, t6, t7]) := by
    intro qs
    induction qs with
    | nil =>
      intro acc s3 s4 s5 s6 s7 _ _
      refine ⟨s3, s4, s5, s6, s7, ?_⟩
      simp only [List.map_nil, List.append_nil]
      exact .nil
    | cons r qs ih =>
      intro acc s3 s4 s5 s6 s7 hq hln
      rw [List.length_cons] at hln
      have hr1 := (hq r List.mem_cons_self).1
      obtain ⟨t5, t6, t7, hin⟩ := inner (encN net) acc net r (.im (encR r)) s5 s6 s7 (by rw [hr1]; exact hn)
      obtain ⟨u3, u4, u5, u6, u7, hl⟩ := ih (acc ++ [led net r]) (.im (encR r)) (.ow ((led net r).map iD)) t5 t6 t7 (fun q h => hq q (List.mem_cons_of_mem _ h)) (by rw [List.length_append, List.length_singleton]; omega)
      refine ⟨u3, u4, u5, u6, u7, .step [3] (bg_name 3 scLled.nd) ?_ (by
        rw [List.append_assoc] at hl
        exact hl)⟩
      refine bss_cons (bs_setF 4 scLled.nd (bf_listT (by rfl) T.list (ds := r.map iD) (be_var 3))) (bss_cons (bs_for PassesOwn.never rfl (bim_list (be_var 1)) hin) ?_)
      refine bss_eq (bss_one (bs_append 2 rfl (be_tupleL (by rfl) T.tuple (bl_own 4)) (by rw [List.length_map]; omega))) ?_
      rw [List.map_append]
      rfl
  obtain ⟨t3, t4, t5, t6, t7, hl⟩ := loop rows [] .no .no .no .no .no hv (by rw [List.length_nil]; omega)
  rw [List.nil_append] at hl
  have hv2 : ∀ y ∈ rows.map (led net), VRow n y := fun y hy => by
    obtain ⟨q, hq, e⟩ := List.mem_map.mp hy
    subst e
    exact led_v (hv q hq) hn
  refine bss_cons (bs_setF 2 scLled.nd (bf_lst ba_nil)) (bss_cons (bs_for PassesOwn.never rfl (bim_list (be_var 0)) hl) (bss_one (bs_ret (be_bf (bf_eq (be_sortedSet (rows := (rows.map (led net)).map toI) (ms := (srtU (rows.map (led net))).map toI) (n := n) (B := 2) rfl (Room.units hr) h1 (by rfl) T.sorted (by rfl) T.set
    (bl_eq (bl_own 2) (encR_map _)) (by rw [List.length_map, List.length_map]; exact h64) (fun r hr' => ?_) (srtU_unique hv2)) ?_)))))
  · obtain ⟨q, hq, rfl⟩ := List.mem_map.mp hr'
    exact bd_toI (hv2 q hq)
  · rw [← encR_map]
    rfl
end
end G6

set_option Elab.async false
set_option linter.all false
set_option maxRecDepth 100000
set_option maxHeartbeats 4000000
namespace G6
open PySem PySem.Spec PyProof.Rows L2
def encSL (ss : List (List Row)) : PyData := .list (ss.map encRL)
theorem enc_SL : Enc encSL 3 := enc_RL.list
def StOk (n : Nat) (ss : List (List Row)) : Prop := ∀ s ∈ ss, RowsOk n s
theorem beh_rk {n : Nat} {rows : List Row} {net : Net} (h : RowsOk n rows) (hn : NetOk n net) : RowsOk n (beh rows net) :=
  ⟨h.1, h.2.1, Nat.lt_of_le_of_lt (beh_len rows net) h.2.2.1, beh_v h.2.2.2 hn⟩
theorem lawStep_ok {n : Nat} {one : List Row} {more : List (List Row)} {x : Nat × Nat} (ho : RowsOk n one) (hm : StOk n more) (hx : x.1 < n ∧ x.2 < n) : StOk n (lawNxtStep one more x) ∧ (lawNxtStep one more x).length ≤ more.length + 1 := by
  unfold lawNxtStep
  split
  · refine ⟨fun s hs => ?_, by rw [List.length_append, List.length_singleton]; exact Nat.le_refl _⟩
    rcases List.mem_append.mp hs with hs | hs
    · exact hm s hs
    · rw [List.mem_singleton.mp hs]
      exact beh_rk ho fun y hy => by rw [List.mem_singleton.mp hy]; exact hx
  · exact ⟨hm, Nat.le_succ _⟩
theorem lawIn_ok {n : Nat} {one : List Row} (ho : RowsOk n one) : ∀ {xs : Net} {more : List (List Row)}, StOk n more → (∀ x ∈ xs, x.1 < n ∧ x.2 < n) → StOk n (xs.foldl (lawNxtStep one) more) ∧ (xs.foldl (lawNxtStep one) more).length ≤ more.length + xs.length
  | [], more, hf, _ => ⟨hf, Nat.le_refl _⟩
  | x :: xs, more, hf, hx => by
    obtain ⟨a, b⟩ := lawStep_ok ho hf (hx x List.mem_cons_self)
    obtain ⟨c, d⟩ := lawIn_ok ho a fun y hy => hx y (List.mem_cons_of_mem _ hy)
    refine ⟨c, ?_⟩
    rw [List.length_cons]
    show (xs.foldl (lawNxtStep one) (lawNxtStep one more x)).length ≤ _
    omega
section
variable {P : Program} {w : World} {K : PySem.W.Frag} {mg : Str → Option Value} {base : Heap} {C : Addr}
/-! ### _law_least -/
abbrev sLst : Stmt := topS 33
abbrev nLst : List Str := ["_law_parts", "_law_rows", "_law_width", "_law_sets", "_law_many", "_law_one", "_law_more", "_law_pair", "_law_late"]
theorem scLst : FnScope nLst ["_law_parts"] (defScope sLst) := ⟨rfl, rfl, rfl, by decide +kernel, rfl, by decide +kernel, by decide +kernel⟩
def R_lst : List PyData → PyData → Prop := fun ds d => ∃ t ps m, ds = [seqD t ps] ∧ PartsOk ps ∧ lawLeastM ps = some m ∧ d = iD m
theorem ok_lst {f : Addr} {fd : FuncData} (F : Fun K "_law_least" "_law_least" sLst f fd) (T : TxtB mg) (FP : FnB P w K mg base C "_law_parted" 1 ["_law_parts"] R_part) (FL : FnB P w K mg base C "_law_led" 1 ["_law_rows", "_law_net"] R_lled) (FU : FnB P w K mg base C "_law_up" 1 ["_law_rows"] R_up) (FX : FnB P w K mg base C "_law_pairs" 1 ["_law_width"] R_exc) :
    FnOk P w K mg base CX0 2 f fd ["_law_parts"] (spD K C R_lst) := by
  refine fnD F scLst (fun ds d h => by obtain ⟨t, n, m, rfl, _⟩ := h; rfl) fun cdv A outer s H E hr ds d h => .inl ?_
  obtain ⟨t, ps, m, rfl, hp, hm, rfl⟩ := h
  have w5 := hp.2.2
  have pok := parted_ok hp.2.1 w5
  unfold lawLeastM at hm
  generalize hw : ps.sum = n at *
  have el := excs_len w5
  have inner : ∀ (a b c : PyData) (one : List Row), RowsOk n one → ∀ (xs : Net) (more : List (List Row)) (s7 s8 : Sl), (∀ x ∈ xs, x.1 < n ∧ x.2 < n) → StOk n more → more.length + xs.length ≤ 100000 → ∃ t7 t8 : Sl,
      Lp (cxOf CX0 P w K mg base nLst "_law_least" (defScope sLst) f cdv A outer s H E).nox C (forT (stAt (forB (stAt (forB (stAt (defBody sLst) 2)) 1)) 0)) (forB (stAt (forB (stAt (forB (stAt (defBody sLst) 2)) 1)) 0)) [.im (seqD t ps), .im a, .im (iD n), .im b, .im c, .im (encRL one), .ow (more.map encRL), s7, s8] (xs.map encX)
        (.nx [.im (seqD t ps), .im a, .im (iD n), .im b, .im c, .im (encRL one), .ow ((xs.foldl (lawNxtStep one) more).map encRL), t7, t8]) := by
    intro a b c one ho xs
    induction xs with
    | nil => intro more s7 s8 _ _ _; exact ⟨s7, s8, .nil⟩
    | cons x xs ih =>
      intro more s7 s8 hx hmr hln
      rw [List.length_cons] at hln
      have hx1 := hx x List.mem_cons_self
      have hnx : NetOk n [x] := fun q hq => by rw [List.mem_singleton.mp hq]; exact hx1
      obtain ⟨nf, nl⟩ := lawStep_ok ho hmr hx1
      obtain ⟨t7, t8, hl⟩ := ih (lawNxtStep one more x) (.im (encX x)) (.im (encRL (beh one [x]))) (fun y hy => hx y (List.mem_cons_of_mem _ hy)) nf (by omega)
      refine ⟨t7, t8, .step [7] (bg_name 7 scLst.nd) (bss_cons (bs_set 8 scLst.nd (d := encRL (beh one [x])) (be_callF FL hr (ba_cons (be_var 5) (ba_cons (be_lst (ba_cons (be_var 7) ba_nil)) ba_nil)) ⟨n, one, [x], rfl, ho, hnx, rfl⟩)) ?_) hl⟩
      refine bss_one (bs_if (q := !decide (beh one [x] = one) && !(more.any fun z => decide (z = beh one [x]))) (bt_eq (bt_bw (bw_and (bt_neD (Room.units hr) (be_var 8) (be_var 5) (enc_RL.sh (by decide) _) (enc_RL.sh (by decide) _)) fun _ => bw_and1 (bt_notInL (room65 hr) (be_var 8) (bl_own 6) (enc_RL.sh (by decide) _) (enc_SL.sh (by decide) more)))) (by rw [enc_RL.eq, any_enc enc_RL])) (fun hq => ?_) (fun hq => ?_))
      · have e2 : lawNxtStep one more x = more ++ [beh one [x]] := by
          unfold lawNxtStep
          rw [if_pos hq]
        rw [e2]
        refine bss_eq (bss_one (bs_append 6 rfl (be_var 8) (by rw [List.length_map]; omega))) ?_
        rw [List.map_append]
        rfl
      · have e2 : lawNxtStep one more x = more := by
          unfold lawNxtStep
          rw [if_neg (by rw [hq]; exact Bool.false_ne_true)]
        rw [e2]
        exact bss_nil
  have mid : ∀ (a b c : PyData) (ss : List (List Row)) (more : List (List Row)) (s5 s7 s8 : Sl), StOk n ss → StOk n more → more.length + ss.length * 25 ≤ 100000 → ∃ t5 t7 t8 : Sl,
      Lp (cxOf CX0 P w K mg base nLst "_law_least" (defScope sLst) f cdv A outer s H E).nox C (forT (stAt (forB (stAt (defBody sLst) 2)) 1)) (forB (stAt (forB (stAt (defBody sLst) 2)) 1)) [.im (seqD t ps), .im a, .im (iD n), .im b, .im c, s5, .ow (more.map encRL), s7, s8] (ss.map encRL)
        (.nx [.im (seqD t ps), .im a, .im (iD n), .im b, .im c, t5, .ow ((ss.foldl (fun m one => (excs n).foldl (lawNxtStep one) m) more).map encRL), t7, t8]) ∧ StOk n (ss.foldl (fun m one => (excs n).foldl (lawNxtStep one) m) more) := by
    intro a b c ss
    induction ss with
    | nil => intro more s5 s7 s8 _ h _; exact ⟨s5, s7, s8, .nil, h⟩
    | cons one ss ih =>
      intro more s5 s7 s8 hss hmr hln
      rw [List.length_cons] at hln
      have ho := hss one List.mem_cons_self
      obtain ⟨t7, t8, hin⟩ := inner a b c one ho (excs n) more s7 s8 excs_lt hmr (by omega)
      obtain ⟨nf, nl⟩ := lawIn_ok ho hmr (excs_lt (n := n))
      obtain ⟨u5, u7, u8, hl, hs2⟩ := ih ((excs n).foldl (lawNxtStep one) more) (.im (encRL one)) t7 t8 (fun q hq => hss q (List.mem_cons_of_mem _ hq)) nf (by omega)
      exact ⟨u5, u7, u8, .step [5] (bg_name 5 scLst.nd) (bss_one (bs_for PassesOwn.never rfl (bim_list (be_callF FX hr (ba_cons (be_var 2) ba_nil) ⟨n, rfl, w5, rfl⟩)) hin)) hl, hs2⟩
  have loop : ∀ (k : Nat) (a : PyData) (ss : List (List Row)) (j : Nat) (s5 s6 s7 s8 : Sl), lawLeastGo n k ss j = some m → StOk n ss → ∃ (b : PyData) (t5 t6 t7 t8 : Sl),
      Wl (cxOf CX0 P w K mg base nLst "_law_least" (defScope sLst) f cdv A outer s H E).nox C (whC (stAt (defBody sLst) 2)) (forB (stAt (defBody sLst) 2)) k [.im (seqD t ps), .im a, .im (iD n), .im (encSL ss), .im (iD j), s5, s6, s7, s8]
        (.nx [.im (seqD t ps), .im a, .im (iD n), .im b, .im (iD m), t5, t6, t7, t8]) := by
    intro k
    induction k with
    | zero => intro a ss j s5 s6 s7 s8 h; cases h
    | succ k ih =>
      intro a ss j s5 s6 s7 s8 h hss
      unfold lawLeastGo at h
      by_cases h1000 : 1000 < ss.length
      · rw [if_pos h1000] at h; cases h
      rw [if_neg h1000] at h
      have test : BT (cxOf CX0 P w K mg base nLst "_law_least" (defScope sLst) f cdv A outer s H E).nox C [.im (seqD t ps), .im a, .im (iD n), .im (encSL ss), .im (iD j), s5, s6, s7, s8] (whC (stAt (defBody sLst) 2)) (!(ss.any asc)) :=
        bt_not (bt_val (be_eq (be_anyL (bs := ss.map asc) rfl (by rfl) T.any (bl_bf (bf_eq (bf_map ss encRL (fun o => .bool (asc o)) (fun o => [.im (seqD t ps), .im a, .im (iD n), .im (encSL ss), .im (iD j), .im (encRL o), s6, s7, s8]) [5] (own := [("_law_one", 5)]) rfl scLst.nd
          (bim_list (be_var 3)).bi (blkOk_by (N := nLst) (sc := defScope sLst) (by decide +kernel)) (by decide) (fun p hp s H Cc cl fp => bg_name 5 scLst.nd)
          (fun p hp s H Cc cl fp => be_callF FU hr (ba_cons (be_var 5) ba_nil) ⟨n, p, rfl, hss p hp, rfl⟩) (by omega)) (by rw [List.map_map]; rfl)))) (by rw [any_id])))
      cases ha : ss.any asc with
      | true =>
        rw [ha, if_pos rfl] at h
        rw [ha] at test
        cases h
        exact ⟨_, s5, s6, s7, s8, .stop test⟩
      | false =>
        rw [ha, if_neg Bool.false_ne_true] at h
        rw [ha] at test
        obtain ⟨t5, t7, t8, hin, hs2⟩ := mid a (encSL ss) (iD j) ss [] s5 s7 s8 hss (fun s hs => nomatch hs) (by rw [List.length_nil]; omega)
        obtain ⟨b, u5, u6, u7, u8, W⟩ := ih a (lawNxt ss n) (j + 1) t5 (.im (encSL (lawNxt ss n))) t7 t8 h hs2
        refine ⟨b, u5, u6, u7, u8, .step test (bss_cons (bs_setF 6 scLst.nd (bf_lst ba_nil)) (bss_cons (bs_for PassesOwn.never rfl (bim_list (be_var 3)) hin) (bss_freeze 6 rfl ?_))) W⟩
        exact bss_one (bs_par2 3 4 (da := encSL (lawNxt ss n)) (db := iD (j + 1)) rfl scLst.nd (ba_cons (be_var 6) (ba_cons (be_eq (be_add (be_var 4) be_int) (by show PyData.int ((j : Int) + 1) = .int ((j + 1 : Nat) : Int); congr 1)) ba_nil)) (by decide))
  obtain ⟨b, t5, t6, t7, t8, W⟩ := loop 8 (encRL (parted ps)) [beh (parted ps) []] 0 .no .no .no .no hm (fun s hs => by
    rw [List.mem_singleton.mp hs]
    exact beh_rk pok fun x hx => nomatch hx)
  exact bss_cons (bs_par2 1 2 (da := encRL (parted ps)) (db := iD n) rfl scLst.nd (ba_cons (be_callF FP hr (ba_cons (be_var 0) ba_nil) ⟨t, ps, rfl, hp, rfl⟩) (ba_cons (be_eq (be_sumS rfl (by rfl) T.sum (be_var 0)) (by rw [hw])) ba_nil)) (by decide))
    (bss_cons (bs_par2 3 4 (da := encSL [beh (parted ps) []]) (db := iD 0) rfl scLst.nd (ba_cons (be_lst (ba_cons (be_callF FL hr (ba_cons (be_var 1) (ba_cons (be_lst ba_nil) ba_nil)) ⟨n, parted ps, [], rfl, pok, (fun x hx => nomatch hx), rfl⟩) ba_nil)) (ba_cons be_int ba_nil)) (by decide))
      (bss_cons (bs_while PassesOwn.never W) (bss_one (bs_ret (be_var 4)))))
end
end G6

set_option Elab.async false
set_option linter.all false
set_option maxRecDepth 100000
set_option maxHeartbeats 4000000
namespace G6
open PySem PySem.Spec PyProof.Rows L2
section
variable {X : Cx} {C : Addr} {ρ : REnv} {e a b tg : Expr} {d : PyData} {ds dt : List PyData} {pos : Pos} {body : List Stmt}
/-- a loop that leaves at the first item of which p is false -/
theorem lp_all {α : Type} (enc : α → PyData) (p : α → Bool) (St : REnv → Prop) : ∀ (xs : List α) (ρ : REnv), St ρ →
    (∀ (ρ : REnv) (x : α), x ∈ xs → St ρ → ∃ ts ρ1, BG X C ρ ts tg (enc x) ρ1 ∧ (p x = true → ∃ ρ2, St ρ2 ∧ BSs X C ρ1 body (.nx ρ2)) ∧ (p x = false → BSs X C ρ1 body (.rt d))) →
    (xs.all p = true → ∃ ρ', St ρ' ∧ Lp X C tg body ρ (xs.map enc) (.nx ρ')) ∧ (xs.all p = false → Lp X C tg body ρ (xs.map enc) (.rt d))
  | [], ρ, h0, _ => ⟨fun _ => ⟨ρ, h0, .nil⟩, fun h => nomatch h⟩
  | x :: xs, ρ, h0, h => by
    obtain ⟨ts, ρ1, hg, ht, hf⟩ := h ρ x List.mem_cons_self h0
    rw [List.all_cons]
    cases hp : p x with
    | false =>
      rw [Bool.false_and]
      exact ⟨(fun h => nomatch h), fun _ => .ret ts hg (hf hp)⟩
    | true =>
      obtain ⟨ρ2, h2, hb⟩ := ht hp
      obtain ⟨i1, i2⟩ := lp_all enc p St xs ρ2 h2 fun ρ y hy => h ρ y (List.mem_cons_of_mem _ hy)
      rw [Bool.true_and]
      refine ⟨fun h => ?_, fun h => .step ts hg hb (i2 h)⟩
      obtain ⟨ρ', h3, hl⟩ := i1 h
      exact ⟨ρ', h3, .step ts hg hb hl⟩
theorem bim_zip {pn tpos : Pos} {elts : List Expr} {kk : Nat} (hg : Gl X "zip") (hm : X.mg "zip" = none) (ha : BE X C ρ a (.list ds)) (hb : BE X C ρ b (.list dt)) (he : starEach [a, b] X.env = (false, eval a X.env) :: starEach [b] X.env := by rfl) (he2 : NS X b := by rfl)
    (hpl : (backTo pos (starEach [b] X.env)).any (·.1) = false := by rfl) : BIm X C ρ (.Tuple elts kk tpos) (.Call (.Name "zip" pn) [a, b] [] pos) (zipD ds dt) :=
  bim_of (pi_zip hg hm (pa_cons (pe_sem a) (pa_cons (pe_sem b) pa_nil he2) he) he hpl) fun M H σ R E k => ha M H σ _ E fun v1 H1 s1 q1 => hb M H1 σ _ (E.mono s1) fun v2 H2 s2 q2 => by
    obtain ⟨a, vs, rfl, h1, q1⟩ := (q1.mono (msk_mono s2)).lst_inv
    obtain ⟨b, ws, rfl, h2, q2⟩ := q2.lst_inv
    refine ⟨a, b, vs, ws, rfl, SqL.of (msk_same M H2 _ _ h1), SqL.of (msk_same M H2 _ _ h2), k _ H2 (s1.trans s2) fun M' H3 e1 o i => ?_⟩
    have k1 := SqL.of (K := X.K) (msk_same M' H3 _ _ (e1 _ _ h1))
    have k2 := SqL.of (K := X.K) (msk_same M' H3 _ _ (e1 _ _ h2))
    have z : (zipD ds dt).length = min ds.length dt.length := by unfold zipD; rw [List.length_map, List.length_zip]
    refine ⟨fun hi => ⟨vs, ws, k1, k2, ?_⟩, fun d hd => ?_⟩
    · rw [q1.length, q2.length]
      rw [z] at hi
      omega
    · unfold zipD at hd
      rw [List.getElem?_map] at hd
      obtain ⟨⟨d1, d2⟩, hd0, rfl⟩ := Option.map_eq_some_iff.mp hd
      rw [List.getElem?_zip_eq_some] at hd0
      obtain ⟨v, hv, qv⟩ := q1.get hd0.1
      obtain ⟨w, hw, qw⟩ := q2.get hd0.2
      refine ⟨⟨vs, ws, v, w, k1, k2, hv, hw⟩, fun x H' y => ?_⟩
      obtain ⟨T, v', w', rfl, hT, rfl, y1, y2⟩ := y
      have z1 := y1 vs k1
      have z2 := y2 ws k2
      rw [hv] at z1
      rw [hw] at z2
      cases z1
      cases z2
      exact ⟨same_new hT, dn_newT o (.cons (qv.mono e1) (.cons (qw.mono e1) .nil)) hT⟩
/-- name = [.. for ..] -/
theorem bs_setMap (i : Nat) {α : Type} (xs : List α) (enc : α → PyData) (g : α → PyData) (ρ' : α → REnv) (ts : List Nat) {elt iter : Expr} {scope : Scope} {own : List (Str × Nat)} {y : Str} {py spos : Pos} (hc : X.calm = true) (hN : X.N.Nodup)
    (hy : X.N[i]? = some y) (hyl : X.env.scope.names.lookup y = some .local) (hsw : swapsWith (.ListComp elt [⟨tg, iter, [], 0⟩] scope pos) (some (.Name y py)) spos.line X.env = pure true)
    (src : BI X C ρ tg iter (xs.map enc)) (ok : BlkOk X.N X.env.scope scope own) (hts : ∀ i ∈ ts, i ∈ own.map (·.2))
    (tgt : ∀ x ∈ xs, ∀ s H Cc cl fp, BG (X.blk s H scope (compEnvC scope cl Cc X.env) fp) C (wipeR ρ (own.map (·.2))) ts tg (enc x) (ρ' x))
    (el : ∀ x ∈ xs, ∀ s H Cc cl fp, BE (X.blk s H scope (compEnvC scope cl Cc X.env) fp) C (ρ' x) elt (g x))
    (hlen : xs.length ≤ 1000000) (hs : ∀ x, foldedSetIterable iter X.env x = pure x := by intro _; rfl) :
    BS X C ρ (.Assign [.Name y py] (.ListComp elt [⟨tg, iter, [], 0⟩] scope pos) spos) (.nx (ρ.set i (.im (.list (xs.map g))))) := by
  have h := fr_lc (C := C) (ρ := ρ) xs enc (fun _ => true) g ρ' ts (ifs := []) hc hN src ok hts tgt (fun x hx s H Cc cl fp => bts_nil) (fun x hx _ => el x hx) hlen
  rw [filter_all] at h
  exact bs_setT (ps_setLc hc hN hy hyl hsw (pi_sem tg iter) ok gB_ok tBs_ok eB_ok hs) (frt_be h)
end
theorem lawLens_mem {n : Nat} {rows : List Row} : ∀ {k : Nat} {ls : List (List Net)}, lawLens (excs n) rows k ls = true → ∀ l ∈ ls, ∀ net ∈ l, NetOk n net
  | _, [], _, l, h => nomatch h
  | k, a :: t, h, l, hl => by
    unfold lawLens at h
    rw [Bool.and_eq_true] at h
    rcases List.mem_cons.mp hl with e | hl
    · subst e
      intro net hn
      have z := List.all_eq_true.mp h.1 net hn
      rw [Bool.and_eq_true, Bool.and_eq_true] at z
      exact netIn_ok z.1.2
    · exact lawLens_mem h.2 l hl
section
variable {P : Program} {w : World} {K : PySem.W.Frag} {mg : Str → Option Value} {base : Heap} {C : Addr}
/-! ### _law_right -/
abbrev sRt : Stmt := topS 34
abbrev nRt : List Str := ["_law_parts", "_law_told", "_law_rows", "_law_width", "_law_pairs_here", "_law_orders_here", "_law_one", "_law_many", "_law_layer", "_law_net", "_law_after", "_law_sets", "_law_pair", "_law_late", "_law_less"]
theorem scRt : FnScope nRt ["_law_parts", "_law_told"] (defScope sRt) := ⟨rfl, rfl, rfl, by decide +kernel, rfl, by decide +kernel, by decide +kernel⟩
def R_rt : List PyData → PyData → Prop := fun ds d => ∃ t ps net ls, ds = [seqD t ps, objD (encN net) (encLs ls)] ∧ PartsOk ps ∧ SizeOk net ls ∧ d = .bool (rightM ps net ls)
theorem ok_rt {f : Addr} {fd : FuncData} (F : Fun K "_law_right" "_law_right" sRt f fd) (T : TxtB mg) (TC : ClsF K C) (FP : FnB P w K mg base C "_law_parted" 1 ["_law_parts"] R_part) (FL : FnB P w K mg base C "_law_led" 1 ["_law_rows", "_law_net"] R_lled) (FU : FnB P w K mg base C "_law_up" 1 ["_law_rows"] R_up)
    (FX : FnB P w K mg base C "_law_pairs" 1 ["_law_width"] R_exc) (FO : FnB P w K mg base C "_law_orders" 1 ["_law_width"] R_ord) (FC : FnB P w K mg base C "_law_covers" 1 ["_law_less", "_law_more", "_law_orders_here"] R_lcov) :
    FnOk P w K mg base CX0 2 f fd ["_law_parts", "_law_told"] (spD K C R_rt) := by
  refine fnD F scRt (fun ds d h => by obtain ⟨t, n, m, l, rfl, _⟩ := h; rfl) fun cdv A outer s H E hr ds d h => .inl ?_
  obtain ⟨t, ps, net, ls, rfl, hp, ⟨z1, z2, z3⟩, rfl⟩ := h
  have hu := Room.units hr
  have hu65 := room65 hr
  have w5 := hp.2.2
  have pok := parted_ok hp.2.1 w5
  have el := excs_len w5
  have os1 := ords_ok ps.sum w5
  have hsh : rightM ps net ls = (((((netIn (excs ps.sum) net && asc (beh (parted ps) net)) && decide (ls.length = net.length)) && lawLens (excs ps.sum) (parted ps) 0 ls) && firstOk ls) && pairsAll (lawIsCov (parted ps) (excs ps.sum) (ords ps.sum)) ls) := rfl
  generalize hw : ps.sum = n at *
  generalize hrows : parted ps = rows at *
  -- whether all exchanges of a net are pairs
  have inTest : ∀ (m : Net) (s6 s7 s8 s9 s10 s11 s12 s13 : Sl) (e : Expr), m.length ≤ 100 → BE (cxOf CX0 P w K mg base nRt "_law_right" (defScope sRt) f cdv A outer s H E).nox C [.im (seqD t ps), .im (objD (encN net) (encLs ls)), .im (encRL rows), .im (iD n), .im (encN (excs n)), .im (encOs (ords n)), s6, s7, s8, s9, s10, s11, s12, s13, .no] e (encN m) → True := fun _ _ _ _ _ _ _ _ _ _ _ _ => trivial
  refine bss_cons (bs_asg (ts := [2, 3]) (d := .tuple [encRL rows, iD n]) (be_tup (ba_cons (be_callF FP (hr.mono (by decide)) (ba_cons (be_var 0) ba_nil) ⟨t, ps, rfl, hp, by rw [hrows]⟩) (ba_cons (be_eq (be_sumS rfl (by rfl) T.sum (be_var 0)) (by rw [hw])) ba_nil))) (bg_tup rfl (bgs_cons (bg_name 2 scRt.nd) (bgs_cons (bg_name 3 scRt.nd) bgs_nil)))) ?_
  refine bss_cons (bs_asg (ts := [4, 5]) (d := .tuple [encN (excs n), encOs (ords n)]) (be_tup (ba_cons (be_callF FX (hr.mono (by decide)) (ba_cons (be_var 3) ba_nil) ⟨n, rfl, w5, rfl⟩) (ba_cons (be_callF FO (hr.mono (by decide)) (ba_cons (be_var 3) ba_nil) ⟨n, rfl, w5, rfl⟩) ba_nil))) (bg_tup rfl (bgs_cons (bg_name 4 scRt.nd) (bgs_cons (bg_name 5 scRt.nd) bgs_nil)))) ?_
  -- the net itself
  refine bss_if (q := !netIn (excs n) net || (!asc (beh rows net) || !decide (ls.length = net.length))) (bt_bw (bw_or (bt_eq (bt_not (bt_val (be_allL (bs := net.map fun p => (excs n).any fun q => decide (q = p)) rfl (by rfl) T.all (bl_bf (bf_eq
    (bf_map net encX (fun p => .bool ((excs n).any fun q => decide (q = p))) (fun p => [.im (seqD t ps), .im (objD (encN net) (encLs ls)), .im (encRL rows), .im (iD n), .im (encN (excs n)), .im (encOs (ords n)), .im (encX p), .no, .no, .no, .no, .no, .no, .no, .no]) [6] (own := [("_law_one", 6)]) rfl scRt.nd (bim_list (be_net TC (be_var 1))).bi
      (blkOk_by (N := nRt) (sc := defScope sRt) (by decide +kernel)) (by decide) (fun p hp s H Cc cl fp => bg_name 6 scRt.nd) (fun p hp s H Cc cl fp => be_eq (be_inL (ds := (excs n).map encX) hu65 (be_var 6) (bl_im (be_var 4)) (enc_X.sh (by decide) _) (enc_N.sh (by decide) (excs n))) (by rw [any_enc enc_X])) (by omega)) (by rw [List.map_map]; rfl)))))) (by rw [all_id]; rfl)) fun hq =>
    bw_or (bt_not (bt_val (be_callF FU hr (ba_cons (be_callF FL hr (ba_cons (be_var 2) (ba_cons (be_net TC (be_var 1)) ba_nil)) ⟨n, rows, net, rfl, pok, netIn_ok (by simpa using hq), rfl⟩) ba_nil) ⟨n, _, rfl, beh_rk pok (netIn_ok (by simpa using hq)), rfl⟩))) fun _ =>
    bw_or1 (bt_eq (bt_neD hu (be_eq (be_lenL (by rfl) T.len (bl_im (be_layers TC (be_var 1)))) (by rw [List.length_map]; rfl)) (be_eq (be_lenL (by rfl) T.len (bl_im (be_net TC (be_var 1)))) (by rw [List.length_map]; rfl)) (enc_i.sh (by decide) ls.length) (enc_i.sh (by decide) net.length)) (by rw [enc_i.eq])))) (fun hq => ?_) (fun hq => ?_)
  · refine bss_one (bs_ret (be_eq be_bl ?_))
    have e : ((netIn (excs n) net && asc (beh rows net)) && decide (ls.length = net.length)) = false := by
      rw [← Bool.not_eq_true, Bool.and_eq_true, Bool.and_eq_true]
      rintro ⟨⟨a, b⟩, c⟩
      rw [a, b, c] at hq
      cases hq
    rw [hsh, e]
    simp
  have h123 : ((netIn (excs n) net && asc (beh rows net)) && decide (ls.length = net.length)) = true := by
    simp only [Bool.or_eq_false_iff, Bool.not_eq_false'] at hq
    rw [hq.1, hq.2.1, hq.2.2]
    rfl
  rw [h123] at hsh
  -- the layers' nets
  have inner : ∀ (k : Nat) (l : List Net) (s6 s9 s10 s11 s12 s13 : Sl), (∀ m ∈ l, m.length ≤ 100) →
      ((l.all fun m => decide (m.length = k) && netIn (excs n) m && !asc (beh rows m)) = true → ∃ t9 : Sl, Lp (cxOf CX0 P w K mg base nRt "_law_right" (defScope sRt) f cdv A outer s H E).nox C (forT (stAt (forB (stAt (defBody sRt) 3)) 0)) (forB (stAt (forB (stAt (defBody sRt) 3)) 0)) [.im (seqD t ps), .im (objD (encN net) (encLs ls)), .im (encRL rows), .im (iD n), .im (encN (excs n)), .im (encOs (ords n)), s6, .im (iD k), .im (encNs l), s9, s10, s11, s12, s13, .no] (l.map encN)
        (.nx [.im (seqD t ps), .im (objD (encN net) (encLs ls)), .im (encRL rows), .im (iD n), .im (encN (excs n)), .im (encOs (ords n)), s6, .im (iD k), .im (encNs l), t9, s10, s11, s12, s13, .no])) ∧
      ((l.all fun m => decide (m.length = k) && netIn (excs n) m && !asc (beh rows m)) = false → Lp (cxOf CX0 P w K mg base nRt "_law_right" (defScope sRt) f cdv A outer s H E).nox C (forT (stAt (forB (stAt (defBody sRt) 3)) 0)) (forB (stAt (forB (stAt (defBody sRt) 3)) 0)) [.im (seqD t ps), .im (objD (encN net) (encLs ls)), .im (encRL rows), .im (iD n), .im (encN (excs n)), .im (encOs (ords n)), s6, .im (iD k), .im (encNs l), s9, s10, s11, s12, s13, .no] (l.map encN) (.rt (.bool false))) := by
    intro k l s6 s9 s10 s11 s12 s13 hl
    have main := lp_all (X := (cxOf CX0 P w K mg base nRt "_law_right" (defScope sRt) f cdv A outer s H E).nox) (C := C) (tg := forT (stAt (forB (stAt (defBody sRt) 3)) 0)) (body := forB (stAt (forB (stAt (defBody sRt) 3)) 0)) (d := .bool false) encN (fun m => decide (m.length = k) && netIn (excs n) m && !asc (beh rows m))
      (fun ρ => ∃ s9 : Sl, ρ = [.im (seqD t ps), .im (objD (encN net) (encLs ls)), .im (encRL rows), .im (iD n), .im (encN (excs n)), .im (encOs (ords n)), s6, .im (iD k), .im (encNs l), s9, s10, s11, s12, s13, .no]) l _ ⟨s9, rfl⟩ ?_
    · refine ⟨fun h => ?_, main.2⟩
      obtain ⟨ρ', ⟨t9, rfl⟩, hl⟩ := main.1 h
      exact ⟨t9, hl⟩
    · rintro ρ m hm ⟨s9, rfl⟩
      refine ⟨[9], _, bg_name 9 scRt.nd, ?_⟩
      have hml := hl m hm
      have body : ∀ {o : Out}, ((!decide (m.length = k) || (!netIn (excs n) m || asc (beh rows m))) = true → o = .rt (.bool false)) → ((!decide (m.length = k) || (!netIn (excs n) m || asc (beh rows m))) = false → o = .nx [.im (seqD t ps), .im (objD (encN net) (encLs ls)), .im (encRL rows), .im (iD n), .im (encN (excs n)), .im (encOs (ords n)), s6, .im (iD k), .im (encNs l), .im (encN m), s10, s11, s12, s13, .no]) →
          BSs (cxOf CX0 P w K mg base nRt "_law_right" (defScope sRt) f cdv A outer s H E).nox C [.im (seqD t ps), .im (objD (encN net) (encLs ls)), .im (encRL rows), .im (iD n), .im (encN (excs n)), .im (encOs (ords n)), s6, .im (iD k), .im (encNs l), .im (encN m), s10, s11, s12, s13, .no] (forB (stAt (forB (stAt (defBody sRt) 3)) 0)) o := fun {o} h1 h2 =>
        bss_one (bs_if (q := !decide (m.length = k) || (!netIn (excs n) m || asc (beh rows m))) (bt_bw (bw_or (bt_eq (bt_neD hu (be_eq (be_lenL (by rfl) T.len (bl_im (be_var 9))) (by rw [List.length_map]; rfl)) (be_var 7) (enc_i.sh (by decide) m.length) (enc_i.sh (by decide) k)) (by rw [enc_i.eq])) fun _ =>
          bw_or (bt_eq (bt_not (bt_val (be_allL (bs := m.map fun p => (excs n).any fun q => decide (q = p)) rfl (by rfl) T.all (bl_bf (bf_eq
            (bf_map m encX (fun p => .bool ((excs n).any fun q => decide (q = p))) (fun p => [.im (seqD t ps), .im (objD (encN net) (encLs ls)), .im (encRL rows), .im (iD n), .im (encN (excs n)), .im (encOs (ords n)), .im (encX p), .im (iD k), .im (encNs l), .im (encN m), s10, s11, s12, s13, .no]) [6] (own := [("_law_one", 6)]) rfl scRt.nd (bim_list (be_var 9)).bi
              (blkOk_by (N := nRt) (sc := defScope sRt) (by decide +kernel)) (by decide) (fun p hp s H Cc cl fp => bg_name 6 scRt.nd) (fun p hp s H Cc cl fp => be_eq (be_inL (ds := (excs n).map encX) hu65 (be_var 6) (bl_im (be_var 4)) (enc_X.sh (by decide) _) (enc_N.sh (by decide) (excs n))) (by rw [any_enc enc_X])) (by omega)) (by rw [List.map_map]; rfl)))))) (by rw [all_id]; rfl)) fun hq =>
          bw_or1 (bt_val (be_callF FU hr (ba_cons (be_callF FL hr (ba_cons (be_var 2) (ba_cons (be_var 9) ba_nil)) ⟨n, rows, m, rfl, pok, netIn_ok (by simpa using hq), rfl⟩) ba_nil) ⟨n, _, rfl, beh_rk pok (netIn_ok (by simpa using hq)), rfl⟩))))
          (fun hq => by rw [h1 hq]; exact bss_one (bs_ret be_bl)) (fun hq => by rw [h2 hq]; exact bss_nil))
      have key : (!decide (m.length = k) || (!netIn (excs n) m || asc (beh rows m))) = !(decide (m.length = k) && netIn (excs n) m && !asc (beh rows m)) := by
        cases decide (m.length = k) <;> cases netIn (excs n) m <;> cases asc (beh rows m) <;> rfl
      rw [key] at body
      refine ⟨fun hq => ⟨_, ⟨.im (encN m), rfl⟩, body (fun h => ?_) fun _ => rfl⟩, fun hq => body (fun _ => rfl) fun h => ?_⟩
      · rw [hq] at h; cases h
      · rw [hq] at h; cases h
  have lens : ∀ (y : List (List Net)) (k : Nat) (s6 s7 s8 s9 s10 s11 s12 s13 : Sl), (∀ l ∈ y, l.length ≤ 100 ∧ ∀ m ∈ l, m.length ≤ 100) →
      (lawLens (excs n) rows k y = true → ∃ t7 t8 t9 : Sl, Lp (cxOf CX0 P w K mg base nRt "_law_right" (defScope sRt) f cdv A outer s H E).nox C (forT (stAt (defBody sRt) 3)) (forB (stAt (defBody sRt) 3)) [.im (seqD t ps), .im (objD (encN net) (encLs ls)), .im (encRL rows), .im (iD n), .im (encN (excs n)), .im (encOs (ords n)), s6, s7, s8, s9, s10, s11, s12, s13, .no] (enF k y)
        (.nx [.im (seqD t ps), .im (objD (encN net) (encLs ls)), .im (encRL rows), .im (iD n), .im (encN (excs n)), .im (encOs (ords n)), s6, t7, t8, t9, s10, s11, s12, s13, .no])) ∧
      (lawLens (excs n) rows k y = false → Lp (cxOf CX0 P w K mg base nRt "_law_right" (defScope sRt) f cdv A outer s H E).nox C (forT (stAt (defBody sRt) 3)) (forB (stAt (defBody sRt) 3)) [.im (seqD t ps), .im (objD (encN net) (encLs ls)), .im (encRL rows), .im (iD n), .im (encN (excs n)), .im (encOs (ords n)), s6, s7, s8, s9, s10, s11, s12, s13, .no] (enF k y) (.rt (.bool false))) := by
    intro y
    induction y with
    | nil => intro k s6 s7 s8 s9 s10 s11 s12 s13 _; exact ⟨fun _ => ⟨s7, s8, s9, .nil⟩, fun h => nomatch h⟩
    | cons l y ih =>
      intro k s6 s7 s8 s9 s10 s11 s12 s13 hz
      obtain ⟨j1, j2⟩ := inner k l s6 s9 s10 s11 s12 s13 (hz l List.mem_cons_self).2
      unfold lawLens
      cases hc : (l.all fun m => decide (m.length = k) && netIn (excs n) m && !asc (beh rows m)) with
      | true =>
        obtain ⟨t9, hin⟩ := j1 hc
        obtain ⟨i1, i2⟩ := ih (k + 1) s6 (.im (iD k)) (.im (encNs l)) t9 s10 s11 s12 s13 fun q hq => hz q (List.mem_cons_of_mem _ hq)
        rw [Bool.true_and]
        refine ⟨fun h => ?_, fun h => .step [7, 8] (bg_tup rfl (bgs_cons (bg_name 7 scRt.nd) (bgs_cons (bg_name 8 scRt.nd) bgs_nil))) (bss_one (bs_for PassesOwn.never rfl (bim_list (be_var 8)) hin)) (i2 h)⟩
        obtain ⟨u7, u8, u9, hl⟩ := i1 h
        exact ⟨u7, u8, u9, .step [7, 8] (bg_tup rfl (bgs_cons (bg_name 7 scRt.nd) (bgs_cons (bg_name 8 scRt.nd) bgs_nil))) (bss_one (bs_for PassesOwn.never rfl (bim_list (be_var 8)) hin)) hl⟩
      | false =>
        rw [Bool.false_and]
        exact ⟨(fun h => nomatch h), fun _ => .ret [7, 8] (bg_tup rfl (bgs_cons (bg_name 7 scRt.nd) (bgs_cons (bg_name 8 scRt.nd) bgs_nil))) (bss_one (bs_for PassesOwn.never rfl (bim_list (be_var 8)) (j2 hc)))⟩
  obtain ⟨k1, k2⟩ := lens ls 0 .no .no .no .no .no .no .no .no z3
  have src : BIm (cxOf CX0 P w K mg base nRt "_law_right" (defScope sRt) f cdv A outer s H E).nox C [.im (seqD t ps), .im (objD (encN net) (encLs ls)), .im (encRL rows), .im (iD n), .im (encN (excs n)), .im (encOs (ords n)), .no, .no, .no, .no, .no, .no, .no, .no, .no] (forT (stAt (defBody sRt) 3)) (forI (stAt (defBody sRt) 3)) (enF 0 ls) :=
    bim_eq (bim_enum (by rfl) T.enumerate (be_layers TC (be_var 1))) (enumD_enF ls)
  cases h4 : lawLens (excs n) rows 0 ls with
  | false =>
    rw [h4] at hsh
    rw [show rightM ps net ls = false by rw [hsh]; simp]
    exact bss_rt (bs_for PassesOwn.never rfl src (k2 h4))
  | true =>
    rw [h4] at hsh
    obtain ⟨t7, t8, t9, hl⟩ := k1 h4
    have nets := lawLens_mem h4
    refine bss_cons (bs_for PassesOwn.never rfl src hl) ?_
    -- the first layer
    refine bss_if (q := !firstOk ls) ?_ (fun hq => ?_) (fun hq => ?_)
    · cases ls with
      | nil => exact bt_eq (bt_bw (bw_and (c := false) (f := false) (bt_eq (bt_neD hu (be_layers TC (be_var 1)) (be_lst ba_nil) (enc_Ls.sh (by decide) []) (enc_Ls.sh (by decide) [])) (by rw [show PyData.list [] = encLs [] from rfl, enc_Ls.eq]; rfl)) fun h => nomatch h)) rfl
      | cons l lt =>
        refine bt_eq (bt_bw (bw_and (c := true) (f := !decide (l = [[]])) (bt_eq (bt_neD hu (be_layers TC (be_var 1)) (be_lst ba_nil) (enc_Ls.sh (by decide) (l :: lt)) (enc_Ls.sh (by decide) [])) (by rw [show PyData.list [] = encLs [] from rfl, enc_Ls.eq]; rfl)) fun _ =>
          bw_and1 (bt_eq (bt_neD hu (be_bf (bf_map l encN encN (fun m => [.im (seqD t ps), .im (objD (encN net) (encLs (l :: lt))), .im (encRL rows), .im (iD n), .im (encN (excs n)), .im (encOs (ords n)), .no, t7, t8, .im (encN m), .no, .no, .no, .no, .no]) [9] (own := [("_law_net", 9)]) rfl scRt.nd (bim_list (be_ixL (k := 0) (d := encNs l) (bl_im (be_layers TC (be_var 1))) be_int rfl rfl)).bi
            (blkOk_by (N := nRt) (sc := defScope sRt) (by decide +kernel)) (by decide) (fun m hm s H Cc cl fp => bg_name 9 scRt.nd) (fun m hm s H Cc cl fp => be_listL (by rfl) T.list (bl_im (be_var 9))) (by have := (z3 l List.mem_cons_self).1; omega))) (be_lst (ba_cons (be_lst ba_nil) ba_nil)) (enc_Ns.sh (by decide) l) (enc_Ns.sh (by decide) [[]])) (by rw [show PyData.list [PyData.list []] = encNs [[]] from rfl, show PyData.list (l.map encN) = encNs l from rfl, enc_Ns.eq])))) (by rw [Bool.true_and]; rfl)
    · refine bss_one (bs_ret (be_eq be_bl ?_))
      have e : firstOk ls = false := by simpa using hq
      rw [hsh, e]
      simp
    have h5 : firstOk ls = true := by simpa using hq
    rw [h5] at hsh
    -- the layers cover
    have cover : ∀ (a b : PyData) (one : List Row) (aft : List Net) (s7 s8 s9 s12 s13 : Sl), RowsOk n one → (∀ m ∈ aft, NetOk n m) → aft.length ≤ 100 → ∀ xs : Net, NetOk n xs →
        ((xs.all fun x => decide (beh one [x] = one) || (aft.map (beh rows)).any fun less => lcov less (beh one [x]) (ords n)) = true → ∃ t12 t13 : Sl, Lp (cxOf CX0 P w K mg base nRt "_law_right" (defScope sRt) f cdv A outer s H E).nox C (forT (stAt (forB (stAt (forB (stAt (defBody sRt) 5)) 1)) 1)) (forB (stAt (forB (stAt (forB (stAt (defBody sRt) 5)) 1)) 1)) [.im (seqD t ps), .im (objD (encN net) (encLs ls)), .im (encRL rows), .im (iD n), .im (encN (excs n)), .im (encOs (ords n)), .im (encRL one), s7, s8, s9, .im a, .im (.list ((aft.map (beh rows)).map encRL)), s12, s13, .no] (xs.map encX)
          (.nx [.im (seqD t ps), .im (objD (encN net) (encLs ls)), .im (encRL rows), .im (iD n), .im (encN (excs n)), .im (encOs (ords n)), .im (encRL one), s7, s8, s9, .im a, .im (.list ((aft.map (beh rows)).map encRL)), t12, t13, .no])) ∧
        ((xs.all fun x => decide (beh one [x] = one) || (aft.map (beh rows)).any fun less => lcov less (beh one [x]) (ords n)) = false → Lp (cxOf CX0 P w K mg base nRt "_law_right" (defScope sRt) f cdv A outer s H E).nox C (forT (stAt (forB (stAt (forB (stAt (defBody sRt) 5)) 1)) 1)) (forB (stAt (forB (stAt (forB (stAt (defBody sRt) 5)) 1)) 1)) [.im (seqD t ps), .im (objD (encN net) (encLs ls)), .im (encRL rows), .im (iD n), .im (encN (excs n)), .im (encOs (ords n)), .im (encRL one), s7, s8, s9, .im a, .im (.list ((aft.map (beh rows)).map encRL)), s12, s13, .no] (xs.map encX) (.rt (.bool false))) := by
      intro a b one aft s7 s8 s9 s12 s13 ho ha hal xs hxs
      have main := lp_all (X := (cxOf CX0 P w K mg base nRt "_law_right" (defScope sRt) f cdv A outer s H E).nox) (C := C) (tg := forT (stAt (forB (stAt (forB (stAt (defBody sRt) 5)) 1)) 1)) (body := forB (stAt (forB (stAt (forB (stAt (defBody sRt) 5)) 1)) 1)) (d := .bool false) encX (fun x => decide (beh one [x] = one) || (aft.map (beh rows)).any fun less => lcov less (beh one [x]) (ords n))
        (fun ρ => ∃ s12 s13 : Sl, ρ = [.im (seqD t ps), .im (objD (encN net) (encLs ls)), .im (encRL rows), .im (iD n), .im (encN (excs n)), .im (encOs (ords n)), .im (encRL one), s7, s8, s9, .im a, .im (.list ((aft.map (beh rows)).map encRL)), s12, s13, .no]) xs _ ⟨s12, s13, rfl⟩ ?_
      · refine ⟨fun h => ?_, main.2⟩
        obtain ⟨ρ', ⟨t12, t13, rfl⟩, hl⟩ := main.1 h
        exact ⟨t12, t13, hl⟩
      · rintro ρ x hx ⟨s12, s13, rfl⟩
        refine ⟨[12], _, bg_name 12 scRt.nd, ?_⟩
        have hnx : NetOk n [x] := fun q hq => by rw [List.mem_singleton.mp hq]; exact hxs x hx
        have hlk := beh_rk ho hnx
        have asl : ∀ q ∈ aft.map (beh rows), RowsOk n q := fun q hq => by
          obtain ⟨m, hm, rfl⟩ := List.mem_map.mp hq
          exact beh_rk pok (ha m hm)
        have body : ∀ {o : Out}, ((!decide (beh one [x] = one) && !((aft.map (beh rows)).any fun less => lcov less (beh one [x]) (ords n))) = true → o = .rt (.bool false)) → ((!decide (beh one [x] = one) && !((aft.map (beh rows)).any fun less => lcov less (beh one [x]) (ords n))) = false → o = .nx [.im (seqD t ps), .im (objD (encN net) (encLs ls)), .im (encRL rows), .im (iD n), .im (encN (excs n)), .im (encOs (ords n)), .im (encRL one), s7, s8, s9, .im a, .im (.list ((aft.map (beh rows)).map encRL)), .im (encX x), .im (encRL (beh one [x])), .no]) →
            BSs (cxOf CX0 P w K mg base nRt "_law_right" (defScope sRt) f cdv A outer s H E).nox C [.im (seqD t ps), .im (objD (encN net) (encLs ls)), .im (encRL rows), .im (iD n), .im (encN (excs n)), .im (encOs (ords n)), .im (encRL one), s7, s8, s9, .im a, .im (.list ((aft.map (beh rows)).map encRL)), .im (encX x), s13, .no] (forB (stAt (forB (stAt (forB (stAt (defBody sRt) 5)) 1)) 1)) o := fun {o} h1 h2 =>
          bss_cons (bs_set 13 scRt.nd (d := encRL (beh one [x])) (be_callF FL hr (ba_cons (be_var 6) (ba_cons (be_lst (ba_cons (be_var 12) ba_nil)) ba_nil)) ⟨n, one, [x], rfl, ho, hnx, rfl⟩))
            (bss_one (bs_if (q := !decide (beh one [x] = one) && !((aft.map (beh rows)).any fun less => lcov less (beh one [x]) (ords n))) (bt_bw (bw_and (bt_eq (bt_neD hu (be_var 13) (be_var 6) (enc_RL.sh (by decide) _) (enc_RL.sh (by decide) _)) (by rw [enc_RL.eq])) fun _ => bw_and1 (bt_not (bt_val (be_eq (be_anyL (bs := (aft.map (beh rows)).map fun less => lcov less (beh one [x]) (ords n)) rfl (by rfl) T.any (bl_bf (bf_eq
              (bf_map (aft.map (beh rows)) encRL (fun less => .bool (lcov less (beh one [x]) (ords n))) (fun less => [.im (seqD t ps), .im (objD (encN net) (encLs ls)), .im (encRL rows), .im (iD n), .im (encN (excs n)), .im (encOs (ords n)), .im (encRL one), s7, s8, s9, .im a, .im (.list ((aft.map (beh rows)).map encRL)), .im (encX x), .im (encRL (beh one [x])), .im (encRL less)]) [14] (own := [("_law_less", 14)]) rfl scRt.nd (bim_list (be_var 11)).bi
                (blkOk_by (N := nRt) (sc := defScope sRt) (by decide +kernel)) (by decide) (fun p hp s H Cc cl fp => bg_name 14 scRt.nd)
                (fun p hp s H Cc cl fp => be_callF FC hr (ba_cons (be_var 14) (ba_cons (be_var 13) (ba_cons (be_var 5) ba_nil))) ⟨n, p, beh one [x], ords n, rfl, asl p hp, hlk, ⟨os1.2, by omega⟩, rfl⟩) (by rw [List.length_map]; omega)) (by rw [List.map_map (f := fun less => lcov less (beh one [x]) (ords n))]; rfl)))) (by rw [any_id]))))))
              (fun hq => by rw [h1 hq]; exact bss_one (bs_ret be_bl)) (fun hq => by rw [h2 hq]; exact bss_nil)))
        have key : (!decide (beh one [x] = one) && !((aft.map (beh rows)).any fun less => lcov less (beh one [x]) (ords n))) = !(decide (beh one [x] = one) || (aft.map (beh rows)).any fun less => lcov less (beh one [x]) (ords n)) := by
          rw [Bool.not_or]
        rw [key] at body
        refine ⟨fun hq => ⟨_, ⟨.im (encX x), .im (encRL (beh one [x])), rfl⟩, body (fun h => ?_) fun _ => rfl⟩, fun hq => body (fun _ => rfl) fun h => ?_⟩
        · rw [hq] at h; cases h
        · rw [hq] at h; cases h
    have netsL : ∀ (a b : List Net) (s6 s7 s9 s12 s13 : Sl), (∀ m ∈ a, NetOk n m) → (∀ m ∈ b, NetOk n m) → b.length ≤ 100 →
        (lawIsCov rows (excs n) (ords n) a b = true → ∃ t6 t9 t12 t13 : Sl, Lp (cxOf CX0 P w K mg base nRt "_law_right" (defScope sRt) f cdv A outer s H E).nox C (forT (stAt (forB (stAt (defBody sRt) 5)) 1)) (forB (stAt (forB (stAt (defBody sRt) 5)) 1)) [.im (seqD t ps), .im (objD (encN net) (encLs ls)), .im (encRL rows), .im (iD n), .im (encN (excs n)), .im (encOs (ords n)), s6, s7, .im (encNs a), s9, .im (encNs b), .im (.list ((b.map (beh rows)).map encRL)), s12, s13, .no] (a.map encN) (.nx [.im (seqD t ps), .im (objD (encN net) (encLs ls)), .im (encRL rows), .im (iD n), .im (encN (excs n)), .im (encOs (ords n)), t6, s7, .im (encNs a), t9, .im (encNs b), .im (.list ((b.map (beh rows)).map encRL)), t12, t13, .no])) ∧
        (lawIsCov rows (excs n) (ords n) a b = false → Lp (cxOf CX0 P w K mg base nRt "_law_right" (defScope sRt) f cdv A outer s H E).nox C (forT (stAt (forB (stAt (defBody sRt) 5)) 1)) (forB (stAt (forB (stAt (defBody sRt) 5)) 1)) [.im (seqD t ps), .im (objD (encN net) (encLs ls)), .im (encRL rows), .im (iD n), .im (encN (excs n)), .im (encOs (ords n)), s6, s7, .im (encNs a), s9, .im (encNs b), .im (.list ((b.map (beh rows)).map encRL)), s12, s13, .no] (a.map encN) (.rt (.bool false))) := by
      intro a b s6 s7 s9 s12 s13 ha hb hbl
      have main := lp_all (X := (cxOf CX0 P w K mg base nRt "_law_right" (defScope sRt) f cdv A outer s H E).nox) (C := C) (tg := forT (stAt (forB (stAt (defBody sRt) 5)) 1)) (body := forB (stAt (forB (stAt (defBody sRt) 5)) 1)) (d := .bool false) encN (fun m => (excs n).all fun x => decide (beh (beh rows m) [x] = beh rows m) || (b.map (beh rows)).any fun less => lcov less (beh (beh rows m) [x]) (ords n))
        (fun ρ => ∃ s6 s9 s12 s13 : Sl, ρ = [.im (seqD t ps), .im (objD (encN net) (encLs ls)), .im (encRL rows), .im (iD n), .im (encN (excs n)), .im (encOs (ords n)), s6, s7, .im (encNs a), s9, .im (encNs b), .im (.list ((b.map (beh rows)).map encRL)), s12, s13, .no]) a _ ⟨s6, s9, s12, s13, rfl⟩ ?_
      · refine ⟨fun h => ?_, main.2⟩
        obtain ⟨ρ', ⟨t6, t9, t12, t13, rfl⟩, hl⟩ := main.1 h
        exact ⟨t6, t9, t12, t13, hl⟩
      · rintro ρ m hm ⟨s6, s9, s12, s13, rfl⟩
        refine ⟨[9], _, bg_name 9 scRt.nd, ?_⟩
        have first : ∀ {o : Out}, BSs (cxOf CX0 P w K mg base nRt "_law_right" (defScope sRt) f cdv A outer s H E).nox C [.im (seqD t ps), .im (objD (encN net) (encLs ls)), .im (encRL rows), .im (iD n), .im (encN (excs n)), .im (encOs (ords n)), .im (encRL (beh rows m)), s7, .im (encNs a), .im (encN m), .im (encNs b), .im (.list ((b.map (beh rows)).map encRL)), s12, s13, .no] ((forB (stAt (forB (stAt (defBody sRt) 5)) 1)).drop 1) o → BSs (cxOf CX0 P w K mg base nRt "_law_right" (defScope sRt) f cdv A outer s H E).nox C [.im (seqD t ps), .im (objD (encN net) (encLs ls)), .im (encRL rows), .im (iD n), .im (encN (excs n)), .im (encOs (ords n)), s6, s7, .im (encNs a), .im (encN m), .im (encNs b), .im (.list ((b.map (beh rows)).map encRL)), s12, s13, .no] (forB (stAt (forB (stAt (defBody sRt) 5)) 1)) o := fun h =>
          bss_cons (bs_set 6 scRt.nd (d := encRL (beh rows m)) (be_callF FL hr (ba_cons (be_var 2) (ba_cons (be_var 9) ba_nil)) ⟨n, rows, m, rfl, pok, ha m hm, rfl⟩)) h
        obtain ⟨c1, c2⟩ := cover (encNs b) (encNs b) (beh rows m) b s7 (.im (encNs a)) (.im (encN m)) s12 s13 (beh_rk pok (ha m hm)) hb hbl (excs n) excs_lt
        refine ⟨fun hq => ?_, fun hq => first (bss_one (bs_for PassesOwn.never rfl (bim_list (be_var 4)) (c2 hq)))⟩
        obtain ⟨t12, t13, hl⟩ := c1 hq
        exact ⟨_, ⟨_, _, _, _, rfl⟩, first (bss_one (bs_for PassesOwn.never rfl (bim_list (be_var 4)) hl))⟩
    have zl : ∀ p ∈ ls.zip (ls.drop 1), p.1 ∈ ls ∧ p.2 ∈ ls := fun p hp => ⟨(List.of_mem_zip hp).1, List.mem_of_mem_drop (List.of_mem_zip hp).2⟩
    have main := lp_all (X := (cxOf CX0 P w K mg base nRt "_law_right" (defScope sRt) f cdv A outer s H E).nox) (C := C) (tg := forT (stAt (defBody sRt) 5)) (body := forB (stAt (defBody sRt) 5)) (d := .bool false) (fun p : List Net × List Net => .tuple [encNs p.1, encNs p.2]) (fun p => lawIsCov rows (excs n) (ords n) p.1 p.2)
      (fun ρ => ∃ s6 s7 s8 s9 s10 s11 s12 s13 : Sl, ρ = [.im (seqD t ps), .im (objD (encN net) (encLs ls)), .im (encRL rows), .im (iD n), .im (encN (excs n)), .im (encOs (ords n)), s6, s7, s8, s9, s10, s11, s12, s13, .no]) (ls.zip (ls.drop 1)) [.im (seqD t ps), .im (objD (encN net) (encLs ls)), .im (encRL rows), .im (iD n), .im (encN (excs n)), .im (encOs (ords n)), .no, t7, t8, t9, .no, .no, .no, .no, .no] ⟨_, _, _, _, _, _, _, _, rfl⟩ ?_
    · have src2 : BIm (cxOf CX0 P w K mg base nRt "_law_right" (defScope sRt) f cdv A outer s H E).nox C [.im (seqD t ps), .im (objD (encN net) (encLs ls)), .im (encRL rows), .im (iD n), .im (encN (excs n)), .im (encOs (ords n)), .no, t7, t8, t9, .no, .no, .no, .no, .no] (forT (stAt (defBody sRt) 5)) (forI (stAt (defBody sRt) 5)) ((ls.zip (ls.drop 1)).map fun p : List Net × List Net => PyData.tuple [encNs p.1, encNs p.2]) :=
        bim_eq (bim_zip (by rfl) T.zip (be_layers TC (be_var 1)) (be_slL (l := some ((1 : Nat) : Int)) (u := none) (bl_im (be_layers TC (be_var 1))) be_int trivial)) (by rw [cut_drop, ← List.map_drop, zipD_map2])
      rw [pairs_zip (lawIsCov rows (excs n) (ords n))] at main
      cases h6 : pairsAll (lawIsCov rows (excs n) (ords n)) ls with
      | false =>
        rw [h6] at hsh
        rw [show rightM ps net ls = false by rw [hsh]; rfl]
        exact bss_rt (bs_for PassesOwn.never rfl src2 (main.2 h6))
      | true =>
        rw [h6] at hsh
        obtain ⟨ρ', ⟨_, _, _, _, _, _, _, _, rfl⟩, hl⟩ := main.1 h6
        refine bss_cons (bs_for PassesOwn.never rfl src2 hl) ?_
        exact bss_one (bs_ret (be_eq be_bl (by rw [hsh]; rfl)))
    · rintro ρ ⟨a, b⟩ hp ⟨s6, s7, s8, s9, s10, s11, s12, s13, rfl⟩
      obtain ⟨ma, mb⟩ := zl _ hp
      have ha := nets a ma
      have hb := nets b mb
      have hbl : b.length ≤ 100 := (z3 b mb).1
      refine ⟨[8, 10], _, bg_tup rfl (bgs_cons (bg_name 8 scRt.nd) (bgs_cons (bg_name 10 scRt.nd) bgs_nil)), ?_⟩
      have e11 : b.map (fun m => encRL (beh rows m)) = (b.map (beh rows)).map encRL := by rw [List.map_map]; rfl
      have first : ∀ {o : Out}, BSs (cxOf CX0 P w K mg base nRt "_law_right" (defScope sRt) f cdv A outer s H E).nox C [.im (seqD t ps), .im (objD (encN net) (encLs ls)), .im (encRL rows), .im (iD n), .im (encN (excs n)), .im (encOs (ords n)), s6, s7, .im (encNs a), s9, .im (encNs b), .im (.list ((b.map (beh rows)).map encRL)), s12, s13, .no] ((forB (stAt (defBody sRt) 5)).drop 1) o → BSs (cxOf CX0 P w K mg base nRt "_law_right" (defScope sRt) f cdv A outer s H E).nox C [.im (seqD t ps), .im (objD (encN net) (encLs ls)), .im (encRL rows), .im (iD n), .im (encN (excs n)), .im (encOs (ords n)), s6, s7, .im (encNs a), s9, .im (encNs b), s11, s12, s13, .no] (forB (stAt (defBody sRt) 5)) o := fun h =>
        by
        rw [← e11] at h
        exact bss_cons (bs_setMap 11 b encN (fun m => encRL (beh rows m)) (fun m => [.im (seqD t ps), .im (objD (encN net) (encLs ls)), .im (encRL rows), .im (iD n), .im (encN (excs n)), .im (encOs (ords n)), s6, s7, .im (encNs a), .im (encN m), .im (encNs b), s11, s12, s13, .no]) [9] (own := [("_law_net", 9)]) rfl scRt.nd rfl rfl rfl (bim_list (be_var 10)).bi
          (blkOk_by (N := nRt) (sc := defScope sRt) (by decide +kernel)) (by decide) (fun m hm s H Cc cl fp => bg_name 9 scRt.nd) (fun m hm s H Cc cl fp => be_callF FL hr (ba_cons (be_var 2) (ba_cons (be_var 9) ba_nil)) ⟨n, rows, m, rfl, pok, hb m hm, rfl⟩) (by omega)) h
      obtain ⟨c1, c2⟩ := netsL a b s6 s7 s9 s12 s13 ha hb hbl
      refine ⟨fun hq => ?_, fun hq => first (bss_one (bs_for PassesOwn.never rfl (bim_list (be_var 8)) (c2 hq)))⟩
      obtain ⟨t6, t9, t12, t13, hl⟩ := c1 hq
      exact ⟨_, ⟨_, _, _, _, _, _, _, _, rfl⟩, first (bss_one (bs_for PassesOwn.never rfl (bim_list (be_var 8)) hl))⟩
end
end G6

set_option Elab.async false
set_option linter.all false
set_option maxRecDepth 100000
set_option maxHeartbeats 400000
namespace G6
open PySem PySem.Spec PyProof.Rows L2
section
variable {X : Cx} {C : Addr} {ρ : REnv} {e a b tg : Expr} {d : PyData} {ds dt : List PyData} {pos : Pos}
theorem be_fdiv {i j : Int} (ha : BE X C ρ a (.int i)) (hb : BE X C ρ b (.int j)) (h : CDiv i j) : BE X C ρ (.BinOp a .FloorDiv b pos) (.int (i / j)) := be_op op_fdiv ha hb (r2_intC (g := fun i j => i / j) i j h)
theorem be_fdivW {i j : Int} (ha : BE X C ρ a (.int i)) (hb : BE X C ρ b (.int j)) (h : CDivW i j) : BE X C ρ (.BinOp a .FloorDiv b pos) (.int (i / j)) := be_op op_fdivW ha hb (r2_intC (g := fun i j => i / j) i j h)
theorem be_pow {i j : Int} (ha : BE X C ρ a (.int i)) (hb : BE X C ρ b (.int j)) (h : CPow i j) : BE X C ρ (.BinOp a .Pow b pos) (.int (i ^ j.toNat)) := be_op op_pow ha hb (r2_intC (g := fun i j => i ^ j.toNat) i j h)
theorem be_int1 {pn : Pos} {i : Int} (hg : Gl X "int") (hm : X.mg "int" = none) (h : BE X C ρ e (.int i)) (he : NS X e := by rfl) : BE X C ρ (.Call (.Name "int" pn) [e] [] pos) (.int i) :=
  be_callTy call_int1 hg hm boot_int (ba_cons h ba_nil he) (fun M H xs Q o q k => by
    obtain ⟨v, rfl, qv⟩ := q.one
    cases qv.int_inv
    exact .inl ⟨i, rfl, k _ H (Same.refl H) (.int _)⟩) (he := he)
/-- displays of constants -/
def litIs : List Expr → Option (List Int)
  | [] => some []
  | .Constant (.int i) _ _ :: es => (litIs es).map (i :: ·)
  | _ => none
theorem ba_ints : ∀ {es : List Expr} {ns : List Int}, litIs es = some ns → BA X C ρ es (ns.map PyData.int)
  | [], ns, h => by cases h; exact ba_nil
  | e :: es, ns, h => by
    unfold litIs at h
    split at h
    · rename_i h2; cases h2
    · rename_i i _ _ es' h2
      cases h2
      obtain ⟨ms, e1, rfl⟩ := Option.map_eq_some_iff.mp h
      exact ba_cons be_int (ba_ints e1)
    · cases h
def litLs : List Expr → Option (List (List Int))
  | [] => some []
  | .List xs _ :: es => match litIs xs, litLs es with
    | some a, some b => if a.length ≤ 1000 then some (a :: b) else none
    | _, _ => none
  | _ => none
theorem ba_intss : ∀ {es : List Expr} {nss : List (List Int)}, litLs es = some nss → BA X C ρ es (nss.map fun ns => .list (ns.map PyData.int))
  | [], ns, h => by cases h; exact ba_nil
  | e :: es, ns, h => by
    unfold litLs at h
    split at h
    · rename_i h2; cases h2
    · rename_i xs p es' h2
      cases h2
      split at h
      · rename_i a b h3 h4
        split at h
        · rename_i h5
          cases h
          exact ba_cons (be_lst (ba_ints h3) (by rw [List.length_map]; omega)) (ba_intss h4)
        · cases h
      · cases h
    · cases h
/-- a display of constants, under any name: a goal that holds the display itself is dear (each application is asked for its binders, which runs it) -/
def litT : Expr → Option (List Int)
  | .Tuple es _ _ => match litIs es with
    | some a => if a.length ≤ 1000 then some a else none
    | none => none
  | _ => none
def litL : Expr → Option (List (List Int))
  | .List es _ => match litLs es with
    | some a => if a.length ≤ 1000 then some a else none
    | none => none
  | _ => none
theorem be_litT {ns : List Int} (h : litT e = some ns) : BE X C ρ e (.tuple (ns.map PyData.int)) := by
  unfold litT at h
  split at h
  · split at h
    · rename_i h3
      split at h
      · cases h
        exact be_tup (ba_ints h3) (by rw [List.length_map]; omega)
      · cases h
    · cases h
  · cases h
theorem be_litL {nss : List (List Int)} (h : litL e = some nss) : BE X C ρ e (.list (nss.map fun ns => .list (ns.map PyData.int))) := by
  unfold litL at h
  split at h
  · split at h
    · rename_i h3
      split at h
      · cases h
        exact be_lst (ba_intss h3) (by rw [List.length_map]; omega)
      · cases h
    · cases h
  · cases h
end
def primesL : List Int := [1000003, 1000033, 1000037, 1000039, 1000081, 1000099, 1000117, 1000121, 1000133, 1000151, 1000159, 1000171, 1000183, 1000187, 1000193, 1000199]
theorem prime_at (i : Nat) (h : i < 16) : ∃ p : Int, primesL[i]? = some p ∧ 0 < p ∧ primesL.getD i 1 = p := by
  have hl : primesL.length = 16 := rfl
  have e : primesL[i]? = some primesL[i] := List.getElem?_eq_getElem (by omega)
  refine ⟨primesL[i], e, ?_, by rw [List.getD_eq_getElem?_getD, e]; rfl⟩
  have : ∀ p ∈ primesL, (0 : Int) < p := by decide +kernel
  exact this _ (List.getElem_mem _)
def drawM (c k b : Int) : Int := (c * 48271 + k * 69621) % (primesL.getD (k % 16).toNat 1) % b
def numM (c k b : Int) : Int :=
  if 0 < (c - 10 ^ 18) / 1009 ^ (k % 24).toNat then (c - 10 ^ 18) / 1009 ^ (k % 24).toNat % 1009 % b
  else drawM ((c % 1000003 + 977 * k) * (c % 1000003 + 31 * k + 5)) (k % 9 + 1) 999983 % b
theorem numM_lt (c k b : Int) (h : 0 < b) : 0 ≤ numM c k b ∧ numM c k b < b := by
  unfold numM
  split
  · exact ⟨Int.emod_nonneg _ (by omega), Int.emod_lt_of_pos _ h⟩
  · exact ⟨Int.emod_nonneg _ (by omega), Int.emod_lt_of_pos _ h⟩
def encI (ns : List Int) : PyData := .list (ns.map PyData.int)
section
variable {P : Program} {w : World} {K : PySem.W.Frag} {mg : Str → Option Value} {base : Heap} {C : Addr}
/-! ### _law_cell_at -/
abbrev sCell : Stmt := topS 22
abbrev nCell : List Str := ["_law_script", "_law_k"]
theorem scCell : FnScope nCell ["_law_script", "_law_k"] (defScope sCell) := ⟨rfl, rfl, rfl, by decide +kernel, rfl, by decide +kernel, by decide +kernel⟩
def R_cell : List PyData → PyData → Prop := fun ds d => ∃ ns k, ds = [encI ns, .int k] ∧ 0 ≤ k ∧ d = .int (ns.getD k.toNat 0)
theorem ok_cell {f : Addr} {fd : FuncData} (F : Fun K "_law_cell_at" "_law_cell_at" sCell f fd) (T : TxtB mg) : FnOk P w K mg base CX0 1 f fd ["_law_script", "_law_k"] (spD K C R_cell) := by
  refine fnD F scCell (fun ds d h => by obtain ⟨t, n, rfl, _⟩ := h; rfl) fun cdv A outer s H E hr ds d h => .inl ?_
  obtain ⟨ns, k, rfl, hk, rfl⟩ := h
  refine bss_if (bt_lt (be_var 1) (be_lenL (by rfl) T.len (bl_im (be_var 0)))) (fun hq => ?_) (fun hq => ?_)
  · have hq := of_decide_eq_true hq
    rw [List.length_map] at hq
    have hl : k.toNat < ns.length := by omega
    exact bss_one (bs_ret (be_ixL (k := k.toNat) (bl_im (be_var 0)) (be_var 1) (by omega) (by rw [List.getElem?_map, List.getElem?_eq_getElem hl, List.getD_eq_getElem?_getD, List.getElem?_eq_getElem hl]; rfl)))
  · have hq := of_decide_eq_false hq
    rw [List.length_map] at hq
    have hl : ns.length ≤ k.toNat := by omega
    exact bss_one (bs_ret (be_eq be_int (by rw [List.getD_eq_getElem?_getD, List.getElem?_eq_none hl]; rfl)))
/-! ### _law_draw -/
abbrev sDraw : Stmt := topS 23
abbrev nDraw : List Str := ["_law_cell", "_law_k", "_law_bound", "_law_primes"]
theorem scDraw : FnScope nDraw ["_law_cell", "_law_k", "_law_bound"] (defScope sDraw) := ⟨rfl, rfl, rfl, by decide +kernel, rfl, by decide +kernel, by decide +kernel⟩
def R_draw : List PyData → PyData → Prop := fun ds d => ∃ c k b, ds = [.int c, .int k, .int b] ∧ 0 < b ∧ d = .int (drawM c k b)
theorem ok_draw {f : Addr} {fd : FuncData} (F : Fun K "_law_draw" "_law_draw" sDraw f fd) (T : TxtB mg) : FnOk P w K mg base CX0 1 f fd ["_law_cell", "_law_k", "_law_bound"] (spD K C R_draw) := by
  refine fnD F scDraw (fun ds d h => by obtain ⟨t, n, m, rfl, _⟩ := h; rfl) fun cdv A outer s H E hr ds d h => .inl ?_
  obtain ⟨c, k, b, rfl, hb, rfl⟩ := h
  have h0 : 0 ≤ k % 16 := Int.emod_nonneg _ (by decide)
  have h1 : k % 16 < 16 := Int.emod_lt_of_pos _ (by decide)
  obtain ⟨p, e1, e2, e3⟩ := prime_at (k % 16).toNat (by omega)
  have hs : swapsWith (stE (stAt (defBody sDraw) 0)) (some (.Name "_law_primes" ⟨107, 4, 107, 15⟩)) 107 (cxOf CX0 P w K mg base nDraw "_law_draw" (defScope sDraw) f cdv A outer s H E).nox.env = pure false := rfl
  have hl : litT (stE (stAt (defBody sDraw) 0)) = some primesL := rfl
  show BSs (cxOf CX0 P w K mg base nDraw "_law_draw" (defScope sDraw) f cdv A outer s H E).nox C (startR nDraw [.int c, .int k, .int b]) [.Assign [.Name "_law_primes" ⟨107, 4, 107, 15⟩] (stE (stAt (defBody sDraw) 0)) ⟨107, 4, 107, 162⟩, stAt (defBody sDraw) 1] (.rt (.int (drawM c k b)))
  generalize stE (stAt (defBody sDraw) 0) = e0 at hs hl ⊢
  refine bss_cons (bs_set 3 scDraw.nd (be_litT hl) (hs := hs)) ?_
  refine bss_one (bs_ret (be_eq (be_mod (be_mod (be_int1 (by rfl) T.int (be_add (be_mul (be_var 0) be_int (.inr (by decide))) (be_mul (be_var 1) be_int (.inr (by decide)))))
    (be_ixT (k := (k % 16).toNat) (d := .int p) (be_var 3) (be_mod (be_int1 (by rfl) T.int (be_var 1)) be_int (by decide)) (by omega) (by rw [List.getElem?_map, e1]; rfl)) e2) (be_var 2) hb) ?_))
  unfold drawM
  rw [e3]
/-! ### _law_number -/
abbrev sNum : Stmt := topS 24
abbrev nNum : List Str := ["_law_cell", "_law_k", "_law_bound", "_law_power", "_law_lap", "_law_remains", "_law_small"]
theorem scNum : FnScope nNum ["_law_cell", "_law_k", "_law_bound"] (defScope sNum) := ⟨rfl, rfl, rfl, by decide +kernel, rfl, by decide +kernel, by decide +kernel⟩
def R_num : List PyData → PyData → Prop := fun ds d => ∃ c k b, ds = [.int c, .int k, .int b] ∧ 0 < b ∧ 0 ≤ k ∧ k ≤ 1000 ∧ d = .int (numM c k b)
theorem ok_num {f : Addr} {fd : FuncData} (F : Fun K "_law_number" "_law_number" sNum f fd) (T : TxtB mg) (FD : FnB P w K mg base C "_law_draw" 1 ["_law_cell", "_law_k", "_law_bound"] R_draw) : FnOk P w K mg base CX0 2 f fd ["_law_cell", "_law_k", "_law_bound"] (spD K C R_num) := by
  refine fnD F scNum (fun ds d h => by obtain ⟨t, n, m, rfl, _⟩ := h; rfl) fun cdv A outer s H E hr ds d h => .inl ?_
  obtain ⟨c, k, b, rfl, hb, hk0, hk1, rfl⟩ := h
  have h0 : 0 ≤ k % 24 := Int.emod_nonneg _ (by decide)
  have h1 : k % 24 < 24 := Int.emod_lt_of_pos _ (by decide)
  have hN : ∃ N : Nat, (k % 24).toNat = N ∧ k % 24 = (N : Int) ∧ N < 24 := ⟨_, rfl, by omega, by omega⟩
  obtain ⟨N, eN, eN2, hN⟩ := hN
  have loop : ∀ (m i : Nat) (s4 : Sl), ∃ t4, Lp (cxOf CX0 P w K mg base nNum "_law_number" (defScope sNum) f cdv A outer s H E).nox C (forT (stAt (defBody sNum) 1)) (forB (stAt (defBody sNum) 1)) [.im (.int c), .im (.int k), .im (.int b), .im (.int (1009 ^ i)), s4, .no, .no] ((List.range' i m).map iD)
      (.nx [.im (.int c), .im (.int k), .im (.int b), .im (.int (1009 ^ (i + m))), t4, .no, .no]) := by
    intro m
    induction m with
    | zero => intro i s4; exact ⟨s4, .nil⟩
    | succ m ih =>
      intro i s4
      obtain ⟨t4, hl⟩ := ih (i + 1) (.im (iD i))
      rw [show i + 1 + m = i + (m + 1) by omega] at hl
      exact ⟨t4, .step [4] (bg_name 4 scNum.nd) (bss_one (bs_set 3 scNum.nd (be_eq (be_mul (i := 1009 ^ i) (be_var 3) be_int (.inr (by decide))) (by rw [← Int.pow_succ])))) hl⟩
  obtain ⟨t4, hl⟩ := loop N 0 .no
  rw [← List.range_eq_range', Nat.zero_add] at hl
  have p0 : (0 : Int) < 1009 ^ N := Int.pow_pos (by decide)
  have pw : ((1009 : Int) ^ N).natAbs < 2 ^ 230 := by
    rw [Int.natAbs_pow]
    exact Nat.lt_of_le_of_lt (Nat.pow_le_pow_right (by decide) (show N ≤ 23 by omega)) (by decide +kernel)
  have s0 : 0 ≤ c % 1000003 := Int.emod_nonneg _ (by decide)
  have s1 : c % 1000003 < 1000003 := Int.emod_lt_of_pos _ (by decide)
  refine bss_cons (bs_set 3 scNum.nd (d := .int (1009 ^ 0)) be_int) (bss_cons (bs_for PassesOwn.never rfl (bim_range (n := N) (by rfl) T.range (be_mod (be_int1 (by rfl) T.int (be_var 1)) be_int (by decide)) eN2 (by omega)) hl) ?_)
  refine bss_cons (bs_set 5 scNum.nd (be_fdivW (i := c - 10 ^ 18) (j := 1009 ^ N) (be_sub (be_var 0) (be_pow be_int be_int ⟨by decide, by decide, by decide⟩)) (be_var 3) (wide_div p0 pw (by decide) (by decide)))) ?_
  unfold numM
  rw [eN]
  refine bss_if (bt_gt (be_var 5) be_int) (fun hq => ?_) (fun hq => ?_)
  · rw [if_pos (of_decide_eq_true hq)]
    exact bss_one (bs_ret (be_mod (be_mod (be_int1 (by rfl) T.int (be_var 5)) be_int (by decide)) (be_var 2) hb))
  · rw [if_neg (of_decide_eq_false hq)]
    refine bss_cons (bs_set 6 scNum.nd (be_mod (be_int1 (by rfl) T.int (be_var 0)) be_int (by decide))) ?_
    exact bss_one (bs_ret (be_mod (be_callF FD (hr.mono (by decide)) (ba_cons (be_mul (be_add (be_var 6) (be_mul be_int (be_var 1) (.inl (by decide)))) (be_add (be_add (be_var 6) (be_mul be_int (be_var 1) (.inl (by decide)))) be_int) (.inl (by constructor <;> omega)))
      (ba_cons (be_add (be_mod (be_int1 (by rfl) T.int (be_var 1)) be_int (by decide)) be_int) (ba_cons be_int ba_nil))) ⟨_, _, _, rfl, by decide, rfl⟩) (be_var 2) hb))
end
end G6

set_option Elab.async false
set_option linter.all false
set_option maxRecDepth 100000
set_option maxHeartbeats 1000000
namespace G6
open PySem PySem.Spec PyProof.Rows L2
/-! ### the list of draws -/
abbrev drw (ns : List Int) (k : Int) : List PyData := [encI ns, .int 0, .int k]
def Dw (K : PySem.W.Frag) (C : Addr) (M : List Addr) (H : Hp) (l : Addr) (ns : List Int) (k : Int) : Prop := l ∈ M ∧ ∃ vs, H l = some (.lst vs) ∧ DnAll K C (Msk M H) vs (drw ns k)
def Keep (l : Addr) (H H' : Hp) : Prop := ∀ a o, a ≠ l → H a = some o → H' a = some o
def Only1 (j : Nat) (σ : L2.St) (H H' : Hp) : Prop := ∀ l, σ[j]? = some (some (.ref l)) → Keep l H H'
section
variable {K : PySem.W.Frag} {C : Addr} {M : List Addr} {H H' : Hp} {σ : L2.St} {ρ : REnv} {l : Addr} {ns : List Int} {k k' : Int} {j : Nat}
theorem Keep.msk (h : Keep l H H') (hl : l ∈ M) : Same (Msk M H) (Msk M H') := fun a o e => by
  by_cases q : a ∈ M
  · rw [msk_in q] at e; cases e
  · rw [msk_nin q] at e ⊢
    exact h a o (fun z => q (by rw [z]; exact hl)) e
theorem Keep.own (h : Keep l H H') (o : Own M H) (hl : ∃ u, H' l = some u) : Own M H' := fun a ha => by
  by_cases e : a = l
  · subst e
    obtain ⟨u, hu⟩ := hl
    rw [hu]
    exact fun z => nomatch z
  · cases q : H a with
    | none => exact absurd q (o a ha)
    | some u => rw [h a u e q]; exact fun z => nomatch z
theorem EnvOk.drawn (E : EnvOk K C M H σ ρ) (hr : ρ[j]? = some (.ow (drw ns k))) (hs : σ[j]? = some (some (.ref l))) (hk : Keep l H H') (hd : Dw K C M H' l ns k') : EnvOk K C M H' σ (ρ.set j (.ow (drw ns k'))) where
  own := hk.own E.own (by obtain ⟨_, vs, h, _⟩ := hd; exact ⟨_, h⟩)
  len := by rw [List.length_set, E.len]
  slot := fun i s hi => by
    by_cases z : j = i
    · subst z
      rw [List.getElem?_set_self (List.getElem?_eq_some_iff.mp hr).1] at hi
      cases hi
      obtain ⟨h1, vs, h2, h3⟩ := hd
      exact ⟨l, vs, hs, h1, h2, h3⟩
    · rw [List.getElem?_set_ne z] at hi
      have q := E.slot i s hi
      cases s with
      | no => trivial
      | im d => obtain ⟨v, h1, h2⟩ := q; exact ⟨v, h1, h2.mono (hk.msk hd.1)⟩
      | ow ds =>
        obtain ⟨m, vs, h1, h2, h3, h4⟩ := q
        have ne : m ≠ l := fun q => by
          subst q
          exact z (E.dist j i _ ds m hr hi hs h1)
        exact ⟨m, vs, h1, h2, hk m _ ne h3, h4.mono (hk.msk hd.1)⟩
  dist := fun i i' di dj m h1 h2 h3 h4 => by
    have at_ : ∀ {i : Nat} {e : List PyData}, (ρ.set j (.ow (drw ns k')))[i]? = some (.ow e) → ∃ e', ρ[i]? = some (.ow e') := fun {i e} h => by
      by_cases z : j = i
      · subst z; exact ⟨_, hr⟩
      · rw [List.getElem?_set_ne z] at h; exact ⟨e, h⟩
    obtain ⟨e1, q1⟩ := at_ h1
    obtain ⟨e2, q2⟩ := at_ h2
    exact E.dist i i' e1 e2 m q1 q2 h3 h4
end
/-- an expression that may draw, of the slot j's list; R k is the environment where k numbers were drawn -/
def BD (X : Cx) (C : Addr) (j : Nat) (R : Int → REnv) (e : Expr) (S : PyData → Prop) : Prop := ∀ M H σ Q k, 0 ≤ k → EnvOk X.K C M H σ (R k) →
  (∀ v H' d k', 0 ≤ k' → S d → EnvOk X.K C M H' σ (R k') → Only1 j σ H H' → Dn X.K C (Msk M H') v d → Q v H') → semE X e σ H Q
def BDT (X : Cx) (C : Addr) (j : Nat) (R : Int → REnv) (e : Expr) : Prop := ∀ M H σ Q k, 0 ≤ k → EnvOk X.K C M H σ (R k) →
  (∀ b H' k', 0 ≤ k' → EnvOk X.K C M H' σ (R k') → Only1 j σ H H' → Q b H') → semT X e σ H Q
structure Dr (j : Nat) (ns : List Int) (R : Int → REnv) : Prop where
  at_ : ∀ k, (R k)[j]? = some (.ow (drw ns k))
  set : ∀ k k', (R k).set j (.ow (drw ns k')) = R k'
theorem Only1.trans {j : Nat} {σ : L2.St} {H H1 H2 : Hp} (a : Only1 j σ H H1) (b : Only1 j σ H1 H2) : Only1 j σ H H2 := fun l h x o ne e => b l h x o ne (a l h x o ne e)
theorem Only1.of {j : Nat} {σ : L2.St} {H H1 : Hp} (a : Same H H1) : Only1 j σ H H1 := fun l h x o ne e => a _ _ e
def spNext (K : PySem.W.Frag) (C : Addr) : Sp := fun vs H Q _ => ∃ M l ns k n, vs = [.ref l, .int n] ∧ Own M H ∧ Dw K C M H l ns k ∧ 0 ≤ k ∧ 0 < n ∧ ∀ (i : Nat) H' k', (i : Int) < n → Keep l H H' → Dw K C M H' l ns k' → 0 ≤ k' → Q (.int i) H'
def spPick (K : PySem.W.Frag) (C : Addr) : Sp := fun vs H Q _ => ∃ M l v ns k ds, vs = [.ref l, v] ∧ Own M H ∧ Dw K C M H l ns k ∧ 0 ≤ k ∧ Dn K C (Msk M H) v (.list ds) ∧ ds ≠ [] ∧ ∀ d u H' k', d ∈ ds → Keep l H H' → Dw K C M H' l ns k' → 0 ≤ k' → Dn K C (Msk M H') u d → Q u H'
structure FnX (P : Program) (w : World) (K : PySem.W.Frag) (mg : Str → Option Value) (base : Heap) (x : Str) (k : Nat) (ps : List Str) (sp : Sp) : Prop where
  ex : ∃ (f : Addr) (fd : FuncData), FnOk P w K mg base CX0 k f fd ps sp ∧ mg x = some (.ref f) ∧ PySem.W.keepIn K (.ref f) = true ∧ Binds K fd ps []
section
variable {X : Cx} {C : Addr} {j : Nat} {R : Int → REnv} {ns : List Int} {e a b t : Expr} {d : PyData} {ds : List PyData} {S : PyData → Prop} {pos p p2 : Pos}
theorem bd_be (h : ∀ k, BE X C (R k) e d) : BD X C j R e (· = d) := fun M H σ Q k hk E kk => h k M H σ Q E fun v H' s q => kk v H' d k hk rfl (E.mono s) (Only1.of s) q
theorem bd_mono {S' : PyData → Prop} (h : BD X C j R e S) (hs : ∀ d, S d → S' d) : BD X C j R e S' := fun M H σ Q k hk E kk => h M H σ Q k hk E fun v H' d k' h1 h2 => kk v H' d k' h1 (hs d h2)
theorem bd_next {x : Str} {n : Nat} {y : Str} {k0 : Nat} {ps : List Str} (F : FnX X.prog X.w X.K X.mg X.base y k0 ps (spNext X.K C)) (hr : Room k0 X.A) (D : Dr j ns R) (hb : ∀ k, BE X C (R k) b (.int n)) (hn : 0 < n) (hg : Gl X y := by rfl) (hN : X.N[j]? = some x := by rfl) (hv : Vis X.env.scope x := by first | exact Or.inl rfl | exact Or.inr (Or.inl rfl) | exact Or.inr (Or.inr rfl))
    (hd : (x == ("__debug__" : Str)) = false := by decide) (hcd : (x == ("__classdict__" : Str)) = false := by decide) (hdb : (y == ("__debug__" : Str)) = false := by decide) (hs : starEach [b] X.env = [(false, eval b X.env)] := by rfl) (he : starEach [.Name x p2, b] X.env = (false, eval (.Name x p2) X.env) :: starEach [b] X.env := by rfl) (hpl : (backTo pos (starEach [b] X.env)).any (·.1) = false := by rfl) :
    BD X C j R (.Call (.Name y p) [.Name x p2, b] [] pos) (fun d => ∃ i, i < n ∧ d = iD i) := fun M H σ Q k hk E kk pins s I => by
  obtain ⟨f, fd, h1, h2, h3, h4⟩ := F.ex
  refine (pe_call h1 hr hg h2 h3 h4 .nil pass0 (pa_cons (pe_var hN hv hd hcd) (pa_cons (pe_sem b) pa_nil hs) he) hdb he hpl).run pins s σ H Q I ?_
  obtain ⟨l, vs, a1, a2, a3, a4⟩ := E.ow (D.at_ k)
  refine ⟨_, a1, hb k M H σ _ E fun v H2 s2 q2 => ?_⟩
  have E2 := E.mono s2
  refine ⟨M, l, ns, k, n, by rw [q2.int_inv]; rfl, E2.own, ⟨a2, vs, s2 _ _ a3, a4.mono (msk_mono s2)⟩, hk, by omega, fun i H' k' hi hK hD hk' => ?_⟩
  have E3 := E2.drawn (D.at_ k) a1 hK hD
  rw [D.set] at E3
  exact kk _ H' (iD i) k' hk' ⟨i, by omega, rfl⟩ E3 ((Only1.of s2).trans fun l' h x o ne e' => by
    rw [a1] at h
    cases h
    exact hK _ _ ne e') (.int _)
theorem bd_pick {x : Str} {y : Str} {k0 : Nat} {ps : List Str} (F : FnX X.prog X.w X.K X.mg X.base y k0 ps (spPick X.K C)) (hr : Room k0 X.A) (D : Dr j ns R) (hb : ∀ k, BE X C (R k) b (.list ds)) (hn : ds ≠ []) (hg : Gl X y := by rfl) (hN : X.N[j]? = some x := by rfl) (hv : Vis X.env.scope x := by first | exact Or.inl rfl | exact Or.inr (Or.inl rfl) | exact Or.inr (Or.inr rfl))
    (hd : (x == ("__debug__" : Str)) = false := by decide) (hcd : (x == ("__classdict__" : Str)) = false := by decide) (hdb : (y == ("__debug__" : Str)) = false := by decide) (hs : starEach [b] X.env = [(false, eval b X.env)] := by rfl) (he : starEach [.Name x p2, b] X.env = (false, eval (.Name x p2) X.env) :: starEach [b] X.env := by rfl) (hpl : (backTo pos (starEach [b] X.env)).any (·.1) = false := by rfl) :
    BD X C j R (.Call (.Name y p) [.Name x p2, b] [] pos) (fun d => d ∈ ds) := fun M H σ Q k hk E kk pins s I => by
  obtain ⟨f, fd, h1, h2, h3, h4⟩ := F.ex
  refine (pe_call h1 hr hg h2 h3 h4 .nil pass0 (pa_cons (pe_var hN hv hd hcd) (pa_cons (pe_sem b) pa_nil hs) he) hdb he hpl).run pins s σ H Q I ?_
  obtain ⟨l, vs, a1, a2, a3, a4⟩ := E.ow (D.at_ k)
  refine ⟨_, a1, hb k M H σ _ E fun v H2 s2 q2 => ?_⟩
  have E2 := E.mono s2
  refine ⟨M, l, v, ns, k, ds, rfl, E2.own, ⟨a2, vs, s2 _ _ a3, a4.mono (msk_mono s2)⟩, hk, q2, hn, fun d u H' k' hi hK hD hk' q => ?_⟩
  have E3 := E2.drawn (D.at_ k) a1 hK hD
  rw [D.set] at E3
  exact kk _ H' d k' hk' hi E3 ((Only1.of s2).trans fun l' h x o ne e' => by
    rw [a1] at h
    cases h
    exact hK _ _ ne e') q
theorem bd_ix (ha : ∀ k, BE X C (R k) a (.list ds)) (D : Dr j ns R) (hb : BD X C j R b (fun d => ∃ i, i < ds.length ∧ d = iD i)) (hp : PlainIx b := by exact fun _ _ => rfl) : BD X C j R (.Subscript a b pos) (fun d => d ∈ ds) := fun M H σ Q k hk E kk pins s I => by
  refine (pe_ix ix_list (pe_sem a) (pe_sem b) hp).run pins s σ H Q I ?_
  refine ha k M H σ _ E fun v1 H1 s1 q1 => hb M H1 σ _ k hk (E.mono s1) fun v H2 d k' hk' hS E2 o2 q2 => ?_
  obtain ⟨i, hi, rfl⟩ := hS
  obtain ⟨l, vs, a1, a2, a3, a4⟩ := E.ow (D.at_ k)
  have q1' := q1.mono ((o2 l a1).msk a2)
  obtain ⟨a, xs, rfl, h1, q3⟩ := q1'.lst_inv
  obtain ⟨w, hw, qw⟩ := q3.get (List.getElem?_eq_getElem hi)
  exact ⟨a, xs, _, w, rfl, by rw [q2.int_inv], SqL.of (msk_same M H2 _ _ h1), atI_nat hw, kk w H2 _ k' hk' (List.getElem_mem hi) E2 ((Only1.of s1).trans o2) qw⟩
theorem bd_if (ht : BDT X C j R t) (ha : BD X C j R a S) (hb : BD X C j R b S) : BD X C j R (.IfExp t a b pos) S := fun M H σ Q k hk E kk pins s I => by
  refine (pe_ifExp (pt_sem t) (pe_sem a) (pe_sem b)).run pins s σ H Q I ?_
  refine ht M H σ _ k hk E fun c H1 k1 hk1 E1 o1 => ?_
  cases c with
  | true => exact iteT (ha M H1 σ _ k1 hk1 E1 fun v H2 d k2 hk2 hS E2 o2 q => kk v H2 d k2 hk2 hS E2 (o1.trans o2) q)
  | false => exact iteF (hb M H1 σ _ k1 hk1 E1 fun v H2 d k2 hk2 hS E2 o2 q => kk v H2 d k2 hk2 hS E2 (o1.trans o2) q)
theorem bdt_eq {i : Int} {S : PyData → Prop} (ha : BD X C j R a S) (hS : ∀ d, S d → ∃ i, d = .int i) (hb : ∀ k, BE X C (R k) b (.int i)) (hm : behindInMarks .Eq b = false := by rfl) : BDT X C j R (.Compare a [.Eq] [b] pos) := fun M H σ Q k hk E kk pins s I => by
  refine (pt_cmpR op_eq (pe_sem a) (pe_sem b) hm).run pins s σ H Q I ?_
  refine ha M H σ _ k hk E fun v1 H1 d k1 hk1 hd E1 o1 q1 => hb k1 M H1 σ _ E1 fun v2 H2 s2 q2 => ?_
  obtain ⟨i1, rfl⟩ := hS d hd
  cases q1.int_inv
  cases q2.int_inv
  exact ⟨rfl, _, rfl, kk _ H2 k1 hk1 (E1.mono s2) (o1.trans (Only1.of s2))⟩
theorem bd_cat1 {lp : Pos} (D : Dr j ns R) (ha : ∀ k, BE X C (R k) a (.list ds)) (hb : BD X C j R b S) (hz : ds.length + 1 ≤ 1000000) (hs : starEach [b] X.env = [(false, eval b X.env)] := by rfl) : BD X C j R (.BinOp a .Add (.List [b] lp) pos) (fun d => ∃ x, S x ∧ d = .list (ds ++ [x])) := fun M H σ Q k hk E kk pins s I => by
  refine (pe_op op_cat (pe_sem a) (pe_lst (pa_cons (pe_sem b) pa_nil hs))).run pins s σ H Q I ?_
  refine ha k M H σ _ E fun v1 H1 s1 q1 => hb M H1 σ _ k hk (E.mono s1) fun v2 H2 d k2 hk2 hd E2 o2 q2 => ⟨line_of (show 1 ≤ 1000000 by decide), fun m hm => ?_⟩
  obtain ⟨l, vs, a1, a2, a3, a4⟩ := E.ow (D.at_ k)
  have q1' := q1.mono ((o2 l a1).msk a2)
  obtain ⟨a, xs, rfl, h1, q3⟩ := q1'.lst_inv
  have h1' := msk_same M H2 _ _ h1
  have E3 : EnvOk X.K C M (upd H2 m (.lst [v2])) σ (R k2) := E2.mono (same_new hm)
  refine ⟨a, m, xs, [v2], rfl, rfl, same_new hm _ _ h1', upd_same, by rw [q3.length]; exact line_of hz, fun q hq => ?_⟩
  have sm := (same_new hm).trans (same_new (u := .lst (xs ++ [v2])) hq)
  refine kk _ _ _ k2 hk2 ⟨d, hd, rfl⟩ (E3.mono (same_new hq)) (((Only1.of s1).trans o2).trans (Only1.of sm)) ?_
  exact dn_new E3.own ((q3.mono (msk_mono (same_new hm))).append (.cons (q2.mono (msk_mono (same_new hm))) .nil)) hq
end
end G6

set_option Elab.async false
set_option linter.all false
set_option maxRecDepth 100000
set_option maxHeartbeats 1000000
namespace G6
open PySem PySem.Spec PyProof.Rows L2
section
variable {X : Cx} {C : Addr} {ρ : REnv} {e b : Expr} {d : PyData} {ds : List PyData} {pos : Pos}
/-- x[b] = e with an owned list, its place told -/
theorem sem_store (i : Nat) {x : Str} {p1 p2 : Pos} {k : Nat} {ix : Int} (hr : ρ[i]? = some (.ow ds)) (he : BE X C ρ e d) (hb : BE X C ρ b (.int ix)) (hix : ix = (k : Int)) (hk : k < ds.length) {M : List Addr} {H : Hp} {σ : L2.St} {D : Ends} (E : EnvOk X.K C M H σ ρ)
    (kk : ∀ l vs H' v, σ[i]? = some (some (.ref l)) → Same H H' → H l = some (.lst vs) → DnAll X.K C (Msk M H) vs ds → Dn X.K C (Msk M H') v d → D.nx σ (upd H' l (.lst (vs.set k v)))) (hN : X.N[i]? = some x := by rfl) (hv : Vis X.env.scope x := by first | exact Or.inl rfl | exact Or.inr (Or.inl rfl) | exact Or.inr (Or.inr rfl))
    (hd : (x == ("__debug__" : Str)) = false := by decide) (hcd : (x == ("__classdict__" : Str)) = false := by decide) (hs : swapsWithSole [.Subscript (.Name x p1) b p2] e pos.line X.env = pure false := by rfl) (hw : swappedStores [.Subscript (.Name x p1) b p2] e X.env = pure none := by rfl)
    (h1 : (assignEach [.Subscript (.Name x p1) b p2] X.env).map (·.2) = [assign (.Subscript (.Name x p1) b p2) X.env] := by rfl)
    (ha : ∀ v, assign (.Subscript (.Name x p1) b p2) X.env v = (do
      let ov ← holding [v] (eval (.Name x p1) X.env)
      let iv ← holding [v, ov] (eval b X.env)
      standAt p2
      holding [v, ov, iv] (setItem ov iv v)
      release [v, ov, iv] []) := by intro _; rfl) :
    semS X (.Assign [.Subscript (.Name x p1) b p2] e pos) D σ H := fun pins s I => by
  refine (ps_asg (pe_sem e) (pg_sub (pe_var hN hv hd hcd) (pe_sem b) set_list ha) hs hw h1).run pins s σ H D I ?_
  refine he M H σ _ E fun v H1 s1 q1 => ?_
  obtain ⟨l, vs, a1, a2, a3, a4⟩ := E.ow hr
  refine ⟨_, a1, hb M H1 σ _ (E.mono s1) fun w H2 s2 q2 => ⟨l, vs, ix, k, rfl, q2.int_inv, s2 _ _ (s1 _ _ a3), ?_, ?_⟩⟩
  · rw [hix]
    exact ixN_nat (by rw [a4.length]; exact hk)
  · exact kk l vs H2 v a1 (s1.trans s2) a3 a4 (q1.mono (msk_mono s2))
end
section
variable {P : Program} {w : World} {K : PySem.W.Frag} {mg : Str → Option Value} {base : Heap} {C : Addr}
/-! ### _law_next -/
abbrev sNext2 : Stmt := topS 25
abbrev nNext2 : List Str := ["_law_draw_here", "_law_bound", "_law_at", "_law_cell"]
theorem scNext2 : FnScope nNext2 ["_law_draw_here", "_law_bound"] (defScope sNext2) := ⟨rfl, rfl, rfl, by decide +kernel, rfl, by decide +kernel, by decide +kernel⟩
theorem own1 {M : List Addr} {H : Hp} {l : Addr} {ns : List Int} {k : Int} {d : PyData} {v : V} {r : List Sl} {N : List Str} (o : Own M H) (hD : Dw K C M H l ns k) (hd : Dn K C (Msk M H) v d) (hN : N.length = r.length + 2) (hno : ∀ x ∈ r, x = .no) : EnvOk K C M H (L2.start N [.ref l, v]) (.ow (drw ns k) :: .im d :: r) := by
  obtain ⟨h1, vs, h2, h3⟩ := hD
  refine ⟨o, ?_, fun i s hi => ?_, fun i j di dj m a1 a2 a3 a4 => ?_⟩
  · unfold L2.start
    simp only [List.length_append, List.length_map, List.length_replicate, List.length_cons, List.length_nil]
    omega
  · match i, hi with
    | 0, hi => cases hi; exact ⟨l, vs, rfl, h1, h2, h3⟩
    | 1, hi => cases hi; exact ⟨v, rfl, hd⟩
    | n + 2, hi =>
      have z := hno s (List.mem_of_getElem? (show r[n]? = some s from hi))
      subst z
      trivial
  · have nor : ∀ {i : Nat} {e : List PyData}, (.ow (drw ns k) :: .im d :: r : List Sl)[i]? = some (.ow e) → i = 0 := fun {i e} h => by
      match i, h with
      | 0, _ => rfl
      | 1, h => cases h
      | n + 2, h =>
        have z := hno _ (List.mem_of_getElem? (show r[n]? = some _ from h))
        cases z
    rw [nor a1, nor a2]
theorem ok_next2 {f : Addr} {fd : FuncData} (F : Fun K "_law_next" "_law_next" sNext2 f fd) (T : TxtB mg) (FC : FnB P w K mg base C "_law_cell_at" 1 ["_law_script", "_law_k"] R_cell) (FN : FnB P w K mg base C "_law_number" 2 ["_law_cell", "_law_k", "_law_bound"] R_num) : FnOk P w K mg base CX0 3 f fd ["_law_draw_here", "_law_bound"] (spNext K C) := by
  refine F.ok scNext2 (fun vs H Q E h => ?_) (fun cdv A outer s H vs Q E hr h => ?_)
  · obtain ⟨M, l, ns, k, n, rfl, _⟩ := h
    rfl
  · obtain ⟨M, l, ns, k, n, rfl, o, hD, hk, hn, kk⟩ := h
    have E0 := own1 (r := [.no, .no]) (N := nNext2) o hD (.int n) rfl (by intro x hx; rcases List.mem_cons.mp hx with e | hx; exact e; exact List.mem_singleton.mp hx)
    refine ⟨_, pss_cons (ps_sem _) (pss_sem _), ?_⟩
    show semS (cxOf CX0 P w K mg base nNext2 "_law_next" (defScope sNext2) f cdv A outer s H E).nox (stAt (defBody sNext2) 0) _ _ _
    refine sem_store (ρ := [.ow (drw ns k), .im (.int n), .no, .no]) 0 rfl (be_add (be_ixL (k := 2) (bl_own 0) be_int rfl rfl) be_int) be_int (k := 2) rfl (show 2 < 3 by decide) E0 fun l' vs H1 v a1 s1 a3 a4 q1 => ?_
    cases a1
    obtain ⟨v0, v1, v2, rfl, b0, b1, b2⟩ := a4.three
    cases q1.int_inv
    show semSs _ _ _ _ (upd H1 l (.lst [v0, v1, .int (k + 1)]))
    have hlM := hD.1
    have nl : ∀ a ∈ (M.filter fun a => decide (a ≠ l)), a ≠ l := fun a ha => by simpa using (List.mem_filter.mp ha).2
    have sm : Same (Msk M H) (Msk (M.filter fun a => decide (a ≠ l)) (upd H1 l (.lst [v0, v1, .int (k + 1)]))) := fun a u h => by
      have q : a ∉ M := fun z => by rw [msk_in z] at h; cases h
      rw [msk_nin q] at h
      have ne : a ≠ l := fun z => q (by rw [z]; exact hlM)
      rw [msk_nin (fun z => q (List.mem_filter.mp z).1), upd_ne ne]
      exact s1 _ _ h
    have o2 : Own (M.filter fun a => decide (a ≠ l)) (upd H1 l (.lst [v0, v1, .int (k + 1)])) := own_upd ((fun a ha => o.mono s1 a (List.mem_filter.mp ha).1))
    have hl2 : Msk (M.filter fun a => decide (a ≠ l)) (upd H1 l (.lst [v0, v1, .int (k + 1)])) l = some (.lst [v0, v1, .int (k + 1)]) := by
      rw [msk_nin (fun z => nl l z rfl), upd_same]
    have qd : DnAll K C (Msk (M.filter fun a => decide (a ≠ l)) (upd H1 l (.lst [v0, v1, .int (k + 1)]))) [v0, v1, .int (k + 1)] (drw ns (k + 1)) := .cons (b0.mono sm) (.cons (b1.mono sm) (.cons (.int _) .nil))
    have E2 : EnvOk K C (M.filter fun a => decide (a ≠ l)) (upd H1 l (.lst [v0, v1, .int (k + 1)])) (L2.start nNext2 [.ref l, .int n]) [.im (.list (drw ns (k + 1))), .im (.int n), .no, .no] := by
      refine start_env (N := nNext2) (ds := [.list (drw ns (k + 1)), .int n]) o2 (.cons (.lst hl2 qd) (.cons (.int _) .nil))
    have ES : EnvS K C (M.filter fun a => decide (a ≠ l)) (upd H1 l (.lst [v0, v1, .int (k + 1)])) (M.filter fun a => decide (a ≠ l)) (upd H1 l (.lst [v0, v1, .int (k + 1)])) (L2.start nNext2 [.ref l, .int n]) [.im (.list (drw ns (k + 1))), .im (.int n), .no, .no] :=
      ⟨E2, Same.refl _, fun _ h => h, fun i es m hi _ => by
        have z : ∀ {i : Nat} {e : List PyData}, ([.im (.list (drw ns (k + 1))), .im (.int n), .no, .no] : List Sl)[i]? = some (.ow e) → False := fun {i e} h => by
          match i, h with
          | 0, h => cases h
          | 1, h => cases h
          | 2, h => cases h
          | 3, h => cases h
          | n + 4, h => simp at h
        exact (z hi).elim⟩
    have h0 : 0 ≤ (k + 1) / 12 := by omega
    have body : BSs (cxOf CX0 P w K mg base nNext2 "_law_next" (defScope sNext2) f cdv A outer s H E).nox C [.im (.list (drw ns (k + 1))), .im (.int n), .no, .no] ((defBody sNext2).drop 1) (.rt (.int (numM (ns.getD (0 + (k + 1) / 12).toNat 0 + 31 * ((k + 1) / 12)) ((k + 1) % 12 + 1) n))) := by
      refine bss_cons (bs_set 2 scNext2.nd (be_fdiv (be_ixL (k := 2) (d := .int (k + 1)) (bl_im (be_var 0)) be_int rfl rfl) be_int ⟨by decide, by decide⟩)) ?_
      refine bss_cons (bs_set 3 scNext2.nd (be_add (be_callF FC (hr.mono (by decide)) (ba_cons (be_ixL (k := 0) (d := encI ns) (bl_im (be_var 0)) be_int rfl rfl) (ba_cons (be_add (i := 0) (be_ixL (k := 1) (d := .int 0) (bl_im (be_var 0)) be_int rfl rfl) (be_var 2)) ba_nil)) ⟨ns, 0 + (k + 1) / 12, rfl, by omega, rfl⟩) (be_mul be_int (be_var 2) (.inl (by decide))))) ?_
      exact bss_one (bs_ret (be_callF FN hr (ba_cons (be_var 3) (ba_cons (be_add (be_mod (be_int1 (by rfl) T.int (be_ixL (k := 2) (d := .int (k + 1)) (bl_im (be_var 0)) be_int rfl rfl)) be_int (by decide)) be_int) (ba_cons (be_var 1) ba_nil))) ⟨_, _, _, rfl, hn, by omega, by omega, rfl⟩))
    refine body _ _ _ _ _ _ o2 ES fun v H' s' q => ?_
    cases q.int_inv
    obtain ⟨r0, r1⟩ := numM_lt (ns.getD (0 + (k + 1) / 12).toNat 0 + 31 * ((k + 1) / 12)) ((k + 1) % 12 + 1) n hn
    generalize numM (ns.getD (0 + (k + 1) / 12).toNat 0 + 31 * ((k + 1) / 12)) ((k + 1) % 12 + 1) n = r at r0 r1
    have er : r = ((r.toNat : Nat) : Int) := by omega
    rw [er]
    have hl' : H' l = some (.lst [v0, v1, .int (k + 1)]) := s' _ _ upd_same
    have kp : Keep l H H' := fun a u ne h => s' _ _ (by rw [upd_ne ne]; exact s1 _ _ h)
    have sm2 := kp.msk hlM
    exact kk r.toNat H' (k + 1) (by omega) kp ⟨hlM, _, hl', .cons (b0.mono sm2) (.cons (b1.mono sm2) (.cons (.int _) .nil))⟩ (by omega)
/-! ### _law_pick -/
abbrev sPick : Stmt := topS 26
abbrev nPick : List Str := ["_law_draw_here", "_law_things"]
theorem scPick : FnScope nPick ["_law_draw_here", "_law_things"] (defScope sPick) := ⟨rfl, rfl, rfl, by decide +kernel, rfl, by decide +kernel, by decide +kernel⟩
theorem ok_pick {f : Addr} {fd : FuncData} (F : Fun K "_law_pick" "_law_pick" sPick f fd) (T : TxtB mg) (FN : FnX P w K mg base "_law_next" 3 ["_law_draw_here", "_law_bound"] (spNext K C)) : FnOk P w K mg base CX0 4 f fd ["_law_draw_here", "_law_things"] (spPick K C) := by
  refine F.ok scPick (fun vs H Q E h => ?_) (fun cdv A outer s H vs Q E hr h => ?_)
  · obtain ⟨M, l, v, ns, k, ds, rfl, _⟩ := h
    rfl
  · obtain ⟨M, l, v, ns, k, ds, rfl, o, hD, hk, hv, hne, kk⟩ := h
    have E0 := own1 (r := []) (N := nPick) o hD hv rfl (fun x hx => nomatch hx)
    have D : Dr 0 ns (fun k => [.ow (drw ns k), .im (.list ds)]) := ⟨fun k => rfl, fun k k' => rfl⟩
    have hp : 0 < ds.length := by
      cases ds with
      | nil => exact absurd rfl hne
      | cons => exact Nat.succ_pos _
    have b : BD (cxOf CX0 P w K mg base nPick "_law_pick" (defScope sPick) f cdv A outer s H E).nox C 0 (fun k => [.ow (drw ns k), .im (.list ds)]) (stE (stAt (defBody sPick) 0)) (fun d => d ∈ ds) :=
      bd_ix (fun k => be_var 1) D (bd_next FN hr D (n := ds.length) (fun k => be_lenL (by rfl) T.len (bl_im (be_var 1))) hp)
    refine ⟨_, pss_one (ps_ret (pe_sem _)), ?_⟩
    refine b M H _ _ k hk E0 fun u H' d k' hk' hd E' o1 q => ?_
    obtain ⟨l', vs', a1, a2, a3, a4⟩ := E'.ow (i := 0) rfl
    cases a1
    exact kk d u H' k' hd (o1 l rfl) ⟨a2, vs', a3, a4⟩ hk' q
end
end G6

set_option Elab.async false
set_option linter.all false
set_option maxRecDepth 100000
set_option maxHeartbeats 1000000
namespace G6
open PySem PySem.Spec PyProof.Rows L2
section
variable {K : PySem.W.Frag} {C : Addr} {M M0 : List Addr} {H H' H0 : Hp} {σ : L2.St} {ns : List Int} {k k' : Int} {j : Nat} {R : Int → REnv}
theorem EnvS.drawn (E : EnvS K C M0 H0 M H σ (R k)) (D : Dr j ns R) (E' : EnvOk K C M H' σ (R k')) (o : Only1 j σ H H') : EnvS K C M0 H0 M H' σ (R k') := by
  obtain ⟨l, vs, a1, a2, a3, a4⟩ := E.ok.ow (D.at_ k)
  have hf := E.fresh j _ l (D.at_ k) a1
  refine ⟨E', fun a u h => o l a1 a u (fun z => ?_) (E.same _ _ h), E.sub, fun i ds m h1 h2 => ?_⟩
  · subst z
    rw [hf] at h
    cases h
  · by_cases z : j = i
    · subst z
      rw [a1] at h2
      cases h2
      exact hf
    · rw [← D.set k k', List.getElem?_set_ne z] at h1
      exact E.fresh i ds m h1 h2
end
/-- a statement that may draw -/
def BSD (X : Cx) (C : Addr) (R : Int → REnv) (st : Stmt) (S : (Int → REnv) → Prop) : Prop := ∀ M0 H0 M H σ D k, 0 ≤ k → Own M0 H0 → EnvS X.K C M0 H0 M H σ (R k) →
  (∀ R' k' M' H' σ', S R' → 0 ≤ k' → EnvS X.K C M0 H0 M' H' σ' (R' k') → D.nx σ' H') → semS X st D σ H
section
variable {X : Cx} {C : Addr} {j : Nat} {R : Int → REnv} {ns : List Int} {e a b t tg : Expr} {d : PyData} {ds : List PyData} {S : PyData → Prop} {pos p p2 : Pos} {st : Stmt} {rest body : List Stmt}
theorem bssd_cons {S : (Int → REnv) → Prop} (h : BSD X C R st S) (hr : ∀ R', S R' → ∀ k, 0 ≤ k → BSs X C (R' k) rest (.rt d)) : ∀ k, 0 ≤ k → BSs X C (R k) (st :: rest) (.rt d) := fun k hk =>
  bss_of (pss_cons (ps_sem st) (pss_sem rest)) fun M0 H0 M H σ D o0 E kk => h M0 H0 M H σ _ k hk o0 E fun R' k' M' H' σ' hS hk' E' => hr R' hS k' hk' M0 H0 M' H' σ' D o0 E' kk
theorem bsd_set (i : Nat) {x : Str} {pos' : Pos} (hN : X.N.Nodup) (D : Dr j ns R) (h : BD X C j R e S) (hi : X.N[i]? = some x := by rfl) (hx : Loc X.env.scope x := by first | exact Or.inl rfl | exact Or.inr rfl) (hs : swapsWith e (some (.Name x pos')) pos.line X.env = pure false := by rfl)
    (hf : X.fn x = true ∨ X.env.scope.names.lookup x = some .local := by first | exact .inl rfl | exact .inr rfl) : BSD X C R (.Assign [.Name x pos'] e pos) (fun R' => ∃ d, S d ∧ R' = fun k => (R k).set i (.im d)) := fun M0 H0 M H σ Ds k hk o0 E kk pins s I => by
  refine (ps_set hN hi hx (pe_sem e) hs hf).run pins s σ H Ds I ?_
  refine h M H σ _ k hk E.ok fun v H' d k' hk' hS E' o q => ?_
  have E2 := E.drawn D E' o
  exact kk _ k' M H' _ ⟨d, hS, rfl⟩ hk' ⟨E2.ok.set q, E2.same, E2.sub, fun j es l h1 h2 => by
    obtain ⟨a, b⟩ := set_im_own (σ := σ) (x := some v) h1
    rw [b] at h2
    exact E2.fresh j es l a h2⟩
theorem bsd_store (i : Nat) {x : Str} {p1 : Pos} {k0 : Nat} {ix : Int} (hr : ∀ k, (R k)[i]? = some (.ow ds)) (D : Dr j ns R) (he : BD X C j R e S) (hb : ∀ k, BE X C (R k) b (.int ix)) (hix : ix = (k0 : Int)) (hk0 : k0 < ds.length) (hN : X.N[i]? = some x := by rfl) (hv : Vis X.env.scope x := by first | exact Or.inl rfl | exact Or.inr (Or.inl rfl) | exact Or.inr (Or.inr rfl))
    (hd : (x == ("__debug__" : Str)) = false := by decide) (hcd : (x == ("__classdict__" : Str)) = false := by decide) (hs : swapsWithSole [.Subscript (.Name x p1) b p2] e pos.line X.env = pure false := by rfl) (hw : swappedStores [.Subscript (.Name x p1) b p2] e X.env = pure none := by rfl)
    (h1 : (assignEach [.Subscript (.Name x p1) b p2] X.env).map (·.2) = [assign (.Subscript (.Name x p1) b p2) X.env] := by rfl)
    (ha : ∀ v, assign (.Subscript (.Name x p1) b p2) X.env v = (do
      let ov ← holding [v] (eval (.Name x p1) X.env)
      let iv ← holding [v, ov] (eval b X.env)
      standAt p2
      holding [v, ov, iv] (setItem ov iv v)
      release [v, ov, iv] []) := by intro _; rfl) : BSD X C R (.Assign [.Subscript (.Name x p1) b p2] e pos) (fun R' => ∃ d, S d ∧ R' = fun k => (R k).set i (.ow (ds.set k0 d))) := fun M0 H0 M H σ Ds k hk o0 E kk pins s I => by
  refine (ps_asg (pe_sem e) (pg_sub (pe_var hN hv hd hcd) (pe_sem b) set_list ha) hs hw h1).run pins s σ H Ds I ?_
  refine he M H σ _ k hk E.ok fun v H1 d k1 hk1 hS E1 o1 q1 => ?_
  have E2 := E.drawn D E1 o1
  obtain ⟨l, vs, a1, a2, a3, a4⟩ := E2.ok.ow (hr k1)
  refine ⟨_, a1, hb k1 M H1 σ _ E2.ok fun w H2 s2 q2 => ⟨l, vs, ix, k0, rfl, q2.int_inv, s2 _ _ a3, ?_, ?_⟩⟩
  · rw [hix]
    exact ixN_nat (by rw [a4.length]; exact hk0)
  · obtain ⟨E3, e3⟩ := (E2.mono s2).mut (hr k1) a1 (DnAll.set (q1.mono (msk_mono s2)) k0 (a4.mono (msk_mono s2)))
    exact kk _ k1 M _ σ ⟨d, hS, rfl⟩ hk1 E3
theorem bd_tup1 {kk : Nat} (h : BD X C j R e S) (hs : starEach [e] X.env = [(false, eval e X.env)] := by rfl) : BD X C j R (.Tuple [e] kk pos) (fun d => ∃ x, S x ∧ d = .tuple [x]) := fun M H σ Q k hk E kq pins s I => by
  refine (pe_tup (pa_cons (pe_sem e) pa_nil hs)).run pins s σ H Q I ?_
  refine h M H σ _ k hk E fun v H1 d k1 hk1 hd E1 o1 q1 => ⟨line_of (show 1 ≤ 1000000 by decide), fun q hq => ?_⟩
  exact kq _ _ _ k1 hk1 ⟨d, hd, rfl⟩ (E1.mono (same_new hq)) (o1.trans (Only1.of (same_new hq))) (dn_newT E1.own (.cons q1 .nil) hq)
/-- for x in (a drawn one,): .. -/
theorem bsd_for1 {R2 : PyData → Int → REnv} {ts : List Nat} (hp : PassesOwn (model X.prog X.w) X.A X.env X.xe) (hc : X.calm = true) (D : Dr j ns R) (h : BD X C j R e (fun d => ∃ x, S x ∧ d = .tuple [x]))
    (hb : ∀ x k, S x → 0 ≤ k → ∃ ρ1, BG X C (R k) ts tg x ρ1 ∧ BSs X C ρ1 body (.nx (R2 x k))) (hs : ∀ x, foldedSetIterable e X.env x = pure x := by intro _; rfl) :
    BSD X C R (.For tg e body [] pos) (fun R' => ∃ x, S x ∧ R' = R2 x) := fun M0 H0 M H σ Ds k hk o0 E kk pins s I => by
  refine (ps_for hp hc (pi_tup (pe_sem e)) (pg_sem tg) (pss_sem body) hs).run pins s σ H Ds I ?_
  refine h M H σ _ k hk E.ok fun v H1 dd k1 hk1 hS E1 o1 q1 => ?_
  obtain ⟨x, hx, rfl⟩ := hS
  have E2 := E.drawn D E1 o1
  obtain ⟨a, vs, rfl, g1, g2⟩ := q1.tup_inv
  obtain ⟨v1, rfl, g3⟩ := g2.one
  obtain ⟨ρ1, hg, hbody⟩ := hb x k1 hx hk1
  refine ⟨a, rfl, ⟨[v1], SqT.of (msk_same M H1 _ _ g1)⟩, ?_⟩
  refine ⟨fun i m σ' H' => (i = 0 ∧ m = 1 ∧ σ' = σ ∧ Same (Msk M H1) (Msk M H') ∧ EnvS X.K C M0 H0 M H' σ (R k1)) ∨ (i = 1 ∧ m = 0 ∧ ∃ M', EnvS X.K C M0 H0 M' H' σ' (R2 x k1) ∧ Same (Msk M H1) (Msk M' H')), ⟨1, .inl ⟨rfl, rfl, rfl, Same.refl _, E2⟩⟩, ?_⟩
  rintro i m σ' H' (⟨rfl, rfl, rfl, s', E'⟩ | ⟨rfl, rfl, M', E', s'⟩)
  · have g1' := msk_same M H' _ _ (s' _ _ g1)
    refine .inr ⟨⟨[v1], v1, SqT.of g1', rfl⟩, fun σ2 H2 => ∃ M', EnvS X.K C M0 H0 M' H2 σ2 (R2 x k1) ∧ Same (Msk M H1) (Msk M' H2), fun σ2 H2 w => ⟨0, by decide, .inr ⟨rfl, rfl, w⟩⟩, fun y H2 yy => ?_⟩
    obtain ⟨rfl, yy⟩ := yy
    have z := yy [v1] (SqT.of g1')
    cases z
    exact hg M H2 σ' v1 _ E'.ok (g3.mono s') fun σ3 E3 t3 => hbody M0 H0 M H2 σ3 _ o0 (E'.tgt E3 t3) fun M4 H4 σ4 E4 s4 => ⟨M4, E4, s'.trans s4⟩
  · have g1' := msk_same M' H' _ _ (s' _ _ g1)
    exact .inl ⟨⟨[v1], SqT.of g1', Nat.le_refl _⟩, kk _ k1 M' H' σ' ⟨x, hx, rfl⟩ hk1 E'⟩
end
end G6

set_option Elab.async false
set_option linter.all false
set_option maxRecDepth 100000
set_option maxHeartbeats 1000000
namespace G6
/-! The finite facts: what the fifteen lists of parts give. The literals were printed by genq.py. -/
def layS (p : List Nat) (ls : List (List Net)) : Bool :=
  lensOk (excs p.sum) 0 ls && firstOk ls && !((ls.map fun layer => layer.map (beh (rowsOf p))).any fun layer => layer.any asc) && pairsAll (fun a b => isCov a b (excs p.sum) (ords p.sum)) (ls.map fun layer => layer.map (beh (rowsOf p)))
def layR (p : List Nat) (ls : List (List Net)) : Bool :=
  lawLens (excs p.sum) (parted p) 0 ls && firstOk ls && pairsAll (lawIsCov (parted p) (excs p.sum) (ords p.sum)) ls
theorem showsM_lay (p : List Nat) (net : Net) (ls : List (List Net)) : showsM p net ls = (netIn (excs p.sum) net && asc (beh (rowsOf p) net) && decide (ls.length = net.length) && layS p ls) := by
  unfold showsM layS
  simp only [Bool.and_assoc]
theorem rightM_lay (p : List Nat) (net : Net) (ls : List (List Net)) : rightM p net ls = (netIn (excs p.sum) net && asc (beh (parted p) net) && decide (ls.length = net.length) && layR p ls) := by
  unfold rightM layR
  simp only [Bool.and_assoc]
/-- what the law may make of the layers, at one place -/
def bendAt (net : Net) (ls : List (List Net)) (k : Nat) : List (List (List Net)) :=
  ls.set k ((ls.getD k []).drop 1) :: ([[], net, net.take k, net.reverse.take k] : List Net).map fun x => ls.set k (ls.getD k [] ++ [x])
def netVars (net : Net) : List Net := [net, net.reverse, net.dropLast, net ++ net.take 1]
def chk (p : List Nat) (net : Net) (ls : List (List Net)) : Bool :=
  rightM p net ls && (netVars net).all (fun m => asc (beh (rowsOf p) m) == asc (beh (parted p) m)) && (layS p ls == layR p ls) && (List.range ls.length).all fun k => (bendAt net ls k).all fun l => layS p l == layR p l
structure Facts (p : List Nat) (net : Net) (ls : List (List Net)) : Prop where
  least : leastM p = some (net, ls)
  law : lawLeastM p = some net.length
  chk : chk p net ls = true
  nil : net = [] → ls = [] ∧ showsM p [] [[[]]] = false
  many : (ls.map List.length).sum ≤ 20
  pos : net ≠ [] → 0 < ls.length
  lens : ls.length ≤ 10 ∧ net.length ≤ 10 ∧ ∀ l ∈ ls, l.length ≤ 10 ∧ ∀ m ∈ l, m.length ≤ 10
  parts : (∀ x ∈ p, 1 ≤ x) ∧ 1 ≤ p.sum ∧ p.sum ≤ 5
theorem fact_0 : Facts [1] ([] : Net) ([] : List (List Net)) where
  least := by decide +kernel
  law := by decide +kernel
  chk := by decide +kernel
  nil := by exact fun _ => ⟨rfl, by decide +kernel⟩
  many := by decide
  pos := by exact fun h => absurd rfl h
  lens := by decide
  parts := by decide
theorem fact_1 : Facts [2] ([] : Net) ([] : List (List Net)) where
  least := by decide +kernel
  law := by decide +kernel
  chk := by decide +kernel
  nil := by exact fun _ => ⟨rfl, by decide +kernel⟩
  many := by decide
  pos := by exact fun h => absurd rfl h
  lens := by decide
  parts := by decide
theorem fact_2 : Facts [1, 1] ([(0, 1)] : Net) ([[[]]] : List (List Net)) where
  least := by decide +kernel
  law := by decide +kernel
  chk := by decide +kernel
  nil := by exact fun h => nomatch h
  many := by decide
  pos := by exact fun _ => by decide
  lens := by decide
  parts := by decide
theorem fact_3 : Facts [3] ([] : Net) ([] : List (List Net)) where
  least := by decide +kernel
  law := by decide +kernel
  chk := by decide +kernel
  nil := by exact fun _ => ⟨rfl, by decide +kernel⟩
  many := by decide
  pos := by exact fun h => absurd rfl h
  lens := by decide
  parts := by decide
theorem fact_4 : Facts [1, 2] ([(0, 1), (1, 2)] : Net) ([[[]], [[(0, 1)], [(0, 2)]]] : List (List Net)) where
  least := by decide +kernel
  law := by decide +kernel
  chk := by decide +kernel
  nil := by exact fun h => nomatch h
  many := by decide
  pos := by exact fun _ => by decide
  lens := by decide
  parts := by decide
theorem fact_5 : Facts [2, 1] ([(0, 2), (1, 2)] : Net) ([[[]], [[(0, 2)], [(1, 2)]]] : List (List Net)) where
  least := by decide +kernel
  law := by decide +kernel
  chk := by decide +kernel
  nil := by exact fun h => nomatch h
  many := by decide
  pos := by exact fun _ => by decide
  lens := by decide
  parts := by decide
theorem fact_6 : Facts [1, 1, 1] ([(0, 1), (0, 2), (1, 2)] : Net) ([[[]], [[(0, 1)]], [[(0, 1), (0, 2)], [(0, 1), (1, 2)]]] : List (List Net)) where
  least := by decide +kernel
  law := by decide +kernel
  chk := by decide +kernel
  nil := by exact fun h => nomatch h
  many := by decide
  pos := by exact fun _ => by decide
  lens := by decide
  parts := by decide
theorem fact_7 : Facts [4] ([] : Net) ([] : List (List Net)) where
  least := by decide +kernel
  law := by decide +kernel
  chk := by decide +kernel
  nil := by exact fun _ => ⟨rfl, by decide +kernel⟩
  many := by decide
  pos := by exact fun h => absurd rfl h
  lens := by decide
  parts := by decide
theorem fact_8 : Facts [2, 2] ([(0, 2), (1, 3), (1, 2)] : Net) ([[[]], [[(0, 2)], [(1, 2)], [(1, 3)]], [[(0, 2), (1, 3)], [(1, 2), (0, 3)]]] : List (List Net)) where
  least := by decide +kernel
  law := by decide +kernel
  chk := by decide +kernel
  nil := by exact fun h => nomatch h
  many := by decide
  pos := by exact fun _ => by decide
  lens := by decide
  parts := by decide
theorem fact_9 : Facts [1, 3] ([(0, 1), (1, 2), (2, 3)] : Net) ([[[]], [[(0, 1)], [(0, 2)], [(0, 3)]], [[(0, 1), (1, 2)], [(0, 1), (1, 3)], [(0, 2), (2, 3)]]] : List (List Net)) where
  least := by decide +kernel
  law := by decide +kernel
  chk := by decide +kernel
  nil := by exact fun h => nomatch h
  many := by decide
  pos := by exact fun _ => by decide
  lens := by decide
  parts := by decide
theorem fact_10 : Facts [3, 1] ([(0, 3), (1, 3), (2, 3)] : Net) ([[[]], [[(0, 3)], [(1, 3)], [(2, 3)]], [[(0, 3), (1, 3)], [(0, 3), (2, 3)], [(1, 3), (2, 3)]]] : List (List Net)) where
  least := by decide +kernel
  law := by decide +kernel
  chk := by decide +kernel
  nil := by exact fun h => nomatch h
  many := by decide
  pos := by exact fun _ => by decide
  lens := by decide
  parts := by decide
theorem fact_11 : Facts [1, 1, 2] ([(0, 1), (0, 2), (1, 3), (1, 2)] : Net) ([[[]], [[(0, 1)], [(0, 2)], [(0, 3)]], [[(0, 1), (0, 2)], [(0, 1), (1, 2)], [(0, 1), (1, 3)], [(0, 2), (2, 3)]], [[(0, 1), (0, 2), (1, 3)], [(0, 1), (1, 2), (0, 3)]]] : List (List Net)) where
  least := by decide +kernel
  law := by decide +kernel
  chk := by decide +kernel
  nil := by exact fun h => nomatch h
  many := by decide
  pos := by exact fun _ => by decide
  lens := by decide
  parts := by decide
theorem fact_12 : Facts [2, 1, 1] ([(2, 3), (0, 2), (1, 3), (1, 2)] : Net) ([[[]], [[(0, 2)], [(1, 2)], [(2, 3)]], [[(0, 2), (1, 2)], [(0, 2), (1, 3)], [(2, 3), (0, 2)], [(2, 3), (1, 3)]], [[(0, 2), (1, 2), (1, 3)], [(2, 3), (0, 2), (1, 3)]]] : List (List Net)) where
  least := by decide +kernel
  law := by decide +kernel
  chk := by decide +kernel
  nil := by exact fun h => nomatch h
  many := by decide
  pos := by exact fun _ => by decide
  lens := by decide
  parts := by decide
theorem fact_13 : Facts [1, 2, 1] ([(0, 3), (0, 1), (2, 3), (1, 2)] : Net) ([[[]], [[(0, 1)], [(0, 2)], [(0, 3)]], [[(0, 1), (1, 2)], [(0, 1), (1, 3)], [(0, 3), (0, 1)], [(0, 3), (2, 3)]], [[(0, 1), (1, 2), (1, 3)], [(0, 3), (0, 1), (2, 3)]]] : List (List Net)) where
  least := by decide +kernel
  law := by decide +kernel
  chk := by decide +kernel
  nil := by exact fun h => nomatch h
  many := by decide
  pos := by exact fun _ => by decide
  lens := by decide
  parts := by decide
theorem fact_14 : Facts [1, 1, 1, 1] ([(0, 1), (2, 3), (0, 2), (1, 3), (1, 2)] : Net) ([[[]], [[(0, 1)]], [[(0, 1), (0, 2)], [(0, 1), (1, 2)], [(0, 1), (2, 3)]], [[(0, 1), (0, 2), (1, 2)], [(0, 1), (0, 2), (1, 3)], [(0, 1), (2, 3), (0, 2)], [(0, 1), (2, 3), (1, 3)]], [[(0, 1), (0, 2), (1, 2), (1, 3)], [(0, 1), (2, 3), (0, 2), (1, 3)]]] : List (List Net)) where
  least := by decide +kernel
  law := by decide +kernel
  chk := by decide +kernel
  nil := by exact fun h => nomatch h
  many := by decide
  pos := by exact fun _ => by decide
  lens := by decide
  parts := by decide
end G6

set_option Elab.async false
set_option linter.all false
set_option maxRecDepth 100000
set_option maxHeartbeats 1000000
namespace G6
open PySem PySem.Spec PyProof.Rows L2
/-! ### the plain law -/
def partsL : List (List Nat) := [[1], [2], [1, 1], [3], [1, 2], [2, 1], [1, 1, 1], [4], [2, 2], [1, 3], [3, 1], [1, 1, 2], [2, 1, 1], [1, 2, 1], [1, 1, 1, 1]]
def partsI : List (List Int) := [[1], [2], [1, 1], [3], [1, 2], [2, 1], [1, 1, 1], [4], [2, 2], [1, 3], [3, 1], [1, 1, 2], [2, 1, 1], [1, 2, 1], [1, 1, 1, 1]]
theorem partsI_L : partsI = partsL.map fun p => p.map fun (n : Nat) => (n : Int) := by decide +kernel
theorem parts_of {d : PyData} (h : d ∈ partsI.map fun ns => PyData.list (ns.map PyData.int)) : ∃ p ∈ partsL, d = seqD false p := by
  rw [partsI_L, List.map_map] at h
  obtain ⟨p, hp, rfl⟩ := List.mem_map.mp h
  refine ⟨p, hp, ?_⟩
  show PyData.list ((p.map fun (n : Nat) => (n : Int)).map PyData.int) = PyData.list (p.map iD)
  rw [List.map_map]
  rfl
theorem facts_all : ∀ p ∈ partsL, ∃ net ls, Facts p net ls := by
  intro p hp
  simp only [partsL, List.mem_cons, List.not_mem_nil, or_false] at hp
  rcases hp with rfl | rfl | rfl | rfl | rfl | rfl | rfl | rfl | rfl | rfl | rfl | rfl | rfl | rfl | rfl
  · exact ⟨_, _, fact_0⟩
  · exact ⟨_, _, fact_1⟩
  · exact ⟨_, _, fact_2⟩
  · exact ⟨_, _, fact_3⟩
  · exact ⟨_, _, fact_4⟩
  · exact ⟨_, _, fact_5⟩
  · exact ⟨_, _, fact_6⟩
  · exact ⟨_, _, fact_7⟩
  · exact ⟨_, _, fact_8⟩
  · exact ⟨_, _, fact_9⟩
  · exact ⟨_, _, fact_10⟩
  · exact ⟨_, _, fact_11⟩
  · exact ⟨_, _, fact_12⟩
  · exact ⟨_, _, fact_13⟩
  · exact ⟨_, _, fact_14⟩
section
variable {p : List Nat} {net : Net} {ls : List (List Net)}
theorem Facts.bent (F : Facts p net ls) {m : Net} {l : List (List Net)} (hm : m ∈ netVars net) (hl : l = ls ∨ ∃ k, k < ls.length ∧ l ∈ bendAt net ls k) : showsM p m l = rightM p m l := by
  have h := F.chk
  unfold G6.chk at h
  simp only [Bool.and_eq_true, List.all_eq_true, beq_iff_eq, List.mem_range] at h
  obtain ⟨⟨⟨h1, h2⟩, h3⟩, h4⟩ := h
  rw [showsM_lay, rightM_lay, h2 m hm]
  rcases hl with rfl | ⟨k, hk, hl⟩
  · rw [h3]
  · rw [h4 k hk l hl]
theorem Facts.right (F : Facts p net ls) : rightM p net ls = true := by
  have h := F.chk
  unfold G6.chk at h
  simp only [Bool.and_eq_true] at h
  exact h.1.1.1
theorem Facts.shows (F : Facts p net ls) : showsM p net ls = true := by
  rw [F.bent (m := net) (by unfold netVars; simp) (.inl rfl), F.right]
theorem Facts.size (F : Facts p net ls) : SizeOk net ls := by
  obtain ⟨h1, h2, h3⟩ := F.lens
  exact ⟨by omega, by omega, fun l hl => ⟨by have := (h3 l hl).1; omega, fun m hm => by have := (h3 l hl).2 m hm; omega⟩⟩
theorem netVars_len {m : Net} (hm : m ∈ netVars net) : m.length ≤ net.length + 1 := by
  unfold netVars at hm
  simp only [List.mem_cons, List.not_mem_nil, or_false] at hm
  rcases hm with rfl | rfl | rfl | rfl
  · omega
  · rw [List.length_reverse]; omega
  · rw [List.length_dropLast]; omega
  · rw [List.length_append, List.length_take]; omega
theorem Facts.bendSize (F : Facts p net ls) {k : Nat} {l : List (List Net)} (hl : l ∈ bendAt net ls k) : l.length ≤ 10 ∧ ∀ y ∈ l, y.length ≤ 11 ∧ ∀ m ∈ y, m.length ≤ 10 := by
  obtain ⟨h1, h2, h3⟩ := F.lens
  have hg : ∀ (k : Nat), (ls.getD k []).length ≤ 10 ∧ ∀ m ∈ ls.getD k [], m.length ≤ 10 := fun k => by
    by_cases hk : k < ls.length
    · rw [List.getD_eq_getElem?_getD, List.getElem?_eq_getElem hk]
      exact h3 _ (List.getElem_mem hk)
    · rw [List.getD_eq_getElem?_getD, List.getElem?_eq_none (by omega)]
      exact ⟨by decide, fun m hm => nomatch hm⟩
  have hset : ∀ z : List Net, (z.length ≤ 11 ∧ ∀ m ∈ z, m.length ≤ 10) → (ls.set k z).length ≤ 10 ∧ ∀ y ∈ ls.set k z, y.length ≤ 11 ∧ ∀ m ∈ y, m.length ≤ 10 := fun z hz => by
    refine ⟨by rw [List.length_set]; exact h1, fun y hy => ?_⟩
    rcases List.mem_or_eq_of_mem_set hy with hy | rfl
    · exact ⟨by have := (h3 y hy).1; omega, (h3 y hy).2⟩
    · exact hz
  unfold bendAt at hl
  rcases List.mem_cons.mp hl with rfl | hl
  · refine hset _ ⟨by rw [List.length_drop]; have := (hg k).1; omega, fun m hm => (hg k).2 m (List.mem_of_mem_drop hm)⟩
  · obtain ⟨x, hx, rfl⟩ := List.mem_map.mp hl
    refine hset _ ⟨by rw [List.length_append, List.length_singleton]; have := (hg k).1; omega, fun m hm => ?_⟩
    rcases List.mem_append.mp hm with hm | hm
    · exact (hg k).2 m hm
    · rw [List.mem_singleton.mp hm]
      simp only [List.mem_cons, List.not_mem_nil, or_false] at hx
      rcases hx with rfl | rfl | rfl | rfl
      · exact Nat.zero_le _
      · exact h2
      · rw [List.length_take]; omega
      · rw [List.length_take, List.length_reverse]; omega
end
theorem sum_lens (ls : List (List Net)) : (ls.map fun l => (l.length : Int)).sum = (((ls.map List.length).sum : Nat) : Int) := by
  induction ls with
  | nil => rfl
  | cons l t ih =>
    rw [List.map_cons, List.map_cons, List.sum_cons, List.sum_cons, ih]
    omega
theorem cut_last (ds : List PyData) : cutD ds none (some (-1)) = ds.dropLast := by
  unfold cutD
  rw [HT.sIx_none, List.drop_zero, Nat.sub_zero, List.dropLast_eq_take]
  congr 1
  simp only [HT.sIx]
  simp
  omega
theorem cutV_ints (ns : List Int) (lo hi : Option Int) : ∃ ms : List Int, cutV (ns.map V.int) lo hi = ms.map V.int := by
  unfold cutV
  rw [← List.map_drop, ← List.map_take]
  exact ⟨_, rfl⟩
end G6

set_option Elab.async false
set_option linter.all false
set_option maxRecDepth 100000
set_option maxHeartbeats 1000000
namespace G6
open PySem PySem.Spec PyProof.Rows L2
structure FnO (P : Program) (w : World) (K : PySem.W.Frag) (mg : Str → Option Value) (base : Heap) (C : Addr) (m : Str) (k : Nat) (ps : List Str) (R : List PyData → PyData → Prop) : Prop where
  ex : ∃ (f : Addr) (fd : FuncData), Meth K C m f ∧ FnOk P w K mg base CX0 k f fd ps (spD K C R) ∧ Binds K fd ps []
section
variable {X : Cx} {C : Addr} {ρ : REnv} {e a b : Expr} {es : List Expr} {d dn dl : PyData} {ds : List PyData} {pos p : Pos}
theorem be_neg {i : Int} (h : BE X C ρ a (.int i)) : BE X C ρ (.UnaryOp .USub a pos) (.int (-i)) :=
  be_of (pe_un un_neg (pe_sem a)) fun M H σ Q E k => h M H σ _ E fun v H1 s1 q1 => ⟨i, q1.int_inv, k _ H1 s1 (.int _)⟩
theorem be_slFrom {p2 : Pos} {i : Int} (h : BL X C ρ e ds) (hl : BE X C ρ b (.int i)) : BE X C ρ (.Subscript e (.Slice (some b) none none p2) pos) (.list (cutD ds (some i) none)) := be_slL (l := some i) (u := none) h hl trivial
theorem be_slTo {p2 : Pos} {i : Int} (h : BL X C ρ e ds) (hu : BE X C ρ b (.int i)) : BE X C ρ (.Subscript e (.Slice none (some b) none p2) pos) (.list (cutD ds none (some i))) := be_slL (l := none) (u := some i) h trivial hu
theorem be_methO {R : List PyData → PyData → Prop} {k : Nat} {ps : List Str} {m : Str} {apos : Pos} {pl : Sem Bool} (T : ClsF X.K C) (F : FnO X.prog X.w X.K X.mg X.base C m k ps R) (hr : Room k X.A)
    (h1 : ¬ m = "net") (h2 : ¬ m = "layers") (ho : BE X C ρ e (objD dn dl)) (ha : BA X C ρ (a :: es) ds) (hR : R (objD dn dl :: ds) d) (hst : starEach (a :: es) X.env = (false, eval a X.env) :: starEach es X.env := by rfl) (hpl : (backTo pos (starEach es X.env)).any (·.1) = false := by rfl)
    (ht : eval (.Call (.Attribute e m apos) (a :: es) [] pos) X.env = (do
      let ov ← eval e X.env
      standAt apos.atName
      let (f, first) ← holding [ov] (getMethod ov m pl)
      callWith pos f first (backTo pos (starEach (a :: es) X.env)) (backToKw pos (keywordEach [] X.env))) := by rfl) : BE X C ρ (.Call (.Attribute e m apos) (a :: es) [] pos) d := by
  obtain ⟨f, fd, g1, g2, g3⟩ := F.ex
  exact be_meth T g1 g2 hr g3 h1 h2 ho ha hR hst hpl ht
theorem be_lenX {k : Nat} {n : Net} {pn : Pos} (F : FnO X.prog X.w X.K X.mg X.base C "__len__" 1 ["self"] R_len) (hr : Room 2 X.A) (hc : X.calm = true) (hg : Gl X "len") (hm : X.mg "len" = none) (h : BE X C ρ e (objD (encN n) dl)) (hn : n.length ≤ 1000000) (he : NS X e := by rfl) : BE X C ρ (.Call (.Name "len" pn) [e] [] pos) (iD n.length) := by
  obtain ⟨f, fd, g1, g2, g3⟩ := F.ex
  exact be_lenO g1.at_ g1.fn g2 hr g3 hc hg hm ⟨n, dl, rfl, rfl⟩ hn h he
theorem be_eqX {n : Net} {l : List (List Net)} (F : FnO X.prog X.w X.K X.mg X.base C "__eq__" 1 ["self", "other"] R_eq) (hr : Room 1 X.A) (ha : BE X C ρ a (objD (encN n) (encLs l))) (hb : BE X C ρ b (objD (encN n) (encLs l))) : BE X C ρ (.Compare a [.Eq] [b] pos) (.bool true) := by
  obtain ⟨f, fd, g1, g2, g3⟩ := F.ex
  exact be_eqO g1.at_ g1.fn g2 hr g3 ha hb ⟨n, l, n, l, rfl, by simp⟩
end
section
variable {P : Program} {w : World} {K : PySem.W.Frag} {mg : Str → Option Value} {base : Heap} {C : Addr}
abbrev sLaw : Stmt := topS 35
abbrev nLaw : List Str := ["_law_script", "_law_draw_here", "_law_parts", "_law_found", "_law_layer", "_law_layers", "_law_at", "_law_net", "_law_bent"]
theorem scLaw : FnScope nLaw ["_law_script"] (defScope sLaw) := ⟨rfl, rfl, rfl, by decide +kernel, rfl, by decide +kernel, by decide +kernel⟩
def spLaw (K : PySem.W.Frag) : Sp := fun vs H Q _ => ∃ (a : Addr) (ns : List Int), vs = [.ref a] ∧ SqL K H a (ns.map V.int) ∧ ns.length ≤ 63 ∧ ∀ H', Q (.bl true) H'
/-- behind the parts' drawing -/
theorem law_rest {f : Addr} {cdv : Value} {A : Around} {outer : List Env} {s : Shared} {H : Hp} {E : XK} (hr : Room 4 (A.deeper (envOfC "law" (defScope sLaw) s.heap.objs.size f cdv))) (T : TxtB mg) (TC : ClsF K C) (FNx : FnX P w K mg base "_law_next" 3 ["_law_draw_here", "_law_bound"] (spNext K C)) (FPk : FnX P w K mg base "_law_pick" 4 ["_law_draw_here", "_law_things"] (spPick K C))
    (FLe : FnB P w K mg base C "least_net" 4 ["parts"] R_least) (FLs : FnB P w K mg base C "_law_least" 2 ["_law_parts"] R_lst) (FRt : FnB P w K mg base C "_law_right" 2 ["_law_parts", "_law_told"] R_rt) (FI : FnI P w K mg base C)
    (FS : FnO P w K mg base C "shows" 4 ["self", "parts"] R_shw) (FL : FnO P w K mg base C "__len__" 1 ["self"] R_len) (FE : FnO P w K mg base C "__eq__" 1 ["self", "other"] R_eq) (ns : List Int) {p : List Nat} {net : Net} {ls : List (List Net)} (Fa : Facts p net ls) :
    ∀ k : Int, 0 ≤ k → BSs (cxOf CX0 P w K mg base nLaw "law" (defScope sLaw) f cdv A outer s H E).nox C [.no, .ow (drw ns k), .im (seqD false p), .no, .no, .no, .no, .no, .no] ((defBody sLaw).drop 2) (.rt (.bool true)) := by
  intro k hk
  have hu := Room.units hr
  have hr2 : Room 2 (A.deeper (envOfC "law" (defScope sLaw) s.heap.objs.size f cdv)) := hr.mono (by decide)
  have hr1 : Room 1 (A.deeper (envOfC "law" (defScope sLaw) s.heap.objs.size f cdv)) := hr.mono (by decide)
  have sz := Fa.size
  have pk : PartsOk p := Fa.parts
  obtain ⟨z1, z2, z3⟩ := Fa.lens
  -- found = least_net(parts)
  refine bss_cons (bs_set 3 scLaw.nd (d := objD (encN net) (encLs ls)) (be_callF FLe hr (ba_cons (be_var 2) ba_nil) ⟨false, p, net, ls, rfl, pk, Fa.least, rfl⟩)) ?_
  -- more than 20 nets: never
  refine bss_if (q := false) (bt_eq (bt_gt (be_sumL (ns := ls.map fun l => (l.length : Int)) rfl (by rfl) T.sum (bl_bf (bf_eq (bf_map ls encNs (fun l => iD l.length) (fun l => [.no, .ow (drw ns k), .im (seqD false p), .im (objD (encN net) (encLs ls)), .im (encNs l), .no, .no, .no, .no]) [4] (own := [("_law_layer", 4)]) rfl scLaw.nd (bim_list (be_layers TC (be_var 3))).bi
    (blkOk_by (N := nLaw) (sc := defScope sLaw) (by decide +kernel)) (by decide) (fun l hl s H Cc cl fp => bg_name 4 scLaw.nd) (fun l hl s H Cc cl fp => be_eq (be_lenL (by rfl) T.len (bl_im (be_var 4))) (by rw [List.length_map]; rfl)) (by omega)) (by rw [List.map_map]; rfl)))) be_int) ?_) (fun hq => nomatch hq) fun _ => ?_
  · rw [sum_lens]
    have := Fa.many
    exact decide_eq_false (by omega)
  -- the tests of the least net
  refine bss_if (q := false) (bt_eq (bt_bw (bw_or (c := false) (bt_eq (bt_neD hu (be_lenX (k := 0) FL hr2 rfl (by rfl) T.len (be_var 3) (by omega)) (be_callF FLs hr2 (ba_cons (be_var 2) ba_nil) ⟨false, p, net.length, rfl, pk, Fa.law, rfl⟩) (enc_i.sh (by decide) net.length) (enc_i.sh (by decide) net.length)) (by rw [enc_i.eq]; simp)) fun _ =>
    bw_or (c := false) (bt_eq (bt_neD hu (be_eq (be_lenL (by rfl) T.len (bl_im (be_net TC (be_var 3)))) (by rw [List.length_map]; rfl)) (be_lenX (k := 0) FL hr2 rfl (by rfl) T.len (be_var 3) (by omega)) (enc_i.sh (by decide) net.length) (enc_i.sh (by decide) net.length)) (by rw [enc_i.eq]; simp)) fun _ =>
    bw_or (c := false) (bt_eq (bt_not (bt_val (be_callF FRt hr2 (ba_cons (be_var 2) (ba_cons (be_var 3) ba_nil)) ⟨false, p, net, ls, rfl, pk, sz, rfl⟩))) (by rw [Fa.right]; rfl)) fun _ =>
    bw_or1 (bt_eq (bt_not (bt_val (be_methO TC FS hr (by decide) (by decide) (be_var 3) (ba_cons (be_tupleL (by rfl) T.tuple (bl_im (be_var 2))) ba_nil) ⟨true, p, net, ls, rfl, pk, sz, rfl⟩))) (by rw [Fa.shows]; rfl)))) rfl) (fun hq => nomatch hq) fun _ => ?_
  have hr3 : Room 3 (A.deeper (envOfC "law" (defScope sLaw) s.heap.objs.size f cdv)) := hr.mono (by decide)
  -- no exchange at all
  refine bss_if (q := decide (net = [])) (bt_eq (bt_eqD hu (be_net TC (be_var 3)) (be_lst ba_nil) (enc_N.sh (by decide) net) (enc_N.sh (by decide) [])) (by rw [show PyData.list [] = encN [] from rfl, enc_N.eq])) (fun hq => ?_) (fun hq => ?_)
  · have hq := of_decide_eq_true hq
    obtain ⟨hl, hsh⟩ := Fa.nil hq
    subst hq
    subst hl
    refine bss_one (bs_ret (be_eq (be_and (c := true) (be_eq (be_eqD hu (be_layers TC (be_var 3)) (be_lst ba_nil) (enc_Ls.sh (by decide) []) (enc_Ls.sh (by decide) [])) (by rw [show PyData.list [] = encLs [] from rfl, enc_Ls.eq]; rfl)) fun _ =>
      be_and (c := true) (be_eqX (n := []) (l := []) FE hr1 (be_new (t := false) (n := []) (l := []) FI hr2 (be_eq (be_lst ba_nil) rfl) (be_eq (be_lst ba_nil) rfl) (by decide) (fun y hy => nomatch hy)) (be_var 3)) fun _ =>
      be_one (be_eq (be_not (be_methO TC FS hr (by decide) (by decide) (be_new (t := false) (n := []) (l := [[[]]]) FI hr2 (be_eq (be_lst ba_nil) rfl) (be_eq (be_lst (ba_cons (be_lst (ba_cons (be_lst ba_nil) ba_nil)) ba_nil)) rfl) (by decide) (by decide)) (ba_cons (be_var 2) ba_nil) ⟨false, p, [], [[[]]], rfl, pk, ⟨by decide, by decide, by decide⟩, rfl⟩)) (by rw [hsh]; rfl))) rfl))
  have hne : net ≠ [] := fun h => by rw [h] at hq; exact absurd hq (by decide)
  have hpos := Fa.pos hne
  -- layers = [list(layer) for layer in found.layers]
  refine bss_cons (bs_eq (bs_setLcF 5 ls encNs (fun _ => true) encNs (fun l => [.no, .ow (drw ns k), .im (seqD false p), .im (objD (encN net) (encLs ls)), .im (encNs l), .no, .no, .no, .no]) [4] (own := [("_law_layer", 4)]) rfl scLaw.nd rfl rfl rfl (bim_list (be_layers TC (be_var 3))).bi
    (blkOk_by (N := nLaw) (sc := defScope sLaw) (by decide +kernel)) (by decide) (fun l hl s H Cc cl fp => bg_name 4 scLaw.nd) (fun l hl s H Cc cl fp => bts_nil) (fun l hl _ s H Cc cl fp => be_listL (by rfl) T.list (bl_im (be_var 4))) (by omega)) (by rw [filter_all])) ?_
  -- at = next(draw, len(layers))
  have D6 : Dr 1 ns (fun k => [.no, .ow (drw ns k), .im (seqD false p), .im (objD (encN net) (encLs ls)), .no, .ow (ls.map encNs), .no, .no, .no]) := ⟨fun k => rfl, fun k k' => rfl⟩
  refine bssd_cons (R := fun k => [.no, .ow (drw ns k), .im (seqD false p), .im (objD (encN net) (encLs ls)), .no, .ow (ls.map encNs), .no, .no, .no]) (bsd_set 6 scLaw.nd D6 (bd_next FNx hr3 D6 (n := ls.length) (fun k => be_eq (be_lenL (by rfl) T.len (bl_own 5)) (by rw [List.length_map])) hpos)) ?_ k hk
  rintro R' ⟨d, ⟨at_, hat, rfl⟩, rfl⟩ k hk
  have hget : (ls.map encNs)[at_]? = some (encNs (ls.getD at_ [])) := by
    rw [List.getElem?_map, List.getD_eq_getElem?_getD, List.getElem?_eq_getElem hat]
    rfl
  have hg10 : (ls.getD at_ []).length ≤ 10 := by
    rw [List.getD_eq_getElem?_getD, List.getElem?_eq_getElem hat]
    exact (z3 _ (List.getElem_mem hat)).1
  have D7 : Dr 1 ns (fun k => [.no, .ow (drw ns k), .im (seqD false p), .im (objD (encN net) (encLs ls)), .no, .ow (ls.map encNs), .im (iD at_), .no, .no]) := ⟨fun k => rfl, fun k k' => rfl⟩
  refine bssd_cons (R := fun k => [.no, .ow (drw ns k), .im (seqD false p), .im (objD (encN net) (encLs ls)), .no, .ow (ls.map encNs), .im (iD at_), .no, .no]) (bsd_store (S := fun d => ∃ l', d = encNs l' ∧ ls.set at_ l' ∈ bendAt net ls at_) 5 (k0 := at_) (ds := ls.map encNs) (fun k => rfl) D7
    (bd_if (bdt_eq (i := 0) (bd_next FNx hr3 D7 (n := 2) (fun k => be_int) (by decide)) (by rintro d ⟨i, _, rfl⟩; exact ⟨i, rfl⟩) (fun k => be_int))
      (bd_mono (bd_be (fun k => be_slFrom (i := ((1 : Nat) : Int)) (bl_im (be_ixL (k := at_) (d := encNs (ls.getD at_ [])) (bl_own 5) (be_var 6) rfl hget)) be_int)) (by
        rintro d rfl
        exact ⟨(ls.getD at_ []).drop 1, by rw [cut_drop, ← List.map_drop]; rfl, List.mem_cons_self⟩))
      (bd_mono (bd_cat1 (ds := (ls.getD at_ []).map encN) D7 (fun k => be_ixL (k := at_) (d := encNs (ls.getD at_ [])) (bl_own 5) (be_var 6) rfl hget) (bd_pick FPk hr D7 (ds := ([[], net, net.take at_, net.reverse.take at_] : List Net).map encN) (fun k => be_lst (ba_cons (be_lst ba_nil) (ba_cons (be_net TC (be_var 3)) (ba_cons (be_eq (be_slTo (i := (at_ : Int)) (bl_im (be_net TC (be_var 3))) (be_var 6)) (by rw [cut_take, ← List.map_take]; rfl)) (ba_cons (be_eq (be_slTo (i := (at_ : Int)) (bl_im (be_revL (bl_im (be_net TC (be_var 3))))) (be_var 6)) (by rw [cut_take, ← List.map_reverse, ← List.map_take]; rfl)) ba_nil))))) (by simp)) (by rw [List.length_map]; omega)) (by
        rintro d ⟨x, hx, rfl⟩
        obtain ⟨m, hm, rfl⟩ := List.mem_map.mp hx
        exact ⟨ls.getD at_ [] ++ [m], by unfold encNs; rw [List.map_append]; rfl, List.mem_cons_of_mem _ (List.mem_map.mpr ⟨m, hm, rfl⟩)⟩)))
    (fun k => be_var 6) rfl (by rw [List.length_map]; exact hat)) ?_ k hk
  rintro R' ⟨d, ⟨l', rfl, hl'⟩, rfl⟩ k hk
  have e5 : (ls.map encNs).set at_ (encNs l') = (ls.set at_ l').map encNs := by rw [List.map_set]
  show BSs (cxOf CX0 P w K mg base nLaw "law" (defScope sLaw) f cdv A outer s H E).nox C [.no, .ow (drw ns k), .im (seqD false p), .im (objD (encN net) (encLs ls)), .no, .ow ((ls.map encNs).set at_ (encNs l')), .im (iD at_), .no, .no] ((defBody sLaw).drop 9) _
  rw [e5]
  have hl2 : ls.set at_ l' = ls ∨ ∃ k, k < ls.length ∧ ls.set at_ l' ∈ bendAt net ls k := .inr ⟨at_, hat, hl'⟩
  obtain ⟨b1, b2⟩ := Fa.bendSize hl'
  generalize ls.set at_ l' = l2 at *
  refine bss_freeze 5 rfl ?_
  show BSs (cxOf CX0 P w K mg base nLaw "law" (defScope sLaw) f cdv A outer s H E).nox C [.no, .ow (drw ns k), .im (seqD false p), .im (objD (encN net) (encLs ls)), .no, .im (encLs l2), .im (iD at_), .no, .no] ((defBody sLaw).drop 9) _
  -- net = pick(draw, [..])
  have D8 : Dr 1 ns (fun k => [.no, .ow (drw ns k), .im (seqD false p), .im (objD (encN net) (encLs ls)), .no, .im (encLs l2), .im (iD at_), .no, .no]) := ⟨fun k => rfl, fun k k' => rfl⟩
  refine bssd_cons (R := fun k => [.no, .ow (drw ns k), .im (seqD false p), .im (objD (encN net) (encLs ls)), .no, .im (encLs l2), .im (iD at_), .no, .no]) (bsd_set 7 scLaw.nd D8 (bd_pick FPk hr D8 (ds := (netVars net).map encN) (fun k => be_lst (ba_cons (be_net TC (be_var 3)) (ba_cons (be_eq (be_revL (bl_im (be_net TC (be_var 3)))) (by rw [← List.map_reverse]; rfl)) (ba_cons (be_eq (be_slTo (i := -1) (bl_im (be_net TC (be_var 3))) (be_neg be_int)) (by rw [cut_last, ← List.map_dropLast]; rfl)) (ba_cons (be_eq (be_catL (ds := net.map encX) (be_net TC (be_var 3)) (be_slTo (i := ((1 : Nat) : Int)) (bl_im (be_net TC (be_var 3))) be_int) (by rw [cut_take, List.length_map, List.length_take, List.length_map]; omega)) (by rw [cut_take, ← List.map_take, ← List.map_append]; rfl)) ba_nil)))) (show 4 ≤ 1000000 by decide)) (by unfold netVars; simp))) ?_ k hk
  rintro R' ⟨d, hd, rfl⟩ k hk
  obtain ⟨m, hm, rfl⟩ := List.mem_map.mp hd
  show BSs (cxOf CX0 P w K mg base nLaw "law" (defScope sLaw) f cdv A outer s H E).nox C [.no, .ow (drw ns k), .im (seqD false p), .im (objD (encN net) (encLs ls)), .no, .im (encLs l2), .im (iD at_), .im (encN m), .no] ((defBody sLaw).drop 10) _
  have self_ : net ∈ netVars net := by unfold netVars; simp
  -- for bent in (pick(draw, [..]),)
  have D9 : Dr 1 ns (fun k => [.no, .ow (drw ns k), .im (seqD false p), .im (objD (encN net) (encLs ls)), .no, .im (encLs l2), .im (iD at_), .im (encN m), .no]) := ⟨fun k => rfl, fun k k' => rfl⟩
  have l2s : ∀ y ∈ l2, y.length ≤ 1000 := fun y hy => by have := (b2 y hy).1; omega
  have lss : ∀ y ∈ ls, y.length ≤ 1000 := fun y hy => by have := (z3 y hy).1; omega
  refine bssd_cons (R := fun k => [.no, .ow (drw ns k), .im (seqD false p), .im (objD (encN net) (encLs ls)), .no, .im (encLs l2), .im (iD at_), .im (encN m), .no]) (bsd_for1 (S := fun d => ∃ m' l', d = objD (encN m') (encLs l') ∧ m' ∈ netVars net ∧ (l' = ls ∨ l' = l2)) (R2 := fun x k => [.no, .ow (drw ns k), .im (seqD false p), .im (objD (encN net) (encLs ls)), .no, .im (encLs l2), .im (iD at_), .im (encN m), .im x]) (ts := [8]) PassesOwn.never rfl D9
    (bd_tup1 (bd_mono (bd_pick FPk hr D9 (ds := [objD (encN net) (encLs l2), objD (encN m) (encLs ls), objD (encN m) (encLs l2)]) (fun k => be_lst (ba_cons (be_new (t := false) (n := net) (l := l2) FI hr2 (be_eq (be_net TC (be_var 3)) rfl) (be_var 5) (by omega) l2s) (ba_cons (be_new (t := false) (n := m) (l := ls) FI hr2 (be_eq (be_var 7) rfl) (be_layers TC (be_var 3)) (by omega) lss) (ba_cons (be_new (t := false) (n := m) (l := l2) FI hr2 (be_eq (be_var 7) rfl) (be_var 5) (by omega) l2s) ba_nil)))) (by simp)) (by
      intro d hd
      simp only [List.mem_cons, List.not_mem_nil, or_false] at hd
      rcases hd with rfl | rfl | rfl
      · exact ⟨net, l2, rfl, self_, .inr rfl⟩
      · exact ⟨m, ls, rfl, hm, .inl rfl⟩
      · exact ⟨m, l2, rfl, hm, .inr rfl⟩))) ?_) ?_ k hk
  · rintro x k ⟨m', l', rfl, hm', hl3⟩ hk
    have sz' : SizeOk m' l' := by
      have hml := netVars_len hm'
      rcases hl3 with rfl | rfl
      · exact ⟨by omega, sz.2.1, sz.2.2⟩
      · exact ⟨by omega, by omega, fun y hy => ⟨by have := (b2 y hy).1; omega, fun q hq => by have := (b2 y hy).2 q hq; omega⟩⟩
    have eb : showsM p m' l' = rightM p m' l' := Fa.bent hm' (by
      rcases hl3 with rfl | rfl
      · exact .inl rfl
      · exact hl2)
    refine ⟨_, bg_name 8 scLaw.nd, ?_⟩
    refine bss_one (bs_if (q := false) (bt_eq (bt_neD hu (be_methO TC FS hr (by decide) (by decide) (be_var 8) (ba_cons (be_var 2) ba_nil) ⟨false, p, m', l', rfl, pk, sz', rfl⟩) (be_callF FRt hr2 (ba_cons (be_var 2) (ba_cons (be_var 8) ba_nil)) ⟨false, p, m', l', rfl, pk, sz', rfl⟩) (by cases showsM p m' l' <;> decide +kernel) (by cases rightM p m' l' <;> decide +kernel)) ?_) (fun hq => nomatch hq) fun _ => bss_nil)
    rw [eb]
    cases rightM p m' l' <;> decide +kernel
  rintro R' ⟨x, hx, rfl⟩ k hk
  show BSs (cxOf CX0 P w K mg base nLaw "law" (defScope sLaw) f cdv A outer s H E).nox C [.no, .ow (drw ns k), .im (seqD false p), .im (objD (encN net) (encLs ls)), .no, .im (encLs l2), .im (iD at_), .im (encN m), .im x] ((defBody sLaw).drop 11) _
  refine bss_one (bs_ret (be_eq (be_and (c := true) (be_eqX FE hr1 (be_new (t := true) (n := net) (l := ls) FI hr2 (be_eq (be_tupleL (by rfl) T.tuple (bl_im (be_net TC (be_var 3)))) rfl) (be_layers TC (be_var 3)) (by omega) lss) (be_var 3)) fun _ =>
    be_one (be_methO TC FS hr (by decide) (by decide) (be_callF FLe hr (ba_cons (be_tupleL (by rfl) T.tuple (bl_im (be_var 2))) ba_nil) ⟨true, p, net, ls, rfl, pk, Fa.least, rfl⟩) (ba_cons (be_var 2) ba_nil) ⟨false, p, net, ls, rfl, pk, sz, rfl⟩)) ?_))
  rw [Fa.shows]
  rfl
end
end G6

set_option Elab.async false
set_option linter.all false
set_option maxRecDepth 100000
set_option maxHeartbeats 400000
namespace G6
open PySem PySem.Spec PyProof.Rows L2
section
variable {P : Program} {w : World} {K : PySem.W.Frag} {mg : Str → Option Value} {base : Heap} {C : Addr}
/-- parts = pick(draw, things), the things under any name -/
theorem draw_parts {X : Cx} {j i : Nat} {R : Int → REnv} {ns : List Int} {L : List (List Int)} {x y q : Str} {p1 p2 p3 pos pos2 : Pos} {e0 : Expr} {k0 : Nat} {ps : List Str} (F : FnX X.prog X.w X.K X.mg X.base y k0 ps (spPick X.K C)) (hr : Room k0 X.A) (D : Dr j ns R) (hl : litL e0 = some L) (hne : L.map (fun ns => PyData.list (ns.map PyData.int)) ≠ []) (hNd : X.N.Nodup)
    (hi : X.N[i]? = some q) (hx : Loc X.env.scope q) (hf : X.fn q = true ∨ X.env.scope.names.lookup q = some .local) (hs : swapsWith (.Call (.Name y p1) [.Name x p2, e0] [] pos) (some (.Name q p3)) pos2.line X.env = pure false)
    (hg : Gl X y) (hN : X.N[j]? = some x) (hv : Vis X.env.scope x) (hd : (x == ("__debug__" : Str)) = false) (hcd : (x == ("__classdict__" : Str)) = false) (hdb : (y == ("__debug__" : Str)) = false)
    (h1 : starEach [e0] X.env = [(false, eval e0 X.env)]) (h2 : starEach [.Name x p2, e0] X.env = (false, eval (.Name x p2) X.env) :: starEach [e0] X.env) (h3 : (backTo pos (starEach [e0] X.env)).any (·.1) = false) :
    BSD X C R (.Assign [.Name q p3] (.Call (.Name y p1) [.Name x p2, e0] [] pos) pos2) (fun R' => ∃ d, d ∈ L.map (fun ns => PyData.list (ns.map PyData.int)) ∧ R' = fun k => (R k).set i (.im d)) :=
  bsd_set i hNd D (bd_pick F hr D (fun k => be_litL hl) hne hg hN hv hd hcd hdb h1 h2 h3) hi hx hs hf
theorem ok_law {f : Addr} {fd : FuncData} (F : Fun K "law" "law" sLaw f fd) (T : TxtB mg) (TC : ClsF K C) (FNx : FnX P w K mg base "_law_next" 3 ["_law_draw_here", "_law_bound"] (spNext K C)) (FPk : FnX P w K mg base "_law_pick" 4 ["_law_draw_here", "_law_things"] (spPick K C))
    (FLe : FnB P w K mg base C "least_net" 4 ["parts"] R_least) (FLs : FnB P w K mg base C "_law_least" 2 ["_law_parts"] R_lst) (FRt : FnB P w K mg base C "_law_right" 2 ["_law_parts", "_law_told"] R_rt) (FI : FnI P w K mg base C)
    (FS : FnO P w K mg base C "shows" 4 ["self", "parts"] R_shw) (FL : FnO P w K mg base C "__len__" 1 ["self"] R_len) (FE : FnO P w K mg base C "__eq__" 1 ["self", "other"] R_eq) : FnOk P w K mg base CX0 5 f fd ["_law_script"] (spLaw K) := by
  refine F.ok scLaw (fun vs H Q E h => ?_) (fun cdv A outer s H vs Q E hr h => ?_)
  · obtain ⟨a, ns, rfl, _⟩ := h
    rfl
  · obtain ⟨a, ns, rfl, hS, hlen, kq⟩ := h
    refine ⟨_, pss_cons (ps_set (i := 1) scLaw.nd rfl (Or.inl rfl) (pe_lst (pa_cons (pe_slice sl_list (pv 0) po_none (po_some pe_int)) (pa_cons pe_int (pa_cons pe_int pa_nil))))) (pss_sem _), ?_⟩
    refine ⟨_, rfl, 63, rfl, a, _, rfl, hS, fun q hq => ⟨line_of (show 3 ≤ 1000000 by decide), fun m hm => ?_⟩⟩
    obtain ⟨ms, hms⟩ := cutV_ints ns none (some 63)
    rw [hms] at hm ⊢
    have E0 : EnvS K C [] H [] H (L2.start nLaw [.ref a]) [.no, .no, .no, .no, .no, .no, .no, .no, .no] := by
      have z : ∀ {i : Nat} {e : Sl}, ([.no, .no, .no, .no, .no, .no, .no, .no, .no] : List Sl)[i]? = some e → e = .no := fun {i e} h => by
        have := List.mem_of_getElem? h
        simpa using this
      refine ⟨⟨Own.nil H, rfl, fun i e hi => ?_, fun i j di dj l h1 _ _ _ => ?_⟩, Same.refl H, fun _ h => h, fun i ds l h1 _ => ?_⟩
      · rw [z hi]; trivial
      · cases z h1
      · cases z h1
    have nqm : q ≠ m := fun e => by rw [← e, upd_same] at hm; cases hm
    have hm0 : H m = none := by rw [upd_ne (Ne.symm nqm)] at hm; exact hm
    have sm : Same H (upd (upd H q (.lst (ms.map V.int))) m (.lst [.ref q, .int 0, .int 0])) := (same_new hq).trans (same_new hm)
    have hq2 : Msk [m] (upd (upd H q (.lst (ms.map V.int))) m (.lst [.ref q, .int 0, .int 0])) q = some (.lst (ms.map V.int)) := by
      rw [msk_nin (by simpa using nqm), upd_ne nqm, upd_same]
    obtain ⟨E1, _⟩ := E0.put (i := 1) (l := m) (vs := [.ref q, .int 0, .int 0]) (ds := drw ms 0) sm hm0 upd_same (.cons (.lst hq2 (dnAll_ints ms)) (.cons (.int 0) (.cons (.int 0) .nil)))
    have D1 : Dr 1 ms (fun k => [.no, .ow (drw ms k), .no, .no, .no, .no, .no, .no, .no]) := ⟨fun k => rfl, fun k k' => rfl⟩
    have hl : litL (argE (stE (stAt (defBody sLaw) 1)) 1) = some partsI := rfl
    have g1 : starEach [argE (stE (stAt (defBody sLaw) 1)) 1] (cxOf CX0 P w K mg base nLaw "law" (defScope sLaw) f cdv A outer s H E).nox.env = [(false, eval (argE (stE (stAt (defBody sLaw) 1)) 1) (cxOf CX0 P w K mg base nLaw "law" (defScope sLaw) f cdv A outer s H E).nox.env)] := rfl
    have body : ∀ k : Int, 0 ≤ k → BSs (cxOf CX0 P w K mg base nLaw "law" (defScope sLaw) f cdv A outer s H E).nox C [.no, .ow (drw ms k), .no, .no, .no, .no, .no, .no, .no] ((defBody sLaw).drop 1) (.rt (.bool true)) := by
      show ∀ k : Int, 0 ≤ k → BSs (cxOf CX0 P w K mg base nLaw "law" (defScope sLaw) f cdv A outer s H E).nox C [.no, .ow (drw ms k), .no, .no, .no, .no, .no, .no, .no] (.Assign [.Name "_law_parts" _] (.Call (.Name "_law_pick" _) [.Name "_law_draw_here" _, argE (stE (stAt (defBody sLaw) 1)) 1] [] _) _ :: (defBody sLaw).drop 2) (.rt (.bool true))
      generalize argE (stE (stAt (defBody sLaw) 1)) 1 = e0 at hl g1 ⊢
      refine bssd_cons (R := fun k => [.no, .ow (drw ms k), .no, .no, .no, .no, .no, .no, .no]) (draw_parts (i := 2) (j := 1) (ns := ms) (L := partsI) FPk hr D1 hl (by simp [partsI]) scLaw.nd rfl (Or.inl rfl) (.inr rfl) rfl rfl rfl (Or.inl rfl) (by decide) (by decide) (by decide) g1 rfl (by rw [g1]; rfl)) ?_
      rintro R' ⟨d, hd, rfl⟩ k hk
      obtain ⟨p, hp, rfl⟩ := parts_of hd
      obtain ⟨net, ls, Fa⟩ := facts_all p hp
      exact law_rest hr T TC FNx FPk FLe FLs FRt FI FS FL FE ms Fa k hk
    exact body 0 (Int.le_refl 0) [] H [m] _ _ _ (Own.nil H) E1 fun v H' s' q => by
      cases q.bl_inv
      exact kq H'
end
end G6

set_option Elab.async false
set_option linter.all false
set_option maxRecDepth 100000
set_option maxHeartbeats 4000000
namespace G6
open PySem PySem.Spec PyProof.Rows L2
/-! ### what the top has written, the head (printed by head24.py) -/
theorem all_mk {l : PySem.W.OpenLaw} {w : World} {K : PySem.W.Frag} {h : Heap} {mg : Str → Option Value} {fa C : Addr} (X : K.In h) (G : h.Ns mainGlobals mg) (hfa : mg "law" = some (.ref fa))
    {f_whole f_led f_check f_rows f_exc f_behind f_asc f_ord f_cnt f_cov f_next f_isc f_least f_cell f_draw f_num f_next2 f_pick f_part f_lled f_up f_pairs f_lord f_lcov f_lst f_rt f_law f_init f_eq f_len f_shw : Addr} {oc_whole kV_whole dc_whole pm_whole cd_whole ct_whole : Value} {od_whole an_whole : Option Addr} {sl_whole : Array (Option Value)} {oc_led kV_led dc_led pm_led cd_led ct_led : Value} {od_led an_led : Option Addr} {sl_led : Array (Option Value)} {oc_check kV_check dc_check pm_check cd_check ct_check : Value} {od_check an_check : Option Addr} {sl_check : Array (Option Value)} {oc_rows kV_rows dc_rows pm_rows cd_rows ct_rows : Value} {od_rows an_rows : Option Addr} {sl_rows : Array (Option Value)} {oc_exc kV_exc dc_exc pm_exc cd_exc ct_exc : Value} {od_exc an_exc : Option Addr} {sl_exc : Array (Option Value)} {oc_behind kV_behind dc_behind pm_behind cd_behind ct_behind : Value} {od_behind an_behind : Option Addr} {sl_behind : Array (Option Value)} {oc_asc kV_asc dc_asc pm_asc cd_asc ct_asc : Value} {od_asc an_asc : Option Addr} {sl_asc : Array (Option Value)} {oc_ord kV_ord dc_ord pm_ord cd_ord ct_ord : Value} {od_ord an_ord : Option Addr} {sl_ord : Array (Option Value)} {oc_cnt kV_cnt dc_cnt pm_cnt cd_cnt ct_cnt : Value} {od_cnt an_cnt : Option Addr} {sl_cnt : Array (Option Value)} {oc_cov kV_cov dc_cov pm_cov cd_cov ct_cov : Value} {od_cov an_cov : Option Addr} {sl_cov : Array (Option Value)} {oc_next kV_next dc_next pm_next cd_next ct_next : Value} {od_next an_next : Option Addr} {sl_next : Array (Option Value)} {oc_isc kV_isc dc_isc pm_isc cd_isc ct_isc : Value} {od_isc an_isc : Option Addr} {sl_isc : Array (Option Value)} {oc_least kV_least dc_least pm_least cd_least ct_least : Value} {od_least an_least : Option Addr} {sl_least : Array (Option Value)} {oc_cell kV_cell dc_cell pm_cell cd_cell ct_cell : Value} {od_cell an_cell : Option Addr} {sl_cell : Array (Option Value)} {oc_draw kV_draw dc_draw pm_draw cd_draw ct_draw : Value} {od_draw an_draw : Option Addr} {sl_draw : Array (Option Value)} {oc_num kV_num dc_num pm_num cd_num ct_num : Value} {od_num an_num : Option Addr} {sl_num : Array (Option Value)} {oc_next2 kV_next2 dc_next2 pm_next2 cd_next2 ct_next2 : Value} {od_next2 an_next2 : Option Addr} {sl_next2 : Array (Option Value)} {oc_pick kV_pick dc_pick pm_pick cd_pick ct_pick : Value} {od_pick an_pick : Option Addr} {sl_pick : Array (Option Value)} {oc_part kV_part dc_part pm_part cd_part ct_part : Value} {od_part an_part : Option Addr} {sl_part : Array (Option Value)} {oc_lled kV_lled dc_lled pm_lled cd_lled ct_lled : Value} {od_lled an_lled : Option Addr} {sl_lled : Array (Option Value)} {oc_up kV_up dc_up pm_up cd_up ct_up : Value} {od_up an_up : Option Addr} {sl_up : Array (Option Value)} {oc_pairs kV_pairs dc_pairs pm_pairs cd_pairs ct_pairs : Value} {od_pairs an_pairs : Option Addr} {sl_pairs : Array (Option Value)} {oc_lord kV_lord dc_lord pm_lord cd_lord ct_lord : Value} {od_lord an_lord : Option Addr} {sl_lord : Array (Option Value)} {oc_lcov kV_lcov dc_lcov pm_lcov cd_lcov ct_lcov : Value} {od_lcov an_lcov : Option Addr} {sl_lcov : Array (Option Value)} {oc_lst kV_lst dc_lst pm_lst cd_lst ct_lst : Value} {od_lst an_lst : Option Addr} {sl_lst : Array (Option Value)} {oc_rt kV_rt dc_rt pm_rt cd_rt ct_rt : Value} {od_rt an_rt : Option Addr} {sl_rt : Array (Option Value)} {oc_law kV_law dc_law pm_law cd_law ct_law : Value} {od_law an_law : Option Addr} {sl_law : Array (Option Value)} {oc_init kV_init dc_init pm_init cd_init ct_init : Value} {od_init an_init : Option Addr} {sl_init : Array (Option Value)} {oc_eq kV_eq dc_eq pm_eq cd_eq ct_eq : Value} {od_eq an_eq : Option Addr} {sl_eq : Array (Option Value)} {oc_len kV_len dc_len pm_len cd_len ct_len : Value} {od_len an_len : Option Addr} {sl_len : Array (Option Value)} {oc_shw kV_shw dc_shw pm_shw cd_shw ct_shw : Value} {od_shw an_shw : Option Addr} {sl_shw : Array (Option Value)} {tL : Nat}
    (aC : PySem.W.nsIn K mainGlobals "LeastNet" = some (some (.ref C)))
    (a_whole : PySem.W.nsIn K mainGlobals "is_whole" = some (some (.ref f_whole)))
    (l_whole : K.lookup f_whole = some ⟨oc_whole, od_whole, .func (PySem.W.fnOf "is_whole" "is_whole" (defArgs sWhole) (defBody sWhole) (defScope sWhole) .none kV_whole dc_whole pm_whole an_whole cd_whole ct_whole), sl_whole⟩)
    (c_whole : PySem.W.codeIn K cd_whole "is_whole" = true)
    (k_whole : PySem.W.keepIn K (.ref f_whole) = true)
    (a_led : PySem.W.nsIn K mainGlobals "led_through" = some (some (.ref f_led)))
    (l_led : K.lookup f_led = some ⟨oc_led, od_led, .func (PySem.W.fnOf "led_through" "led_through" (defArgs sLed) (defBody sLed) (defScope sLed) .none kV_led dc_led pm_led an_led cd_led ct_led), sl_led⟩)
    (c_led : PySem.W.codeIn K cd_led "led_through" = true)
    (k_led : PySem.W.keepIn K (.ref f_led) = true)
    (a_check : PySem.W.nsIn K mainGlobals "check_parts" = some (some (.ref f_check)))
    (l_check : K.lookup f_check = some ⟨oc_check, od_check, .func (PySem.W.fnOf "check_parts" "check_parts" (defArgs sCheck) (defBody sCheck) (defScope sCheck) .none kV_check dc_check pm_check an_check cd_check ct_check), sl_check⟩)
    (c_check : PySem.W.codeIn K cd_check "check_parts" = true)
    (k_check : PySem.W.keepIn K (.ref f_check) = true)
    (a_rows : PySem.W.nsIn K mainGlobals "rows_of" = some (some (.ref f_rows)))
    (l_rows : K.lookup f_rows = some ⟨oc_rows, od_rows, .func (PySem.W.fnOf "rows_of" "rows_of" (defArgs sRows) (defBody sRows) (defScope sRows) .none kV_rows dc_rows pm_rows an_rows cd_rows ct_rows), sl_rows⟩)
    (c_rows : PySem.W.codeIn K cd_rows "rows_of" = true)
    (k_rows : PySem.W.keepIn K (.ref f_rows) = true)
    (a_exc : PySem.W.nsIn K mainGlobals "exchanges_of" = some (some (.ref f_exc)))
    (l_exc : K.lookup f_exc = some ⟨oc_exc, od_exc, .func (PySem.W.fnOf "exchanges_of" "exchanges_of" (defArgs sExc) (defBody sExc) (defScope sExc) .none kV_exc dc_exc pm_exc an_exc cd_exc ct_exc), sl_exc⟩)
    (c_exc : PySem.W.codeIn K cd_exc "exchanges_of" = true)
    (k_exc : PySem.W.keepIn K (.ref f_exc) = true)
    (a_behind : PySem.W.nsIn K mainGlobals "behind" = some (some (.ref f_behind)))
    (l_behind : K.lookup f_behind = some ⟨oc_behind, od_behind, .func (PySem.W.fnOf "behind" "behind" (defArgs sBehind) (defBody sBehind) (defScope sBehind) .none kV_behind dc_behind pm_behind an_behind cd_behind ct_behind), sl_behind⟩)
    (c_behind : PySem.W.codeIn K cd_behind "behind" = true)
    (k_behind : PySem.W.keepIn K (.ref f_behind) = true)
    (a_asc : PySem.W.nsIn K mainGlobals "are_ascending" = some (some (.ref f_asc)))
    (l_asc : K.lookup f_asc = some ⟨oc_asc, od_asc, .func (PySem.W.fnOf "are_ascending" "are_ascending" (defArgs sAsc) (defBody sAsc) (defScope sAsc) .none kV_asc dc_asc pm_asc an_asc cd_asc ct_asc), sl_asc⟩)
    (c_asc : PySem.W.codeIn K cd_asc "are_ascending" = true)
    (k_asc : PySem.W.keepIn K (.ref f_asc) = true)
    (a_ord : PySem.W.nsIn K mainGlobals "orders_of" = some (some (.ref f_ord)))
    (l_ord : K.lookup f_ord = some ⟨oc_ord, od_ord, .func (PySem.W.fnOf "orders_of" "orders_of" (defArgs sOrd) (defBody sOrd) (defScope sOrd) .none kV_ord dc_ord pm_ord an_ord cd_ord ct_ord), sl_ord⟩)
    (c_ord : PySem.W.codeIn K cd_ord "orders_of" = true)
    (k_ord : PySem.W.keepIn K (.ref f_ord) = true)
    (a_cnt : PySem.W.nsIn K mainGlobals "counts_of" = some (some (.ref f_cnt)))
    (l_cnt : K.lookup f_cnt = some ⟨oc_cnt, od_cnt, .func (PySem.W.fnOf "counts_of" "counts_of" (defArgs sCnt) (defBody sCnt) (defScope sCnt) .none kV_cnt dc_cnt pm_cnt an_cnt cd_cnt ct_cnt), sl_cnt⟩)
    (c_cnt : PySem.W.codeIn K cd_cnt "counts_of" = true)
    (k_cnt : PySem.W.keepIn K (.ref f_cnt) = true)
    (a_cov : PySem.W.nsIn K mainGlobals "covers" = some (some (.ref f_cov)))
    (l_cov : K.lookup f_cov = some ⟨oc_cov, od_cov, .func (PySem.W.fnOf "covers" "covers" (defArgs sCov) (defBody sCov) (defScope sCov) .none kV_cov dc_cov pm_cov an_cov cd_cov ct_cov), sl_cov⟩)
    (c_cov : PySem.W.codeIn K cd_cov "covers" = true)
    (k_cov : PySem.W.keepIn K (.ref f_cov) = true)
    (a_next : PySem.W.nsIn K mainGlobals "next_layer" = some (some (.ref f_next)))
    (l_next : K.lookup f_next = some ⟨oc_next, od_next, .func (PySem.W.fnOf "next_layer" "next_layer" (defArgs sNext) (defBody sNext) (defScope sNext) .none kV_next dc_next pm_next an_next cd_next ct_next), sl_next⟩)
    (c_next : PySem.W.codeIn K cd_next "next_layer" = true)
    (k_next : PySem.W.keepIn K (.ref f_next) = true)
    (a_isc : PySem.W.nsIn K mainGlobals "is_covered" = some (some (.ref f_isc)))
    (l_isc : K.lookup f_isc = some ⟨oc_isc, od_isc, .func (PySem.W.fnOf "is_covered" "is_covered" (defArgs sIsc) (defBody sIsc) (defScope sIsc) .none kV_isc dc_isc pm_isc an_isc cd_isc ct_isc), sl_isc⟩)
    (c_isc : PySem.W.codeIn K cd_isc "is_covered" = true)
    (k_isc : PySem.W.keepIn K (.ref f_isc) = true)
    (a_least : PySem.W.nsIn K mainGlobals "least_net" = some (some (.ref f_least)))
    (l_least : K.lookup f_least = some ⟨oc_least, od_least, .func (PySem.W.fnOf "least_net" "least_net" (defArgs sLeast) (defBody sLeast) (defScope sLeast) .none kV_least dc_least pm_least an_least cd_least ct_least), sl_least⟩)
    (c_least : PySem.W.codeIn K cd_least "least_net" = true)
    (k_least : PySem.W.keepIn K (.ref f_least) = true)
    (a_cell : PySem.W.nsIn K mainGlobals "_law_cell_at" = some (some (.ref f_cell)))
    (l_cell : K.lookup f_cell = some ⟨oc_cell, od_cell, .func (PySem.W.fnOf "_law_cell_at" "_law_cell_at" (defArgs sCell) (defBody sCell) (defScope sCell) .none kV_cell dc_cell pm_cell an_cell cd_cell ct_cell), sl_cell⟩)
    (c_cell : PySem.W.codeIn K cd_cell "_law_cell_at" = true)
    (k_cell : PySem.W.keepIn K (.ref f_cell) = true)
    (a_draw : PySem.W.nsIn K mainGlobals "_law_draw" = some (some (.ref f_draw)))
    (l_draw : K.lookup f_draw = some ⟨oc_draw, od_draw, .func (PySem.W.fnOf "_law_draw" "_law_draw" (defArgs sDraw) (defBody sDraw) (defScope sDraw) .none kV_draw dc_draw pm_draw an_draw cd_draw ct_draw), sl_draw⟩)
    (c_draw : PySem.W.codeIn K cd_draw "_law_draw" = true)
    (k_draw : PySem.W.keepIn K (.ref f_draw) = true)
    (a_num : PySem.W.nsIn K mainGlobals "_law_number" = some (some (.ref f_num)))
    (l_num : K.lookup f_num = some ⟨oc_num, od_num, .func (PySem.W.fnOf "_law_number" "_law_number" (defArgs sNum) (defBody sNum) (defScope sNum) .none kV_num dc_num pm_num an_num cd_num ct_num), sl_num⟩)
    (c_num : PySem.W.codeIn K cd_num "_law_number" = true)
    (k_num : PySem.W.keepIn K (.ref f_num) = true)
    (a_next2 : PySem.W.nsIn K mainGlobals "_law_next" = some (some (.ref f_next2)))
    (l_next2 : K.lookup f_next2 = some ⟨oc_next2, od_next2, .func (PySem.W.fnOf "_law_next" "_law_next" (defArgs sNext2) (defBody sNext2) (defScope sNext2) .none kV_next2 dc_next2 pm_next2 an_next2 cd_next2 ct_next2), sl_next2⟩)
    (c_next2 : PySem.W.codeIn K cd_next2 "_law_next" = true)
    (k_next2 : PySem.W.keepIn K (.ref f_next2) = true)
    (a_pick : PySem.W.nsIn K mainGlobals "_law_pick" = some (some (.ref f_pick)))
    (l_pick : K.lookup f_pick = some ⟨oc_pick, od_pick, .func (PySem.W.fnOf "_law_pick" "_law_pick" (defArgs sPick) (defBody sPick) (defScope sPick) .none kV_pick dc_pick pm_pick an_pick cd_pick ct_pick), sl_pick⟩)
    (c_pick : PySem.W.codeIn K cd_pick "_law_pick" = true)
    (k_pick : PySem.W.keepIn K (.ref f_pick) = true)
    (a_part : PySem.W.nsIn K mainGlobals "_law_parted" = some (some (.ref f_part)))
    (l_part : K.lookup f_part = some ⟨oc_part, od_part, .func (PySem.W.fnOf "_law_parted" "_law_parted" (defArgs sPart) (defBody sPart) (defScope sPart) .none kV_part dc_part pm_part an_part cd_part ct_part), sl_part⟩)
    (c_part : PySem.W.codeIn K cd_part "_law_parted" = true)
    (k_part : PySem.W.keepIn K (.ref f_part) = true)
    (a_lled : PySem.W.nsIn K mainGlobals "_law_led" = some (some (.ref f_lled)))
    (l_lled : K.lookup f_lled = some ⟨oc_lled, od_lled, .func (PySem.W.fnOf "_law_led" "_law_led" (defArgs sLled) (defBody sLled) (defScope sLled) .none kV_lled dc_lled pm_lled an_lled cd_lled ct_lled), sl_lled⟩)
    (c_lled : PySem.W.codeIn K cd_lled "_law_led" = true)
    (k_lled : PySem.W.keepIn K (.ref f_lled) = true)
    (a_up : PySem.W.nsIn K mainGlobals "_law_up" = some (some (.ref f_up)))
    (l_up : K.lookup f_up = some ⟨oc_up, od_up, .func (PySem.W.fnOf "_law_up" "_law_up" (defArgs sUp) (defBody sUp) (defScope sUp) .none kV_up dc_up pm_up an_up cd_up ct_up), sl_up⟩)
    (c_up : PySem.W.codeIn K cd_up "_law_up" = true)
    (k_up : PySem.W.keepIn K (.ref f_up) = true)
    (a_pairs : PySem.W.nsIn K mainGlobals "_law_pairs" = some (some (.ref f_pairs)))
    (l_pairs : K.lookup f_pairs = some ⟨oc_pairs, od_pairs, .func (PySem.W.fnOf "_law_pairs" "_law_pairs" (defArgs sPairs) (defBody sPairs) (defScope sPairs) .none kV_pairs dc_pairs pm_pairs an_pairs cd_pairs ct_pairs), sl_pairs⟩)
    (c_pairs : PySem.W.codeIn K cd_pairs "_law_pairs" = true)
    (k_pairs : PySem.W.keepIn K (.ref f_pairs) = true)
    (a_lord : PySem.W.nsIn K mainGlobals "_law_orders" = some (some (.ref f_lord)))
    (l_lord : K.lookup f_lord = some ⟨oc_lord, od_lord, .func (PySem.W.fnOf "_law_orders" "_law_orders" (defArgs sLord) (defBody sLord) (defScope sLord) .none kV_lord dc_lord pm_lord an_lord cd_lord ct_lord), sl_lord⟩)
    (c_lord : PySem.W.codeIn K cd_lord "_law_orders" = true)
    (k_lord : PySem.W.keepIn K (.ref f_lord) = true)
    (a_lcov : PySem.W.nsIn K mainGlobals "_law_covers" = some (some (.ref f_lcov)))
    (l_lcov : K.lookup f_lcov = some ⟨oc_lcov, od_lcov, .func (PySem.W.fnOf "_law_covers" "_law_covers" (defArgs sLcov) (defBody sLcov) (defScope sLcov) .none kV_lcov dc_lcov pm_lcov an_lcov cd_lcov ct_lcov), sl_lcov⟩)
    (c_lcov : PySem.W.codeIn K cd_lcov "_law_covers" = true)
    (k_lcov : PySem.W.keepIn K (.ref f_lcov) = true)
    (a_lst : PySem.W.nsIn K mainGlobals "_law_least" = some (some (.ref f_lst)))
    (l_lst : K.lookup f_lst = some ⟨oc_lst, od_lst, .func (PySem.W.fnOf "_law_least" "_law_least" (defArgs sLst) (defBody sLst) (defScope sLst) .none kV_lst dc_lst pm_lst an_lst cd_lst ct_lst), sl_lst⟩)
    (c_lst : PySem.W.codeIn K cd_lst "_law_least" = true)
    (k_lst : PySem.W.keepIn K (.ref f_lst) = true)
    (a_rt : PySem.W.nsIn K mainGlobals "_law_right" = some (some (.ref f_rt)))
    (l_rt : K.lookup f_rt = some ⟨oc_rt, od_rt, .func (PySem.W.fnOf "_law_right" "_law_right" (defArgs sRt) (defBody sRt) (defScope sRt) .none kV_rt dc_rt pm_rt an_rt cd_rt ct_rt), sl_rt⟩)
    (c_rt : PySem.W.codeIn K cd_rt "_law_right" = true)
    (k_rt : PySem.W.keepIn K (.ref f_rt) = true)
    (a_law : PySem.W.nsIn K mainGlobals "law" = some (some (.ref f_law)))
    (l_law : K.lookup f_law = some ⟨oc_law, od_law, .func (PySem.W.fnOf "law" "law" (defArgs sLaw) (defBody sLaw) (defScope sLaw) .none kV_law dc_law pm_law an_law cd_law ct_law), sl_law⟩)
    (c_law : PySem.W.codeIn K cd_law "law" = true)
    (k_law : PySem.W.keepIn K (.ref f_law) = true)
    (a_init : PySem.W.findIn K (.ref C) "__init__" = some (some (.ref f_init)))
    (i_init : PySem.W.isFn K (.ref f_init) = true)
    (l_init : K.lookup f_init = some ⟨oc_init, od_init, .func (PySem.W.fnOf "__init__" "LeastNet.__init__" (defArgs sInit) (defBody sInit) (defScope sInit) .none kV_init dc_init pm_init an_init cd_init ct_init), sl_init⟩)
    (c_init : PySem.W.codeIn K cd_init "LeastNet.__init__" = true)
    (k_init : PySem.W.keepIn K (.ref f_init) = true)
    (a_eq : PySem.W.findIn K (.ref C) "__eq__" = some (some (.ref f_eq)))
    (i_eq : PySem.W.isFn K (.ref f_eq) = true)
    (l_eq : K.lookup f_eq = some ⟨oc_eq, od_eq, .func (PySem.W.fnOf "__eq__" "LeastNet.__eq__" (defArgs sEq) (defBody sEq) (defScope sEq) .none kV_eq dc_eq pm_eq an_eq cd_eq ct_eq), sl_eq⟩)
    (c_eq : PySem.W.codeIn K cd_eq "LeastNet.__eq__" = true)
    (k_eq : PySem.W.keepIn K (.ref f_eq) = true)
    (a_len : PySem.W.findIn K (.ref C) "__len__" = some (some (.ref f_len)))
    (i_len : PySem.W.isFn K (.ref f_len) = true)
    (l_len : K.lookup f_len = some ⟨oc_len, od_len, .func (PySem.W.fnOf "__len__" "LeastNet.__len__" (defArgs sLen) (defBody sLen) (defScope sLen) .none kV_len dc_len pm_len an_len cd_len ct_len), sl_len⟩)
    (c_len : PySem.W.codeIn K cd_len "LeastNet.__len__" = true)
    (k_len : PySem.W.keepIn K (.ref f_len) = true)
    (a_shw : PySem.W.findIn K (.ref C) "shows" = some (some (.ref f_shw)))
    (i_shw : PySem.W.isFn K (.ref f_shw) = true)
    (l_shw : K.lookup f_shw = some ⟨oc_shw, od_shw, .func (PySem.W.fnOf "shows" "LeastNet.shows" (defArgs sShw) (defBody sShw) (defScope sShw) .none kV_shw dc_shw pm_shw an_shw cd_shw ct_shw), sl_shw⟩)
    (c_shw : PySem.W.codeIn K cd_shw "LeastNet.shows" = true)
    (k_shw : PySem.W.keepIn K (.ref f_shw) = true)
    (pg : PySem.W.plainGet K C Str.empty = true)
    (hd : PySem.W.hasDictIn K C = true)
    (po : PySem.W.plainOver K C = true)
    (sa : PySem.W.findIn K (.ref C) "__setattr__" = some (some (.builtin "object.__setattr__")))
    (mk : PySem.W.makesIn K C = true)
    (kc : PySem.W.keepIn K (.ref C) = true)
    (nN : PySem.W.findIn K (.ref C) "net" = some none)
    (nL : PySem.W.findIn K (.ref C) "layers" = some none)
    (ha : PySem.W.findIn K (.ref C) "__class__" = some (some (.builtin "object.__class__")))
    (hn : PySem.W.specialIn K (.builtin "object.__class__") "__get__" = some (some (.builtin "getset_descriptor.__get__")))
    (ht : PySem.W.takesIn K (.builtin "object.__class__") = some true)
    (hm : PySem.W.mroIn K C (.type "object") = some true)
    (mL : PySem.W.nsIn K mainGlobals "MOST_LANES" = some (some (.int 5 tL)))
    (z_isinstance : PySem.W.nsIn K mainGlobals "isinstance" = some none)
    (z_int : PySem.W.nsIn K mainGlobals "int" = some none)
    (z_bool : PySem.W.nsIn K mainGlobals "bool" = some none)
    (z_list : PySem.W.nsIn K mainGlobals "list" = some none)
    (z_tuple : PySem.W.nsIn K mainGlobals "tuple" = some none)
    (z_all : PySem.W.nsIn K mainGlobals "all" = some none)
    (z_any : PySem.W.nsIn K mainGlobals "any" = some none)
    (z_sum : PySem.W.nsIn K mainGlobals "sum" = some none)
    (z_range : PySem.W.nsIn K mainGlobals "range" = some none)
    (z_sorted : PySem.W.nsIn K mainGlobals "sorted" = some none)
    (z_set : PySem.W.nsIn K mainGlobals "set" = some none)
    (z_zip : PySem.W.nsIn K mainGlobals "zip" = some none)
    (z_max : PySem.W.nsIn K mainGlobals "max" = some none)
    (z_len : PySem.W.nsIn K mainGlobals "len" = some none)
    (z_enumerate : PySem.W.nsIn K mainGlobals "enumerate" = some none)
    : ∃ fd : FuncData, (∀ (s : Shared) (v : Value), BindsTo s fd ⟨[v], []⟩ [("_law_script", v)]) ∧ ∀ base : Heap, K.In base → base.Ns mainGlobals mg → FnOk l.prog w K mg base CX0 5 fa fd ["_law_script"] (spLaw K) := by
  have e := hfa.symm.trans (PySem.W.mg_of X G a_law)
  cases e
  have T : TxtB mg := ⟨PySem.W.mg_none_of X G z_isinstance, PySem.W.mg_none_of X G z_int, PySem.W.mg_none_of X G z_bool, PySem.W.mg_none_of X G z_list, PySem.W.mg_none_of X G z_tuple, PySem.W.mg_none_of X G z_all, PySem.W.mg_none_of X G z_any, PySem.W.mg_none_of X G z_sum, PySem.W.mg_none_of X G z_range, PySem.W.mg_none_of X G z_sorted, PySem.W.mg_none_of X G z_set, PySem.W.mg_none_of X G z_zip, PySem.W.mg_none_of X G z_max, PySem.W.mg_none_of X G z_len, PySem.W.mg_none_of X G z_enumerate⟩
  have TC : ClsF K C := ⟨⟨pg, hd, po, sa⟩, nN, nL, ha, hn, ht, hm⟩
  have mC : mg "LeastNet" = some (.ref C) := PySem.W.mg_of X G aC
  have mM : ∃ t, mg "MOST_LANES" = some (.int 5 t) := ⟨tL, PySem.W.mg_of X G mL⟩
  have F_whole := fun_mk (st := sWhole) l_whole c_whole k_whole
  have b_whole := F_whole.binds (ps := ["thing"]) fun _ _ _ _ _ _ us hl => match us, hl with | [_], _ => rfl
  have F_led := fun_mk (st := sLed) l_led c_led k_led
  have b_led := F_led.binds (ps := ["net", "row"]) fun _ _ _ _ _ _ us hl => match us, hl with | [_, _], _ => rfl
  have F_check := fun_mk (st := sCheck) l_check c_check k_check
  have b_check := F_check.binds (ps := ["parts"]) fun _ _ _ _ _ _ us hl => match us, hl with | [_], _ => rfl
  have F_rows := fun_mk (st := sRows) l_rows c_rows k_rows
  have b_rows := F_rows.binds (ps := ["parts"]) fun _ _ _ _ _ _ us hl => match us, hl with | [_], _ => rfl
  have F_exc := fun_mk (st := sExc) l_exc c_exc k_exc
  have b_exc := F_exc.binds (ps := ["width"]) fun _ _ _ _ _ _ us hl => match us, hl with | [_], _ => rfl
  have F_behind := fun_mk (st := sBehind) l_behind c_behind k_behind
  have b_behind := F_behind.binds (ps := ["rows", "net"]) fun _ _ _ _ _ _ us hl => match us, hl with | [_, _], _ => rfl
  have F_asc := fun_mk (st := sAsc) l_asc c_asc k_asc
  have b_asc := F_asc.binds (ps := ["rows"]) fun _ _ _ _ _ _ us hl => match us, hl with | [_], _ => rfl
  have F_ord := fun_mk (st := sOrd) l_ord c_ord k_ord
  have b_ord := F_ord.binds (ps := ["width"]) fun _ _ _ _ _ _ us hl => match us, hl with | [_], _ => rfl
  have F_cnt := fun_mk (st := sCnt) l_cnt c_cnt k_cnt
  have b_cnt := F_cnt.binds (ps := ["rows"]) fun _ _ _ _ _ _ us hl => match us, hl with | [_], _ => rfl
  have F_cov := fun_mk (st := sCov) l_cov c_cov k_cov
  have b_cov := F_cov.binds (ps := ["one", "other", "orders"]) fun _ _ _ _ _ _ us hl => match us, hl with | [_, _, _], _ => rfl
  have F_next := fun_mk (st := sNext) l_next c_next k_next
  have b_next := F_next.binds (ps := ["layer", "width", "orders"]) fun _ _ _ _ _ _ us hl => match us, hl with | [_, _, _], _ => rfl
  have F_isc := fun_mk (st := sIsc) l_isc c_isc k_isc
  have b_isc := F_isc.binds (ps := ["one", "other", "exchanges", "orders"]) fun _ _ _ _ _ _ us hl => match us, hl with | [_, _, _, _], _ => rfl
  have F_least := fun_mk (st := sLeast) l_least c_least k_least
  have b_least := F_least.binds (ps := ["parts"]) fun _ _ _ _ _ _ us hl => match us, hl with | [_], _ => rfl
  have F_cell := fun_mk (st := sCell) l_cell c_cell k_cell
  have b_cell := F_cell.binds (ps := ["_law_script", "_law_k"]) fun _ _ _ _ _ _ us hl => match us, hl with | [_, _], _ => rfl
  have F_draw := fun_mk (st := sDraw) l_draw c_draw k_draw
  have b_draw := F_draw.binds (ps := ["_law_cell", "_law_k", "_law_bound"]) fun _ _ _ _ _ _ us hl => match us, hl with | [_, _, _], _ => rfl
  have F_num := fun_mk (st := sNum) l_num c_num k_num
  have b_num := F_num.binds (ps := ["_law_cell", "_law_k", "_law_bound"]) fun _ _ _ _ _ _ us hl => match us, hl with | [_, _, _], _ => rfl
  have F_next2 := fun_mk (st := sNext2) l_next2 c_next2 k_next2
  have b_next2 := F_next2.binds (ps := ["_law_draw_here", "_law_bound"]) fun _ _ _ _ _ _ us hl => match us, hl with | [_, _], _ => rfl
  have F_pick := fun_mk (st := sPick) l_pick c_pick k_pick
  have b_pick := F_pick.binds (ps := ["_law_draw_here", "_law_things"]) fun _ _ _ _ _ _ us hl => match us, hl with | [_, _], _ => rfl
  have F_part := fun_mk (st := sPart) l_part c_part k_part
  have b_part := F_part.binds (ps := ["_law_parts"]) fun _ _ _ _ _ _ us hl => match us, hl with | [_], _ => rfl
  have F_lled := fun_mk (st := sLled) l_lled c_lled k_lled
  have b_lled := F_lled.binds (ps := ["_law_rows", "_law_net"]) fun _ _ _ _ _ _ us hl => match us, hl with | [_, _], _ => rfl
  have F_up := fun_mk (st := sUp) l_up c_up k_up
  have b_up := F_up.binds (ps := ["_law_rows"]) fun _ _ _ _ _ _ us hl => match us, hl with | [_], _ => rfl
  have F_pairs := fun_mk (st := sPairs) l_pairs c_pairs k_pairs
  have b_pairs := F_pairs.binds (ps := ["_law_width"]) fun _ _ _ _ _ _ us hl => match us, hl with | [_], _ => rfl
  have F_lord := fun_mk (st := sLord) l_lord c_lord k_lord
  have b_lord := F_lord.binds (ps := ["_law_width"]) fun _ _ _ _ _ _ us hl => match us, hl with | [_], _ => rfl
  have F_lcov := fun_mk (st := sLcov) l_lcov c_lcov k_lcov
  have b_lcov := F_lcov.binds (ps := ["_law_less", "_law_more", "_law_orders_here"]) fun _ _ _ _ _ _ us hl => match us, hl with | [_, _, _], _ => rfl
  have F_lst := fun_mk (st := sLst) l_lst c_lst k_lst
  have b_lst := F_lst.binds (ps := ["_law_parts"]) fun _ _ _ _ _ _ us hl => match us, hl with | [_], _ => rfl
  have F_rt := fun_mk (st := sRt) l_rt c_rt k_rt
  have b_rt := F_rt.binds (ps := ["_law_parts", "_law_told"]) fun _ _ _ _ _ _ us hl => match us, hl with | [_, _], _ => rfl
  have F_law := fun_mk (st := sLaw) l_law c_law k_law
  have F_init := fun_mk (st := sInit) l_init c_init k_init
  have b_init := F_init.binds (ps := ["self", "net", "layers"]) fun _ _ _ _ _ _ us hl => match us, hl with | [_, _, _], _ => rfl
  have F_eq := fun_mk (st := sEq) l_eq c_eq k_eq
  have b_eq := F_eq.binds (ps := ["self", "other"]) fun _ _ _ _ _ _ us hl => match us, hl with | [_, _], _ => rfl
  have F_len := fun_mk (st := sLen) l_len c_len k_len
  have b_len := F_len.binds (ps := ["self"]) fun _ _ _ _ _ _ us hl => match us, hl with | [_], _ => rfl
  have F_shw := fun_mk (st := sShw) l_shw c_shw k_shw
  have b_shw := F_shw.binds (ps := ["self", "parts"]) fun _ _ _ _ _ _ us hl => match us, hl with | [_, _], _ => rfl
  refine ⟨PySem.W.fnOf "law" "law" (defArgs sLaw) (defBody sLaw) (defScope sLaw) .none kV_law dc_law pm_law an_law cd_law ct_law, fun s v => .of_eq rfl, fun base _ _ => ?_⟩
  have B_whole : FnB l.prog w K mg base C "is_whole" 1 ["thing"] R_whole := ⟨⟨_, _, ok_whole F_whole T TC, PySem.W.mg_of X G a_whole, k_whole, b_whole⟩⟩
  have B_led : FnB l.prog w K mg base C "led_through" 1 ["net", "row"] R_led := ⟨⟨_, _, ok_led F_led T, PySem.W.mg_of X G a_led, k_led, b_led⟩⟩
  have B_check : FnB l.prog w K mg base C "check_parts" 2 ["parts"] R_check := ⟨⟨_, _, ok_check F_check T TC mM B_whole, PySem.W.mg_of X G a_check, k_check, b_check⟩⟩
  have B_rows : FnB l.prog w K mg base C "rows_of" 1 ["parts"] R_rows := ⟨⟨_, _, ok_rows F_rows T, PySem.W.mg_of X G a_rows, k_rows, b_rows⟩⟩
  have B_exc : FnB l.prog w K mg base C "exchanges_of" 1 ["width"] R_exc := ⟨⟨_, _, ok_exc F_exc T, PySem.W.mg_of X G a_exc, k_exc, b_exc⟩⟩
  have B_behind : FnB l.prog w K mg base C "behind" 2 ["rows", "net"] R_behind := ⟨⟨_, _, ok_behind F_behind T B_led, PySem.W.mg_of X G a_behind, k_behind, b_behind⟩⟩
  have B_asc : FnB l.prog w K mg base C "are_ascending" 1 ["rows"] R_asc := ⟨⟨_, _, ok_asc F_asc T, PySem.W.mg_of X G a_asc, k_asc, b_asc⟩⟩
  have B_ord : FnB l.prog w K mg base C "orders_of" 1 ["width"] R_ord := ⟨⟨_, _, ok_ord F_ord T, PySem.W.mg_of X G a_ord, k_ord, b_ord⟩⟩
  have B_cnt : FnB l.prog w K mg base C "counts_of" 1 ["rows"] R_cnt := ⟨⟨_, _, ok_cnt F_cnt T, PySem.W.mg_of X G a_cnt, k_cnt, b_cnt⟩⟩
  have B_cov : FnB l.prog w K mg base C "covers" 2 ["one", "other", "orders"] R_cov := ⟨⟨_, _, ok_cov F_cov T B_cnt, PySem.W.mg_of X G a_cov, k_cov, b_cov⟩⟩
  have B_next : FnB l.prog w K mg base C "next_layer" 3 ["layer", "width", "orders"] R_next := ⟨⟨_, _, ok_next F_next T B_exc B_behind B_cov, PySem.W.mg_of X G a_next, k_next, b_next⟩⟩
  have B_isc : FnB l.prog w K mg base C "is_covered" 3 ["one", "other", "exchanges", "orders"] R_isc := ⟨⟨_, _, ok_isc F_isc T B_behind B_cov, PySem.W.mg_of X G a_isc, k_isc, b_isc⟩⟩
  have B_init : FnI l.prog w K mg base C := ⟨⟨_, _, ⟨mk, a_init, i_init, kc⟩, ok_init F_init T TC, mC, b_init⟩⟩
  have B_least : FnB l.prog w K mg base C "least_net" 4 ["parts"] R_least := ⟨⟨_, _, ok_least F_least T TC B_check B_rows B_ord B_asc B_next B_init, PySem.W.mg_of X G a_least, k_least, b_least⟩⟩
  have B_eq : FnO l.prog w K mg base C "__eq__" 1 ["self", "other"] R_eq := ⟨⟨_, _, ⟨a_eq, i_eq, k_eq⟩, ok_eq F_eq T TC mC, b_eq⟩⟩
  have B_len : FnO l.prog w K mg base C "__len__" 1 ["self"] R_len := ⟨⟨_, _, ⟨a_len, i_len, k_len⟩, ok_len F_len T TC, b_len⟩⟩
  have B_shw : FnO l.prog w K mg base C "shows" 4 ["self", "parts"] R_shw := ⟨⟨_, _, ⟨a_shw, i_shw, k_shw⟩, ok_shw F_shw T TC B_check B_rows B_exc B_ord B_asc B_behind B_isc, b_shw⟩⟩
  have B_part : FnB l.prog w K mg base C "_law_parted" 1 ["_law_parts"] R_part := ⟨⟨_, _, ok_part F_part T, PySem.W.mg_of X G a_part, k_part, b_part⟩⟩
  have B_lled : FnB l.prog w K mg base C "_law_led" 1 ["_law_rows", "_law_net"] R_lled := ⟨⟨_, _, ok_lled F_lled T, PySem.W.mg_of X G a_lled, k_lled, b_lled⟩⟩
  have B_up : FnB l.prog w K mg base C "_law_up" 1 ["_law_rows"] R_up := ⟨⟨_, _, ok_up F_up T, PySem.W.mg_of X G a_up, k_up, b_up⟩⟩
  have B_pairs : FnB l.prog w K mg base C "_law_pairs" 1 ["_law_width"] R_exc := ⟨⟨_, _, ok_pairs F_pairs T, PySem.W.mg_of X G a_pairs, k_pairs, b_pairs⟩⟩
  have B_lord : FnB l.prog w K mg base C "_law_orders" 1 ["_law_width"] R_ord := ⟨⟨_, _, ok_lord F_lord T, PySem.W.mg_of X G a_lord, k_lord, b_lord⟩⟩
  have B_lcov : FnB l.prog w K mg base C "_law_covers" 1 ["_law_less", "_law_more", "_law_orders_here"] R_lcov := ⟨⟨_, _, ok_lcov F_lcov T, PySem.W.mg_of X G a_lcov, k_lcov, b_lcov⟩⟩
  have B_lst : FnB l.prog w K mg base C "_law_least" 2 ["_law_parts"] R_lst := ⟨⟨_, _, ok_lst F_lst T B_part B_lled B_up B_pairs, PySem.W.mg_of X G a_lst, k_lst, b_lst⟩⟩
  have B_rt : FnB l.prog w K mg base C "_law_right" 2 ["_law_parts", "_law_told"] R_rt := ⟨⟨_, _, ok_rt F_rt T TC B_part B_lled B_up B_pairs B_lord B_lcov, PySem.W.mg_of X G a_rt, k_rt, b_rt⟩⟩
  have B_cell : FnB l.prog w K mg base C "_law_cell_at" 1 ["_law_script", "_law_k"] R_cell := ⟨⟨_, _, ok_cell F_cell T, PySem.W.mg_of X G a_cell, k_cell, b_cell⟩⟩
  have B_draw : FnB l.prog w K mg base C "_law_draw" 1 ["_law_cell", "_law_k", "_law_bound"] R_draw := ⟨⟨_, _, ok_draw F_draw T, PySem.W.mg_of X G a_draw, k_draw, b_draw⟩⟩
  have B_num : FnB l.prog w K mg base C "_law_number" 2 ["_law_cell", "_law_k", "_law_bound"] R_num := ⟨⟨_, _, ok_num F_num T B_draw, PySem.W.mg_of X G a_num, k_num, b_num⟩⟩
  have B_next2 : FnX l.prog w K mg base "_law_next" 3 ["_law_draw_here", "_law_bound"] (spNext K C) := ⟨⟨_, _, ok_next2 F_next2 T B_cell B_num, PySem.W.mg_of X G a_next2, k_next2, b_next2⟩⟩
  have B_pick : FnX l.prog w K mg base "_law_pick" 4 ["_law_draw_here", "_law_things"] (spPick K C) := ⟨⟨_, _, ok_pick F_pick T B_next2, PySem.W.mg_of X G a_pick, k_pick, b_pick⟩⟩
  exact ok_law F_law T TC B_next2 B_pick B_least B_lst B_rt B_init B_shw B_len B_eq
theorem walk {l : PySem.W.OpenLaw} {q : Program} {loose : List Str} {XP : (Str → Option Value) → Heap → Prop} {YP : World → Heap → Prop} {d : DefRec} {K : Params → PySem.W.Frag} (hn : l.most = some 63) (hdf : d.params.defaults = [])
    (hY : ∀ (w : World) (h : Heap), YP w h → (K w.params).In h)
    (F : ∀ (w : World) (mg : Str → Option Value) (fa : Addr) (h : Heap), (K w.params).In h → h.Ns mainGlobals mg → mg d.name = some (.ref fa) →
      ∃ fd : FuncData, (∀ (s : Shared) (u : Value), BindsTo s fd ⟨[u], []⟩ [("_law_script", u)]) ∧ ∀ base : Heap, (K w.params).In base → base.Ns mainGlobals mg → FnOk l.prog w (K w.params) mg base CX0 5 fa fd ["_law_script"] (spLaw (K w.params))) :
    PySem.W.WalkO q loose XP YP l.row.toRowW d [] (fun f vs => PySem.call f vs) :=
  L2.walk_of (n := 63) (k := 5) (x := "_law_script") (CX := fun _ => CX0) (sp := fun w => spLaw (K w.params)) hn (by decide) hdf ⟨rfl, by decide, by decide⟩ hY F (fun _ _ a ns hl _ hS => ⟨a, ns, rfl, hS, hl, fun _ => rfl⟩) fun _ _ _ _ _ z => z
end G6

set_option Elab.async false
set_option linter.all false
set_option maxRecDepth 100000
open PySem PySem.W PyProof.Rows in
set_option maxRecDepth 100000 in
set_option maxHeartbeats 0 in
theorem PySem.Challenge.cw_strandloom_k60_whole_fewest_holds : PySem.Challenge.rw_strandloom_k60_whole_fewest.Holds := by
  w_on; o_law; k_head; (case hw => w_witness2)
  k_fill
  refine G6.walk (l := PySem.Challenge.rw_strandloom_k60_whole_fewest) rfl rfl (fun w h Y => PySem.W.kIn_of Y) ?F
  case F =>
    intro w mg fa h KX G hmg
    refine' G6.all_mk KX G hmg ?aC ?a_whole ?l_whole ?c_whole ?k_whole ?a_led ?l_led ?c_led ?k_led ?a_check ?l_check ?c_check ?k_check ?a_rows ?l_rows ?c_rows ?k_rows ?a_exc ?l_exc ?c_exc ?k_exc ?a_behind ?l_behind ?c_behind ?k_behind ?a_asc ?l_asc ?c_asc ?k_asc ?a_ord ?l_ord ?c_ord ?k_ord ?a_cnt ?l_cnt ?c_cnt ?k_cnt ?a_cov ?l_cov ?c_cov ?k_cov ?a_next ?l_next ?c_next ?k_next ?a_isc ?l_isc ?c_isc ?k_isc ?a_least ?l_least ?c_least ?k_least ?a_cell ?l_cell ?c_cell ?k_cell ?a_draw ?l_draw ?c_draw ?k_draw ?a_num ?l_num ?c_num ?k_num ?a_next2 ?l_next2 ?c_next2 ?k_next2 ?a_pick ?l_pick ?c_pick ?k_pick ?a_part ?l_part ?c_part ?k_part ?a_lled ?l_lled ?c_lled ?k_lled ?a_up ?l_up ?c_up ?k_up ?a_pairs ?l_pairs ?c_pairs ?k_pairs ?a_lord ?l_lord ?c_lord ?k_lord ?a_lcov ?l_lcov ?c_lcov ?k_lcov ?a_lst ?l_lst ?c_lst ?k_lst ?a_rt ?l_rt ?c_rt ?k_rt ?a_law ?l_law ?c_law ?k_law ?a_init ?i_init ?l_init ?c_init ?k_init ?a_eq ?i_eq ?l_eq ?c_eq ?k_eq ?a_len ?i_len ?l_len ?c_len ?k_len ?a_shw ?i_shw ?l_shw ?c_shw ?k_shw ?pg ?hd ?po ?sa ?mk ?kc ?nN ?nL ?ha ?hn ?ht ?hm ?mL ?z_isinstance ?z_int ?z_bool ?z_list ?z_tuple ?z_all ?z_any ?z_sum ?z_range ?z_sorted ?z_set ?z_zip ?z_max ?z_len ?z_enumerate
    (case aC => k_is)
    (case a_whole => k_is)
    (case l_whole => k_is)
    (case c_whole => k_is)
    (case k_whole => k_is)
    (case a_led => k_is)
    (case l_led => k_is)
    (case c_led => k_is)
    (case k_led => k_is)
    (case a_check => k_is)
    (case l_check => k_is)
    (case c_check => k_is)
    (case k_check => k_is)
    (case a_rows => k_is)
    (case l_rows => k_is)
    (case c_rows => k_is)
    (case k_rows => k_is)
    (case a_exc => k_is)
    (case l_exc => k_is)
    (case c_exc => k_is)
    (case k_exc => k_is)
    (case a_behind => k_is)
    (case l_behind => k_is)
    (case c_behind => k_is)
    (case k_behind => k_is)
    (case a_asc => k_is)
    (case l_asc => k_is)
    (case c_asc => k_is)
    (case k_asc => k_is)
    (case a_ord => k_is)
    (case l_ord => k_is)
    (case c_ord => k_is)
    (case k_ord => k_is)
    (case a_cnt => k_is)
    (case l_cnt => k_is)
    (case c_cnt => k_is)
    (case k_cnt => k_is)
    (case a_cov => k_is)
    (case l_cov => k_is)
    (case c_cov => k_is)
    (case k_cov => k_is)
    (case a_next => k_is)
    (case l_next => k_is)
    (case c_next => k_is)
    (case k_next => k_is)
    (case a_isc => k_is)
    (case l_isc => k_is)
    (case c_isc => k_is)
    (case k_isc => k_is)
    (case a_least => k_is)
    (case l_least => k_is)
    (case c_least => k_is)
    (case k_least => k_is)
    (case a_cell => k_is)
    (case l_cell => k_is)
    (case c_cell => k_is)
    (case k_cell => k_is)
    (case a_draw => k_is)
    (case l_draw => k_is)
    (case c_draw => k_is)
    (case k_draw => k_is)
    (case a_num => k_is)
    (case l_num => k_is)
    (case c_num => k_is)
    (case k_num => k_is)
    (case a_next2 => k_is)
    (case l_next2 => k_is)
    (case c_next2 => k_is)
    (case k_next2 => k_is)
    (case a_pick => k_is)
    (case l_pick => k_is)
    (case c_pick => k_is)
    (case k_pick => k_is)
    (case a_part => k_is)
    (case l_part => k_is)
    (case c_part => k_is)
    (case k_part => k_is)
    (case a_lled => k_is)
    (case l_lled => k_is)
    (case c_lled => k_is)
    (case k_lled => k_is)
    (case a_up => k_is)
    (case l_up => k_is)
    (case c_up => k_is)
    (case k_up => k_is)
    (case a_pairs => k_is)
    (case l_pairs => k_is)
    (case c_pairs => k_is)
    (case k_pairs => k_is)
    (case a_lord => k_is)
    (case l_lord => k_is)
    (case c_lord => k_is)
    (case k_lord => k_is)
    (case a_lcov => k_is)
    (case l_lcov => k_is)
    (case c_lcov => k_is)
    (case k_lcov => k_is)
    (case a_lst => k_is)
    (case l_lst => k_is)
    (case c_lst => k_is)
    (case k_lst => k_is)
    (case a_rt => k_is)
    (case l_rt => k_is)
    (case c_rt => k_is)
    (case k_rt => k_is)
    (case a_law => k_is)
    (case l_law => k_is)
    (case c_law => k_is)
    (case k_law => k_is)
    (case a_init => k_is)
    (case i_init => k_is)
    (case l_init => k_is)
    (case c_init => k_is)
    (case k_init => k_is)
    (case a_eq => k_is)
    (case i_eq => k_is)
    (case l_eq => k_is)
    (case c_eq => k_is)
    (case k_eq => k_is)
    (case a_len => k_is)
    (case i_len => k_is)
    (case l_len => k_is)
    (case c_len => k_is)
    (case k_len => k_is)
    (case a_shw => k_is)
    (case i_shw => k_is)
    (case l_shw => k_is)
    (case c_shw => k_is)
    (case k_shw => k_is)
    (case pg => k_is)
    (case hd => k_is)
    (case po => k_is)
    (case sa => k_is)
    (case mk => k_is)
    (case kc => k_is)
    (case nN => k_is)
    (case nL => k_is)
    (case ha => k_is)
    (case hn => k_is)
    (case ht => k_is)
    (case hm => k_is)
    (case mL => k_is)
    (case z_isinstance => k_is)
    (case z_int => k_is)
    (case z_bool => k_is)
    (case z_list => k_is)
    (case z_tuple => k_is)
    (case z_all => k_is)
    (case z_any => k_is)
    (case z_sum => k_is)
    (case z_range => k_is)
    (case z_sorted => k_is)
    (case z_set => k_is)
    (case z_zip => k_is)
    (case z_max => k_is)
    (case z_len => k_is)
    (case z_enumerate => k_is)

