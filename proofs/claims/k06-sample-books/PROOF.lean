import PyProof.Rows.All
import Wide.All
import OpenK.AllK
import Wide.FinOn
import HandS.ForMost
import HandS.Evl
import HandS.Star
import HandS.Flow
import HandS.TupAny
import HandS.IsInst
import HandS.FStr
import HandS.DictComp
import HandS.Property
import HandS.TryOnly
import HandS.Style
import HandS.Walk
import HandS.Deep
import HandS.WordsDict
import HandS.RaiseMore
import HandS.More
import KE.KCallOwn
import HandS.SetFor
import KE.GoesMore
import PyProof.EnumMake
import PySem.Challenge.RW_fewfaces_k06_sample_books
section
set_option Elab.async false
set_option linter.all false
set_option maxRecDepth 100000
set_option maxHeartbeats 4000000
/-! D layer 1: data, what represents a datum, the state relation. -/
namespace DL
open PySem L2

/-- data: frozen trees, with mutable things (cells) by number -/
inductive D where
  | non | bl (b : Bool) | int (i : Int) | str (x : Str)
  | tup (xs : List D) | lst (xs : List D) | rls (xs : List D)
  | dct (ks : List Key) (xs : List D)
  | obj (c : Nat) (ks : List Str) (xs : List D)
  | cell (n : Nat) | ty (n : String) | cls (c : Nat)

mutual
/-- only cells below n are named -/
def D.blw (n : Nat) : D → Bool
  | .cell c => decide (c < n)
  | .tup xs => belowL n xs
  | .lst xs => belowL n xs
  | .rls xs => belowL n xs
  | .dct _ xs => belowL n xs
  | .obj _ _ xs => belowL n xs
  | _ => true
def belowL (n : Nat) : List D → Bool
  | [] => true
  | x :: xs => x.blw n && belowL n xs
end
/-- what is fixed: the written part, the addresses of the classes -/
structure Glob where
  K : PySem.W.Frag
  ca : Nat → Addr

mutual
inductive Rep (G : Glob) (F : Hp) (m : List Addr) : V → D → Prop
  | non : Rep G F m .non .non
  | bl (b : Bool) : Rep G F m (.bl b) (.bl b)
  | int (i : Int) : Rep G F m (.int i) (.int i)
  | str (x : Str) : Rep G F m (.str x) (.str x)
  | tup {a : Addr} {vs : List V} {ds : List D} (h : SqT G.K F a vs) (r : Reps G F m vs ds) : Rep G F m (.ref a) (.tup ds)
  | lst {a : Addr} {vs : List V} {ds : List D} (h : F a = some (.lst vs)) (r : Reps G F m vs ds) : Rep G F m (.ref a) (.lst ds)
  | rls {a : Addr} {vs : List V} {ds : List D} (h : SqL G.K F a vs) (r : Reps G F m vs ds) : Rep G F m (.ref a) (.rls ds)
  | dct {a : Addr} {ks : List Key} {vs : List V} {ds : List D} (h : F a = some (.dK (ks.zip vs))) (l : ks.length = vs.length) (r : Reps G F m vs ds) : Rep G F m (.ref a) (.dct ks ds)
  | obj {a dx : Addr} {c : Nat} {ks : List Str} {vs : List V} {ds : List D} (h : F a = some (.ins (G.ca c) dx (ks.zip vs))) (l : ks.length = vs.length) (r : Reps G F m vs ds) : Rep G F m (.ref a) (.obj c ks ds)
  | cell {a : Addr} {n : Nat} (h : m[n]? = some a) : Rep G F m (.ref a) (.cell n)
  | ty (n : String) : Rep G F m (.ty n) (.ty n)
  | cls (c : Nat) : Rep G F m (.ref (G.ca c)) (.cls c)
inductive Reps (G : Glob) (F : Hp) (m : List Addr) : List V → List D → Prop
  | nil : Reps G F m [] []
  | cons {v : V} {d : D} {vs : List V} {ds : List D} (h : Rep G F m v d) (t : Reps G F m vs ds) : Reps G F m (v :: vs) (d :: ds)
end

abbrev Ex := Evl.Ex
theorem pre_get {α : Type} {m m' : List α} (p : m <+: m') {n : Nat} {a : α} (h : m[n]? = some a) : m'[n]? = some a := by
  obtain ⟨t, rfl⟩ := p
  rw [List.getElem?_append_left (List.getElem?_eq_some_iff.mp h).1]
  exact h
theorem nd_ix {α : Type} {N : List α} (hN : N.Nodup) {i j : Nat} {x : α} (a : N[i]? = some x) (b : N[j]? = some x) : i = j := by
  obtain ⟨h1, e1⟩ := List.getElem?_eq_some_iff.mp a
  obtain ⟨h2, e2⟩ := List.getElem?_eq_some_iff.mp b
  exact (List.getElem_inj hN).mp (e1.trans e2.symm)
mutual
theorem Rep.mono {G : Glob} {F F' : Hp} {m m' : List Addr} (e : Ex F F') (p : m <+: m') : ∀ {v : V} {d : D}, Rep G F m v d → Rep G F' m' v d
  | _, _, .non => .non
  | _, _, .bl b => .bl b
  | _, _, .int i => .int i
  | _, _, .str x => .str x
  | _, _, .tup h r => .tup (Evl.ex_t e h) (Reps.mono e p r)
  | _, _, .lst h r => .lst (e _ _ h) (Reps.mono e p r)
  | _, _, .rls h r => .rls (Evl.ex_l e h) (Reps.mono e p r)
  | _, _, .dct h l r => .dct (e _ _ h) l (Reps.mono e p r)
  | _, _, .obj h l r => .obj (e _ _ h) l (Reps.mono e p r)
  | _, _, .cell h => .cell (pre_get p h)
  | _, _, .ty n => .ty n
  | _, _, .cls c => .cls c
theorem Reps.mono {G : Glob} {F F' : Hp} {m m' : List Addr} (e : Ex F F') (p : m <+: m') : ∀ {vs : List V} {ds : List D}, Reps G F m vs ds → Reps G F' m' vs ds
  | _, _, .nil => .nil
  | _, _, .cons h t => .cons (Rep.mono e p h) (Reps.mono e p t)
end

section
variable {G : Glob} {F F' H H' : Hp} {m m' : List Addr} {cs cs' : List D}
theorem Reps.length : ∀ {vs : List V} {ds : List D}, Reps G F m vs ds → vs.length = ds.length
  | _, _, .nil => rfl
  | _, _, .cons _ t => by simp [Reps.length t]
theorem Reps.get : ∀ {vs : List V} {ds : List D} {i : Nat} {d : D}, Reps G F m vs ds → ds[i]? = some d → ∃ v, vs[i]? = some v ∧ Rep G F m v d
  | _, _, _, _, .nil, e => by simp at e
  | _, _, 0, _, .cons h _, e => by simp at e; subst e; exact ⟨_, rfl, h⟩
  | _, _, i + 1, _, .cons _ t, e => by
    obtain ⟨v, h1, h2⟩ := Reps.get (i := i) t (by simpa using e)
    exact ⟨v, by simpa using h1, h2⟩
theorem Reps.getV : ∀ {vs : List V} {ds : List D} {i : Nat} {v : V}, Reps G F m vs ds → vs[i]? = some v → ∃ d, ds[i]? = some d ∧ Rep G F m v d
  | _, _, _, _, .nil, e => by simp at e
  | _, _, 0, _, .cons h _, e => by simp at e; subst e; exact ⟨_, rfl, h⟩
  | _, _, i + 1, _, .cons _ t, e => by
    obtain ⟨v, h1, h2⟩ := Reps.getV (i := i) t (by simpa using e)
    exact ⟨v, by simpa using h1, h2⟩
theorem Reps.append : ∀ {vs ws : List V} {ds es : List D}, Reps G F m vs ds → Reps G F m ws es → Reps G F m (vs ++ ws) (ds ++ es)
  | _, _, _, _, .nil, s => s
  | _, _, _, _, .cons h t, s => .cons h (Reps.append t s)
theorem Reps.take : ∀ {vs : List V} {ds : List D} (n : Nat), Reps G F m vs ds → Reps G F m (vs.take n) (ds.take n)
  | _, _, 0, _ => .nil
  | _, _, _ + 1, .nil => .nil
  | _, _, n + 1, .cons r t => .cons r (Reps.take n t)
theorem Reps.drop : ∀ {vs : List V} {ds : List D} (n : Nat), Reps G F m vs ds → Reps G F m (vs.drop n) (ds.drop n)
  | _, _, 0, r => r
  | _, _, _ + 1, .nil => .nil
  | _, _, n + 1, .cons _ t => Reps.drop n t
theorem Reps.set {v : V} {d : D} (r : Rep G F m v d) : ∀ {vs : List V} {ds : List D} (i : Nat), Reps G F m vs ds → Reps G F m (vs.set i v) (ds.set i d)
  | _, _, _, .nil => .nil
  | _, _, 0, .cons _ t => .cons r t
  | _, _, i + 1, .cons q t => .cons q (Reps.set r i t)
theorem Reps.erase : ∀ {vs : List V} {ds : List D} (i : Nat), Reps G F m vs ds → Reps G F m (vs.eraseIdx i) (ds.eraseIdx i)
  | _, _, _, .nil => .nil
  | _, _, 0, .cons _ t => t
  | _, _, i + 1, .cons q t => .cons q (Reps.erase i t)
theorem Reps.map {α : Type} {f : α → V} {g : α → D} (h : ∀ a, Rep G F m (f a) (g a)) : ∀ l : List α, Reps G F m (l.map f) (l.map g)
  | [] => .nil
  | a :: l => .cons (h a) (Reps.map h l)
theorem Reps.rep {v : V} {d : D} (h : Rep G F m v d) : ∀ n : Nat, Reps G F m (List.replicate n v) (List.replicate n d)
  | 0 => .nil
  | n + 1 => .cons h (Reps.rep h n)

end
mutual
theorem Rep.blw {G : Glob} {F : Hp} {m : List Addr} : ∀ {v : V} {d : D}, Rep G F m v d → d.blw m.length = true
  | _, _, .non => rfl
  | _, _, .bl b => rfl
  | _, _, .int i => rfl
  | _, _, .str x => rfl
  | _, _, .tup h r => by simp only [D.blw]; exact Reps.blw r
  | _, _, .lst h r => by simp only [D.blw]; exact Reps.blw r
  | _, _, .rls h r => by simp only [D.blw]; exact Reps.blw r
  | _, _, .dct h l r => by simp only [D.blw]; exact Reps.blw r
  | _, _, .obj h l r => by simp only [D.blw]; exact Reps.blw r
  | _, _, .cell h => by simp only [D.blw, decide_eq_true_eq]; exact (List.getElem?_eq_some_iff.mp h).1
  | _, _, .ty n => rfl
  | _, _, .cls c => rfl
theorem Reps.blw {G : Glob} {F : Hp} {m : List Addr} : ∀ {vs : List V} {ds : List D}, Reps G F m vs ds → belowL m.length ds = true
  | _, _, .nil => rfl
  | _, _, .cons h t => by simp only [belowL, Bool.and_eq_true]; exact ⟨Rep.blw h, Reps.blw t⟩
end
section
variable {G : Glob} {F F' H H' : Hp} {m m' : List Addr} {cs cs' : List D}
/-- what stands at a cell's address -/
inductive CellO (G : Glob) (F : Hp) (m : List Addr) : HO → D → Prop
  | lst {vs : List V} {ds : List D} (r : Reps G F m vs ds) : CellO G F m (.lst vs) (.lst ds)
  | dct {ks : List Key} {vs : List V} {ds : List D} (l : ks.length = vs.length) (r : Reps G F m vs ds) : CellO G F m (.dK (ks.zip vs)) (.dct ks ds)
  | obj {dx : Addr} {c : Nat} {ks : List Str} {vs : List V} {ds : List D} (l : ks.length = vs.length) (r : Reps G F m vs ds) : CellO G F m (.ins (G.ca c) dx (ks.zip vs)) (.obj c ks ds)
theorem CellO.mono {o : HO} {d : D} (e : Ex F F') (p : m <+: m') (h : CellO G F m o d) : CellO G F' m' o d := by
  cases h with
  | lst r => exact .lst (r.mono e p)
  | dct l r => exact .dct l (r.mono e p)
  | obj l r => exact .obj l (r.mono e p)

theorem CellO.blw {o : HO} {d : D} (h : CellO G F m o d) : d.blw m.length = true := by
  cases h with
  | lst r => simp only [D.blw]; exact r.blw
  | dct l r => simp only [D.blw]; exact r.blw
  | obj l r => simp only [D.blw]; exact r.blw
/-- the state: F is the frozen part of H, the cells stand at m -/
structure W (G : Glob) (H F : Hp) (m : List Addr) (cs : List D) : Prop where
  sub : Ex F H
  nd : m.Nodup
  len : m.length = cs.length
  off : ∀ a ∈ m, F a = none
  at_ : ∀ (i : Nat) (a : Addr) (d : D), m[i]? = some a → cs[i]? = some d → ∃ o, H a = some o ∧ CellO G F m o d
  ord : ∀ (i : Nat) (d : D), cs[i]? = some d → d.blw i = true

theorem W.cell {i : Nat} {a : Addr} (w : W G H F m cs) (h : m[i]? = some a) : ∃ d o, cs[i]? = some d ∧ H a = some o ∧ CellO G F m o d := by
  have hi : i < cs.length := by rw [← w.len]; exact (List.getElem?_eq_some_iff.mp h).1
  obtain ⟨o, h1, h2⟩ := w.at_ i a _ h (List.getElem?_eq_getElem hi)
  exact ⟨_, o, List.getElem?_eq_getElem hi, h1, h2⟩
theorem W.mem {a : Addr} (w : W G H F m cs) (h : a ∈ m) : ∃ o, H a = some o := by
  obtain ⟨i, hi, e⟩ := List.mem_iff_getElem.mp h
  obtain ⟨d, o, _, h1, _⟩ := w.cell (i := i) (a := a) (by rw [List.getElem?_eq_getElem hi, e])
  exact ⟨o, h1⟩
theorem W.nin {p : Addr} (w : W G H F m cs) (hp : H p = none) : p ∉ m := fun h => by
  obtain ⟨o, e⟩ := w.mem h
  rw [hp] at e; cases e
theorem W.fnone {p : Addr} (w : W G H F m cs) (hp : H p = none) : F p = none := by
  cases e : F p with
  | none => rfl
  | some o => rw [w.sub p o e] at hp; cases hp
theorem ex_new {p : Addr} {o : HO} (h : F p = none) : Ex F (upd F p o) := Evl.Ex.new h
/-- a new thing that nobody names -/
theorem W.junk {p : Addr} {o : HO} (w : W G H F m cs) (hp : H p = none) : W G (upd H p o) F m cs where
  sub := fun a u e => by
    have h := w.sub a u e
    rw [upd_ne (ne_of_none h hp)]; exact h
  nd := w.nd
  len := w.len
  off := w.off
  at_ := fun i a d h1 h2 => by
    obtain ⟨u, h3, h4⟩ := w.at_ i a d h1 h2
    exact ⟨u, by rw [upd_ne (ne_of_none h3 hp)]; exact h3, h4⟩
  ord := w.ord
/-- a new frozen thing -/
theorem W.frz {p : Addr} {o : HO} (w : W G H F m cs) (hp : H p = none) : W G (upd H p o) (upd F p o) m cs where
  sub := fun a u e => by
    by_cases h : a = p
    · subst h; rw [upd_same] at e; rw [upd_same]; exact e
    · rw [upd_ne h] at e; rw [upd_ne h]; exact w.sub a u e
  nd := w.nd
  len := w.len
  off := fun a ha => by
    have h : a ≠ p := fun z => w.nin hp (z ▸ ha)
    rw [upd_ne h]; exact w.off a ha
  at_ := fun i a d h1 h2 => by
    obtain ⟨u, h3, h4⟩ := w.at_ i a d h1 h2
    exact ⟨u, by rw [upd_ne (ne_of_none h3 hp)]; exact h3, h4.mono (ex_new (w.fnone hp)) (List.prefix_refl m)⟩
  ord := w.ord
/-- a new cell -/
theorem W.new {p : Addr} {o : HO} {d : D} (w : W G H F m cs) (hp : H p = none) (c : CellO G F m o d) : W G (upd H p o) F (m ++ [p]) (cs ++ [d]) where
  sub := fun a u e => by
    have h := w.sub a u e
    rw [upd_ne (ne_of_none h hp)]; exact h
  nd := by
    refine List.nodup_append.mpr ⟨w.nd, by simp, fun a ha b hb e => ?_⟩
    have : b = p := by simpa using hb
    subst this; subst e
    exact w.nin hp ha
  len := by simp [w.len]
  off := fun a ha => by
    rcases List.mem_append.mp ha with h | h
    · exact w.off a h
    · have : a = p := by simpa using h
      subst this; exact w.fnone hp
  at_ := fun i a e h1 h2 => by
    by_cases hi : i < m.length
    · rw [List.getElem?_append_left hi] at h1
      rw [List.getElem?_append_left (by rw [← w.len]; exact hi)] at h2
      obtain ⟨u, h3, h4⟩ := w.at_ i a e h1 h2
      exact ⟨u, by rw [upd_ne (ne_of_none h3 hp)]; exact h3, h4.mono (Evl.Ex.refl F) (List.prefix_append m [p])⟩
    · rw [List.getElem?_append_right (by omega)] at h1
      rw [List.getElem?_append_right (by rw [← w.len]; omega)] at h2
      rw [w.len] at h1
      have hz : i - cs.length = 0 := by
        have := (List.getElem?_eq_some_iff.mp h2).1
        simp at this; omega
      rw [hz] at h1 h2
      simp at h1 h2
      subst h1; subst h2
      exact ⟨o, upd_same, c.mono (Evl.Ex.refl F) (List.prefix_append m [p])⟩
  ord := fun i e h => by
    by_cases hi : i < cs.length
    · rw [List.getElem?_append_left hi] at h
      exact w.ord i e h
    · rw [List.getElem?_append_right (by omega)] at h
      have hz : i - cs.length = 0 := by
        have := (List.getElem?_eq_some_iff.mp h).1
        simp at this; omega
      rw [hz] at h
      simp at h
      subst h
      have := c.blw
      rw [w.len] at this
      rw [show i = cs.length by omega]
      exact this
/-- a cell is written -/
theorem W.put {i : Nat} {a : Addr} {o : HO} {d : D} (w : W G H F m cs) (h : m[i]? = some a) (c : CellO G F m o d) (hd : d.blw i = true) : W G (upd H a o) F m (cs.set i d) where
  sub := fun b u e => by
    have hb : b ≠ a := fun z => by
      subst z
      rw [w.off b (List.mem_of_getElem? h)] at e; cases e
    rw [upd_ne hb]; exact w.sub b u e
  nd := w.nd
  len := by simp [w.len]
  off := w.off
  at_ := fun j b e h1 h2 => by
    by_cases hj : j = i
    · subst hj
      rw [h] at h1; cases h1
      rw [List.getElem?_set_self (by rw [← w.len]; exact (List.getElem?_eq_some_iff.mp h).1)] at h2
      cases h2
      exact ⟨o, upd_same, c⟩
    · rw [List.getElem?_set_ne (Ne.symm hj)] at h2
      obtain ⟨u, h3, h4⟩ := w.at_ j b e h1 h2
      have hb : b ≠ a := fun z => by
        subst z
        exact hj (nd_ix w.nd h1 h)
      exact ⟨u, by rw [upd_ne hb]; exact h3, h4⟩
  ord := fun j e h2 => by
    by_cases hj : j = i
    · subst hj
      rw [List.getElem?_set_self (by rw [← w.len]; exact (List.getElem?_eq_some_iff.mp h).1)] at h2
      cases h2
      exact hd
    · rw [List.getElem?_set_ne (Ne.symm hj)] at h2
      exact w.ord j e h2
/-- a junk thing is written anew -/
theorem W.over {p : Addr} {o : HO} (w : W G H F m cs) (hp : F p = none) (hm : p ∉ m) : W G (upd H p o) F m cs where
  sub := fun a u e => by
    have h : a ≠ p := fun z => by subst z; rw [hp] at e; cases e
    rw [upd_ne h]; exact w.sub a u e
  nd := w.nd
  len := w.len
  off := w.off
  at_ := fun i a d h1 h2 => by
    obtain ⟨u, h3, h4⟩ := w.at_ i a d h1 h2
    have h : a ≠ p := fun z => by subst z; exact hm (List.mem_of_getElem? h1)
    exact ⟨u, by rw [upd_ne h]; exact h3, h4⟩
  ord := w.ord

/-- how a state goes on: the frozen part grows, cells come behind, all that is no cell stays -/
structure Nx (H F : Hp) (m : List Addr) (H' F' : Hp) (m' : List Addr) : Prop where
  ex : Ex F F'
  pre : m <+: m'
  fr : ∀ b o, H b = some o → b ∉ m → H' b = some o ∧ b ∉ m' ∧ (F b = none → F' b = none)
theorem Nx.refl : Nx H F m H F m := ⟨Evl.Ex.refl F, List.prefix_refl m, fun _ _ h hm => ⟨h, hm, id⟩⟩
theorem Nx.trans {H2 F2 : Hp} {m2 : List Addr} (a : Nx H F m H' F' m') (b : Nx H' F' m' H2 F2 m2) : Nx H F m H2 F2 m2 :=
  ⟨a.ex.trans b.ex, a.pre.trans b.pre, fun c o h hm => by
    obtain ⟨h1, h2, h3⟩ := a.fr c o h hm
    obtain ⟨h4, h5, h6⟩ := b.fr c o h1 h2
    exact ⟨h4, h5, fun z => h6 (h3 z)⟩⟩
theorem Nx.junk {p : Addr} {o : HO} (hp : H p = none) : Nx H F m (upd H p o) F m :=
  ⟨Evl.Ex.refl F, List.prefix_refl m, fun b u h hm => ⟨by rw [upd_ne (ne_of_none h hp)]; exact h, hm, id⟩⟩
theorem Nx.frz {p : Addr} {o : HO} (w : W G H F m cs) (hp : H p = none) : Nx H F m (upd H p o) (upd F p o) m :=
  ⟨ex_new (w.fnone hp), List.prefix_refl m, fun b u h hm => ⟨by rw [upd_ne (ne_of_none h hp)]; exact h, hm, fun z => by rw [upd_ne (ne_of_none h hp)]; exact z⟩⟩
theorem Nx.new {p : Addr} {o : HO} (hp : H p = none) : Nx H F m (upd H p o) F (m ++ [p]) :=
  ⟨Evl.Ex.refl F, List.prefix_append m [p], fun b u h hm => ⟨by rw [upd_ne (ne_of_none h hp)]; exact h, by simp only [List.mem_append, List.mem_singleton, not_or]; exact ⟨hm, ne_of_none h hp⟩, id⟩⟩
theorem Nx.put {a : Addr} {o : HO} (ha : a ∈ m) : Nx H F m (upd H a o) F m :=
  ⟨Evl.Ex.refl F, List.prefix_refl m, fun b u h hm => ⟨by have hb : b ≠ a := fun z => hm (by rw [z]; exact ha); rw [upd_ne hb]; exact h, hm, id⟩⟩
end
end DL

end

section
set_option Elab.async false
set_option linter.all false
set_option maxRecDepth 100000
set_option maxHeartbeats 4000000
/-! D layer 2: readings over data; the operations by values. -/
namespace DL
open PySem L2

abbrev Env' := List (Option D)
abbrev Ev := Env' → List D → Option (D × List D)

structure EnvR (G : Glob) (F : Hp) (m : List Addr) (σ : L2.St) (δ : Env') : Prop where
  len : σ.length = δ.length
  at_ : ∀ (i : Nat) (d : D), δ[i]? = some (some d) → ∃ v, σ[i]? = some (some v) ∧ Rep G F m v d
section
variable {G : Glob} {F F' H H' : Hp} {m m' : List Addr} {cs cs' : List D} {σ σ' : L2.St} {δ δ' : Env'}
theorem EnvR.mono (h : EnvR G F m σ δ) (n : Nx H F m H' F' m') : EnvR G F' m' σ δ :=
  ⟨h.len, fun i d q => let ⟨v, h1, h2⟩ := h.at_ i d q; ⟨v, h1, h2.mono n.ex n.pre⟩⟩
theorem Rep.nx {v : V} {d : D} (h : Rep G F m v d) (n : Nx H F m H' F' m') : Rep G F' m' v d := h.mono n.ex n.pre
theorem Reps.nx {v : List V} {d : List D} (h : Reps G F m v d) (n : Nx H F m H' F' m') : Reps G F' m' v d := h.mono n.ex n.pre
theorem EnvR.set (h : EnvR G F m σ δ) {v : V} {d : D} (r : Rep G F m v d) (i : Nat) : EnvR G F m (σ.set i (some v)) (δ.set i (some d)) := by
  refine ⟨by simp [h.len], fun j e q => ?_⟩
  by_cases hj : i = j
  · subst hj
    have hi : i < δ.length := by
      have := (List.getElem?_eq_some_iff.mp q).1
      simpa using this
    rw [List.getElem?_set_self hi] at q
    cases q
    exact ⟨v, List.getElem?_set_self (by rw [h.len]; exact hi), r⟩
  · rw [List.getElem?_set_ne hj] at q
    obtain ⟨u, h1, h2⟩ := h.at_ j e q
    exact ⟨u, by rw [List.getElem?_set_ne hj]; exact h1, h2⟩

/-- what is wanted of a value z behind which the cells are cs -/
def Kont (G : Glob) (H F : Hp) (m : List Addr) (cs : List D) (z : D) (Q : VK) : Prop := ∀ v H' F' m', W G H' F' m' cs → Nx H F m H' F' m' → Rep G F' m' v z → Q v H'
theorem Kont.mono {z : D} {Q : VK} (k : Kont G H F m cs z Q) (n : Nx H F m H' F' m') : Kont G H' F' m' cs z Q := fun v H2 F2 m2 w n' r => k v H2 F2 m2 w (n.trans n') r
theorem Kont.here {z : D} {Q : VK} {v : V} (k : Kont G H F m cs z Q) (w : W G H F m cs) (r : Rep G F m v z) : Q v H := k v H F m w Nx.refl r
theorem Kont.frz {z : D} {Q : VK} {p : Addr} {o : HO} (k : Kont G H F m cs z Q) (w : W G H F m cs) (hp : H p = none) (r : Rep G (upd F p o) m (.ref p) z) : Q (.ref p) (upd H p o) :=
  k _ _ _ _ (w.frz hp) (Nx.frz w hp) r

def tE (G : Glob) (f : Ev) : TE := fun σ H Q => ∃ F m cs δ d cs', W G H F m cs ∧ EnvR G F m σ δ ∧ f δ cs = some (d, cs') ∧ Kont G H F m cs' d Q
/-- a new thing, d its content: told ahead of its laying -/
def tN (G : Glob) (f : Ev) : TE := fun σ H Q => ∃ F m cs δ d cs', W G H F m cs ∧ EnvR G F m σ δ ∧ f δ cs = some (d, cs') ∧
  ∀ p o H' F' m', W G H' F' m' cs' → Nx H F m H' F' m' → H' p = none → CellO G F' m' o d → Q (.ref p) (upd H' p o)
def tT (G : Glob) (f : Ev) : TT := fun σ H Q => ∃ F m cs δ b cs', W G H F m cs ∧ EnvR G F m σ δ ∧ f δ cs = some (.bl b, cs') ∧
  ∀ H' F' m', W G H' F' m' cs' → Nx H F m H' F' m' → Q b H'
def tA (G : Glob) (f : Ev) : TA := fun σ H Q => ∃ F m cs δ ds cs', W G H F m cs ∧ EnvR G F m σ δ ∧ f δ cs = some (.lst ds, cs') ∧
  ∀ vs H' F' m', W G H' F' m' cs' → Nx H F m H' F' m' → Reps G F' m' vs ds → Q vs H'
/-- a part of a slice: None or an int -/
def partOf : D → Option (Option Int)
  | .non => some none
  | .int i => some (some i)
  | _ => none
def tO (G : Glob) (f : Ev) : TO := fun σ H Q => ∃ F m cs δ d cs' o, W G H F m cs ∧ EnvR G F m σ δ ∧ f δ cs = some (d, cs') ∧ partOf d = some o ∧
  ∀ H' F' m', W G H' F' m' cs' → Nx H F m H' F' m' → Q o H'
/-- J gives the items, in their order, while the frozen part stands -/
structure WalkR (G : Glob) (F : Hp) (m : List Addr) (J : It) (items : List D) : Prop where
  ex : ∃ (Gd : Hp → Prop) (Y : Nat → Hp → V → Hp → Prop), Walk J items.length Gd Y ∧ (∀ H2 F2, Ex F F2 → Ex F2 H2 → Gd H2) ∧
    ∀ i H2 x H3, i < items.length → Y i H2 x H3 → ∀ F2 m2 cs2, W G H2 F2 m2 cs2 → Ex F F2 → m <+: m2 → ∃ F3 d, items[i]? = some d ∧ W G H3 F3 m2 cs2 ∧ Nx H2 F2 m2 H3 F3 m2 ∧ Rep G F3 m2 x d
def tI (G : Glob) (f : Ev) : TI := fun σ H R => ∃ F m cs δ items cs', W G H F m cs ∧ EnvR G F m σ δ ∧ f δ cs = some (.lst items, cs') ∧
  ∀ J H' F' m', W G H' F' m' cs' → Nx H F m H' F' m' → WalkR G F' m' J items → R J H'

theorem tE.intro {f : Ev} {d : D} {cs1 : List D} {Q : VK} (w : W G H F m cs) (en : EnvR G F m σ δ) (h : f δ cs = some (d, cs1))
    (k : ∀ H1 F1 m1, W G H1 F1 m1 cs1 → Nx H F m H1 F1 m1 → EnvR G F1 m1 σ δ → ∀ v, Rep G F1 m1 v d → Q v H1) : tE G f σ H Q :=
  ⟨F, m, cs, δ, d, cs1, w, en, h, fun v H' F' m' w' n r => k H' F' m' w' n (en.mono n) v r⟩
theorem tN.intro {f : Ev} {d : D} {cs1 : List D} {Q : VK} (w : W G H F m cs) (en : EnvR G F m σ δ) (h : f δ cs = some (d, cs1))
    (k : ∀ H1 F1 m1, W G H1 F1 m1 cs1 → Nx H F m H1 F1 m1 → EnvR G F1 m1 σ δ → ∀ p o, H1 p = none → CellO G F1 m1 o d → Q (.ref p) (upd H1 p o)) : tN G f σ H Q :=
  ⟨F, m, cs, δ, d, cs1, w, en, h, fun p o H' F' m' w' n hp c => k H' F' m' w' n (en.mono n) p o hp c⟩
theorem tT.intro {f : Ev} {b : Bool} {cs1 : List D} {Q : Bool → Hp → Prop} (w : W G H F m cs) (en : EnvR G F m σ δ) (h : f δ cs = some (.bl b, cs1))
    (k : ∀ H1 F1 m1, W G H1 F1 m1 cs1 → Nx H F m H1 F1 m1 → EnvR G F1 m1 σ δ → Q b H1) : tT G f σ H Q :=
  ⟨F, m, cs, δ, b, cs1, w, en, h, fun H' F' m' w' n => k H' F' m' w' n (en.mono n)⟩
theorem tA.intro {f : Ev} {ds : List D} {cs1 : List D} {Q : List V → Hp → Prop} (w : W G H F m cs) (en : EnvR G F m σ δ) (h : f δ cs = some (.lst ds, cs1))
    (k : ∀ H1 F1 m1, W G H1 F1 m1 cs1 → Nx H F m H1 F1 m1 → EnvR G F1 m1 σ δ → ∀ vs, Reps G F1 m1 vs ds → Q vs H1) : tA G f σ H Q :=
  ⟨F, m, cs, δ, ds, cs1, w, en, h, fun vs H' F' m' w' n r => k H' F' m' w' n (en.mono n) vs r⟩
theorem tO.intro {f : Ev} {d : D} {o : Option Int} {cs1 : List D} {Q : Option Int → Hp → Prop} (w : W G H F m cs) (en : EnvR G F m σ δ) (h : f δ cs = some (d, cs1)) (hp : partOf d = some o)
    (k : ∀ H1 F1 m1, W G H1 F1 m1 cs1 → Nx H F m H1 F1 m1 → EnvR G F1 m1 σ δ → Q o H1) : tO G f σ H Q :=
  ⟨F, m, cs, δ, d, cs1, o, w, en, h, hp, fun H' F' m' w' n => k H' F' m' w' n (en.mono n)⟩
theorem tI.intro {f : Ev} {items : List D} {cs1 : List D} {R : It → Hp → Prop} (w : W G H F m cs) (en : EnvR G F m σ δ) (h : f δ cs = some (.lst items, cs1))
    (k : ∀ H1 F1 m1, W G H1 F1 m1 cs1 → Nx H F m H1 F1 m1 → EnvR G F1 m1 σ δ → ∀ J, WalkR G F1 m1 J items → R J H1) : tI G f σ H R :=
  ⟨F, m, cs, δ, items, cs1, w, en, h, fun J H' F' m' w' n wk => k H' F' m' w' n (en.mono n) J wk⟩
end

end DL
namespace L2
open PySem
section
variable {X : Cx}
theorem PE.imp {e : Expr} {t t' : TE} (h : PE X e t) (i : ∀ σ H Q, t' σ H Q → t σ H Q) : PE X e t' := ⟨fun pins s σ H Q I q => h.run pins s σ H Q I (i σ H Q q)⟩
theorem PT.imp {e : Expr} {t t' : TT} (h : PT X e t) (i : ∀ σ H Q, t' σ H Q → t σ H Q) : PT X e t' := ⟨fun pins s σ H Q I q => h.run pins s σ H Q I (i σ H Q q)⟩
theorem PW.imp {e : Expr} {t t' : TT} (h : PW X e t) (i : ∀ σ H Q, t' σ H Q → t σ H Q) : PW X e t' := ⟨fun wh pins s σ H Q I q => h.run wh pins s σ H Q I (i σ H Q q)⟩
theorem PTs.imp {e : List Expr} {t t' : TT} (h : PTs X e t) (i : ∀ σ H Q, t' σ H Q → t σ H Q) : PTs X e t' := ⟨fun pins s σ H Q I q => h.run pins s σ H Q I (i σ H Q q)⟩
theorem PA.imp {es : List Expr} {t t' : TA} (h : PA X es t) (i : ∀ σ H Q, t' σ H Q → t σ H Q) : PA X es t' := ⟨fun pos pins s σ H Q I q => h.run pos pins s σ H Q I (i σ H Q q)⟩
theorem PO.imp {e : Option Expr} {t t' : TO} (h : PO X e t) (i : ∀ σ H Q, t' σ H Q → t σ H Q) : PO X e t' := ⟨fun pins s σ H Q I q => h.run pins s σ H Q I (i σ H Q q)⟩
theorem PI.imp {tg e : Expr} {t t' : TI} (h : PI X tg e t) (i : ∀ σ H R, t' σ H R → t σ H R) : PI X tg e t' := ⟨fun pins s σ H R I q => h.run pins s σ H R I (i σ H R q)⟩
theorem PG.imp {tg : Expr} {t t' : TG} (h : PG X tg t) (i : ∀ v σ H Q, t' v σ H Q → t v σ H Q) : PG X tg t' := ⟨fun pins s σ H v u Q I r q => h.run pins s σ H v u Q I r (i v σ H Q q)⟩
theorem PS.imp {st : Stmt} {t t' : TS} (h : PS X st t) (i : ∀ D σ H, t' D σ H → t D σ H) : PS X st t' := ⟨fun pins s σ H D I q => h.run pins s σ H D I (i D σ H q)⟩
theorem PSs.imp {st : List Stmt} {t t' : TS} (h : PSs X st t) (i : ∀ D σ H, t' D σ H → t D σ H) : PSs X st t' := ⟨fun pins s σ H D I q => h.run pins s σ H D I (i D σ H q)⟩
theorem OpR.or2 {f : Value → Value → Sem Value} {r r' : R2} (h : OpR X f r) (h' : OpR X f r') : OpR X f (fun x y H Q => r x y H Q ∨ r' x y H Q) :=
  fun pins s σ H x y v u Q I rx ry q => q.elim (h pins s σ H x y v u Q I rx ry) (h' pins s σ H x y v u Q I rx ry)
theorem CallR.or2 {f : Value} {r r' : List V → Hp → VK → Prop} (h : CallR X f r) (h' : CallR X f r') : CallR X f (fun x H Q => r x H Q ∨ r' x H Q) :=
  fun pins s σ H xs us Q I rx q => q.elim (h pins s σ H xs us Q I rx) (h' pins s σ H xs us Q I rx)
theorem PE.or {e : Expr} {t t' : TE} (h : PE X e t) (h' : PE X e t') : PE X e (fun σ H Q => t σ H Q ∨ t' σ H Q) :=
  ⟨fun pins s σ H Q I q => q.elim (h.run pins s σ H Q I) (h'.run pins s σ H Q I)⟩
theorem PG.or {tg : Expr} {t t' : TG} (h : PG X tg t) (h' : PG X tg t') : PG X tg (fun v σ H Q => t v σ H Q ∨ t' v σ H Q) :=
  ⟨fun pins s σ H v u Q I r q => q.elim (h.run pins s σ H v u Q I r) (h'.run pins s σ H v u Q I r)⟩
end

end L2
namespace DL
open PySem L2

/-! ### reading data -/
/-- what a datum holds now -/
def cont (cs : List D) : D → Option D
  | .cell n => cs[n]?
  | d => some d
/-- the items of a list; of a tuple; of both -/
def lstD (cs : List D) (d : D) : Option (List D) := match cont cs d with
  | some (.lst xs) => some xs
  | some (.rls xs) => some xs
  | _ => none
def tupD (d : D) : Option (List D) := match d with
  | .tup xs => some xs
  | _ => none
section
variable {G : Glob} {F H : Hp} {m : List Addr} {cs : List D} {v : V} {d : D} {xs : List D}
theorem sub_l {a : Addr} {vs : List V} (w : W G H F m cs) (h : SqL G.K F a vs) : SqL G.K H a vs := Evl.ex_l w.sub h
theorem sub_t {a : Addr} {vs : List V} (w : W G H F m cs) (h : SqT G.K F a vs) : SqT G.K H a vs := Evl.ex_t w.sub h
theorem lstD_ok (w : W G H F m cs) (r : Rep G F m v d) (h : lstD cs d = some xs) : ∃ a vs, v = .ref a ∧ SqL G.K H a vs ∧ Reps G F m vs xs := by
  unfold lstD at h
  cases r with
  | lst h1 h2 => simp [cont] at h; subst h; exact ⟨_, _, rfl, .of (w.sub _ _ h1), h2⟩
  | rls h1 h2 => simp [cont] at h; subst h; exact ⟨_, _, rfl, sub_l w h1, h2⟩
  | cell h1 =>
    obtain ⟨d', o, e1, e2, c⟩ := w.cell h1
    simp only [cont, e1] at h
    cases c with
    | lst r => simp at h; subst h; exact ⟨_, _, rfl, .of e2, r⟩
    | dct _ _ => simp at h
    | obj _ _ => simp at h
  | _ => simp [cont] at h
theorem tupD_ok (w : W G H F m cs) (r : Rep G F m v d) (h : tupD d = some xs) : ∃ a vs, v = .ref a ∧ SqT G.K H a vs ∧ Reps G F m vs xs := by
  unfold tupD at h
  cases r with
  | tup h1 h2 => simp at h; subst h; exact ⟨_, _, rfl, sub_t w h1, h2⟩
  | _ => simp at h
/-- a list or a tuple -/
def seqD (cs : List D) (d : D) : Option (List D) := (lstD cs d).or (tupD d)
theorem seqD_ok (w : W G H F m cs) (r : Rep G F m v d) (h : seqD cs d = some xs) : ∃ a vs, v = .ref a ∧ (SqL G.K H a vs ∨ SqT G.K H a vs) ∧ Reps G F m vs xs := by
  unfold seqD at h
  cases h1 : lstD cs d with
  | some ys =>
    rw [h1] at h; simp at h; subst h
    obtain ⟨a, vs, e1, e2, e3⟩ := lstD_ok w r h1
    exact ⟨a, vs, e1, .inl e2, e3⟩
  | none =>
    rw [h1] at h; simp at h
    obtain ⟨a, vs, e1, e2, e3⟩ := tupD_ok w r h
    exact ⟨a, vs, e1, .inr e2, e3⟩
end
end DL

end

section
set_option Elab.async false
set_option linter.all false
set_option maxRecDepth 100000
set_option maxHeartbeats 4000000
/-! D layer 3: the operations by values. -/
namespace DL
open PySem L2

/-! ### arithmetic -/
def binD (o : Operator) (x y : D) : Option D := match o, x, y with
  | .Add, .int i, .int j => some (.int (i + j))
  | .Add, .str a, .str b => if a.length + b.length ≤ sizeLine then some (.str (a ++ b)) else none
  | .Sub, .int i, .int j => some (.int (i - j))
  | .Mult, .int i, .int j => if (-(2 ^ 64) < i ∧ i < 2 ^ 64) ∨ (-(2 ^ 64) < j ∧ j < 2 ^ 64) then some (.int (i * j)) else none
  | .Mod, .int i, .int j => if 0 < j then some (.int (i % j)) else none
  | .FloorDiv, .int i, .int j => if 0 < j ∧ j < 1073741824 then some (.int (i / j)) else none
  | .Pow, .int i, .int j => if 0 ≤ j ∧ j ≤ 1000000 ∧ i.natAbs < 2 ^ 64 then some (.int (i ^ j.toNat)) else none
  | _, _, _ => none
/-- the union of the rules of an operator -/
def rBin (o : Operator) : R2 := match o with
  | .Add => fun x y H Q => rI0 (fun i j => .int (i + j)) x y H Q ∨ (∃ i j, x = .str i ∧ y = .str j ∧ i.length + j.length ≤ sizeLine ∧ Q (.str (i ++ j)) H)
  | .Sub => rI0 fun i j => .int (i - j)
  | .Mult => rI CMul fun i j => .int (i * j)
  | .Mod => rI (fun _ j => 0 < j) fun i j => .int (i % j)
  | .FloorDiv => rI CDiv fun i j => .int (i / j)
  | .Pow => rI CPow fun i j => .int (i ^ j.toNat)
  | _ => fun _ _ _ _ => False
theorem op_bin {X : Cx} (o : Operator) : OpR X (binaryOp o) (rBin o) := by
  cases o <;> first
    | exact OpR.or2 op_add op_add_str
    | exact op_sub | exact op_mul | exact op_mod | exact op_fdiv | exact op_pow
    | exact fun _ _ _ _ _ _ _ _ _ _ _ _ q => q.elim
section
variable {G : Glob} {F H : Hp} {m : List Addr} {cs : List D} {v u : V} {d e z : D} {Q : VK}
theorem bin_ok {o : Operator} (r : Rep G F m v d) (r' : Rep G F m u e) (h : binD o d e = some z) (k : ∀ x, Rep G F m x z → Q x H) : rBin o v u H Q := by
  unfold binD at h
  split at h
  · cases r; cases r'; cases h; exact .inl ⟨_, _, rfl, rfl, k _ (.int _)⟩
  · cases r; cases r'
    split at h
    · rename_i hl; cases h; exact .inr ⟨_, _, rfl, rfl, hl, k _ (.str _)⟩
    · cases h
  · cases r; cases r'; cases h; exact ⟨_, _, rfl, rfl, k _ (.int _)⟩
  · cases r; cases r'
    split at h
    · rename_i hl; cases h; exact ⟨_, _, rfl, rfl, hl, k _ (.int _)⟩
    · cases h
  · cases r; cases r'
    split at h
    · rename_i hl; cases h; exact ⟨_, _, rfl, rfl, hl, k _ (.int _)⟩
    · cases h
  · cases r; cases r'
    split at h
    · rename_i hl; cases h; exact ⟨_, _, rfl, rfl, hl, k _ (.int _)⟩
    · cases h
  · cases r; cases r'
    split at h
    · rename_i hl; cases h; exact ⟨_, _, rfl, rfl, hl, k _ (.int _)⟩
    · cases h
  · cases h
end

/-! ### truth -/
def truD (cs : List D) (d : D) : Option Bool := match cont cs d with
  | some .non => some false
  | some (.bl b) => some b
  | some (.int i) => some (i != 0)
  | some (.str x) => if x.length ≤ sizeLine then some ((x.length : Int) != 0) else none
  | some (.lst xs) => some (!xs.isEmpty)
  | some (.rls xs) => some (!xs.isEmpty)
  | some (.tup xs) => some (!xs.isEmpty)
  | some (.dct ks _) => some (!ks.isEmpty)
  | _ => none
theorem zip_empty {α β : Type} : ∀ {ks : List α} {vs : List β}, ks.length = vs.length → (ks.zip vs).isEmpty = ks.isEmpty
  | [], _, _ => by simp
  | _ :: _, [], h => by simp at h
  | _ :: _, _ :: _, _ => rfl
section
variable {G : Glob} {F H : Hp} {m : List Addr} {cs : List D} {v u : V} {d e z : D} {Q : VK}
theorem reps_empty {vs : List V} {ds : List D} (r : Reps G F m vs ds) : vs.isEmpty = ds.isEmpty := by
  cases r <;> rfl
theorem tru_ok {b : Bool} (w : W G H F m cs) (r : Rep G F m v d) (h : truD cs d = some b) : TruV G.K v H b := by
  unfold truD at h
  cases r with
  | non => simp only [cont] at h; cases h; rfl
  | bl c => simp only [cont] at h; cases h; rfl
  | int i => simp only [cont] at h; cases h; rfl
  | str x =>
    simp only [cont] at h
    split at h
    · rename_i hl; cases h; exact ⟨hl, rfl⟩
    · cases h
  | lst h1 h2 => simp only [cont] at h; cases h; exact .inl ⟨_, .of (w.sub _ _ h1), by rw [reps_empty h2]⟩
  | rls h1 h2 => simp only [cont] at h; cases h; exact .inl ⟨_, sub_l w h1, by rw [reps_empty h2]⟩
  | tup h1 h2 => simp only [cont] at h; cases h; exact .inr (.inl ⟨_, sub_t w h1, by rw [reps_empty h2]⟩)
  | dct h1 l h2 => simp only [cont] at h; cases h; exact .inr (.inr ⟨_, w.sub _ _ h1, by rw [zip_empty l]⟩)
  | cell h1 =>
    obtain ⟨d', o, e1, e2, c⟩ := w.cell h1
    simp only [cont, e1] at h
    cases c with
    | lst r => simp only at h; cases h; exact .inl ⟨_, .of e2, by rw [reps_empty r]⟩
    | dct l r => simp only at h; cases h; exact .inr (.inr ⟨_, e2, by rw [zip_empty l]⟩)
    | obj _ _ => simp at h
  | _ => simp [cont] at h
end

/-! ### data that can be compared -/
mutual
def toPy (cs : List D) : D → Option PyData
  | .non => some .none
  | .bl b => some (.bool b)
  | .int i => some (.int i)
  | .str x => some (.str x)
  | .lst xs => (toPys cs xs).map .list
  | .rls xs => (toPys cs xs).map .list
  | .tup xs => (toPys cs xs).map .tuple
  | _ => none
def toPys (cs : List D) : List D → Option (List PyData)
  | [] => some []
  | x :: xs => (toPy cs x).bind fun a => (toPys cs xs).map fun b => a :: b
end
/-- at the root a cell may stand -/
def toPyC (cs : List D) (d : D) : Option PyData := (cont cs d).bind (toPy cs)
section
variable {G : Glob} {F H : Hp} {m : List Addr} {cs : List D}
mutual
theorem toPy_ok (w : W G H F m cs) : ∀ {v : V} {d : D} {p : PyData}, Rep G F m v d → toPy cs d = some p → Dp G.K H v p
  | _, _, _, .non, h => by simp [toPy] at h; subst h; exact .non
  | _, _, _, .bl b, h => by simp [toPy] at h; subst h; exact .bl b
  | _, _, _, .int i, h => by simp [toPy] at h; subst h; exact .int i
  | _, _, _, .str x, h => by simp [toPy] at h; subst h; exact .str x
  | _, _, _, .lst h1 r, h => by
    simp only [toPy, Option.map_eq_some_iff] at h
    obtain ⟨ps, h2, rfl⟩ := h
    exact .lst (.of (w.sub _ _ h1)) (toPys_ok w r h2)
  | _, _, _, .rls h1 r, h => by
    simp only [toPy, Option.map_eq_some_iff] at h
    obtain ⟨ps, h2, rfl⟩ := h
    exact .lst (sub_l w h1) (toPys_ok w r h2)
  | _, _, _, .tup h1 r, h => by
    simp only [toPy, Option.map_eq_some_iff] at h
    obtain ⟨ps, h2, rfl⟩ := h
    exact .tup (sub_t w h1) (toPys_ok w r h2)
  | _, _, _, .dct _ _ _, h => by simp [toPy] at h
  | _, _, _, .obj _ _ _, h => by simp [toPy] at h
  | _, _, _, .cell _, h => by simp [toPy] at h
  | _, _, _, .ty _, h => by simp [toPy] at h
  | _, _, _, .cls _, h => by simp [toPy] at h
theorem toPys_ok (w : W G H F m cs) : ∀ {vs : List V} {ds : List D} {ps : List PyData}, Reps G F m vs ds → toPys cs ds = some ps → DpAll G.K H vs ps
  | _, _, _, .nil, h => by simp [toPys] at h; subst h; exact .nil
  | _, _, _, .cons h1 t, h => by
    simp only [toPys, Option.bind_eq_some_iff, Option.map_eq_some_iff] at h
    obtain ⟨a, h2, b, h3, rfl⟩ := h
    exact .cons (toPy_ok w h1 h2) (toPys_ok w t h3)
end
theorem toPyC_ok (w : W G H F m cs) {v : V} {d : D} {p : PyData} (r : Rep G F m v d) (h : toPyC cs d = some p) : Dp G.K H v p := by
  unfold toPyC at h
  cases r with
  | cell h1 =>
    obtain ⟨d', o, e1, e2, c⟩ := w.cell h1
    simp only [cont, e1, Option.bind_some] at h
    cases c with
    | lst r =>
      simp only [toPy, Option.map_eq_some_iff] at h
      obtain ⟨ps, h2, rfl⟩ := h
      exact .lst (.of e2) (toPys_ok w r h2)
    | dct _ _ => simp [toPy] at h
    | obj _ _ => simp [toPy] at h
  | non => exact toPy_ok w .non (by simpa [cont] using h)
  | bl b => exact toPy_ok w (.bl b) (by simpa [cont] using h)
  | int b => exact toPy_ok w (.int b) (by simpa [cont] using h)
  | str b => exact toPy_ok w (.str b) (by simpa [cont] using h)
  | tup a b => exact toPy_ok w (.tup a b) (by simpa [cont] using h)
  | lst a b => exact toPy_ok w (.lst a b) (by simpa [cont] using h)
  | rls a b => exact toPy_ok w (.rls a b) (by simpa [cont] using h)
  | dct a b c => simp [cont, toPy] at h
  | obj a b c => simp [cont, toPy] at h
  | ty _ => simp [cont, toPy] at h
  | cls _ => simp [cont, toPy] at h
end
def eqD (cs : List D) (x y : D) : Option Bool := (toPyC cs x).bind fun a => (toPyC cs y).bind fun b => if SeqAt.shaped a = true ∧ SeqAt.shaped b = true then some (PyData.eqv a b) else none

/-! ### in -/
def eqF : D → D → Bool
  | .non, .non => true
  | .bl a, .bl b => a == b
  | .bl a, .int b => (if a = true then 1 else 0) == b
  | .int a, .bl b => a == if b = true then 1 else 0
  | .int a, .int b => a == b
  | .str a, .str b => a == b
  | _, _ => false
def flatD : D → Bool
  | .non => true
  | .bl _ => true
  | .int _ => true
  | .str _ => true
  | _ => false
/-- None, or an instance of a class whose == is by identity -/
def noneOr (ok : Nat → Bool) : D → Bool
  | .non => true
  | .obj c _ _ => ok c
  | _ => false
def isNonD : D → Bool
  | .non => true
  | _ => false
/-- x in y: a sign in a text; flat things; None among objects; data in a list -/
def inD (ok : Nat → Bool) (cs : List D) (x y : D) : Option Bool := match x, y with
  | .str a, .str b => match a.cps.toList with
    | [c] => some (decide (c ∈ b.cps.toList))
    | _ => none
  | _, _ => match seqD cs y with
    | some ys => if flatD x && ys.all flatD then some (ys.any fun z => eqF z x) else match lstD cs y with
      | some zs => if isNonD x && zs.all (noneOr ok) then some (zs.any isNonD) else
        (toPyC cs x).bind fun a => (toPyC cs y).bind fun b => match b with
          | .list ps => if SeqAt.shaped a = true ∧ SeqAt.shaped (.list ps) = true then some (ps.any fun z => PyData.eqv z a) else none
          | _ => none
      | none => none
    | none => none
section
variable {G : Glob} {F H : Hp} {m : List Addr} {cs : List D} {v u : V} {d e z : D} {Q : VK}
theorem flat_ok (r : Rep G F m v d) (h : flatD d = true) : flatV v = true := by
  cases r <;> first | rfl | (simp [flatD] at h)
theorem eqF_ok (r : Rep G F m v d) (r' : Rep G F m u e) (h : flatD d = true) (h' : flatD e = true) : eqV v u = eqF d e := by
  cases r <;> cases r' <;> first | rfl | (simp [flatD] at h) | (simp [flatD] at h')
theorem flats_ok : ∀ {vs : List V} {ds : List D}, Reps G F m vs ds → ds.all flatD = true → vs.all flatV = true
  | _, _, .nil, _ => rfl
  | _, _, .cons a t, h => by
    simp only [List.all_cons, Bool.and_eq_true] at h ⊢
    exact ⟨flat_ok a h.1, flats_ok t h.2⟩
theorem inV_ok (r : Rep G F m u e) (h' : flatD e = true) : ∀ {vs : List V} {ds : List D}, Reps G F m vs ds → ds.all flatD = true → inV u vs = ds.any fun z => eqF z e
  | _, _, .nil, _ => rfl
  | _, _, .cons a t, h => by
    simp only [List.all_cons, Bool.and_eq_true] at h
    have ih := inV_ok r h' t h.2
    unfold inV at ih ⊢
    simp only [List.any_cons]
    rw [ih, eqF_ok a r h.1 h']
theorem nons_ok : ∀ {vs : List V} {ds : List D}, Reps G F m vs ds → vs.any isNon = ds.any isNonD
  | _, _, .nil => rfl
  | _, _, .cons a t => by
    simp only [List.any_cons]
    rw [nons_ok t]
    cases a <;> rfl
end
/-- what must be known of a class whose == is by identity -/
structure EqId (G : Glob) (c : Nat) : Prop where
  hm : PySem.W.mroIn G.K (G.ca c) (.type "object") = some true
  he : PySem.W.findIn G.K (.ref (G.ca c)) "__eq__" = some (some (.builtin "object.__eq__"))
theorem nonor_ok {G : Glob} {F H : Hp} {m : List Addr} {cs : List D} {ok : Nat → Bool} (w : W G H F m cs) (hok : ∀ c, ok c = true → EqId G c) : ∀ {vs : List V} {ds : List D}, Reps G F m vs ds → ds.all (noneOr ok) = true → ∀ z ∈ vs, NoneOr G.K H z
  | _, _, .nil, _, z, hz => by simp at hz
  | _, _, .cons a t, h, z, hz => by
    simp only [List.all_cons, Bool.and_eq_true] at h
    rcases List.mem_cons.mp hz with rfl | hz
    · cases a with
      | non => exact .inl rfl
      | obj h1 l r =>
        have q := hok _ h.1
        exact .inr ⟨_, _, _, _, rfl, w.sub _ _ h1, q.hm, q.he⟩
      | _ => simp [noneOr] at h
    · exact nonor_ok w hok t h.2 z hz
/-- the rules of in and not in together -/
def rInA (K : PySem.W.Frag) (neg : Bool) : R2 := fun x y H Q =>
  (∃ (c : Nat) (z : Str), x = .str ⟨#[c]⟩ ∧ y = .str z ∧ Q (.bl (if neg then !decide (c ∈ z.cps.toList) else decide (c ∈ z.cps.toList))) H) ∨ rIn K neg x y H Q ∨ rNoneIn K neg x y H Q ∨
  (∃ d ds, Dp K H x d ∧ Dp K H y (.list ds) ∧ SeqAt.shaped d = true ∧ SeqAt.shaped (.list ds) = true ∧ Q (.bl (if neg then !ds.any fun z => PyData.eqv z d else ds.any fun z => PyData.eqv z d)) H)
theorem op_inA {X : Cx} (hu : X.A.units + 65 < cLine) : OpR X (compareOp .In) (rInA X.K false) :=
  OpR.or2 op_in_sign (OpR.or2 op_in_seq (OpR.or2 (op_noneIn (by omega)) (op_inD hu)))
theorem op_notInA {X : Cx} (hu : X.A.units + 65 < cLine) : OpR X (compareOp .NotIn) (rInA X.K true) :=
  OpR.or2 op_notIn_sign (OpR.or2 op_notIn_seq (OpR.or2 (op_noneNotIn (by omega)) (op_notInD hu)))
theorem in_ok {G : Glob} {F H : Hp} {m : List Addr} {cs : List D} {v u : V} {d e : D} {Q : VK} {ok : Nat → Bool} {neg b : Bool} (w : W G H F m cs) (hok : ∀ c, ok c = true → EqId G c) (r : Rep G F m v d) (r' : Rep G F m u e)
    (h : inD ok cs d e = some b) (k : Q (.bl (if neg then !b else b)) H) : rInA G.K neg v u H Q := by
  unfold inD at h
  split at h
  · cases r; cases r'
    split at h
    · rename_i a bb _ c hc
      cases h
      refine .inl ⟨c, bb, ?_, rfl, k⟩
      have : a = ⟨#[c]⟩ := by
        obtain ⟨⟨l⟩⟩ := a
        simp at hc
        subst hc; rfl
      rw [this]
    · cases h
  · split at h
    · rename_i ys hs
      obtain ⟨a, vs, rfl, h1, h2⟩ := seqD_ok w r' hs
      split at h
      · rename_i hf
        simp only [Bool.and_eq_true] at hf
        cases h
        refine .inr (.inl ⟨a, vs, rfl, h1, flat_ok r hf.1, flats_ok h2 hf.2, ?_⟩)
        rw [inV_ok r hf.1 h2 hf.2]
        exact k
      · split at h
        · rename_i zs hz
          obtain ⟨a', vs', e1, h3, h4⟩ := lstD_ok w r' hz
          cases e1
          split at h
          · rename_i hn
            simp only [Bool.and_eq_true] at hn
            cases h
            refine .inr (.inr (.inl ⟨a, vs', ?_, rfl, h3, nonor_ok w hok h4 hn.2, ?_⟩))
            · cases r <;> first | rfl | (simp [isNonD] at hn)
            · rw [nons_ok h4]; exact k
          · simp only [Option.bind_eq_some_iff] at h
            obtain ⟨p, hp, q, hq, h⟩ := h
            split at h
            · split at h
              · rename_i hsh
                cases h
                exact .inr (.inr (.inr ⟨_, _, toPyC_ok w r hp, toPyC_ok w r' hq, hsh.1, hsh.2, k⟩))
              · cases h
            · cases h
        · cases h
    · cases h
end DL

end

section
set_option Elab.async false
set_option linter.all false
set_option maxRecDepth 100000
set_option maxHeartbeats 4000000
/-! D layer 4: the small language and what it evaluates to. -/
namespace DL
open PySem L2

inductive TyN where
  | none | bool | int | str | list | tuple | dict
  deriving DecidableEq
def TyN.nm : TyN → String
  | .none => "NoneType" | .bool => "bool" | .int => "int" | .str => "str" | .list => "list" | .tuple => "tuple" | .dict => "dict"
/-- built-in functions of values -/
inductive Bi where
  | len | abs | int | str | max | min | all | any | tuple
  deriving DecidableEq
def Bi.nm : Bi → Str
  | .len => "len" | .abs => "abs" | .int => "int" | .str => "str" | .max => "max" | .min => "min" | .all => "all" | .any => "any" | .tuple => "tuple"
/-- methods of texts with one argument, that give a value -/
inductive Sm where
  | join | endswith
  deriving DecidableEq
def Sm.nm : Sm → Str
  | .join => "join" | .endswith => "endswith"
/-- targets: a name's slot, a tuple of names -/
inductive Tg where
  | nm (i : Nat) | tp (is : List Nat)
def Tg.slots : Tg → List Nat
  | .nm i => [i]
  | .tp is => is

inductive E where
  | var (i : Nat) | int (i : Int) | str (x : Str) | bl (b : Bool) | non | glob (k : Nat)
  | fr (a : E) | mu (a : E)
  | bin (o : Operator) (a b : E) | neg (a : E)
  | cmp (o : CmpOp) (a b : E) | chain (o o' : CmpOp) (a b c : E)
  | and' (a b : E) | or' (a b : E) | not' (a : E) | ite (t a b : E)
  | tval (a : E) | tnot (a : E) | tand (a b : E) | tor (a b : E)
  | nil | cons (a b : E) | star (a b : E)
  | lst (a : E) | cat (a b : E) | tup (a : E) | dnil
  | idx (a b : E) | slc (a l h : E) | nop
  | attr (a : E) (f : Str) | meth (a : E) (m : Str) (b : E)
  | call (f : Nat) (a : E) | make (c : Nat) (a : E)
  | blt (b : Bi) (a : E) | stro (a : E) | isi (a : E) (t : TyN) | isc (a : E) (c : Nat)
  | sm (s : Sm) (a b : E) | split (a b : E) | lof (a : E) | lrng (a : E)
  | fmt (a : E) | js (a : E)
  | iseq (a : E) | irng (a : E) | irng2 (a b : E) | ienum (a : E)
  | comp (t : Tg) (i c e : E) | dcomp (t : Tg) (i k v : E)

inductive S where
  | nil | seq (a b : S)
  | asg (i : Nat) (e : E) | unp (is : List Nat) (e : E) | par (i j : Nat) (e : E)
  | setf (o : E) (f : Str) (e : E) | seti (o i e : E)
  | app (o e : E) | rem (o e : E) | ex (e : E) | aug (i : Nat) (o : Operator) (e : E)
  | iff (t : E) (a b : S) | for_ (t : Tg) (i : E) (b : S) | whl (t : E) (b : S)
  | ret (e : E) | retN | brk | cnt | pass | never

structure Fn where
  nm : Str
  qual : Str
  ps : List Str
  N : List Str
  glob : Bool
  keep : Bool
  body : S
structure Cl where
  nm : Str
  flds : List Str
  props : List (Str × Nat)
  meths : List (Str × Nat)
  init : Nat
  eqid : Bool
structure Tab where
  fns : List Fn
  cls : List Cl
  cons : List (Str × D)

/-! ### freezing -/
mutual
/-- cells from n on turned into what they hold -/
def fzD (n : Nat) (cs : List D) : D → Option D
  | .cell c => if c < n then some (.cell c) else match cs[c]? with
    | some d => if d.blw n then some d else none
    | none => none
  | .tup xs => (fzL n cs xs).map .tup
  | .lst xs => (fzL n cs xs).map .lst
  | .rls xs => (fzL n cs xs).map .rls
  | .dct ks xs => (fzL n cs xs).map (.dct ks)
  | .obj c ks xs => (fzL n cs xs).map (.obj c ks)
  | d => some d
def fzL (n : Nat) (cs : List D) : List D → Option (List D)
  | [] => some []
  | x :: xs => (fzD n cs x).bind fun a => (fzL n cs xs).map fun b => a :: b
end
def finD (keep : Bool) (n : Nat) (d : D) (cs : List D) : Option (D × List D) :=
  if keep then some (d, cs) else if cs.length = n then some (d, cs) else
    (fzD n cs d).map fun z => (z, cs.take n)

/-! ### the evaluator -/
abbrev CallF := Nat → List D → List D → Option (D × List D)
def lookF (f : Str) (ks : List Str) (xs : List D) : Option D := (ks.zip xs).lookup f
def attrD (T : Tab) (C : CallF) (d : D) (f : Str) (cs : List D) : Option (D × List D) := match cont cs d with
  | some (.obj c ks xs) => match T.cls[c]? with
    | some cl => if cl.flds.contains f then (lookF f ks xs).map fun z => (z, cs) else match cl.props.lookup f with
      | some g => C g [d] cs
      | none => none
    | none => none
  | _ => none
def methD (T : Tab) (C : CallF) (d : D) (f : Str) (args : List D) (cs0 cs : List D) : Option (D × List D) := match cont cs0 d with
  | some (.obj c ks xs) => match T.cls[c]? with
    | some cl => if ks.contains f then none else match cl.meths.lookup f with
      | some g => C g (d :: args) cs
      | none => none
    | none => none
  | _ => none
def makeD (T : Tab) (C : CallF) (c : Nat) (args : List D) (cs : List D) : Option (D × List D) := match T.cls[c]? with
  | some cl => (C cl.init (.cell cs.length :: args) (cs ++ [.obj c [] []])).bind fun r =>
    if r.2.length = cs.length + 1 then match r.1, r.2[cs.length]? with
      | .non, some d => some (d, r.2.take cs.length)
      | _, _ => none
    else none
  | none => none
def sliceL (xs : List D) (lo hi : Option Int) : List D := (xs.drop (HT.sIx xs.length 0 lo)).take (HT.sIx xs.length xs.length hi - HT.sIx xs.length 0 lo)
/-- a binary operator: scalars, or lists joined, repeated -/
def binA (o : Operator) (cs : List D) (x y : D) : Option D := match binD o x y with
  | some z => some z
  | none => match o, cont cs x, cont cs y with
    | .Add, some (.lst a), some (.lst b) => if a.length + b.length ≤ sizeLine then some (.lst (a ++ b)) else none
    | .Mult, some (.lst a), some (.int k) => if -(2 ^ 63) ≤ k ∧ k < 2 ^ 63 ∧ a.length * k.toNat ≤ sizeLine then some (.lst (List.replicate k.toNat a).flatten) else none
    | _, _, _ => none
def cmpD (ok : Nat → Bool) (o : CmpOp) (cs : List D) (x y : D) : Option Bool := match o, x, y with
  | .Eq, a, b => eqD cs a b
  | .NotEq, a, b => (eqD cs a b).map (!·)
  | .Lt, .int i, .int j => some (decide (i < j))
  | .LtE, .int i, .int j => some (decide (i ≤ j))
  | .Gt, .int i, .int j => some (decide (j < i))
  | .GtE, .int i, .int j => some (decide (j ≤ i))
  | .Is, a, .non => some (isNonD a)
  | .IsNot, a, .non => some (!isNonD a)
  | .In, a, b => inD ok cs a b
  | .NotIn, a, b => (inD ok cs a b).map (!·)
  | _, _, _ => none
def idxD (cs : List D) (x y : D) : Option D := match x, y with
  | .str z, .int i => if z.length ≤ sizeLine then (atI z.cps.toList i).map fun c => .str ⟨#[c]⟩ else none
  | a, .int i => (seqD cs a).bind fun xs => atI xs i
  | _, _ => none
def slcD (cs : List D) (x : D) (lo hi : Option Int) : Option D := match x with
  | .str z => if z.length ≤ sizeLine then some (.str (cutS z lo hi)) else none
  | a => match lstD cs a with
    | some xs => some (.lst (sliceL xs lo hi))
    | none => (tupD a).map fun xs => .tup (sliceL xs lo hi)
def bools : List D → Option (List Bool)
  | [] => some []
  | .bl b :: r => (bools r).map (b :: ·)
  | _ => none
def txts : List D → Option (List Str)
  | [] => some []
  | .str b :: r => (txts r).map (b :: ·)
  | _ => none
def bltD (b : Bi) (cs : List D) (args : List D) : Option D := match b, args with
  | .len, [.str z] => if z.length ≤ sizeLine then some (.int z.length) else none
  | .len, [d] => match seqD cs d with
    | some xs => some (.int xs.length)
    | none => match cont cs d with
      | some (.dct ks _) => some (.int ks.length)
      | _ => none
  | .abs, [.int i] => some (.int (if i < 0 then -i else i))
  | .int, [.int i] => some (.int i)
  | .int, [.bl k] => some (.int (if k then 1 else 0))
  | .int, [.str a] => match PySem.intText? a with
    | some n => if a.length ≤ 640 then some (.int n) else none
    | none => none
  | .str, [.int i] => if i.natAbs.log2 < 1920 then some (.str (toString i)) else none
  | .str, [.str a] => some (.str a)
  | .max, [.int i, .int j] => some (.int (if j > i then j else i))
  | .min, [.int i, .int j] => some (.int (if j < i then j else i))
  | .all, [d] => (lstD cs d).bind fun xs => (bools xs).map fun bs => .bl (bs.all id)
  | .any, [d] => (lstD cs d).bind fun xs => (bools xs).map fun bs => .bl (bs.any id)
  | .tuple, [d] => (seqD cs d).map .tup
  | _, _ => none
def tyD (cs : List D) (d : D) : Option TyN := match cont cs d with
  | some .non => some .none
  | some (.bl _) => some .bool
  | some (.int _) => some .int
  | some (.str _) => some .str
  | some (.lst _) => some .list
  | some (.rls _) => some .list
  | some (.tup _) => some .tuple
  | some (.dct _ _) => some .dict
  | _ => none
def isT (a b : TyN) : Bool := decide (a = b) || (decide (a = .bool) && decide (b = .int))
def isiD (cs : List D) (d : D) (t : TyN) : Option D := (tyD cs d).map fun a => .bl (isT a t)
def iscD (cs : List D) (d : D) (c : Nat) : Option D := match cont cs d with
  | some (.obj c' _ _) => if c' = c then some (.bl true) else none
  | _ => match tyD cs d with
    | some _ => some (.bl false)
    | none => none
def smD (s : Sm) (cs : List D) (a b : D) : Option D := match s, a, b with
  | .join, .str x, d => (seqD cs d).bind fun xs => (txts xs).bind fun ys => if (ys.map (·.length)).sum + ys.length * x.length ≤ 16777216 then some (.str (Txt.join x ys)) else none
  | .endswith, .str x, .str y => some (.bl (Txt.endswith x y))
  | _, _, _ => none
def splitD (a b : D) : Option D := match a, b with
  | .str x, .str y => if (y.length == 0) = false ∧ x.length + 2 ≤ sizeLine then some (.lst ((Txt.split x y).map .str)) else none
  | _, _ => none
def fmtD (d : D) : Option D := match d with
  | .str y => if y.length ≤ sizeLine then some (.str y) else none
  | .int i => if i.natAbs.log2 < 1920 then some (.str (toString i)) else none
  | _ => none
def jsD : Str → List D → Option Str
  | acc, [] => some acc
  | acc, .str y :: r => if (acc ++ y).length ≤ sizeLine then jsD (acc ++ y) r else none
  | _, _ => none
def rangeL (lo : Int) (n : Nat) : List D := (List.range n).map fun (i : Nat) => .int (lo + i)
def enumL : Nat → List D → List D
  | _, [] => []
  | i, x :: xs => .tup [.int i, x] :: enumL (i + 1) xs
def charsL (x : Str) : List D := x.cps.toList.map fun c => .str ⟨#[c]⟩
/-- what a for walks -/
def iseqD (cs : List D) (d : D) : Option (List D) := match d with
  | .str x => some (charsL x)
  | .cell _ => none
  | d => seqD cs d
def bindT (t : Tg) (cs : List D) (x : D) (δ : Env') : Option Env' := match t with
  | .nm i => some (δ.set i (some x))
  | .tp is => (seqD cs x).bind fun xs => if xs.length = is.length then some ((is.zip xs).foldl (fun δ p => δ.set p.1 (some p.2)) δ) else none
def wipeD (δ : Env') : List Nat → Env'
  | [] => δ
  | v :: vs => (wipeD δ vs).set v none
/-- the turns of a comprehension: what is made of each item -/
def compL (f : D → List D → Option (Option D × List D)) : List D → List D → Option (List D × List D)
  | [], cs => some ([], cs)
  | x :: xs, cs => (f x cs).bind fun r => (compL f xs r.2).map fun t => (match r.1 with | some y => y :: t.1 | none => t.1, t.2)
def keyD : D → Option Key
  | .int i => some (.inl i)
  | .str x => some (.inr x)
  | _ => none
/-- d[k] = v on keys and values -/
def replG {α : Type} (k : Key) (v : α) : List Key → List α → List α
  | k' :: ks, x :: xs => (if k' = k then v else x) :: replG k v ks xs
  | _, xs => xs
def putD (k : Key) (v : D) (ks : List Key) (xs : List D) : List Key × List D := if (ks.any fun k' => decide (k' = k)) = true then (ks, replG k v ks xs) else (ks ++ [k], xs ++ [v])
def dcompL (f : D → List D → Option (Key × D × List D)) : List D → List Key → List D → List D → Option (List Key × List D × List D)
  | [], ks, vs, cs => some (ks, vs, cs)
  | x :: xs, ks, vs, cs => (f x cs).bind fun r => if ks.length < sizeLine then let p := putD r.1 r.2.1 ks vs; dcompL f xs p.1 p.2 r.2.2 else none

def okC (T : Tab) (c : Nat) : Bool := match T.cls[c]? with
  | some cl => cl.eqid
  | none => false
def isNop : E → Bool
  | .nop => true
  | _ => false
def partI : D → Option Int
  | .int i => some i
  | _ => none
def partE (b : Bool) (x : Option (D × List D)) (cs : List D) : Option (Option Int × List D) := if b then some (none, cs) else x.bind fun s => (partI s.1).map fun i => (some i, s.2)
def lstArgs : D → Option (List D)
  | .lst xs => some xs
  | _ => none

def ev (T : Tab) (C : CallF) : E → Env' → List D → Option (D × List D)
  | .var i, δ, cs => match δ[i]? with
    | some (some d) => some (d, cs)
    | _ => none
  | .int i, _, cs => some (.int i, cs)
  | .str x, _, cs => some (.str x, cs)
  | .bl b, _, cs => some (.bl b, cs)
  | .non, _, cs => some (.non, cs)
  | .nop, _, cs => some (.non, cs)
  | .glob k, _, cs => (T.cons[k]?).map fun p => (p.2, cs)
  | .fr a, δ, cs => ev T C a δ cs
  | .mu a, δ, cs => (ev T C a δ cs).map fun r => (.cell r.2.length, r.2 ++ [r.1])
  | .bin o a b, δ, cs => (ev T C a δ cs).bind fun r => (ev T C b δ r.2).bind fun s => (binA o s.2 r.1 s.1).map fun z => (z, s.2)
  | .neg a, δ, cs => (ev T C a δ cs).bind fun r => match r.1 with
    | .int i => some (.int (-i), r.2)
    | _ => none
  | .cmp o a b, δ, cs => (ev T C a δ cs).bind fun r => (ev T C b δ r.2).bind fun s => (cmpD (okC T) o s.2 r.1 s.1).map fun z => (.bl z, s.2)
  | .chain o o' a b c, δ, cs => (ev T C a δ cs).bind fun r => (ev T C b δ r.2).bind fun s => (cmpD (okC T) o s.2 r.1 s.1).bind fun z =>
    if z then (ev T C c δ s.2).bind fun t => (cmpD (okC T) o' t.2 s.1 t.1).map fun y => (.bl y, t.2) else some (.bl false, s.2)
  | .and' a b, δ, cs => (ev T C a δ cs).bind fun r => (truD r.2 r.1).bind fun k => if k then ev T C b δ r.2 else some r
  | .or' a b, δ, cs => (ev T C a δ cs).bind fun r => (truD r.2 r.1).bind fun k => if k then some r else ev T C b δ r.2
  | .not' a, δ, cs => (ev T C a δ cs).bind fun r => (truD r.2 r.1).map fun k => (.bl (!k), r.2)
  | .ite t a b, δ, cs => (ev T C t δ cs).bind fun r => match r.1 with
    | .bl true => ev T C a δ r.2
    | .bl false => ev T C b δ r.2
    | _ => none
  | .tval a, δ, cs => (ev T C a δ cs).bind fun r => (truD r.2 r.1).map fun k => (.bl k, r.2)
  | .tnot a, δ, cs => (ev T C a δ cs).bind fun r => match r.1 with
    | .bl k => some (.bl (!k), r.2)
    | _ => none
  | .tand a b, δ, cs => (ev T C a δ cs).bind fun r => match r.1 with
    | .bl true => ev T C b δ r.2
    | .bl false => some (.bl false, r.2)
    | _ => none
  | .tor a b, δ, cs => (ev T C a δ cs).bind fun r => match r.1 with
    | .bl true => some (.bl true, r.2)
    | .bl false => ev T C b δ r.2
    | _ => none
  | .nil, _, cs => some (.lst [], cs)
  | .cons a b, δ, cs => (ev T C a δ cs).bind fun r => (ev T C b δ r.2).bind fun s => (lstArgs s.1).map fun xs => (.lst (r.1 :: xs), s.2)
  | .star a b, δ, cs => (ev T C a δ cs).bind fun r => (seqD r.2 r.1).bind fun ys => (ev T C b δ r.2).bind fun s => (lstArgs s.1).map fun xs => (.lst (ys ++ xs), s.2)
  | .lst a, δ, cs => (ev T C a δ cs).bind fun r => (lstArgs r.1).bind fun xs => if xs.length ≤ sizeLine then some (.lst xs, r.2) else none
  | .cat a b, δ, cs => (ev T C a δ cs).bind fun r => (ev T C b δ r.2).bind fun s => match cont s.2 r.1, cont s.2 s.1 with
    | some (.lst x), some (.lst y) => if x.length + y.length ≤ sizeLine then some (.lst (x ++ y), s.2) else none
    | _, _ => none
  | .tup a, δ, cs => (ev T C a δ cs).bind fun r => (lstArgs r.1).bind fun xs => if xs.length ≤ sizeLine then some (.tup xs, r.2) else none
  | .dnil, _, cs => some (.dct [] [], cs)
  | .idx a b, δ, cs => (ev T C a δ cs).bind fun r => (ev T C b δ r.2).bind fun s => (idxD s.2 r.1 s.1).map fun z => (z, s.2)
  | .slc a l h, δ, cs => (ev T C a δ cs).bind fun r => (partE (isNop l) (ev T C l δ r.2) r.2).bind fun s => (partE (isNop h) (ev T C h δ s.2) s.2).bind fun t => (slcD t.2 r.1 s.1 t.1).map fun z => (z, t.2)
  | .attr a f, δ, cs => (ev T C a δ cs).bind fun r => attrD T C r.1 f r.2
  | .meth a f b, δ, cs => (ev T C a δ cs).bind fun r => (ev T C b δ r.2).bind fun s => (lstArgs s.1).bind fun xs => methD T C r.1 f xs r.2 s.2
  | .call f a, δ, cs => (ev T C a δ cs).bind fun r => (lstArgs r.1).bind fun xs => C f xs r.2
  | .make c a, δ, cs => (ev T C a δ cs).bind fun r => (lstArgs r.1).bind fun xs => makeD T C c xs r.2
  | .blt b a, δ, cs => (ev T C a δ cs).bind fun r => (lstArgs r.1).bind fun xs => (bltD b r.2 xs).map fun z => (z, r.2)
  | .stro a, δ, cs => (ev T C a δ cs).bind fun r => (methD T C r.1 (PySem.Str.ofString "__str__") [] r.2 r.2).bind fun s => match s.1 with
    | .str x => some (.str x, s.2)
    | _ => none
  | .isi a t, δ, cs => (ev T C a δ cs).bind fun r => (isiD r.2 r.1 t).map fun z => (z, r.2)
  | .isc a c, δ, cs => (ev T C a δ cs).bind fun r => (iscD r.2 r.1 c).map fun z => (z, r.2)
  | .sm s a b, δ, cs => (ev T C a δ cs).bind fun r => (ev T C b δ r.2).bind fun t => (smD s t.2 r.1 t.1).map fun z => (z, t.2)
  | .split a b, δ, cs => (ev T C a δ cs).bind fun r => (ev T C b δ r.2).bind fun t => (splitD r.1 t.1).map fun z => (z, t.2)
  | .lof a, δ, cs => (ev T C a δ cs).bind fun r => (seqD r.2 r.1).map fun xs => (.lst xs, r.2)
  | .lrng a, δ, cs => (ev T C a δ cs).bind fun r => match r.1 with
    | .int n => if n < 1000000 then some (.lst (rangeL 0 n.toNat), r.2) else none
    | _ => none
  | .fmt a, δ, cs => (ev T C a δ cs).bind fun r => (fmtD r.1).map fun z => (z, r.2)
  | .js a, δ, cs => (ev T C a δ cs).bind fun r => (lstArgs r.1).bind fun xs => (jsD Str.empty xs).map fun z => (.str z, r.2)
  | .iseq a, δ, cs => (ev T C a δ cs).bind fun r => (iseqD r.2 r.1).map fun xs => (.lst xs, r.2)
  | .irng a, δ, cs => (ev T C a δ cs).bind fun r => match r.1 with
    | .int n => if -(2 ^ 62) ≤ n ∧ n < 2 ^ 62 then some (.lst (rangeL 0 n.toNat), r.2) else none
    | _ => none
  | .irng2 a b, δ, cs => (ev T C a δ cs).bind fun r => (ev T C b δ r.2).bind fun s => match r.1, s.1 with
    | .int lo, .int hi => if -(2 ^ 62) ≤ lo ∧ lo < 2 ^ 62 ∧ -(2 ^ 62) ≤ hi ∧ hi < 2 ^ 62 then some (.lst (rangeL lo (hi - lo).toNat), s.2) else none
    | _, _ => none
  | .ienum a, δ, cs => (ev T C a δ cs).bind fun r => match r.1 with
    | .cell _ => none
    | d => (seqD r.2 d).map fun xs => (.lst (enumL 0 xs), r.2)
  | .comp t i c e, δ, cs => (ev T C i δ cs).bind fun r => (lstArgs r.1).bind fun items =>
    (compL (fun x cs => (bindT t cs x (wipeD δ t.slots)).bind fun δ' => (ev T C c δ' cs).bind fun b => match b.1 with
      | .bl false => some (none, b.2)
      | .bl true => (ev T C e δ' b.2).map fun y => (some y.1, y.2)
      | _ => none) items r.2).bind fun q => if q.1.length ≤ sizeLine then some (.lst q.1, q.2) else none
  | .dcomp t i k v, δ, cs => (ev T C i δ cs).bind fun r => (lstArgs r.1).bind fun items =>
    (dcompL (fun x cs => (bindT t cs x (wipeD δ t.slots)).bind fun δ' => (ev T C k δ' cs).bind fun b => (keyD b.1).bind fun key => (ev T C v δ' b.2).map fun y => (key, y.1, y.2)) items [] [] r.2).map fun q => (.dct q.1 q.2.1, q.2.2)

inductive Out where
  | nx (δ : Env') | rt (d : D) | bk (δ : Env') | ct (δ : Env')

def forL (b : Env' → List D → Option (Out × List D)) (t : Tg) : List D → Env' → List D → Option (Out × List D)
  | [], δ, cs => some (.nx δ, cs)
  | x :: xs, δ, cs => (bindT t cs x δ).bind fun δ' => (b δ' cs).bind fun r => match r.1 with
    | .nx δ2 => forL b t xs δ2 r.2
    | .ct δ2 => forL b t xs δ2 r.2
    | .bk δ2 => some (.nx δ2, r.2)
    | .rt d => some (.rt d, r.2)
def whileL (t : Env' → List D → Option (D × List D)) (b : Env' → List D → Option (Out × List D)) : Nat → Env' → List D → Option (Out × List D)
  | 0, _, _ => none
  | n + 1, δ, cs => (t δ cs).bind fun r => match r.1 with
    | .bl false => some (.nx δ, r.2)
    | .bl true => (b δ r.2).bind fun s => match s.1 with
      | .nx δ2 => whileL t b n δ2 s.2
      | .ct δ2 => whileL t b n δ2 s.2
      | .bk δ2 => some (.nx δ2, s.2)
      | .rt d => some (.rt d, s.2)
    | _ => none
/-- self.f = v on names and values -/
def putN (f : Str) (v : D) : List Str → List D → List Str × List D
  | [], [] => ([f], [v])
  | k' :: ks, x :: xs => if k' = f then (k' :: ks, v :: xs) else let r := putN f v ks xs; (k' :: r.1, x :: r.2)
  | ks, xs => (ks, xs)

/-- the first place where an item equals x -/
def firstEq (x : D) : Nat → List D → Option Nat
  | _, [] => none
  | i, y :: ys => if eqF y x then some i else firstEq x (i + 1) ys

def evS (T : Tab) (C : CallF) (wf : Nat) : S → Env' → List D → Option (Out × List D)
  | .nil, δ, cs => some (.nx δ, cs)
  | .pass, δ, cs => some (.nx δ, cs)
  | .never, _, _ => none
  | .seq a b, δ, cs => (evS T C wf a δ cs).bind fun r => match r.1 with
    | .nx δ' => evS T C wf b δ' r.2
    | o => some (o, r.2)
  | .asg i e, δ, cs => (ev T C e δ cs).map fun r => (.nx (δ.set i (some r.1)), r.2)
  | .unp is e, δ, cs => (ev T C e δ cs).bind fun r => (bindT (.tp is) r.2 r.1 δ).map fun δ' => (.nx δ', r.2)
  | .par i j e, δ, cs => (ev T C e δ cs).bind fun r => match r.1 with
    | .lst [x, y] => some (.nx ((δ.set i (some x)).set j (some y)), r.2)
    | _ => none
  | .setf o f e, δ, cs => (ev T C e δ cs).bind fun r => (ev T C o δ r.2).bind fun s => match s.1 with
    | .cell n => match s.2[n]? with
      | some (.obj c ks xs) => match T.cls[c]? with
        | some cl => if cl.flds.contains f = true ∧ ks.length < 1000 ∧ r.1.blw n = true then let p := putN f r.1 ks xs; some (.nx δ, s.2.set n (.obj c p.1 p.2)) else none
        | none => none
      | _ => none
    | _ => none
  | .seti o i e, δ, cs => (ev T C e δ cs).bind fun r => (ev T C o δ r.2).bind fun s => (ev T C i δ s.2).bind fun t => match s.1, t.1 with
    | .cell n, .int k => match t.2[n]? with
      | some (.lst xs) => if r.1.blw n = true then (ixN xs.length k).map fun j => (.nx δ, t.2.set n (.lst (xs.set j r.1))) else none
      | _ => none
    | _, _ => none
  | .app o e, δ, cs => (ev T C o δ cs).bind fun s => (ev T C e δ s.2).bind fun r => match s.1 with
    | .cell n => match s.2[n]?, r.2[n]? with
      | some (.lst _), some (.lst xs) => if xs.length < sizeLine ∧ r.1.blw n = true then some (.nx δ, r.2.set n (.lst (xs ++ [r.1]))) else none
      | _, _ => none
    | _ => none
  | .rem o e, δ, cs => (ev T C o δ cs).bind fun s => (ev T C e δ s.2).bind fun r => match s.1 with
    | .cell n => match s.2[n]?, r.2[n]? with
      | some (.lst _), some (.lst xs) => if flatD r.1 && xs.all flatD then (firstEq r.1 0 xs).map fun j => (.nx δ, r.2.set n (.lst (xs.eraseIdx j))) else none
      | _, _ => none
    | _ => none
  | .ex e, δ, cs => (ev T C e δ cs).map fun r => (.nx δ, r.2)
  | .aug i o e, δ, cs => match δ[i]? with
    | some (some (.int a)) => (ev T C e δ cs).bind fun r => match o, r.1 with
      | .Add, .int b => some (.nx (δ.set i (some (.int (a + b)))), r.2)
      | _, _ => none
    | _ => none
  | .iff t a b, δ, cs => (ev T C t δ cs).bind fun r => match r.1 with
    | .bl true => evS T C wf a δ r.2
    | .bl false => evS T C wf b δ r.2
    | _ => none
  | .for_ t i b, δ, cs => (ev T C i δ cs).bind fun r => (lstArgs r.1).bind fun items => forL (evS T C wf b) t items δ r.2
  | .whl t b, δ, cs => whileL (ev T C t) (evS T C wf b) wf δ cs
  | .ret e, δ, cs => (ev T C e δ cs).map fun r => (.rt r.1, r.2)
  | .retN, _, cs => some (.rt .non, cs)
  | .brk, δ, cs => some (.bk δ, cs)
  | .cnt, δ, cs => some (.ct δ, cs)

def startD (N : List Str) (ds : List D) : Env' := ds.map some ++ List.replicate (N.length - ds.length) none
def finO (keep : Bool) (n : Nat) (r : Out × List D) : Option (D × List D) := match r.1 with
  | .nx _ => finD keep n .non r.2
  | .rt d => finD keep n d r.2
  | _ => none
def evCall (T : Tab) (wf : Nat) : Nat → CallF
  | 0 => fun _ _ _ => none
  | n + 1 => fun f ds cs => match T.fns[f]? with
    | some fn => if ds.length = fn.ps.length then (evS T (evCall T wf n) wf fn.body (startD fn.N ds) cs).bind (finO fn.keep cs.length) else none
    | none => none
end DL

end

section
set_option Elab.async false
set_option linter.all false
set_option maxRecDepth 100000
set_option maxHeartbeats 4000000
/-! D layer s: about the syntax; operators. -/
namespace DL
open PySem L2
def isStar : Expr → Bool
  | .Starred _ _ => true
  | _ => false
def isSet : Expr → Bool
  | .Set _ _ _ => true
  | _ => false
def isSlice : Expr → Bool
  | .Slice _ _ _ _ => true
  | _ => false
/-- no super() -/
def plainBase : Expr → Bool
  | .Call (.Name _ _) [] [] _ => false
  | _ => true
def plainTest : Expr → Bool
  | .UnaryOp .Not _ _ => false
  | .BoolOp _ _ _ => false
  | .IfExp _ _ _ _ => false
  | .Compare _ _ _ _ => false
  | _ => true
/-! ### about the syntax -/
theorem star_cons {e : Expr} {es : List Expr} {env : Env} (h : isStar e = false) : starEach (e :: es) env = (false, eval e env) :: starEach es env := by
  cases e <;> first | rfl | (simp [isStar] at h)
theorem star_any' {env : Env} {pos : Pos} : ∀ {es : List Expr}, es.any isStar = false → (backTo pos (starEach es env)).any (·.1) = false
  | [], _ => rfl
  | e :: es, h => by
    simp only [List.any_cons, Bool.or_eq_false_iff] at h
    rw [star_cons h.1]
    have ih := star_any' (env := env) (pos := pos) h.2
    simp only [backTo, List.map_cons, List.any_cons, Bool.or_eq_false_iff] at ih ⊢
    exact ⟨by simp, ih⟩
theorem base_plain {e : Expr} {f : Str} {env : Env} (h : plainBase e = true) : attributeBase e f env (eval e env) = eval e env := by
  unfold attributeBase
  split
  · simp [plainBase] at h
  · rfl
theorem isTrue_plain' {e : Expr} {env : Env} (h : plainTest e = true) : ∀ whole, isTrue e env whole = (do let v ← whole; standAt e.pos; holding [v] (truthy v)) := by
  intro wh
  cases e with
  | UnaryOp o x p => cases o <;> first | rfl | (simp [plainTest] at h)
  | BoolOp _ _ _ => simp [plainTest] at h
  | IfExp _ _ _ _ => simp [plainTest] at h
  | Compare _ _ _ _ => simp [plainTest] at h
  | _ => rfl
theorem behind_plain {o : CmpOp} {e : Expr} (h : isSet e = false) : behindInMarks o e = false := by
  cases e <;> first | rfl | (simp [isSet] at h)
theorem folded_plain {e : Expr} {env : Env} (h : isSet e = false) : ∀ x, foldedSetIterable e env x = pure x := by
  intro x
  cases e <;> first | rfl | (simp [isSet] at h)
theorem plainIx_of {e : Expr} (h : isSlice e = false) : PlainIx e := by
  intro o i
  cases e <;> first | rfl | (simp [isSlice] at h)

/-! ### operators -/
def rBinA (o : Operator) : R2 := fun x y H Q => rBin o x y H Q ∨ (o = .Add ∧ rCat x y H Q) ∨ (o = .Mult ∧ rRep x y H Q)
theorem op_binA {X : Cx} (o : Operator) : OpR X (binaryOp o) (rBinA o) := by
  intro pins s σ H x y v u Q I rx ry q
  rcases q with q | ⟨rfl, q⟩ | ⟨rfl, q⟩
  · exact op_bin o pins s σ H x y v u Q I rx ry q
  · exact op_cat pins s σ H x y v u Q I rx ry q
  · exact op_rep pins s σ H x y v u Q I rx ry q
section
variable {G : Glob} {F H : Hp} {m : List Addr} {cs : List D} {v u : V} {d e z : D} {Q : VK}
theorem cont_lst {xs : List D} (w : W G H F m cs) (r : Rep G F m v d) (h : cont cs d = some (.lst xs)) : ∃ a vs, v = .ref a ∧ H a = some (.lst vs) ∧ Reps G F m vs xs := by
  cases r with
  | lst h1 h2 => simp [cont] at h; subst h; exact ⟨_, _, rfl, w.sub _ _ h1, h2⟩
  | cell h1 =>
    obtain ⟨d', o, e1, e2, c⟩ := w.cell h1
    simp only [cont, e1] at h
    cases h
    cases c with
    | lst r => exact ⟨_, _, rfl, e2, r⟩
  | _ => simp [cont] at h
theorem cont_int {i : Int} (w : W G H F m cs) (r : Rep G F m v d) (h : cont cs d = some (.int i)) : v = .int i := by
  cases r with
  | int j => simp [cont] at h; subst h; rfl
  | cell h1 =>
    obtain ⟨d', o, e1, e2, c⟩ := w.cell h1
    simp only [cont, e1] at h
    cases h
    cases c
  | _ => simp [cont] at h
theorem Reps.flat {vs : List V} {ds : List D} (h : Reps G F m vs ds) : ∀ k : Nat, Reps G F m (List.replicate k vs).flatten (List.replicate k ds).flatten
  | 0 => .nil
  | k + 1 => by
    rw [List.replicate_succ, List.replicate_succ, List.flatten_cons, List.flatten_cons]
    exact h.append (Reps.flat h k)
theorem binA_ok {o : Operator} (w : W G H F m cs) (r : Rep G F m v d) (r' : Rep G F m u e) (h : binA o cs d e = some z) (k : Kont G H F m cs z Q) : rBinA o v u H Q := by
  unfold binA at h
  split at h
  · rename_i y hy
    cases h
    exact .inl (bin_ok r r' hy fun x rx => k.here w rx)
  · split at h
    · rename_i ha hb _
      split at h
      · rename_i hl
        cases h
        obtain ⟨a1, vs1, rfl, h1, r1⟩ := cont_lst w r ha
        obtain ⟨a2, vs2, rfl, h2, r2⟩ := cont_lst w r' hb
        refine .inr (.inl ⟨rfl, a1, a2, vs1, vs2, rfl, rfl, h1, h2, by rw [r1.length, r2.length]; exact hl, fun p hp => k.frz w hp (.lst upd_same ?_)⟩)
        exact (r1.append r2).mono (ex_new (w.fnone hp)) (List.prefix_refl m)
      · cases h
    · rename_i ha hb _
      split at h
      · rename_i hl
        cases h
        obtain ⟨a1, vs1, rfl, h1, r1⟩ := cont_lst w r ha
        cases cont_int w r' hb
        refine .inr (.inr ⟨rfl, a1, _, vs1, rfl, rfl, h1, hl.1, hl.2.1, by rw [r1.length]; exact hl.2.2, fun p hp => k.frz w hp (.lst upd_same ?_)⟩)
        exact (r1.flat _).mono (ex_new (w.fnone hp)) (List.prefix_refl m)
      · cases h
    · cases h
/-- the rules of a comparison -/
def rCmp (K : PySem.W.Frag) (o : CmpOp) : R2 := match o with
  | .Eq => rEqD K
  | .NotEq => rNeD K
  | .Lt => rI0 fun i j => .bl (decide (i < j))
  | .LtE => rI0 fun i j => .bl (decide (i ≤ j))
  | .Gt => rI0 fun i j => .bl (decide (j < i))
  | .GtE => rI0 fun i j => .bl (decide (j ≤ i))
  | .Is => fun x y H Q => y = .non ∧ Q (.bl (decide (x = .non))) H
  | .IsNot => fun x y H Q => y = .non ∧ Q (.bl (!decide (x = .non))) H
  | .In => rInA K false
  | .NotIn => rInA K true
theorem op_cmp {X : Cx} (hu : X.A.units + 65 < cLine) (o : CmpOp) : OpR X (compareOp o) (rCmp X.K o) := by
  cases o <;> first
    | exact op_eqD (by omega) | exact op_neD (by omega) | exact op_lt | exact op_le | exact op_gt | exact op_ge | exact op_isN | exact op_notN | exact op_inA hu | exact op_notInA hu
theorem isNon_ok (r : Rep G F m v d) : decide (v = .non) = isNonD d := by
  cases r <;> rfl
theorem cmp_ok {o : CmpOp} {b : Bool} {ok : Nat → Bool} (w : W G H F m cs) (hok : ∀ c, ok c = true → EqId G c) (r : Rep G F m v d) (r' : Rep G F m u e) (h : cmpD ok o cs d e = some b) (k : Q (.bl b) H) : rCmp G.K o v u H Q := by
  unfold cmpD at h
  split at h
  · unfold eqD at h
    simp only [Option.bind_eq_some_iff] at h
    obtain ⟨p, hp, q, hq, h⟩ := h
    split at h
    · rename_i hs; cases h; exact ⟨p, q, toPyC_ok w r hp, toPyC_ok w r' hq, hs.1, hs.2, k⟩
    · cases h
  · unfold eqD at h
    simp only [Option.map_eq_some_iff, Option.bind_eq_some_iff] at h
    obtain ⟨b', ⟨p, hp, q, hq, h⟩, rfl⟩ := h
    split at h
    · rename_i hs; cases h; exact ⟨p, q, toPyC_ok w r hp, toPyC_ok w r' hq, hs.1, hs.2, k⟩
    · cases h
  · cases r; cases r'; cases h; exact ⟨_, _, rfl, rfl, k⟩
  · cases r; cases r'; cases h; exact ⟨_, _, rfl, rfl, k⟩
  · cases r; cases r'; cases h; exact ⟨_, _, rfl, rfl, k⟩
  · cases r; cases r'; cases h; exact ⟨_, _, rfl, rfl, k⟩
  · cases r'; cases h; exact ⟨rfl, by rw [isNon_ok r]; exact k⟩
  · cases r'; cases h; exact ⟨rfl, by rw [isNon_ok r]; exact k⟩
  · exact in_ok (neg := false) w hok r r' h k
  · simp only [Option.map_eq_some_iff] at h
    obtain ⟨b', h, rfl⟩ := h
    exact in_ok (neg := true) w hok r r' h k
  · cases h
end
end DL

end

section
set_option Elab.async false
set_option linter.all false
set_option maxRecDepth 100000
set_option maxHeartbeats 4000000
/-! D layer 5: the small language against the given text. -/
namespace DL
open PySem L2

/-- where a piece stands: the names by slot, the scope, and (in a comprehension) whose cells are its own -/
structure Cxt where
  N : List Str
  sc : Scope
  fs : Option Scope
inductive Tgt where
  | ex (x : Expr) | nw (x : Expr) | te (x : Expr) | ar (xs : List Expr) | po (o : Option Expr) | it (t : Tg) (tg x : Expr)

def visB (c : Cxt) (i : Nat) (x : Str) : Bool := decide (c.N[i]? = some x) && (match c.sc.names.lookup x with
  | some .local => true
  | some .cell => true
  | some .free => true
  | _ => false) && !(x == ("__debug__" : Str)) && !(x == ("__classdict__" : Str))
def glB (c : Cxt) (x : Str) : Bool := (match c.sc.names.lookup x with
  | some .globalImplicit => true
  | _ => false) && !(x == ("__debug__" : Str))
def fnB (c : Cxt) (x : Str) : Bool := match c.fs with
  | none => true
  | some s => s.names.lookup x == some .cell
/-- a name that is stored -/
def tgB (c : Cxt) (i : Nat) (x : Str) : Bool := decide (c.N[i]? = some x) && (match c.sc.names.lookup x with
  | some .local => true
  | some .cell => fnB c x
  | _ => false)
def tgsB (c : Cxt) : List Nat → List Expr → Bool
  | [], [] => true
  | i :: is, .Name x _ :: es => tgB c i x && tgsB c is es
  | _, _ => false
def tgtB (c : Cxt) : Tg → Expr → Bool
  | .nm i, .Name x _ => tgB c i x
  | .tp is, .Tuple es _ _ => tgsB c is es
  | _, _ => false
def ownOf (N : List Str) (is : List Nat) : List (Str × Nat) := is.map fun i => (N.getD i Str.empty, i)
def fnName (T : Tab) (f : Nat) (x : Str) : Bool := match T.fns[f]? with
  | some fn => fn.glob && fn.nm == x
  | none => false
def clName (T : Tab) (c : Nat) (x : Str) : Bool := match T.cls[c]? with
  | some cl => cl.nm == x
  | none => false

def isTT : E → Bool
  | .bl true => true
  | _ => false
def chk (T : Tab) : E → Cxt → Tgt → Bool
  | .var i, c, t => (match t with
    | .ex (.Name x _) => visB c i x
    | _ => false)
  | .int i, c, t => (match t with
    | .ex (.Constant (.int j) _ _) => decide (i = j)
    | _ => false)
  | .str i, c, t => (match t with
    | .ex (.Constant (.str j) _ _) => decide (i = j)
    | _ => false)
  | .bl i, c, t => (match t with
    | .ex (.Constant (.bool j) _ _) => decide (i = j)
    | _ => false)
  | .non, c, t => (match t with
    | .ex (.Constant .none _ _) => true
    | _ => false)
  | .nop, c, t => (match t with
    | .po none => true
    | _ => false)
  | .glob k, c, t => (match t with
    | .ex (.Name x _) => glB c x && (match T.cons[k]? with
      | some p => p.1 == x
      | none => false)
    | _ => false)
  | .fr a, c, t => (match t with
    | .ex x => chk T a c (.nw x)
    | _ => false)
  | .mu a, c, t => (match t with
    | .ex x => chk T a c (.nw x)
    | _ => false)
  | .bin o a b, c, t => (match t with
    | .ex (.BinOp x o' y _) => decide (o = o') && chk T a c (.ex x) && chk T b c (.ex y)
    | _ => false)
  | .neg a, c, t => (match t with
    | .ex (.UnaryOp .USub x _) => chk T a c (.ex x)
    | _ => false)
  | .cmp o a b, c, t => (match t with
    | .ex (.Compare x [o'] [y] _) => decide (o = o') && !isSet y && chk T a c (.ex x) && chk T b c (.ex y)
    | .te (.Compare x [o'] [y] _) => decide (o = o') && !isSet y && chk T a c (.ex x) && chk T b c (.ex y)
    | _ => false)
  | .chain o o' a b d, c, t => (match t with
    | .ex (.Compare x [p, p'] [y, z] _) => decide (o = p) && decide (o' = p') && !isSet y && !isSet z && chk T a c (.ex x) && chk T b c (.ex y) && chk T d c (.ex z)
    | .te (.Compare x [p, p'] [y, z] _) => decide (o = p) && decide (o' = p') && !isSet y && !isSet z && chk T a c (.ex x) && chk T b c (.ex y) && chk T d c (.ex z)
    | _ => false)
  | .and' a b, c, t => (match t with
    | .ex (.BoolOp .And (x :: y :: r) p) => chk T a c (.ex x) && (match r with
      | [] => chk T b c (.ex y)
      | _ => chk T b c (.ex (.BoolOp .And (y :: r) p)))
    | _ => false)
  | .or' a b, c, t => (match t with
    | .ex (.BoolOp .Or (x :: y :: r) p) => chk T a c (.ex x) && (match r with
      | [] => chk T b c (.ex y)
      | _ => chk T b c (.ex (.BoolOp .Or (y :: r) p)))
    | _ => false)
  | .not' a, c, t => (match t with
    | .ex (.UnaryOp .Not x _) => chk T a c (.ex x)
    | _ => false)
  | .ite s a b, c, t => (match t with
    | .ex (.IfExp w x y _) => chk T s c (.te w) && chk T a c (.ex x) && chk T b c (.ex y)
    | _ => false)
  | .tval a, c, t => (match t with
    | .te x => plainTest x && chk T a c (.ex x)
    | _ => false)
  | .tnot a, c, t => (match t with
    | .te (.UnaryOp .Not x _) => chk T a c (.te x)
    | _ => false)
  | .tand a b, c, t => (match t with
    | .te (.BoolOp .And (x :: y :: r) p) => chk T a c (.te x) && (match r with
      | [] => chk T b c (.te y)
      | _ => chk T b c (.te (.BoolOp .And (y :: r) p)))
    | _ => false)
  | .tor a b, c, t => (match t with
    | .te (.BoolOp .Or (x :: y :: r) p) => chk T a c (.te x) && (match r with
      | [] => chk T b c (.te y)
      | _ => chk T b c (.te (.BoolOp .Or (y :: r) p)))
    | _ => false)
  | .nil, c, t => (match t with
    | .ar [] => true
    | _ => false)
  | .cons a b, c, t => (match t with
    | .ar (x :: xs) => !isStar x && chk T a c (.ex x) && chk T b c (.ar xs)
    | _ => false)
  | .star a b, c, t => (match t with
    | .ar (.Starred x _ :: xs) => chk T a c (.ex x) && chk T b c (.ar xs)
    | _ => false)
  | .lst a, c, t => (match t with
    | .nw (.List xs _) => chk T a c (.ar xs)
    | _ => false)
  | .cat a b, c, t => (match t with
    | .nw (.BinOp x .Add y _) => chk T a c (.ex x) && chk T b c (.ex y)
    | _ => false)
  | .tup a, c, t => (match t with
    | .ex (.Tuple xs _ _) => chk T a c (.ar xs)
    | _ => false)
  | .dnil, c, t => (match t with
    | .nw (.Dict [] [] _) => true
    | _ => false)
  | .idx a b, c, t => (match t with
    | .ex (.Subscript x y _) => !isSlice y && chk T a c (.ex x) && chk T b c (.ex y)
    | _ => false)
  | .slc a l h, c, t => (match t with
    | .ex (.Subscript x (.Slice lo hi none _) _) => chk T a c (.ex x) && (match lo with
        | none => isNop l
        | some y => !isNop l && chk T l c (.ex y)) && (match hi with
        | none => isNop h
        | some y => !isNop h && chk T h c (.ex y))
    | _ => false)
  | .attr a f, c, t => (match t with
    | .ex (.Attribute x f' _) => decide (f = f') && plainBase x && chk T a c (.ex x)
    | _ => false)
  | .meth a m b, c, t => (match t with
    | .ex (.Call (.Attribute x m' ap) xs [] p) => decide (m = m') && plainBase x && !xs.any isStar && (ap.endLine == p.line) && decide (xs.length < 30) && chk T a c (.ex x) && chk T b c (.ar xs)
    | _ => false)
  | .call f a, c, t => (match t with
    | .ex (.Call (.Name x _) xs [] _) => glB c x && fnName T f x && !xs.any isStar && chk T a c (.ar xs)
    | _ => false)
  | .make k a, c, t => (match t with
    | .ex (.Call (.Name x _) xs [] _) => glB c x && clName T k x && !xs.any isStar && chk T a c (.ar xs)
    | _ => false)
  | .blt b a, c, t => (match t with
    | .ex (.Call (.Name x _) (y :: ys) [] _) => glB c x && (b.nm == x) && !(y :: ys).any isStar && chk T a c (.ar (y :: ys))
    | _ => false)
  | .stro a, c, t => (match t with
    | .ex (.Call (.Name x _) [y] [] _) => glB c x && (x == ("str" : Str)) && !isStar y && chk T a c (.ex y)
    | _ => false)
  | .isi a n, c, t => (match t with
    | .ex (.Call (.Name x _) [y, .Name z _] [] _) => glB c x && (x == ("isinstance" : Str)) && !isStar y && glB c z && (z == PySem.Str.ofString n.nm) && decide (n ≠ .none) && chk T a c (.ex y)
    | _ => false)
  | .isc a k, c, t => (match t with
    | .ex (.Call (.Name x _) [y, .Name z _] [] _) => glB c x && (x == ("isinstance" : Str)) && !isStar y && glB c z && clName T k z && chk T a c (.ex y)
    | _ => false)
  | .sm s a b, c, t => (match t with
    | .ex (.Call (.Attribute x m ap) [y] [] p) => (m == s.nm) && plainBase x && !isStar y && (ap.endLine == p.line) && chk T a c (.ex x) && chk T b c (.ex y)
    | _ => false)
  | .split a b, c, t => (match t with
    | .nw (.Call (.Attribute x m ap) [y] [] p) => (m == ("split" : Str)) && plainBase x && !isStar y && (ap.endLine == p.line) && chk T a c (.ex x) && chk T b c (.ex y)
    | _ => false)
  | .lof a, c, t => (match t with
    | .nw (.Call (.Name x _) [y] [] _) => glB c x && (x == ("list" : Str)) && !isStar y && chk T a c (.ex y)
    | _ => false)
  | .lrng _, _, _ => false
  | .fmt a, c, t => (match t with
    | .ex (.FormattedValue x (-1) none _) => chk T a c (.ex x)
    | _ => false)
  | .js a, c, t => (match t with
    | .ex (.JoinedStr (x :: y :: ys) _) => !(x :: y :: ys).any isStar && chk T a c (.ar (x :: y :: ys))
    | _ => false)
  | .iseq a, c, t => (match t with
    | .it _ _ x => !isSet x && chk T a c (.ex x)
    | _ => false)
  | .irng a, c, t => (match t with
    | .it _ _ (.Call (.Name x _) [y] [] _) => glB c x && (x == ("range" : Str)) && !isStar y && chk T a c (.ex y)
    | _ => false)
  | .irng2 a b, c, t => (match t with
    | .it _ _ (.Call (.Name x _) [y, z] [] _) => glB c x && (x == ("range" : Str)) && !isStar y && !isStar z && chk T a c (.ex y) && chk T b c (.ex z)
    | _ => false)
  | .ienum a, c, t => (match t with
    | .it (.tp _) (.Tuple _ _ _) (.Call (.Name x _) [y] [] _) => glB c x && (x == ("enumerate" : Str)) && !isStar y && chk T a c (.ex y)
    | _ => false)
  | .comp g i d e, c, t => (match t with
    | .nw (.ListComp x [⟨tg, it, ifs, 0⟩] scope _) => !isSet it && blkC c.N c.sc scope (ownOf c.N g.slots) && chk T i c (.it g tg it) && tgtB ⟨c.N, relS scope c.sc, some scope⟩ g tg &&
        (match ifs with
        | [] => isTT d
        | [y] => chk T d ⟨c.N, relS scope c.sc, some scope⟩ (.te y)
        | _ => false) && chk T e ⟨c.N, relS scope c.sc, some scope⟩ (.ex x)
    | _ => false)
  | .dcomp g i k v, c, t => (match t with
    | .nw (.DictComp x y [⟨tg, it, [], 0⟩] scope _) => !isSet it && blkC c.N c.sc scope (ownOf c.N g.slots) && chk T i c (.it g tg it) && tgtB ⟨c.N, relS scope c.sc, some scope⟩ g tg &&
        chk T k ⟨c.N, relS scope c.sc, some scope⟩ (.ex x) && chk T v ⟨c.N, relS scope c.sc, some scope⟩ (.ex y)
    | _ => false)

/-! ### what is known of the program -/
structure ClsOk (G : Glob) (mg : Str → Option Value) (fa : Nat → Addr) (c : Nat) (cl : Cl) : Prop where
  mgC : mg cl.nm = some (.ref (G.ca c))
  cls : Cls G.K (G.ca c)
  mak : Mk G.K (G.ca c) (fa cl.init)
  fld : ∀ f, cl.flds.contains f = true → NoAttr G.K (G.ca c) f
  prop : ∀ f g, cl.props.lookup f = some g → ∃ p, PropOf G.K (G.ca c) f p (fa g)
  meth : ∀ f g, cl.meths.lookup f = some g → Meth G.K (G.ca c) f (fa g)
  ha : PySem.W.findIn G.K (.ref (G.ca c)) "__class__" = some (some (.builtin "object.__class__"))
  hm : PySem.W.mroIn G.K (G.ca c) (.type "object") = some true
  eqid : cl.eqid = true → PySem.W.findIn G.K (.ref (G.ca c)) "__eq__" = some (some (.builtin "object.__eq__"))
  notin : ∀ t : TyN, PySem.W.kitOne G.K (.type t.nm) (.ref (G.ca c)) = some false
structure Sta (T : Tab) where
  P : Program
  w : World
  G : Glob
  mg : Str → Option Value
  base : Heap
  fa : Nat → Addr
  fd : Nat → FuncData
  fmg : ∀ (f : Nat) (fn : Fn), T.fns[f]? = some fn → fn.glob = true → mg fn.nm = some (.ref (fa f))
  fkp : ∀ (f : Nat) (fn : Fn), T.fns[f]? = some fn → PySem.W.keepIn G.K (.ref (fa f)) = true
  fb : ∀ (f : Nat) (fn : Fn), T.fns[f]? = some fn → Binds G.K (fd f) fn.ps []
  cls : ∀ (c : Nat) (cl : Cl), T.cls[c]? = some cl → ClsOk G mg fa c cl
  con : ∀ (k : Nat) (p : Str × D), T.cons[k]? = some p → ∃ v u, mg p.1 = some u ∧ RelV v u ∧ ∀ F m, Rep G F m v p.2
  nob : ∀ b : Bi, mg b.nm = none
  nobx : ∀ x ∈ (["range", "enumerate", "isinstance", "list", "bool", "dict"] : List Str), mg x = none
  oc1 : PySem.W.specialIn G.K (.builtin "object.__class__") "__get__" = some (some (.builtin "getset_descriptor.__get__"))
  oc2 : PySem.W.takesIn G.K (.builtin "object.__class__") = some true

structure GX {T : Tab} (S : Sta T) (n : Nat) (c : Cxt) (X : Cx) : Prop where
  prog : X.prog = S.P
  w : X.w = S.w
  K : X.K = S.G.K
  mg : X.mg = S.mg
  base : X.base = S.base
  hN : X.N = c.N
  nd : c.N.Nodup
  sc : X.env.scope = c.sc
  calm : X.calm = true
  room : Room (n + 2) X.A
  fn : ∀ x, fnB c x = true → X.fn x = true

theorem GX.r0 {T : Tab} {S : Sta T} {n : Nat} {c : Cxt} {X : Cx} (g : GX S n c X) : Room n X.A := g.room.mono (by omega)
theorem GX.r1 {T : Tab} {S : Sta T} {n : Nat} {c : Cxt} {X : Cx} (g : GX S n c X) : Room (n + 1) X.A := g.room.mono (by omega)
/-- what a def promises: its call's value -/
def spC (G : Glob) (C : CallF) (f : Nat) : Sp := fun vs H Q _ => ∃ F m cs ds d cs', W G H F m cs ∧ Reps G F m vs ds ∧ C f ds cs = some (d, cs') ∧ Kont G H F m cs' d Q
structure CallOk {T : Tab} (S : Sta T) (n : Nat) (C : CallF) : Prop where
  ok : ∀ (f : Nat) (fn : Fn), T.fns[f]? = some fn → FnOk S.P S.w S.G.K S.mg S.base CX0 n (S.fa f) (S.fd f) fn.ps (spC S.G C f)
  fn : ∀ (f : Nat) (ds cs : List D) (r : D × List D), C f ds cs = some r → ∃ fn, T.fns[f]? = some fn ∧ ds.length = fn.ps.length

def Means {T : Tab} (S : Sta T) (n : Nat) (f : Ev) (c : Cxt) : Tgt → Prop
  | .ex x => ∀ X, GX S n c X → PE X x (tE S.G f)
  | .nw x => ∀ X, GX S n c X → PE X x (tN S.G f)
  | .te x => ∀ X, GX S n c X → PT X x (tT S.G f)
  | .ar xs => ∀ X, GX S n c X → PA X xs (tA S.G f)
  | .po o => ∀ X, GX S n c X → PO X o (tO S.G f)
  | .it _ tg x => ∀ X, GX S n c X → PI X tg x (tI S.G f)
def Snd {T : Tab} (S : Sta T) (n : Nat) (C : CallF) (e : E) : Prop := ∀ c t, chk T e c t = true → Means S n (ev T C e) c t
end DL

end

section
set_option Elab.async false
set_option linter.all false
set_option maxRecDepth 100000
set_option maxHeartbeats 4000000
/-! D layer 6: the expressions are right. -/
namespace DL
open PySem L2

section
variable {T : Tab} {S : Sta T} {n : Nat} {C : CallF} {c : Cxt} {X : Cx}
theorem gl_of {x : Str} (g : GX S n c X) (h : glB c x = true) : Gl X x ∧ (x == ("__debug__" : Str)) = false := by
  unfold glB at h
  simp only [Bool.and_eq_true, Bool.not_eq_true'] at h
  refine ⟨?_, h.2⟩
  have h1 := h.1
  unfold Gl Env.kindOf
  rw [g.sc]
  split at h1
  · assumption
  · cases h1
theorem pv_of {i : Nat} {x : Str} {p : Pos} (g : GX S n c X) (h : visB c i x = true) : PE X (.Name x p) (tVar i) := by
  unfold visB at h
  simp only [Bool.and_eq_true, Bool.not_eq_true', decide_eq_true_eq] at h
  obtain ⟨⟨⟨h1, h2⟩, h3⟩, h4⟩ := h
  refine pe_var (by rw [g.hN]; exact h1) ?_ h3 h4
  unfold Vis
  rw [g.sc]
  split at h2
  · exact .inl (by assumption)
  · exact .inr (.inl (by assumption))
  · exact .inr (.inr (by assumption))
  · cases h2

theorem snd_var (i : Nat) : Snd S n C (.var i) := by
  intro c t h
  simp only [chk] at h
  split at h
  · intro X g
    refine (pv_of g h).imp fun σ H Q q => ?_
    obtain ⟨F, m, cs, δ, d, cs', w, en, he, k⟩ := q
    simp only [ev] at he
    split at he
    · rename_i hd
      cases he
      obtain ⟨v, h1, h2⟩ := en.at_ _ _ hd
      exact ⟨v, h1, k.here w h2⟩
    · cases he
  · cases h
theorem snd_int (i : Int) : Snd S n C (.int i) := by
  intro c t h
  simp only [chk] at h
  split at h
  · intro X g
    have h := of_decide_eq_true h
    subst h
    refine pe_int.imp fun σ H Q q => ?_
    obtain ⟨F, m, cs, δ, d, cs', w, en, he, k⟩ := q
    simp only [ev] at he
    cases he
    exact k.here w (.int i)
  · cases h
theorem snd_str (i : Str) : Snd S n C (.str i) := by
  intro c t h
  simp only [chk] at h
  split at h
  · intro X g
    have h := of_decide_eq_true h
    subst h
    refine pe_str.imp fun σ H Q q => ?_
    obtain ⟨F, m, cs, δ, d, cs', w, en, he, k⟩ := q
    simp only [ev] at he
    cases he
    exact k.here w (.str i)
  · cases h
theorem snd_bl (i : Bool) : Snd S n C (.bl i) := by
  intro c t h
  simp only [chk] at h
  split at h
  · intro X g
    have h := of_decide_eq_true h
    subst h
    refine pe_bl.imp fun σ H Q q => ?_
    obtain ⟨F, m, cs, δ, d, cs', w, en, he, k⟩ := q
    simp only [ev] at he
    cases he
    exact k.here w (.bl i)
  · cases h
theorem snd_non : Snd S n C .non := by
  intro c t h
  simp only [chk] at h
  split at h
  · intro X g
    refine pe_non.imp fun σ H Q q => ?_
    obtain ⟨F, m, cs, δ, d, cs', w, en, he, k⟩ := q
    simp only [ev] at he
    cases he
    exact k.here w .non
  · cases h
theorem snd_nop : Snd S n C .nop := by
  intro c t h
  simp only [chk] at h
  split at h
  · intro X g
    refine po_none.imp fun σ H Q q => ?_
    obtain ⟨F, m, cs, δ, d, cs', o, w, en, he, hp, k⟩ := q
    simp only [ev] at he
    cases he
    cases hp
    exact k H F m w Nx.refl
  · cases h
theorem snd_glob (j : Nat) : Snd S n C (.glob j) := by
  intro c t h
  simp only [chk] at h
  split at h
  · simp only [Bool.and_eq_true] at h
    intro X g
    obtain ⟨h1, h2⟩ := h
    split at h2
    · rename_i p hp
      obtain ⟨v, u, e1, e2, e3⟩ := S.con _ _ hp
      obtain ⟨g1, g2⟩ := gl_of g h1
      have e4 := beq_iff_eq.mp h2
      refine (pe_glob (v := v) g1 (by rw [g.mg, ← e4]; exact e1) e2 g2).imp fun σ H Q q => ?_
      obtain ⟨F, m, cs, δ, d, cs', w, en, he, k⟩ := q
      simp only [ev, hp, Option.map_some] at he
      cases he
      exact k.here w (e3 F m)
    · cases h2
  · cases h
theorem snd_fr {a : E} (ih : Snd S n C a) : Snd S n C (.fr a) := by
  intro c t h
  simp only [chk] at h
  split at h
  · intro X g
    refine (ih _ _ h X g).imp fun σ H Q q => ?_
    obtain ⟨F, m, cs, δ, d, cs', w, en, he, k⟩ := q
    simp only [ev] at he
    refine tN.intro w en he fun H1 F1 m1 w1 n1 en1 p o hp co => ?_
    refine (k.mono n1).frz w1 hp ?_
    have co' := co.mono (ex_new (o := o) (w1.fnone hp)) (List.prefix_refl m1)
    cases co' with
    | lst r => exact .lst upd_same r
    | dct l r => exact .dct upd_same l r
    | obj l r => exact .obj upd_same l r
  · cases h
theorem snd_mu {a : E} (ih : Snd S n C a) : Snd S n C (.mu a) := by
  intro c t h
  simp only [chk] at h
  split at h
  · intro X g
    refine (ih _ _ h X g).imp fun σ H Q q => ?_
    obtain ⟨F, m, cs, δ, d, cs', w, en, he, k⟩ := q
    simp only [ev, Option.map_eq_some_iff] at he
    obtain ⟨⟨d1, cs1⟩, he, e2⟩ := he
    cases e2
    refine tN.intro w en he fun H1 F1 m1 w1 n1 en1 p o hp co => ?_
    refine k _ _ _ _ (w1.new hp co) (n1.trans (Nx.new hp)) (.cell ?_)
    rw [← w1.len, List.getElem?_append_right (Nat.le_refl _)]
    simp
  · cases h
end

section
variable {T : Tab} {S : Sta T} {n : Nat} {C : CallF} {c : Cxt} {X : Cx}
theorem okC_ok : ∀ c, okC T c = true → EqId S.G c := by
  intro c h
  unfold okC at h
  split at h
  · rename_i cl hc
    have q := S.cls c cl hc
    exact ⟨q.hm, q.eqid h⟩
  · cases h
theorem units_of (g : GX S n c X) : X.A.units + 65 < cLine := by
  have := g.room.un
  omega
theorem snd_bin {o : Operator} {a b : E} (iha : Snd S n C a) (ihb : Snd S n C b) : Snd S n C (.bin o a b) := by
  intro c t h
  simp only [chk] at h
  split at h
  · simp only [Bool.and_eq_true, decide_eq_true_eq] at h
    obtain ⟨⟨rfl, h1⟩, h2⟩ := h
    intro X g
    refine (pe_op (op_binA o) (iha _ _ h1 X g) (ihb _ _ h2 X g)).imp fun σ H Q q => ?_
    obtain ⟨F, m, cs, δ, d, cs', w, en, he, k⟩ := q
    simp only [ev, Option.bind_eq_some_iff, Option.map_eq_some_iff] at he
    obtain ⟨⟨x, cs1⟩, hx, ⟨y, cs2⟩, hy, z, hz, e⟩ := he
    cases e
    refine tE.intro w en hx fun H1 F1 m1 w1 n1 en1 v1 r1 => tE.intro w1 en1 hy fun H2 F2 m2 w2 n2 en2 v2 r2 => ?_
    exact binA_ok w2 (r1.nx n2) r2 hz (k.mono (n1.trans n2))
  · cases h
theorem snd_neg {a : E} (iha : Snd S n C a) : Snd S n C (.neg a) := by
  intro c t h
  simp only [chk] at h
  split at h
  · intro X g
    refine (pe_un un_neg (iha _ _ h X g)).imp fun σ H Q q => ?_
    obtain ⟨F, m, cs, δ, d, cs', w, en, he, k⟩ := q
    simp only [ev, Option.bind_eq_some_iff] at he
    obtain ⟨⟨x, cs1⟩, hx, he⟩ := he
    refine tE.intro w en hx fun H1 F1 m1 w1 n1 en1 v1 r1 => ?_
    dsimp only at he
    split at he
    · cases he
      cases r1
      exact ⟨_, rfl, (k.mono n1).here w1 (.int _)⟩
    · cases he
  · cases h
theorem snd_cmp {o : CmpOp} {a b : E} (iha : Snd S n C a) (ihb : Snd S n C b) : Snd S n C (.cmp o a b) := by
  intro c t h
  simp only [chk] at h
  split at h
  · simp only [Bool.and_eq_true, decide_eq_true_eq, Bool.not_eq_true'] at h
    obtain ⟨⟨⟨rfl, hs⟩, h1⟩, h2⟩ := h
    intro X g
    refine (pe_cmpR (op_cmp (units_of g) o) (iha _ _ h1 X g) (ihb _ _ h2 X g) (behind_plain hs)).imp fun σ H Q q => ?_
    obtain ⟨F, m, cs, δ, d, cs', w, en, he, k⟩ := q
    simp only [ev, Option.bind_eq_some_iff, Option.map_eq_some_iff] at he
    obtain ⟨⟨x, cs1⟩, hx, ⟨y, cs2⟩, hy, z, hz, e⟩ := he
    cases e
    refine tE.intro w en hx fun H1 F1 m1 w1 n1 en1 v1 r1 => tE.intro w1 en1 hy fun H2 F2 m2 w2 n2 en2 v2 r2 => ?_
    rw [g.K]
    exact cmp_ok w2 okC_ok (r1.nx n2) r2 hz ((k.mono (n1.trans n2)).here w2 (.bl _))
  · simp only [Bool.and_eq_true, decide_eq_true_eq, Bool.not_eq_true'] at h
    obtain ⟨⟨⟨rfl, hs⟩, h1⟩, h2⟩ := h
    intro X g
    refine (pt_cmpR (op_cmp (units_of g) o) (iha _ _ h1 X g) (ihb _ _ h2 X g) (behind_plain hs)).imp fun σ H Q q => ?_
    obtain ⟨F, m, cs, δ, d, cs', w, en, he, k⟩ := q
    simp only [ev, Option.bind_eq_some_iff, Option.map_eq_some_iff] at he
    obtain ⟨⟨x, cs1⟩, hx, ⟨y, cs2⟩, hy, z, hz, e⟩ := he
    cases e
    refine tE.intro w en hx fun H1 F1 m1 w1 n1 en1 v1 r1 => tE.intro w1 en1 hy fun H2 F2 m2 w2 n2 en2 v2 r2 => ?_
    rw [g.K]
    exact cmp_ok w2 okC_ok (r1.nx n2) r2 hz ⟨_, rfl, k H2 F2 m2 w2 (n1.trans n2)⟩
  · cases h
theorem snd_chain {o o' : CmpOp} {a b d : E} (iha : Snd S n C a) (ihb : Snd S n C b) (ihd : Snd S n C d) : Snd S n C (.chain o o' a b d) := by
  have key : ∀ {c : Cxt} {x y z : Expr} {X : Cx} (g : GX S n c X), chk T a c (.ex x) = true → chk T b c (.ex y) = true → chk T d c (.ex z) = true → ∀ σ H Q, tE S.G (ev T C (.chain o o' a b d)) σ H Q →
      tChain (rCmp X.K o) (rCmp X.K o') (tE S.G (ev T C a)) (tE S.G (ev T C b)) (tE S.G (ev T C d)) σ H Q := by
    intro c x y z X g h1 h2 h3 σ H Q q
    obtain ⟨F, m, cs, δ, dd, cs', w, en, he, k⟩ := q
    simp only [ev, Option.bind_eq_some_iff] at he
    obtain ⟨⟨x1, cs1⟩, hx, ⟨y1, cs2⟩, hy, b1, hb, he⟩ := he
    refine tE.intro w en hx fun H1 F1 m1 w1 n1 en1 v1 r1 => tE.intro w1 en1 hy fun H2 F2 m2 w2 n2 en2 v2 r2 => ?_
    rw [g.K]
    refine cmp_ok w2 okC_ok (r1.nx n2) r2 hb ⟨b1, rfl, ?_⟩
    split at he
    · rename_i hb1
      rw [if_pos hb1]
      simp only [Option.bind_eq_some_iff, Option.map_eq_some_iff] at he
      obtain ⟨⟨z1, cs3⟩, hz, b2, hb2, e⟩ := he
      cases e
      refine tE.intro w2 en2 hz fun H3 F3 m3 w3 n3 en3 v3 r3 => ?_
      exact cmp_ok w3 okC_ok (r2.nx n3) r3 hb2 ((k.mono ((n1.trans n2).trans n3)).here w3 (.bl _))
    · rename_i hb1
      rw [if_neg hb1]
      cases he
      exact (k.mono (n1.trans n2)).here w2 (.bl _)
  intro c t h
  simp only [chk] at h
  split at h
  · simp only [Bool.and_eq_true, decide_eq_true_eq, Bool.not_eq_true'] at h
    obtain ⟨⟨⟨⟨⟨⟨rfl, rfl⟩, hs⟩, hs'⟩, h1⟩, h2⟩, h3⟩ := h
    intro X g
    exact (pe_chain (op_cmp (units_of g) o) (op_cmp (units_of g) o') (iha _ _ h1 X g) (ihb _ _ h2 X g) (ihd _ _ h3 X g) (by simp [lastMarks, behind_plain hs'])).imp (key g h1 h2 h3)
  · simp only [Bool.and_eq_true, decide_eq_true_eq, Bool.not_eq_true'] at h
    obtain ⟨⟨⟨⟨⟨⟨rfl, rfl⟩, hs⟩, hs'⟩, h1⟩, h2⟩, h3⟩ := h
    intro X g
    refine (pt_chain (op_cmp (units_of g) o) (op_cmp (units_of g) o') (iha _ _ h1 X g) (ihb _ _ h2 X g) (ihd _ _ h3 X g) (by simp [lastMarks, behind_plain hs'])).imp fun σ H Q q => ?_
    obtain ⟨F, m, cs, δ, bb, cs', w, en, he, k⟩ := q
    exact key g h1 h2 h3 σ H _ ⟨F, m, cs, δ, .bl bb, cs', w, en, he, fun v H' F' m' w' n' r' => by cases r'; exact ⟨bb, rfl, k H' F' m' w' n'⟩⟩
  · cases h
end
end DL

end

section
set_option Elab.async false
set_option linter.all false
set_option maxRecDepth 100000
set_option maxHeartbeats 4000000
/-! D layer 7: more expressions. -/
namespace DL
open PySem L2
section
variable {T : Tab} {S : Sta T} {n : Nat} {C : CallF} {c : Cxt} {X : Cx}
theorem snd_and {a b : E} (iha : Snd S n C a) (ihb : Snd S n C b) : Snd S n C (.and' a b) := by
  intro c t h
  simp only [chk] at h
  split at h
  · rename_i x y r p
    simp only [Bool.and_eq_true] at h
    obtain ⟨h1, h2⟩ := h
    intro X g
    have hb : PE X (.BoolOp .And (y :: r) p) (tE S.G (ev T C b)) := by
      split at h2
      · exact pe_one (ihb _ _ h2 X g)
      · exact ihb _ _ h2 X g
    refine (pe_andT (iha _ _ h1 X g) hb).imp fun σ H Q q => ?_
    obtain ⟨F, m, cs, δ, d, cs', w, en, he, k⟩ := q
    simp only [ev, Option.bind_eq_some_iff] at he
    obtain ⟨⟨x, cs1⟩, hx, j, hj, he⟩ := he
    refine tE.intro w en hx fun H1 F1 m1 w1 n1 en1 v1 r1 => ?_
    rw [g.K]
    refine ⟨j, tru_ok w1 r1 hj, ?_⟩
    split at he
    · rename_i hb; rw [if_pos hb]
      exact ⟨F1, m1, cs1, δ, d, cs', w1, en1, he, k.mono n1⟩
    · rename_i hb; rw [if_neg hb]
      cases he
      exact (k.mono n1).here w1 r1
  · cases h
theorem snd_or {a b : E} (iha : Snd S n C a) (ihb : Snd S n C b) : Snd S n C (.or' a b) := by
  intro c t h
  simp only [chk] at h
  split at h
  · rename_i x y r p
    simp only [Bool.and_eq_true] at h
    obtain ⟨h1, h2⟩ := h
    intro X g
    have hb : PE X (.BoolOp .Or (y :: r) p) (tE S.G (ev T C b)) := by
      split at h2
      · exact pe_one (ihb _ _ h2 X g)
      · exact ihb _ _ h2 X g
    refine (pe_orT (iha _ _ h1 X g) hb).imp fun σ H Q q => ?_
    obtain ⟨F, m, cs, δ, d, cs', w, en, he, k⟩ := q
    simp only [ev, Option.bind_eq_some_iff] at he
    obtain ⟨⟨x, cs1⟩, hx, j, hj, he⟩ := he
    refine tE.intro w en hx fun H1 F1 m1 w1 n1 en1 v1 r1 => ?_
    rw [g.K]
    refine ⟨j, tru_ok w1 r1 hj, ?_⟩
    split at he
    · rename_i hb; rw [if_pos hb]
      cases he
      exact (k.mono n1).here w1 r1
    · rename_i hb; rw [if_neg hb]
      exact ⟨F1, m1, cs1, δ, d, cs', w1, en1, he, k.mono n1⟩
  · cases h
theorem snd_not {a : E} (iha : Snd S n C a) : Snd S n C (.not' a) := by
  intro c t h
  simp only [chk] at h
  split at h
  · intro X g
    refine (pe_notT (iha _ _ h X g)).imp fun σ H Q q => ?_
    obtain ⟨F, m, cs, δ, d, cs', w, en, he, k⟩ := q
    simp only [ev, Option.bind_eq_some_iff, Option.map_eq_some_iff] at he
    obtain ⟨⟨x, cs1⟩, hx, j, hj, e⟩ := he
    cases e
    refine tE.intro w en hx fun H1 F1 m1 w1 n1 en1 v1 r1 => ?_
    rw [g.K]
    exact ⟨j, tru_ok w1 r1 hj, (k.mono n1).here w1 (.bl _)⟩
  · cases h
theorem snd_ite {s a b : E} (ihs : Snd S n C s) (iha : Snd S n C a) (ihb : Snd S n C b) : Snd S n C (.ite s a b) := by
  intro c t h
  simp only [chk] at h
  split at h
  · simp only [Bool.and_eq_true] at h
    obtain ⟨⟨h0, h1⟩, h2⟩ := h
    intro X g
    refine (pe_ifExp (ihs _ _ h0 X g) (iha _ _ h1 X g) (ihb _ _ h2 X g)).imp fun σ H Q q => ?_
    obtain ⟨F, m, cs, δ, d, cs', w, en, he, k⟩ := q
    simp only [ev, Option.bind_eq_some_iff] at he
    obtain ⟨⟨x, cs1⟩, hx, he⟩ := he
    dsimp only at he
    split at he
    · refine tT.intro w en hx fun H1 F1 m1 w1 n1 en1 => ?_
      rw [if_pos rfl]
      exact ⟨F1, m1, cs1, δ, d, cs', w1, en1, he, k.mono n1⟩
    · refine tT.intro w en hx fun H1 F1 m1 w1 n1 en1 => ?_
      rw [if_neg (by decide)]
      exact ⟨F1, m1, cs1, δ, d, cs', w1, en1, he, k.mono n1⟩
    · cases he
  · cases h
theorem snd_tval {a : E} (iha : Snd S n C a) : Snd S n C (.tval a) := by
  intro c t h
  simp only [chk] at h
  split at h
  · simp only [Bool.and_eq_true] at h
    intro X g
    refine (pt_truth (iha _ _ h.2 X g) (isTrue_plain' h.1)).imp fun σ H Q q => ?_
    obtain ⟨F, m, cs, δ, b, cs', w, en, he, k⟩ := q
    simp only [ev, Option.bind_eq_some_iff, Option.map_eq_some_iff] at he
    obtain ⟨⟨x, cs1⟩, hx, j, hj, e⟩ := he
    cases e
    refine tE.intro w en hx fun H1 F1 m1 w1 n1 en1 v1 r1 => ?_
    rw [g.K]
    exact ⟨_, tru_ok w1 r1 hj, k H1 F1 m1 w1 n1⟩
  · cases h
theorem snd_tnot {a : E} (iha : Snd S n C a) : Snd S n C (.tnot a) := by
  intro c t h
  simp only [chk] at h
  split at h
  · intro X g
    refine (pt_not (iha _ _ h X g)).imp fun σ H Q q => ?_
    obtain ⟨F, m, cs, δ, b, cs', w, en, he, k⟩ := q
    simp only [ev, Option.bind_eq_some_iff] at he
    obtain ⟨⟨x, cs1⟩, hx, he⟩ := he
    dsimp only at he
    split at he
    · cases he
      exact tT.intro w en hx fun H1 F1 m1 w1 n1 en1 => k H1 F1 m1 w1 n1
    · cases he
  · cases h
/-- a test of an and, whatever its whole is -/
theorem snd_tand {a b : E} (iha : Snd S n C a) (ihb : Snd S n C b) (ihw : ∀ c x y r p X, chk T b c (.te (.BoolOp .And (x :: y :: r) p)) = true → GX S n c X → PW X (.BoolOp .And (x :: y :: r) p) (tT S.G (ev T C b))) :
    Snd S n C (.tand a b) ∧ ∀ c x y r p X, chk T (.tand a b) c (.te (.BoolOp .And (x :: y :: r) p)) = true → GX S n c X → PW X (.BoolOp .And (x :: y :: r) p) (tT S.G (ev T C (.tand a b))) := by
  have key : ∀ c x y r p X, chk T (.tand a b) c (.te (.BoolOp .And (x :: y :: r) p)) = true → GX S n c X → PW X (.BoolOp .And (x :: y :: r) p) (tT S.G (ev T C (.tand a b))) := by
    intro c x y r p X h g
    simp only [chk, Bool.and_eq_true] at h
    obtain ⟨h1, h2⟩ := h
    have hb : PW X (.BoolOp .And (y :: r) p) (tT S.G (ev T C b)) := by
      split at h2
      · exact pw_and1 (ihb _ _ h2 X g)
      · rename_i r' hr
        cases r with
        | nil => exact absurd rfl hr
        | cons z r => exact ihw _ _ _ _ _ X h2 g
    refine (pw_and (iha _ _ h1 X g) hb).imp fun σ H Q q => ?_
    obtain ⟨F, m, cs, δ, d, cs', w, en, he, k⟩ := q
    simp only [ev, Option.bind_eq_some_iff] at he
    obtain ⟨⟨x, cs1⟩, hx, he⟩ := he
    dsimp only at he
    split at he
    · refine tT.intro w en hx fun H1 F1 m1 w1 n1 en1 => ?_
      rw [if_pos rfl]
      exact ⟨F1, m1, cs1, δ, d, cs', w1, en1, he, fun H' F' m' w' n' => k H' F' m' w' (n1.trans n')⟩
    · refine tT.intro w en hx fun H1 F1 m1 w1 n1 en1 => ?_
      rw [if_neg (by decide)]
      cases he
      exact k H1 F1 m1 w1 n1
    · cases he
  refine ⟨fun c t h => ?_, key⟩
  have h' := h
  simp only [chk] at h'
  split at h'
  · intro X g
    exact (key _ _ _ _ _ X h g).pt
  · cases h'
theorem snd_tor {a b : E} (iha : Snd S n C a) (ihb : Snd S n C b) (ihw : ∀ c x y r p X, chk T b c (.te (.BoolOp .Or (x :: y :: r) p)) = true → GX S n c X → PW X (.BoolOp .Or (x :: y :: r) p) (tT S.G (ev T C b))) :
    Snd S n C (.tor a b) ∧ ∀ c x y r p X, chk T (.tor a b) c (.te (.BoolOp .Or (x :: y :: r) p)) = true → GX S n c X → PW X (.BoolOp .Or (x :: y :: r) p) (tT S.G (ev T C (.tor a b))) := by
  have key : ∀ c x y r p X, chk T (.tor a b) c (.te (.BoolOp .Or (x :: y :: r) p)) = true → GX S n c X → PW X (.BoolOp .Or (x :: y :: r) p) (tT S.G (ev T C (.tor a b))) := by
    intro c x y r p X h g
    simp only [chk, Bool.and_eq_true] at h
    obtain ⟨h1, h2⟩ := h
    have hb : PW X (.BoolOp .Or (y :: r) p) (tT S.G (ev T C b)) := by
      split at h2
      · exact pw_or1 (ihb _ _ h2 X g)
      · rename_i r' hr
        cases r with
        | nil => exact absurd rfl hr
        | cons z r => exact ihw _ _ _ _ _ X h2 g
    refine (pw_or (iha _ _ h1 X g) hb).imp fun σ H Q q => ?_
    obtain ⟨F, m, cs, δ, d, cs', w, en, he, k⟩ := q
    simp only [ev, Option.bind_eq_some_iff] at he
    obtain ⟨⟨x, cs1⟩, hx, he⟩ := he
    dsimp only at he
    split at he
    · refine tT.intro w en hx fun H1 F1 m1 w1 n1 en1 => ?_
      rw [if_pos rfl]
      cases he
      exact k H1 F1 m1 w1 n1
    · refine tT.intro w en hx fun H1 F1 m1 w1 n1 en1 => ?_
      rw [if_neg (by decide)]
      exact ⟨F1, m1, cs1, δ, d, cs', w1, en1, he, fun H' F' m' w' n' => k H' F' m' w' (n1.trans n')⟩
    · cases he
  refine ⟨fun c t h => ?_, key⟩
  have h' := h
  simp only [chk] at h'
  split at h'
  · intro X g
    exact (key _ _ _ _ _ X h g).pt
  · cases h'
/-! ### lists of arguments, displays -/
theorem lstArgs_some {d : D} {xs : List D} (h : lstArgs d = some xs) : d = .lst xs := by
  unfold lstArgs at h
  split at h
  · cases h; rfl
  · cases h
theorem snd_nil : Snd S n C .nil := by
  intro c t h
  simp only [chk] at h
  split at h
  · intro X g
    refine pa_nil.imp fun σ H Q q => ?_
    obtain ⟨F, m, cs, δ, d, cs', w, en, he, k⟩ := q
    simp only [ev] at he
    cases he
    exact k [] H F m w Nx.refl .nil
  · cases h
theorem snd_cons {a b : E} (iha : Snd S n C a) (ihb : Snd S n C b) : Snd S n C (.cons a b) := by
  intro c t h
  simp only [chk] at h
  split at h
  · simp only [Bool.and_eq_true, Bool.not_eq_true'] at h
    intro X g
    refine (pa_cons (iha _ _ h.1.2 X g) (ihb _ _ h.2 X g) (star_cons h.1.1)).imp fun σ H Q q => ?_
    obtain ⟨F, m, cs, δ, d, cs', w, en, he, k⟩ := q
    simp only [ev, Option.bind_eq_some_iff, Option.map_eq_some_iff] at he
    obtain ⟨⟨x, cs1⟩, hx, ⟨y, cs2⟩, hy, zs, hz, e⟩ := he
    cases e
    have hz := lstArgs_some hz
    dsimp only at hz
    subst hz
    refine tE.intro w en hx fun H1 F1 m1 w1 n1 en1 v1 r1 => tA.intro w1 en1 hy fun H2 F2 m2 w2 n2 en2 vs r2 => ?_
    exact k _ H2 F2 m2 w2 (n1.trans n2) (.cons (r1.nx n2) r2)
  · cases h
theorem snd_star {a b : E} (iha : Snd S n C a) (ihb : Snd S n C b) : Snd S n C (.star a b) := by
  intro c t h
  simp only [chk] at h
  split at h
  · simp only [Bool.and_eq_true] at h
    intro X g
    refine (StX.pa_star (iha _ _ h.1 X g) (ihb _ _ h.2 X g)).imp fun σ H Q q => ?_
    obtain ⟨F, m, cs, δ, d, cs', w, en, he, k⟩ := q
    simp only [ev, Option.bind_eq_some_iff, Option.map_eq_some_iff] at he
    obtain ⟨⟨x, cs1⟩, hx, ys, hys, ⟨y, cs2⟩, hy, zs, hz, e⟩ := he
    cases e
    have hz := lstArgs_some hz
    dsimp only at hz
    subst hz
    refine tE.intro w en hx fun H1 F1 m1 w1 n1 en1 v1 r1 => ?_
    obtain ⟨p, vs, rfl, h1, h2⟩ := seqD_ok w1 r1 hys
    rw [g.K]
    refine ⟨p, vs, rfl, h1.symm, tA.intro w1 en1 hy fun H2 F2 m2 w2 n2 en2 us r2 => ?_⟩
    exact k _ H2 F2 m2 w2 (n1.trans n2) ((h2.nx n2).append r2)
  · cases h
theorem snd_lst {a : E} (iha : Snd S n C a) : Snd S n C (.lst a) := by
  intro c t h
  simp only [chk] at h
  split at h
  · intro X g
    refine (pe_lst (iha _ _ h X g)).imp fun σ H Q q => ?_
    obtain ⟨F, m, cs, δ, d, cs', w, en, he, k⟩ := q
    simp only [ev, Option.bind_eq_some_iff] at he
    obtain ⟨⟨x, cs1⟩, hx, zs, hz, he⟩ := he
    have hz := lstArgs_some hz
    dsimp only at hz
    subst hz
    split at he
    · rename_i hl
      cases he
      refine tA.intro w en hx fun H1 F1 m1 w1 n1 en1 vs r1 => ⟨by rw [r1.length]; exact hl, fun p hp => ?_⟩
      exact k p _ H1 F1 m1 w1 n1 hp (.lst r1)
    · cases he
  · cases h
theorem snd_tup {a : E} (iha : Snd S n C a) : Snd S n C (.tup a) := by
  intro c t h
  simp only [chk] at h
  split at h
  · intro X g
    refine (pe_tup (iha _ _ h X g)).imp fun σ H Q q => ?_
    obtain ⟨F, m, cs, δ, d, cs', w, en, he, k⟩ := q
    simp only [ev, Option.bind_eq_some_iff] at he
    obtain ⟨⟨x, cs1⟩, hx, zs, hz, he⟩ := he
    have hz := lstArgs_some hz
    dsimp only at hz
    subst hz
    split at he
    · rename_i hl
      cases he
      refine tA.intro w en hx fun H1 F1 m1 w1 n1 en1 vs r1 => ⟨by rw [r1.length]; exact hl, fun p hp => ?_⟩
      exact (k.mono n1).frz w1 hp (.tup (.of upd_same) (r1.mono (ex_new (w1.fnone hp)) (List.prefix_refl m1)))
    · cases he
  · cases h
theorem snd_dnil : Snd S n C .dnil := by
  intro c t h
  simp only [chk] at h
  split at h
  · intro X g
    refine pe_dnewK.imp fun σ H Q q => ?_
    obtain ⟨F, m, cs, δ, d, cs', w, en, he, k⟩ := q
    simp only [ev] at he
    cases he
    intro p hp
    exact k p (.dK []) H F m w Nx.refl hp (CellO.dct (ks := []) (vs := []) rfl .nil)
  · cases h
theorem snd_cat {a b : E} (iha : Snd S n C a) (ihb : Snd S n C b) : Snd S n C (.cat a b) := by
  intro c t h
  simp only [chk] at h
  split at h
  · simp only [Bool.and_eq_true] at h
    intro X g
    refine (pe_op op_cat (iha _ _ h.1 X g) (ihb _ _ h.2 X g)).imp fun σ H Q q => ?_
    obtain ⟨F, m, cs, δ, d, cs', w, en, he, k⟩ := q
    simp only [ev, Option.bind_eq_some_iff] at he
    obtain ⟨⟨x, cs1⟩, hx, ⟨y, cs2⟩, hy, he⟩ := he
    refine tE.intro w en hx fun H1 F1 m1 w1 n1 en1 v1 r1 => tE.intro w1 en1 hy fun H2 F2 m2 w2 n2 en2 v2 r2 => ?_
    dsimp only at he
    split at he
    · rename_i ha hb
      split at he
      · rename_i hl
        cases he
        obtain ⟨a1, vs1, rfl, h1, r1⟩ := cont_lst w2 (r1.nx n2) ha
        obtain ⟨a2, vs2, rfl, h2, r2⟩ := cont_lst w2 r2 hb
        exact ⟨a1, a2, vs1, vs2, rfl, rfl, h1, h2, by rw [r1.length, r2.length]; exact hl, fun p hp => k p _ H2 F2 m2 w2 (n1.trans n2) hp (.lst (r1.append r2))⟩
      · cases he
    · cases he
  · cases h
end
end DL

end

section
set_option Elab.async false
set_option linter.all false
set_option maxRecDepth 100000
set_option maxHeartbeats 4000000
/-! D layer 8: freezing; items, slices, attributes, calls. -/
namespace DL
open PySem L2
/-! ### freezing -/
mutual
theorem Rep.cut {G : Glob} {F : Hp} {m : List Addr} {n : Nat} : ∀ {v : V} {d : D}, Rep G F m v d → d.blw n = true → Rep G F (m.take n) v d
  | _, _, .non, _ => .non
  | _, _, .bl b, _ => .bl b
  | _, _, .int i, _ => .int i
  | _, _, .str x, _ => .str x
  | _, _, .tup h r, q => .tup h (Reps.cut r (by simpa [D.blw] using q))
  | _, _, .lst h r, q => .lst h (Reps.cut r (by simpa [D.blw] using q))
  | _, _, .rls h r, q => .rls h (Reps.cut r (by simpa [D.blw] using q))
  | _, _, .dct h l r, q => .dct h l (Reps.cut r (by simpa [D.blw] using q))
  | _, _, .obj h l r, q => .obj h l (Reps.cut r (by simpa [D.blw] using q))
  | _, _, .cell (n := k) h, q => .cell (by
    have hk : k < n := by simpa [D.blw] using q
    rw [List.getElem?_take_of_lt hk]; exact h)
  | _, _, .ty k, _ => .ty k
  | _, _, .cls k, _ => .cls k
theorem Reps.cut {G : Glob} {F : Hp} {m : List Addr} {n : Nat} : ∀ {vs : List V} {ds : List D}, Reps G F m vs ds → belowL n ds = true → Reps G F (m.take n) vs ds
  | _, _, .nil, _ => .nil
  | _, _, .cons h t, q => by
    simp only [belowL, Bool.and_eq_true] at q
    exact .cons (Rep.cut h q.1) (Reps.cut t q.2)
end
/-- the cells from n on are frozen -/
def frzF (F H : Hp) (m : List Addr) (n : Nat) : Hp := fun a => if a ∈ m.drop n then H a else F a
section
variable {G : Glob} {F H F0 H0 : Hp} {m m0 : List Addr} {cs : List D} {n : Nat}
theorem frz_ex (w : W G H F m cs) : Ex F (frzF F H m n) := fun a o e => by
  have h : a ∉ m.drop n := fun z => by
    have := w.off a (List.mem_of_mem_drop z)
    rw [this] at e; cases e
  unfold frzF
  rw [if_neg h]
  exact e
theorem belowL_get : ∀ {ds : List D} {i : Nat} {d : D}, belowL n ds = true → ds[i]? = some d → d.blw n = true
  | [], _, _, _, h => by simp at h
  | x :: xs, 0, _, q, h => by
    simp only [belowL, Bool.and_eq_true] at q
    simp at h; subst h; exact q.1
  | x :: xs, i + 1, _, q, h => by
    simp only [belowL, Bool.and_eq_true] at q
    exact belowL_get q.2 (by simpa using h)
theorem CellO.cut {o : HO} {d : D} (h : CellO G F m o d) (q : d.blw n = true) : CellO G F (m.take n) o d := by
  cases h with
  | lst r => exact .lst (r.cut (by simpa [D.blw] using q))
  | dct l r => exact .dct l (r.cut (by simpa [D.blw] using q))
  | obj l r => exact .obj l (r.cut (by simpa [D.blw] using q))
theorem belowL_of : ∀ {ds : List D}, (∀ (i : Nat) (d : D), ds[i]? = some d → d.blw n = true) → belowL n ds = true
  | [], _ => rfl
  | x :: xs, h => by
    simp only [belowL, Bool.and_eq_true]
    exact ⟨h 0 x rfl, belowL_of fun i d hd => h (i + 1) d (by simpa using hd)⟩
mutual
theorem blw_mono {k : Nat} (hk : k ≤ n) : ∀ {d : D}, d.blw k = true → d.blw n = true
  | .cell c, h => by simp only [D.blw, decide_eq_true_eq] at h ⊢; omega
  | .tup xs, h => by simp only [D.blw] at h ⊢; exact belowL_mono hk h
  | .lst xs, h => by simp only [D.blw] at h ⊢; exact belowL_mono hk h
  | .rls xs, h => by simp only [D.blw] at h ⊢; exact belowL_mono hk h
  | .dct _ xs, h => by simp only [D.blw] at h ⊢; exact belowL_mono hk h
  | .obj _ _ xs, h => by simp only [D.blw] at h ⊢; exact belowL_mono hk h
  | .non, _ => rfl
  | .bl _, _ => rfl
  | .int _, _ => rfl
  | .str _, _ => rfl
  | .ty _, _ => rfl
  | .cls _, _ => rfl
theorem belowL_mono {k : Nat} (hk : k ≤ n) : ∀ {ds : List D}, belowL k ds = true → belowL n ds = true
  | [], _ => rfl
  | x :: xs, h => by
    simp only [belowL, Bool.and_eq_true] at h ⊢
    exact ⟨blw_mono hk h.1, belowL_mono hk h.2⟩
end
theorem W.freeze (w : W G H F m cs) : W G H (frzF F H m n) (m.take n) (cs.take n) where
  sub := fun a o e => by
    unfold frzF at e
    split at e
    · exact e
    · exact w.sub a o e
  nd := List.Nodup.sublist (List.take_sublist _ _) w.nd
  len := by rw [List.length_take, List.length_take, w.len]
  off := fun a ha => by
    have h : a ∉ m.drop n := fun z => by
      have nd := w.nd
      rw [← List.take_append_drop n m] at nd
      exact (List.nodup_append.mp nd).2.2 a ha a z rfl
    unfold frzF
    rw [if_neg h]
    exact w.off a (List.mem_of_mem_take ha)
  at_ := fun i a d h1 h2 => by
    have hi : i < n := by
      have := (List.getElem?_eq_some_iff.mp h1).1
      rw [List.length_take] at this
      omega
    rw [List.getElem?_take_of_lt hi] at h1 h2
    have q : d.blw n = true := blw_mono (Nat.le_of_lt hi) (w.ord i d h2)
    obtain ⟨o, e1, e2⟩ := w.at_ i a d h1 h2
    exact ⟨o, e1, (e2.cut q).mono (frz_ex w) (List.prefix_refl _)⟩
  ord := fun i d h => by
    have hi : i < n := by
      have := (List.getElem?_eq_some_iff.mp h).1
      rw [List.length_take] at this
      omega
    rw [List.getElem?_take_of_lt hi] at h
    exact w.ord i d h
theorem cellO_rep {o : HO} {d : D} {a : Addr} (h : CellO G F m o d) (e : F a = some o) : Rep G F m (.ref a) d := by
  cases h with
  | lst r => exact .lst e r
  | dct l r => exact .dct e l r
  | obj l r => exact .obj e l r
theorem frz_cell (w : W G H F m cs) {c : Nat} {a : Addr} {d : D} (hc : n ≤ c) (h : m[c]? = some a) (hd : cs[c]? = some d) (q : d.blw n = true) : Rep G (frzF F H m n) (m.take n) (.ref a) d := by
  obtain ⟨o, e1, e2⟩ := w.at_ c a d h hd
  refine cellO_rep ((e2.cut q).mono (frz_ex w) (List.prefix_refl _)) ?_
  have : a ∈ m.drop n := by
    refine List.mem_of_getElem? (i := c - n) ?_
    rw [List.getElem?_drop, show n + (c - n) = c by omega]
    exact h
  unfold frzF
  rw [if_pos this]
  exact e1
mutual
theorem fz_ok (w : W G H F m cs) : ∀ {v : V} {d d' : D}, Rep G F m v d → fzD n cs d = some d' → Rep G (frzF F H m n) (m.take n) v d'
  | _, _, _, .non, h => by simp [fzD] at h; subst h; exact .non
  | _, _, _, .bl b, h => by simp [fzD] at h; subst h; exact .bl b
  | _, _, _, .int b, h => by simp [fzD] at h; subst h; exact .int b
  | _, _, _, .str b, h => by simp [fzD] at h; subst h; exact .str b
  | _, _, _, .tup h1 r, h => by
    simp only [fzD, Option.map_eq_some_iff] at h
    obtain ⟨ys, h2, rfl⟩ := h
    exact .tup (Evl.ex_t (frz_ex w) h1) (fzs_ok w r h2)
  | _, _, _, .lst h1 r, h => by
    simp only [fzD, Option.map_eq_some_iff] at h
    obtain ⟨ys, h2, rfl⟩ := h
    exact .lst (frz_ex w _ _ h1) (fzs_ok w r h2)
  | _, _, _, .rls h1 r, h => by
    simp only [fzD, Option.map_eq_some_iff] at h
    obtain ⟨ys, h2, rfl⟩ := h
    exact .rls (Evl.ex_l (frz_ex w) h1) (fzs_ok w r h2)
  | _, _, _, .dct h1 l r, h => by
    simp only [fzD, Option.map_eq_some_iff] at h
    obtain ⟨ys, h2, rfl⟩ := h
    exact .dct (frz_ex w _ _ h1) l (fzs_ok w r h2)
  | _, _, _, .obj h1 l r, h => by
    simp only [fzD, Option.map_eq_some_iff] at h
    obtain ⟨ys, h2, rfl⟩ := h
    exact .obj (frz_ex w _ _ h1) l (fzs_ok w r h2)
  | _, _, _, .cell (n := k) h1, h => by
    simp only [fzD] at h
    split at h
    · rename_i hk
      cases h
      exact .cell (by rw [List.getElem?_take_of_lt hk]; exact h1)
    · rename_i hk
      split at h
      · rename_i d hd
        split at h
        · rename_i hq
          cases h
          exact frz_cell w (by omega) h1 hd hq
        · cases h
      · cases h
  | _, _, _, .ty k, h => by simp [fzD] at h; subst h; exact .ty k
  | _, _, _, .cls k, h => by simp [fzD] at h; subst h; exact .cls k
theorem fzs_ok (w : W G H F m cs) : ∀ {vs : List V} {ds ds' : List D}, Reps G F m vs ds → fzL n cs ds = some ds' → Reps G (frzF F H m n) (m.take n) vs ds'
  | _, _, _, .nil, h => by simp [fzL] at h; subst h; exact .nil
  | _, _, _, .cons h1 t, h => by
    simp only [fzL, Option.bind_eq_some_iff, Option.map_eq_some_iff] at h
    obtain ⟨a, h2, b, h3, rfl⟩ := h
    exact .cons (fz_ok w h1 h2) (fzs_ok w t h3)
end
theorem Nx.freeze (w : W G H F m cs) (x : Nx H0 F0 m0 H F m) (hn : m0.length = n) : Nx H0 F0 m0 H (frzF F H m n) (m.take n) ∧ m.take n = m0 := by
  have e : m.take n = m0 := by
    obtain ⟨t, rfl⟩ := x.pre
    subst hn
    simp
  refine ⟨⟨x.ex.trans (frz_ex w), by rw [e]; exact List.prefix_refl _, fun b o h hm => ?_⟩, e⟩
  obtain ⟨h1, h2, h3⟩ := x.fr b o h hm
  refine ⟨h1, by rw [e]; exact hm, fun z => ?_⟩
  unfold frzF
  rw [if_neg (fun q => h2 (List.mem_of_mem_drop q))]
  exact h3 z
end

/-! ### items and slices -/
section
variable {G : Glob} {F H : Hp} {m : List Addr} {cs : List D} {v u : V} {d e z : D} {Q : VK}
theorem atI_ok {vs : List V} {ds : List D} {i : Int} (r : Reps G F m vs ds) (h : atI ds i = some z) : ∃ x, atI vs i = some x ∧ Rep G F m x z := by
  unfold atI at h ⊢
  rw [r.length]
  simp only [Option.bind_eq_some_iff] at h ⊢
  obtain ⟨j, h1, h2⟩ := h
  obtain ⟨x, h3, h4⟩ := r.get h2
  exact ⟨x, ⟨j, h1, h3⟩, h4⟩
def rIx (K : PySem.W.Frag) : R2 := fun x y H Q => rIxL K x y H Q ∨ rIxT K x y H Q ∨ rIxS x y H Q
theorem ix_all {X : Cx} : IxR X (rIx X.K) := by
  intro value slice pins s σ H x y v u Q I rx ry q hs
  rcases q with q | q | q
  · exact ix_list value slice pins s σ H x y v u Q I rx ry q hs
  · exact ix_tup value slice pins s σ H x y v u Q I rx ry q hs
  · exact ix_str value slice pins s σ H x y v u Q I rx ry q hs
theorem idx_ok (w : W G H F m cs) (r : Rep G F m v d) (r' : Rep G F m u e) (h : idxD cs d e = some z) (k : ∀ x, Rep G F m x z → Q x H) : rIx G.K v u H Q := by
  unfold idxD at h
  split at h
  · cases r; cases r'
    split at h
    · rename_i hl
      simp only [Option.map_eq_some_iff] at h
      obtain ⟨c, h1, rfl⟩ := h
      exact .inr (.inr ⟨_, _, c, rfl, rfl, hl, h1, k _ (.str _)⟩)
    · cases h
  · cases r'
    simp only [Option.bind_eq_some_iff] at h
    obtain ⟨xs, h1, h2⟩ := h
    obtain ⟨a, vs, rfl, h3, h4⟩ := seqD_ok w r h1
    obtain ⟨x, h5, h6⟩ := atI_ok h4 h2
    rcases h3 with h3 | h3
    · exact .inl ⟨a, vs, _, x, rfl, rfl, h3, h5, k x h6⟩
    · exact .inr (.inl ⟨a, vs, _, x, rfl, rfl, h3, h5, k x h6⟩)
  · cases h
def rSl (K : PySem.W.Frag) : V → Option Int → Option Int → Hp → VK → Prop := fun x lo hi H Q => rSlL K x lo hi H Q ∨ rSlA K x lo hi H Q ∨ rSlS x lo hi H Q
theorem sl_all {X : Cx} : SlR X (rSl X.K) := SlR.or sl_list (SlR.or sl_tupA sl_str)
theorem cut_ok {vs : List V} {ds : List D} {lo hi : Option Int} (r : Reps G F m vs ds) : Reps G F m (cutV vs lo hi) (sliceL ds lo hi) := by
  unfold cutV sliceL
  rw [r.length]
  exact (r.drop _).take _
theorem slc_ok {lo hi : Option Int} (w : W G H F m cs) (r : Rep G F m v d) (h : slcD cs d lo hi = some z) (k : Kont G H F m cs z Q) : rSl G.K v lo hi H Q := by
  unfold slcD at h
  split at h
  · cases r
    split at h
    · rename_i hl
      cases h
      exact .inr (.inr ⟨_, rfl, hl, k.here w (.str _)⟩)
    · cases h
  · split at h
    · rename_i xs hx
      cases h
      obtain ⟨a, vs, rfl, h3, h4⟩ := lstD_ok w r hx
      exact .inl ⟨a, vs, rfl, h3, fun p hp => k.frz w hp (.lst upd_same ((cut_ok h4).mono (ex_new (w.fnone hp)) (List.prefix_refl m)))⟩
    · simp only [Option.map_eq_some_iff] at h
      obtain ⟨xs, hx, rfl⟩ := h
      cases r with
      | tup hq hr =>
        simp [tupD] at hx
        subst hx
        refine .inr (.inl ⟨_, _, rfl, sub_t w hq, fun q => ?_, fun _ p hp => k.frz w hp (.tup (.of upd_same) ((cut_ok hr).mono (ex_new (w.fnone hp)) (List.prefix_refl m)))⟩)
        refine k.here w ?_
        have e : ∀ (vs : List V) (ds : List D), vs.length = ds.length → HT.sIx vs.length 0 lo = 0 ∧ HT.sIx vs.length vs.length hi = vs.length → sliceL ds lo hi = ds := fun vs ds hl q => by
          unfold sliceL
          rw [← hl, q.1, q.2, hl]
          simp
        rw [e _ _ hr.length q]
        exact .tup hq hr
      | _ => simp [tupD] at hx
end
section
variable {T : Tab} {S : Sta T} {n : Nat} {C : CallF} {c : Cxt} {X : Cx}
theorem snd_idx {a b : E} (iha : Snd S n C a) (ihb : Snd S n C b) : Snd S n C (.idx a b) := by
  intro c t h
  simp only [chk] at h
  split at h
  · simp only [Bool.and_eq_true, Bool.not_eq_true'] at h
    intro X g
    refine (pe_ix ix_all (iha _ _ h.1.2 X g) (ihb _ _ h.2 X g) (plainIx_of h.1.1)).imp fun σ H Q q => ?_
    obtain ⟨F, m, cs, δ, d, cs', w, en, he, k⟩ := q
    simp only [ev, Option.bind_eq_some_iff, Option.map_eq_some_iff] at he
    obtain ⟨⟨x, cs1⟩, hx, ⟨y, cs2⟩, hy, z, hz, e⟩ := he
    cases e
    refine tE.intro w en hx fun H1 F1 m1 w1 n1 en1 v1 r1 => tE.intro w1 en1 hy fun H2 F2 m2 w2 n2 en2 v2 r2 => ?_
    rw [g.K]
    exact idx_ok w2 (r1.nx n2) r2 hz fun x rx => (k.mono (n1.trans n2)).here w2 rx
  · cases h
/-- a part of a slice -/
def tP (G : Glob) (f : Env' → List D → Option (Option Int × List D)) : TO := fun σ H Q => ∃ F m cs δ o cs', W G H F m cs ∧ EnvR G F m σ δ ∧ f δ cs = some (o, cs') ∧
  ∀ H' F' m', W G H' F' m' cs' → Nx H F m H' F' m' → Q o H'
theorem part_ok {l : E} (ihl : Snd S n C l) {o : Option Expr} (h : (match o with
    | none => isNop l
    | some y => !isNop l && chk T l c (.ex y)) = true) (g : GX S n c X) : PO X o (tP S.G fun δ cs => partE (isNop l) (ev T C l δ cs) cs) := by
  cases o with
  | none =>
    refine po_none.imp fun σ H Q q => ?_
    obtain ⟨F, m, cs, δ, o, cs', w, en, he, k⟩ := q
    unfold partE at he
    have h : isNop l = true := h
    dsimp only at he
    rw [if_pos h] at he
    cases he
    exact k H F m w Nx.refl
  | some y =>
    simp only [Bool.and_eq_true, Bool.not_eq_true'] at h
    refine (po_some (ihl _ _ h.2 X g)).imp fun σ H Q q => ?_
    obtain ⟨F, m, cs, δ, o, cs', w, en, he, k⟩ := q
    unfold partE at he
    dsimp only at he
    rw [if_neg (by rw [h.1]; decide)] at he
    simp only [Option.bind_eq_some_iff, Option.map_eq_some_iff] at he
    obtain ⟨⟨x, cs1⟩, hx, i, hi, e⟩ := he
    cases e
    refine tE.intro w en hx fun H1 F1 m1 w1 n1 en1 v1 r1 => ?_
    cases r1 <;> simp [partI] at hi
    subst hi
    exact ⟨_, rfl, k H1 F1 m1 w1 n1⟩
theorem snd_slc {a l u : E} (iha : Snd S n C a) (ihl : Snd S n C l) (ihu : Snd S n C u) : Snd S n C (.slc a l u) := by
  intro c t h
  simp only [chk] at h
  split at h
  · simp only [Bool.and_eq_true] at h
    intro X g
    refine (pe_slice sl_all (iha _ _ h.1.1 X g) (part_ok ihl h.1.2 g) (part_ok ihu h.2 g)).imp fun σ H Q q => ?_
    obtain ⟨F, m, cs, δ, d, cs', w, en, he, k⟩ := q
    simp only [ev, Option.bind_eq_some_iff, Option.map_eq_some_iff] at he
    obtain ⟨⟨x, cs1⟩, hx, ⟨lo, cs2⟩, hl, ⟨hi, cs3⟩, hh, z, hz, e⟩ := he
    cases e
    refine tE.intro w en hx fun H1 F1 m1 w1 n1 en1 v1 r1 => ⟨F1, m1, cs1, δ, lo, cs2, w1, en1, hl, fun H2 F2 m2 w2 n2 => ⟨F2, m2, cs2, δ, hi, _, w2, en1.mono n2, hh, fun H3 F3 m3 w3 n3 => ?_⟩⟩
    rw [g.K]
    exact slc_ok w3 ((r1.nx n2).nx n3) hz (k.mono ((n1.trans n2).trans n3))
  · cases h

/-! ### attributes, methods, calls -/
theorem fnok (g : GX S n c X) (hC : CallOk S n C) {f : Nat} {fn : Fn} (hf : T.fns[f]? = some fn) : FnOk X.prog X.w X.K X.mg X.base CX0 n (S.fa f) (S.fd f) fn.ps (spC S.G C f) := by
  rw [g.prog, g.w, g.K, g.mg, g.base]
  exact hC.ok f fn hf
theorem fnb (g : GX S n c X) {f : Nat} {fn : Fn} (hf : T.fns[f]? = some fn) : Binds X.K (S.fd f) fn.ps [] := by
  rw [g.K]
  exact S.fb f fn hf
theorem lookF_ok {G : Glob} {F : Hp} {m : List Addr} {f : Str} {z : D} : ∀ {ks : List Str} {vs : List V} {ds : List D}, Reps G F m vs ds → lookF f ks ds = some z → ∃ x, (ks.zip vs).lookup f = some x ∧ Rep G F m x z
  | [], _, _, _, h => by simp [lookF] at h
  | _ :: _, _, _, .nil, h => by simp [lookF] at h
  | k :: ks, _, _, .cons r t, h => by
    unfold lookF at h
    rw [List.zip_cons_cons, List.lookup_cons] at h ⊢
    cases e : f == k with
    | true =>
      rw [e] at h
      dsimp only at h
      cases h
      exact ⟨_, rfl, r⟩
    | false =>
      rw [e] at h
      exact lookF_ok (ks := ks) t h
theorem cont_obj {G : Glob} {F H : Hp} {m : List Addr} {cs : List D} {v : V} {d : D} {k : Nat} {ks : List Str} {xs : List D} (w : W G H F m cs) (r : Rep G F m v d) (h : cont cs d = some (.obj k ks xs)) :
    ∃ a dx vs, v = .ref a ∧ H a = some (.ins (G.ca k) dx (ks.zip vs)) ∧ ks.length = vs.length ∧ Reps G F m vs xs := by
  cases r with
  | obj h1 l h2 => simp [cont] at h; obtain ⟨rfl, rfl, rfl⟩ := h; exact ⟨_, _, _, rfl, w.sub _ _ h1, l, h2⟩
  | cell h1 =>
    obtain ⟨d', o, e1, e2, c⟩ := w.cell h1
    simp only [cont, e1] at h
    cases h
    cases c with
    | obj l r => exact ⟨_, _, _, rfl, e2, l, r⟩
  | _ => simp [cont] at h
theorem snd_attr {a : E} {f : Str} (iha : Snd S n C a) (hC : CallOk S n C) : Snd S n C (.attr a f) := by
  intro c t h
  simp only [chk] at h
  split at h
  · rename_i x f' p
    simp only [Bool.and_eq_true, decide_eq_true_eq] at h
    obtain ⟨⟨rfl, hb⟩, h1⟩ := h
    intro X g
    refine ⟨fun pins s σ H Q I q => ?_⟩
    obtain ⟨F, m, cs, δ, d, cs', w, en, he, k⟩ := q
    simp only [ev, Option.bind_eq_some_iff] at he
    obtain ⟨⟨x1, cs1⟩, hx, he⟩ := he
    unfold attrD at he
    split at he
    · rename_i kc ks xs hc
      split at he
      · rename_i cl hcl
        have co := S.cls kc cl hcl
        split at he
        · rename_i hfl
          simp only [Option.map_eq_some_iff] at he
          obtain ⟨z, hz, e⟩ := he
          cases e
          refine (pe_fld (iha _ _ h1 X g) (base_plain hb)).run pins s σ H Q I ?_
          refine tE.intro w en hx fun H1 F1 m1 w1 n1 en1 v1 r1 => ?_
          obtain ⟨aa, dx, vs, rfl, h2, h3, h4⟩ := cont_obj w1 r1 hc
          obtain ⟨y, h5, h6⟩ := lookF_ok h4 hz
          rw [g.K]
          exact ⟨aa, _, dx, _, y, rfl, h2, co.cls, co.fld f hfl, h5, (k.mono n1).here w1 h6⟩
        · split at he
          · rename_i gi hg
            obtain ⟨pa, po⟩ := co.prop f gi hg
            obtain ⟨fn, hfn, hl⟩ := hC.fn _ _ _ _ he
            refine (pe_prop (C := S.G.ca kc) (dvs := []) (E := E0) (iha _ _ h1 X g) (by rw [g.K]; exact co.cls) (by rw [g.K]; exact po) (fnok g hC hfn) g.r1 (fnb g hfn) .nil pass0 (base_plain hb)).run pins s σ H Q I ?_
            refine tE.intro w en hx fun H1 F1 m1 w1 n1 en1 v1 r1 => ?_
            obtain ⟨aa, dx, vs, rfl, h2, h3, h4⟩ := cont_obj w1 r1 hc
            exact ⟨aa, dx, _, rfl, h2, F1, m1, cs1, [x1], d, cs', w1, .cons r1 .nil, he, k.mono n1⟩
          · cases he
      · cases he
    · cases he
  · cases h
theorem look_none {f : Str} : ∀ {ks : List Str} {vs : List V}, f ∉ ks → (ks.zip vs).lookup f = none
  | [], _, _ => by simp
  | _ :: _, [], _ => by simp
  | k :: ks, v :: vs, h => by
    simp only [List.mem_cons, not_or] at h
    rw [List.zip_cons_cons, List.lookup_cons]
    have e : (f == k) = false := beq_eq_false_iff_ne.mpr h.1
    rw [e]
    exact look_none h.2
theorem meth_tree {o : Expr} {name : Str} {apos pos : Pos} {args : List Expr} {env : Env} (hb : plainBase o = true) (hst : args.any isStar = false) (hn : args.length < 30) (hl : (apos.endLine == pos.line) = true) :
    eval (.Call (.Attribute o name apos) args [] pos) env = (do
      let ov ← eval o env
      standAt apos.atName
      let (f, first) ← holding [ov] (getMethod ov name (do return (← importBound o env).getD true))
      callWith pos f first (backTo pos (starEach args env)) (backToKw pos (keywordEach [] env))) := by
  have hf : methodCallForm (args.length + ([] : List Keyword).length) (backTo pos (starEach args env)) (backToKw pos (keywordEach [] env)) = true := by
    unfold methodCallForm
    have h1 := star_any' (env := env) (pos := pos) hst
    have h2 : (backTo pos (starEach args env)).all (!·.1) = true := by
      rw [List.all_eq_true]
      rw [List.any_eq_false] at h1
      intro x hx
      have := h1 x hx
      simpa using this
    rw [h2]
    show (true && true && decide (args.length + 0 + 0 < 30)) = true
    simp [hn]
  show (do
    let ov ← attributeBase o name env (eval o env)
    standAt apos.atName
    methodCall o name apos pos env ov (args.length + ([] : List Keyword).length) (backTo pos (starEach args env)) (backToKw pos (keywordEach [] env))) = _
  rw [base_plain hb]
  unfold methodCall
  rw [hf]
  unfold calleeOf methodCallPos
  simp only [hl, Bool.not_true, Bool.false_or, if_true]
  rfl
theorem snd_meth {a b : E} {f : Str} (iha : Snd S n C a) (ihb : Snd S n C b) (hC : CallOk S n C) : Snd S n C (.meth a f b) := by
  intro c t h
  simp only [chk] at h
  split at h
  · rename_i x f' ap ys p
    simp only [Bool.and_eq_true, decide_eq_true_eq, Bool.not_eq_true'] at h
    obtain ⟨⟨⟨⟨⟨⟨rfl, hb⟩, hst⟩, hln⟩, h30⟩, h1⟩, h2⟩ := h
    intro X g
    refine ⟨fun pins s σ H Q I q => ?_⟩
    obtain ⟨F, m, cs, δ, d, cs', w, en, he, k⟩ := q
    simp only [ev, Option.bind_eq_some_iff] at he
    obtain ⟨⟨x1, cs1⟩, hx, ⟨y1, cs2⟩, hy, xs, hxs, he⟩ := he
    have hxs := lstArgs_some hxs
    dsimp only at hxs
    subst hxs
    unfold methD at he
    split at he
    · rename_i kc ks zs hc
      split at he
      · rename_i cl hcl
        have co := S.cls kc cl hcl
        split at he
        · cases he
        · rename_i hks
          split at he
          · rename_i gi hg
            obtain ⟨fn, hfn, hl⟩ := hC.fn _ _ _ _ he
            have read : tMeth (S.G.ca kc) f (spC S.G C gi) [] E0 (tE S.G (ev T C a)) (tA S.G (ev T C b)) σ H Q := by
              refine tE.intro w en hx fun H1 F1 m1 w1 n1 en1 v1 r1 => ?_
              obtain ⟨aa, dx, vs, rfl, h2, h3, h4⟩ := cont_obj w1 r1 hc
              refine ⟨aa, dx, _, rfl, h2, look_none (by simpa using hks), tA.intro w1 en1 hy fun H2 F2 m2 w2 n2 en2 us r2 => ?_⟩
              exact ⟨F2, m2, cs2, x1 :: xs, d, cs', w2, .cons (r1.nx n2) (by rw [List.append_nil]; exact r2), he, k.mono (n1.trans n2)⟩
            cases ys with
            | nil =>
              have hnil : b = .nil := by
                cases b <;> simp [chk] at h2
                rfl
              subst hnil
              refine (pe_meth0 (C := S.G.ca kc) (dvs := []) (E := E0) (iha _ _ h1 X g) (by rw [g.K]; exact co.cls) (by rw [g.K]; exact co.meth f gi hg) (fnok g hC hfn) g.r0 (fnb g hfn) .nil pass0 (meth_tree hb hst h30 hln)).run pins s σ H Q I ?_
              simp only [ev] at hy
              cases hy
              refine tE.intro w en hx fun H1 F1 m1 w1 n1 en1 v1 r1 => ?_
              obtain ⟨aa, dx, vs, rfl, h2, h3, h4⟩ := cont_obj w1 r1 hc
              exact ⟨aa, dx, _, rfl, h2, look_none (by simpa using hks), F1, m1, cs1, [x1], d, cs', w1, .cons r1 .nil, he, k.mono n1⟩
            | cons y ys =>
              simp only [List.any_cons, Bool.or_eq_false_iff] at hst
              exact (pe_meth (C := S.G.ca kc) (dvs := []) (E := E0) (iha _ _ h1 X g) (by rw [g.K]; exact co.cls) (by rw [g.K]; exact co.meth f gi hg) (fnok g hC hfn) g.r0 (fnb g hfn) .nil pass0 (ihb _ _ h2 X g) (star_cons hst.1) (star_any' hst.2)
                (meth_tree hb (by simp [hst.1, hst.2]) h30 hln)).run pins s σ H Q I read
          · cases he
      · cases he
    · cases he
  · cases h
theorem fn_glob {f : Nat} {x : Str} (h : fnName T f x = true) : ∃ fn, T.fns[f]? = some fn ∧ S.mg x = some (.ref (S.fa f)) := by
  unfold fnName at h
  split at h
  · rename_i fn hf
    simp only [Bool.and_eq_true] at h
    refine ⟨fn, hf, ?_⟩
    rw [← beq_iff_eq.mp h.2]
    exact S.fmg f fn hf h.1
  · cases h
theorem args_nil {b : E} (h : chk T b c (.ar []) = true) : b = .nil := by
  cases b <;> simp [chk] at h
  rfl
theorem snd_call {f : Nat} {b : E} (ihb : Snd S n C b) (hC : CallOk S n C) : Snd S n C (.call f b) := by
  intro c t h
  simp only [chk] at h
  split at h
  · rename_i x p0 ys p
    simp only [Bool.and_eq_true, Bool.not_eq_true'] at h
    obtain ⟨⟨⟨hg, hf⟩, hst⟩, h2⟩ := h
    intro X g
    obtain ⟨g1, g2⟩ := gl_of g hg
    obtain ⟨fn, hfn, hmg⟩ := fn_glob (S := S) hf
    have hkp : PySem.W.keepIn X.K (.ref (S.fa f)) = true := by rw [g.K]; exact S.fkp f fn hfn
    have hmg' : X.mg x = some (.ref (S.fa f)) := by rw [g.mg]; exact hmg
    cases ys with
    | nil =>
      have hnil := args_nil h2
      subst hnil
      refine (pe_call0 (dvs := []) (E := E0) (fnok g hC hfn) g.r0 g1 hmg' hkp (fnb g hfn) .nil pass0 g2).imp fun σ H Q q => ?_
      obtain ⟨F, m, cs, δ, d, cs', w, en, he, k⟩ := q
      simp only [ev, Option.bind_some, lstArgs] at he
      exact ⟨F, m, cs, [], d, cs', w, .nil, he, k⟩
    | cons y ys =>
      simp only [List.any_cons, Bool.or_eq_false_iff] at hst
      refine (pe_call (dvs := []) (E := E0) (fnok g hC hfn) g.r0 g1 hmg' hkp (fnb g hfn) .nil pass0 (ihb _ _ h2 X g) g2 (star_cons hst.1) (star_any' hst.2)).imp fun σ H Q q => ?_
      obtain ⟨F, m, cs, δ, d, cs', w, en, he, k⟩ := q
      simp only [ev, Option.bind_eq_some_iff] at he
      obtain ⟨⟨y1, cs2⟩, hy, xs, hxs, he⟩ := he
      have hxs := lstArgs_some hxs
      dsimp only at hxs
      subst hxs
      refine tA.intro w en hy fun H2 F2 m2 w2 n2 en2 us r2 => ?_
      exact ⟨F2, m2, cs2, xs, d, cs', w2, by rw [List.append_nil]; exact r2, he, k.mono n2⟩
  · cases h
/-- a new instance: ahead of __init__, and what is left of it -/
theorem make_ok (hC : CallOk S n C) {kc : Nat} {cl : Cl} (hcl : T.cls[kc]? = some cl) {H F : Hp} {m : List Addr} {cs cs' args : List D} {d : D} {vs : List V} {Q : VK} (w : W S.G H F m cs) (r : Reps S.G F m vs args)
    (he : makeD T C kc args cs = some (d, cs')) (k : Kont S.G H F m cs' d Q) : ∃ fn, T.fns[cl.init]? = some fn ∧ ∀ x dx, H x = none → H dx = none → dx ≠ x →
      spC S.G C cl.init (.ref x :: vs) (upd (upd H dx (.own x)) x (.ins (S.G.ca kc) dx [])) (fun v H2 => v = .non ∧ Q (.ref x) H2) E0 := by
  unfold makeD at he
  rw [hcl] at he
  simp only [Option.bind_eq_some_iff] at he
  obtain ⟨⟨r1, cs1⟩, hc, he⟩ := he
  obtain ⟨fn, hfn, _⟩ := hC.fn _ _ _ _ hc
  refine ⟨fn, hfn, fun x dx hx hdx hne => ?_⟩
  dsimp only at he
  split at he
  · rename_i hlen
    split at he
    · rename_i d1 hd1
      · cases he
        have hx' : (upd H dx (.own x)) x = none := by rw [upd_ne hne.symm]; exact hx
        have w1 : W S.G (upd (upd H dx (.own x)) x (.ins (S.G.ca kc) dx [])) F (m ++ [x]) (cs ++ [.obj kc [] []]) := (w.junk (o := .own x) hdx).new hx' (CellO.obj (G := S.G) (F := F) (m := m) (dx := dx) (c := kc) (ks := []) (vs := []) (ds := []) rfl .nil)
        have n1 : Nx H F m (upd (upd H dx (.own x)) x (.ins (S.G.ca kc) dx [])) F (m ++ [x]) := (Nx.junk hdx).trans (Nx.new hx')
        have hcell : (m ++ [x])[cs.length]? = some x := by
          rw [← w.len, List.getElem?_append_right (Nat.le_refl _)]; simp
        refine ⟨F, m ++ [x], cs ++ [.obj kc [] []], .cell cs.length :: args, .non, cs1, w1, .cons (.cell hcell) (r.nx n1), hc, fun v H2 F2 m2 w2 n2 rv => ?_⟩
        cases rv
        refine ⟨rfl, ?_⟩
        have n3 := n1.trans n2
        obtain ⟨n4, e4⟩ := Nx.freeze (n := cs.length) w2 n3 w.len
        refine k (.ref x) H2 _ _ w2.freeze n4 ?_
        exact frz_cell w2 (Nat.le_refl _) (pre_get n2.pre hcell) hd1 (w2.ord _ _ hd1)
    · cases he
  · cases he
theorem snd_make {kc : Nat} {b : E} (ihb : Snd S n C b) (hC : CallOk S n C) : Snd S n C (.make kc b) := by
  intro c t h
  simp only [chk] at h
  split at h
  · rename_i x p0 ys p
    simp only [Bool.and_eq_true, Bool.not_eq_true'] at h
    obtain ⟨⟨⟨hg, hf⟩, hst⟩, h2⟩ := h
    intro X g
    obtain ⟨g1, g2⟩ := gl_of g hg
    unfold clName at hf
    split at hf
    · rename_i cl hcl
      have co := S.cls kc cl hcl
      have hmg' : X.mg x = some (.ref (S.G.ca kc)) := by rw [g.mg, ← beq_iff_eq.mp hf]; exact co.mgC
      have hM : Mk X.K (S.G.ca kc) (S.fa cl.init) := by rw [g.K]; exact co.mak
      refine ⟨fun pins s σ H Q I q => ?_⟩
      obtain ⟨F, m, cs, δ, d, cs', w, en, he, k⟩ := q
      simp only [ev, Option.bind_eq_some_iff] at he
      obtain ⟨⟨y1, cs2⟩, hy, xs, hxs, he⟩ := he
      have hxs := lstArgs_some hxs
      dsimp only at hxs
      subst hxs
      have hex : ∃ fn, T.fns[cl.init]? = some fn := by
        unfold makeD at he
        rw [hcl] at he
        simp only [Option.bind_eq_some_iff] at he
        obtain ⟨r1, hc, _⟩ := he
        obtain ⟨fn, hfn, _⟩ := hC.fn _ _ _ _ hc
        exact ⟨fn, hfn⟩
      obtain ⟨fn, hfn⟩ := hex
      cases ys with
      | nil =>
        have hnil := args_nil h2
        subst hnil
        refine (pe_make0 (dvs := []) (E := E0) hM (fnok g hC hfn) g.r1 g1 hmg' (fnb g hfn) .nil pass0 g2).run pins s σ H Q I ?_
        simp only [ev] at hy
        cases hy
        obtain ⟨_, _, mk⟩ := make_ok hC hcl w (vs := []) .nil he k
        exact mk
      | cons y ys =>
        simp only [List.any_cons, Bool.or_eq_false_iff] at hst
        refine (pe_make (dvs := []) (E := E0) hM (fnok g hC hfn) g.r1 g1 hmg' (fnb g hfn) .nil pass0 (ihb _ _ h2 X g) g2 (star_cons hst.1) (star_any' hst.2)).run pins s σ H Q I ?_
        refine tA.intro w en hy fun H2 F2 m2 w2 n2 en2 us r2 => ?_
        obtain ⟨_, _, mk⟩ := make_ok hC hcl w2 r2 he (k.mono n2)
        rw [List.append_nil]
        exact mk
    · cases hf
  · cases h
end
end DL

end

section
set_option Elab.async false
set_option linter.all false
set_option maxRecDepth 100000
set_option maxHeartbeats 4000000
/-! D layer 9: built-in functions, texts, walks. -/
namespace DL
open PySem L2
section
variable {G : Glob} {F H : Hp} {m : List Addr} {cs : List D} {v u : V} {d e z : D} {Q : VK}
theorem bools_ok : ∀ {vs : List V} {ds : List D} {bs : List Bool}, Reps G F m vs ds → bools ds = some bs → vs = bs.map V.bl
  | _, _, _, .nil, h => by simp [bools] at h; subst h; rfl
  | _, _, _, .cons (d := d) r t, h => by
    cases r <;> simp [bools] at h
    obtain ⟨bs, h1, rfl⟩ := h
    rw [bools_ok t h1]; rfl
theorem txts_ok : ∀ {vs : List V} {ds : List D} {bs : List Str}, Reps G F m vs ds → txts ds = some bs → vs = bs.map V.str
  | _, _, _, .nil, h => by simp [txts] at h; subst h; rfl
  | _, _, _, .cons (d := d) r t, h => by
    cases r <;> simp [txts] at h
    obtain ⟨bs, h1, rfl⟩ := h
    rw [txts_ok t h1]; rfl
/-- the value of a built-in's name -/
def Bi.fv : Bi → Value
  | .len => .builtin "len" | .abs => .builtin "abs" | .int => .type "int" | .str => .type "str" | .max => .builtin "max" | .min => .builtin "min" | .all => .builtin "all" | .any => .builtin "any" | .tuple => .type "tuple"
def rBlt (K : PySem.W.Frag) : Bi → List V → Hp → VK → Prop
  | .len => fun xs H Q => (∃ x n, xs = [x] ∧ LenV K x H n ∧ Q (.int n) H) ∨ ∃ a kvs, xs = [V.ref a] ∧ H a = some (.dK kvs) ∧ Q (.int kvs.length) H
  | .abs => fun xs H Q => ∃ i, xs = [.int i] ∧ Q (.int (if i < 0 then -i else i)) H
  | .int => fun xs H Q => ((∃ i, xs = [.int i] ∧ Q (.int i) H) ∨ ∃ k, xs = [.bl k] ∧ Q (.int (if k then 1 else 0)) H) ∨ ∃ a n, xs = [.str a] ∧ PySem.intText? a = some n ∧ a.length ≤ 640 ∧ Q (.int n) H
  | .str => fun xs H Q => (∃ i, xs = [.int i] ∧ i.natAbs.log2 < 1920 ∧ Q (.str (toString i)) H) ∨ ∃ a, xs = [.str a] ∧ Q (.str a) H
  | .max => fun xs H Q => ∃ i j, xs = [.int i, .int j] ∧ Q (.int (if j > i then j else i)) H
  | .min => fun xs H Q => ∃ i j, xs = [.int i, .int j] ∧ Q (.int (if j < i then j else i)) H
  | .all => rAll K
  | .any => rAny K
  | .tuple => fun xs H Q => ∃ p ys, xs = [.ref p] ∧ ((SqL K H p ys ∧ ∀ l, H l = none → Q (.ref l) (upd H l (.tup ys))) ∨ (SqT K H p ys ∧ Q (.ref p) H))
theorem blt_R {X : Cx} (hc : X.calm = true) (b : Bi) : CallR X b.fv (rBlt X.K b) := by
  cases b with
  | len => exact CallR.or2 call_len call_lenD
  | abs => exact call_abs
  | int => exact CallR.or2 call_int1 call_int_str
  | str => exact CallR.or2 call_str_int SkE.call_str_str
  | max => exact call_max2 hc
  | min => exact call_min2 hc
  | all => exact cr_all hc
  | any => exact cr_any hc
  | tuple => exact call_tuple_of
theorem blt_ok {b : Bi} {vs : List V} {args : List D} (w : W G H F m cs) (r : Reps G F m vs args) (h : bltD b cs args = some z) (k : Kont G H F m cs z Q) : rBlt G.K b vs H Q := by
  unfold bltD at h
  split at h
  · cases r with | cons r1 t => cases t; cases r1
                                split at h
                                · rename_i hl; cases h; exact .inl ⟨_, _, rfl, ⟨hl, rfl⟩, k.here w (.int _)⟩
                                · cases h
  · cases r with
    | cons r1 t =>
      cases t
      split at h
      · rename_i xs hx
        cases h
        obtain ⟨a, vs, rfl, h3, h4⟩ := seqD_ok w r1 hx
        refine .inl ⟨_, vs.length, rfl, ?_, by rw [h4.length]; exact k.here w (.int _)⟩
        rcases h3 with h3 | h3
        · exact .inl ⟨vs, h3, rfl⟩
        · exact .inr ⟨vs, h3, rfl⟩
      · split at h
        · rename_i ks xs hc
          cases h
          cases r1 with
          | dct h1 l h2 =>
            simp [cont] at hc
            obtain ⟨rfl, rfl⟩ := hc
            refine .inr ⟨_, _, rfl, w.sub _ _ h1, ?_⟩
            rw [List.length_zip, ← l, Nat.min_self]
            exact k.here w (.int _)
          | cell h1 =>
            obtain ⟨d', o, e1, e2, c⟩ := w.cell h1
            simp only [cont, e1] at hc
            cases hc
            cases c with
            | dct l r =>
              refine .inr ⟨_, _, rfl, e2, ?_⟩
              rw [List.length_zip, ← l, Nat.min_self]
              exact k.here w (.int _)
          | _ => simp [cont] at hc
        · cases h
  · cases r with | cons r1 t => cases t; cases r1; cases h; exact ⟨_, rfl, k.here w (.int _)⟩
  · cases r with | cons r1 t => cases t; cases r1; cases h; exact .inl (.inl ⟨_, rfl, k.here w (.int _)⟩)
  · cases r with | cons r1 t => cases t; cases r1; cases h; exact .inl (.inr ⟨_, rfl, k.here w (.int _)⟩)
  · cases r with
    | cons r1 t =>
      cases t; cases r1
      split at h
      · rename_i hi
        split at h
        · rename_i hl; cases h; exact .inr ⟨_, _, rfl, hi, hl, k.here w (.int _)⟩
        · cases h
      · cases h
  · cases r with
    | cons r1 t =>
      cases t; cases r1
      split at h
      · rename_i hl; cases h; exact .inl ⟨_, rfl, hl, k.here w (.str _)⟩
      · cases h
  · cases r with | cons r1 t => cases t; cases r1; cases h; exact .inr ⟨_, rfl, k.here w (.str _)⟩
  · cases r with | cons r1 t => cases t with | cons r2 t => cases t; cases r1; cases r2; cases h; exact ⟨_, _, rfl, k.here w (.int _)⟩
  · cases r with | cons r1 t => cases t with | cons r2 t => cases t; cases r1; cases r2; cases h; exact ⟨_, _, rfl, k.here w (.int _)⟩
  · cases r with
    | cons r1 t =>
      cases t
      simp only [Option.bind_eq_some_iff, Option.map_eq_some_iff] at h
      obtain ⟨xs, hx, bs, hb, rfl⟩ := h
      obtain ⟨a, vs, rfl, h3, h4⟩ := lstD_ok w r1 hx
      have e := bools_ok h4 hb
      subst e
      exact ⟨a, bs, rfl, h3, k.here w (.bl _)⟩
  · cases r with
    | cons r1 t =>
      cases t
      simp only [Option.bind_eq_some_iff, Option.map_eq_some_iff] at h
      obtain ⟨xs, hx, bs, hb, rfl⟩ := h
      obtain ⟨a, vs, rfl, h3, h4⟩ := lstD_ok w r1 hx
      have e := bools_ok h4 hb
      subst e
      exact ⟨a, bs, rfl, h3, k.here w (.bl _)⟩
  · cases r with
    | cons r1 t =>
      cases t
      simp only [Option.map_eq_some_iff] at h
      obtain ⟨xs, hx, rfl⟩ := h
      unfold seqD at hx
      cases h1 : lstD cs _ with
      | some ys =>
        rw [h1] at hx; simp at hx; subst hx
        obtain ⟨a, vs, rfl, h3, h4⟩ := lstD_ok w r1 h1
        exact ⟨a, vs, rfl, .inl ⟨h3, fun l hl => k.frz w hl (.tup (.of upd_same) (h4.mono (ex_new (w.fnone hl)) (List.prefix_refl m)))⟩⟩
      | none =>
        rw [h1] at hx; simp at hx
        cases r1 with
        | tup hq hr =>
          simp [tupD] at hx
          subst hx
          exact ⟨_, _, rfl, .inr ⟨sub_t w hq, k.here w (.tup hq hr)⟩⟩
        | _ => simp [tupD] at hx
  · cases h
end
section
variable {T : Tab} {S : Sta T} {n : Nat} {C : CallF} {c : Cxt} {X : Cx}
theorem boot_of (b : Bi) : bootBuiltins b.nm = some b.fv := by cases b <;> decide +kernel
theorem nm_ne (b : Bi) : b.nm ≠ "__name__" := by cases b <;> decide +kernel
theorem snd_blt {b : Bi} {a : E} (iha : Snd S n C a) : Snd S n C (.blt b a) := by
  intro c t h
  simp only [chk] at h
  split at h
  · rename_i x p0 y ys p
    simp only [Bool.and_eq_true, Bool.not_eq_true'] at h
    obtain ⟨⟨⟨hg, hf⟩, hst⟩, h2⟩ := h
    simp only [List.any_cons, Bool.or_eq_false_iff] at hst
    have e := beq_iff_eq.mp hf
    subst e
    intro X g
    obtain ⟨g1, g2⟩ := gl_of g hg
    have hm : X.mg b.nm = none := by rw [g.mg]; exact S.nob b
    have key : PE X (.Call (.Name b.nm p0) (y :: ys) [] p) (tCB (rBlt X.K b) (tA S.G (ev T C a))) := by
      have R := blt_R g.calm b
      have B := boot_of b
      have N := nm_ne b
      have PAa := iha _ _ h2 X g
      cases hv : b.fv with
      | builtin id =>
        rw [hv] at R B
        exact pe_callB R g1 hm B PAa N g2 (star_cons hst.1) (star_any' hst.2)
      | type T' =>
        rw [hv] at R B
        exact pe_callTy R g1 hm B PAa N g2 (star_cons hst.1) (star_any' hst.2)
      | _ => cases b <;> cases hv
    refine key.imp fun σ H Q q => ?_
    obtain ⟨F, m, cs, δ, d, cs', w, en, he, k⟩ := q
    simp only [ev, Option.bind_eq_some_iff, Option.map_eq_some_iff] at he
    obtain ⟨⟨y1, cs2⟩, hy, xs, hxs, z, hz, e⟩ := he
    cases e
    have hxs := lstArgs_some hxs
    dsimp only at hxs
    subst hxs
    refine tA.intro w en hy fun H2 F2 m2 w2 n2 en2 us r2 => ?_
    rw [g.K]
    exact blt_ok w2 r2 hz (k.mono n2)
  · cases h
end
end DL

end

section
set_option Elab.async false
set_option linter.all false
set_option maxRecDepth 100000
set_option maxHeartbeats 4000000
/-! enumerate(tuple) -/
namespace PySem
open Builtin Builtin.Str
theorem meets_enumerate_newT (l : Addr) (items : Array Value) (n : Nat) (dct : Option Addr) (sl : Array (Option Value)) :
    Meets (Builtin.«enumerate.__new__» ⟨[.type "enumerate", .ref l], []⟩) (fun _ R s => s.heap.get? l = some { cls := .type "tuple", dict := dct, data := .seq items n, slots := sl } ∧
      R (.ok (.ret (.ref (s.heap.push { cls := .type "tuple_iterator", data := .fields #[.ref l, .int 0 0] }).objs.size)))
        { s with heap := (s.heap.push { cls := .type "tuple_iterator", data := .fields #[.ref l, .int 0 0] }).push { cls := .type "enumerate", data := .fields #[.none, .bool false, .ref s.heap.objs.size, rawInt 0, .none, .none] } }) :=
  .of_wp fun prog w A R s h => by
    obtain ⟨hp, g, d, tk, os⟩ := s; obtain ⟨hl, h⟩ := h
    have hsub := sub_enumerate
    have hL : Heap.IsTuple (Shared.heap ⟨hp, g, d, tk, os⟩) l items := ⟨_, hl, rfl, n, rfl⟩
    wp_walk using wpAny_loadPart' hl
    refine wpAny_stack_any fun st => wpAny_pure ?_
    split
    · rename_i c _ _ _ _ _
      cases (c == Value.type "enumerate")
      · wp_walk using wpAny_loadPart' hl, wpAny_pyIter_tuple hL
        exact ⟨_, rfl, h⟩
      · wp_walk using wpAny_loadPart' hl, wpAny_pyIter_tuple hL
        exact ⟨_, rfl, h⟩
    · wp_walk using wpAny_loadPart' hl, wpAny_pyIter_tuple hL
      exact ⟨_, rfl, h⟩
theorem call_enumerate_tuple {prog : Program} {w : World} {A : Around} {E : Value → Shared → Prop} {s : Shared} {l : Addr} {items : Array Value} {Q : Value → Shared → Prop} (hL : s.heap.IsTuple l items)
    (h : ∀ h', IsEnum h' (s.heap.objs.size + 1) s.heap.objs.size 0 .none → h'.IsTupleIter s.heap.objs.size l 0 → h'.objs.size = s.heap.objs.size + 2 →
      (∀ b o, s.heap.get? b = some o → h'.get? b = some o) → Q (.ref (s.heap.objs.size + 1)) { s with heap := h' }) :
    wpAny (model prog w) A (call (.type "enumerate") [.ref l]) Q E s := by
  obtain ⟨⟨c, dct, dt, sl⟩, hl, hc, n, hd⟩ := hL
  replace hc : c = .type "tuple" := hc
  replace hd : dt = .seq items n := hd
  subst hc hd
  refine callType_new F.called_enumerate (by decide) (F.typeCall_enumerate_1 _) (F.newCall_enumerate_1 _) (fun obj => F.args_object_init_2 obj _) F.entry_enumerate_new
    (meets_enumerate_newT l items n dct sl) ⟨hl, ?_⟩
  have hz : (s.heap.push { cls := .type "tuple_iterator", data := .fields #[.ref l, .int 0 0] }).objs.size = s.heap.objs.size + 1 := Heap.size_push ..
  show _ ∧ _
  rw [hz]
  have he : IsEnum ((s.heap.push { cls := .type "tuple_iterator", data := .fields #[.ref l, .int 0 0] }).push
      { cls := .type "enumerate", data := .fields #[.none, .bool false, .ref s.heap.objs.size, rawInt 0, .none, .none] }) (s.heap.objs.size + 1) s.heap.objs.size 0 .none := by
    have := Heap.get?_push_size (s.heap.push { cls := .type "tuple_iterator", data := .fields #[.ref l, .int 0 0] })
      (o := { cls := .type "enumerate", data := .fields #[.none, .bool false, .ref s.heap.objs.size, rawInt 0, .none, .none] }) rfl
    rw [hz] at this; exact this
  refine ⟨⟨_, he, rfl⟩, h _ he ⟨_, Heap.get?_push_of_some _ (Heap.get?_push_size _ rfl), rfl, rfl⟩ (by rw [Heap.size_push, hz]) fun b o x => Heap.get?_push_of_some _ (Heap.get?_push_of_some _ x)⟩
end PySem
namespace L2
open PySem PySem.Spec PyProof.Rows
/-- the tuple at a, each item in a new pair -/
def IteT (K : PySem.W.Frag) (a : Addr) : It :=
  ⟨fun i H => ∃ (xs : List V) (x : V), SqT K H a xs ∧ xs[i]? = some x, fun i H v H' => ∃ T x, v = .ref T ∧ H T = none ∧ H' = upd H T (.tup [.int (i : Nat), x]) ∧ ∀ xs, SqT K H a xs → xs[i]? = some x, fun i H => ∃ xs : List V, SqT K H a xs ∧ xs.length = i⟩
theorem turn_enumT {P : Program} {w : World} {K : PySem.W.Frag} {elts : List Expr} {kk : Nat} {tpos : Pos} (a e it : Addr) (hat : a ≠ it) (hae : a ≠ e) :
    Turn P w K (.Tuple elts kk tpos) (IteT K a) [e, it] e (fun i h => (∃ old, IsEnum h e it ((i : Nat) : Int) old) ∧ h.IsTupleIter it a i ∧ e ≠ it) where
  mem := by simp
  obj := fun i h st b hb => by
    obtain ⟨⟨old, he⟩, ⟨o, ho, hc, hd⟩, _⟩ := st
    have e' : b = e ∨ b = it := by simpa using hb
    rcases e' with z | z
    · rw [z]; exact ⟨_, he, fun v q => nomatch q⟩
    · rw [z]; exact ⟨o, ho, fun v q => by rw [hd] at q; cases q⟩
  keep := fun i h h' st k => let ⟨⟨old, he⟩, hi, hne⟩ := st; ⟨⟨old, k e (by simp) _ he⟩, hi.at fun o q => k it (by simp) o q, hne⟩
  item := by
    intro X hP hw hK hc i pins s σ H E I hf st hg
    subst hP hw hK
    obtain ⟨⟨old, he⟩, hit, hne⟩ := st
    obtain ⟨xs, x, hq, hx⟩ := hg
    obtain ⟨its, rv, p, hz⟩ := I.tuple hq
    obtain ⟨u, hu, ru⟩ := rv.get hx
    have hel : e < s.heap.objs.size := Heap.lt_size he
    have hil : it < s.heap.objs.size := by obtain ⟨_, q, _⟩ := hit; exact Heap.lt_size q
    have hlt : i < its.toArray.size := by
      have := (List.getElem?_eq_some_iff.mp hu).1
      simpa using this
    refine wpAny_pyNext_enum_itemD (Draws.tuple (A := X.A.in1) (I.ok.hd hc) it a hat its.toArray) he ⟨hit, show s.heap.IsTuple a its.toArray from p⟩ hlt hne (by simp [hne, Ne.symm hae]) fun x0 h' tk hP ho hst hT hsz hk => ?_
    have ex : x0 = u := by
      have : its.toArray[i]? = some x0 := hP
      have h2 : its.toArray[i]? = some u := by simpa using hu
      rw [h2] at this
      exact (Option.some.inj this).symm
    subst ex
    refine ⟨_, rfl, wpAny_letOwnedTupleGo_enum (s := { s with heap := h', toks := tk + 1 }) ho fun h'' he' sb => ?_⟩
    have hT2 : h''.get? s.heap.objs.size = some { cls := .type "tuple", data := .seq #[.int i tk, x0] } := (sb.2 _ (Nat.ne_of_gt hel)).trans hT
    have new : ObjOk X.prog X.w (upd H s.heap.objs.size (.tup [.int (i : Nat), x])) h'' s.heap.objs.size (.tup [.int (i : Nat), x]) :=
      ⟨by show 2 ≤ sizeLine; decide, [.int i tk, x0], .cons ⟨_, rfl⟩ (.cons ru .nil), ⟨_, hT2, rfl, _, rfl⟩⟩
    have I1 : Inv X pins σ (upd H s.heap.objs.size (.tup [.int (i : Nat), x])) { s with heap := h'', toks := tk + 1 } :=
      I.turnedNew (ch := [e, it]) (fun b ob hb q => (sb.2 b (fun z => hb (by simp [z]))).trans (hk b ob (fun z => hb (by simp [z])) (fun z => hb (by simp [z])) q)) hf (Nat.le_refl _) new
    refine ⟨.ref s.heap.objs.size, _, I1, rfl, ⟨_, x, rfl, I.hok.fresh (Nat.le_refl _), rfl, fun ys hy => by rw [I.tuple_inj hy hq]; exact hx⟩, ⟨⟨x0, ?_⟩, hst.1.at fun o q => (sb.2 it (Ne.symm hne)).trans q, hne⟩, fun b hb => ?_⟩
    · have e1 : ((i + 1 : Nat) : Int) = (i : Int) + 1 := by omega
      rw [e1]; exact he'
    · have hb' : b < s.heap.objs.size := by
        have e' : b = e ∨ b = it := by simpa using hb
        rcases e' with z | z
        · rw [z]; exact hel
        · rw [z]; exact hil
      rw [upd_ne (Nat.ne_of_lt hb')]
      exact (hf b hb).1
  done := by
    intro X hP hw hK hc i pins s σ H E I hf st hg
    subst hP hw hK
    obtain ⟨⟨old, he⟩, hit, hne⟩ := st
    obtain ⟨xs, hq, hx⟩ := hg
    obtain ⟨its, rv, p, hz⟩ := I.tuple hq
    obtain ⟨f0, f1, f2, f3, f4, f5⟩ := hf it (by simp)
    have hl := rv.length
    have hsz : its.toArray.size = i := by simp; omega
    have st' : s.heap.IsTupleIter it a its.toArray.size := by rw [hsz]; exact hit
    exact wpAny_pyNext_enum_endD (Draws.tuple (A := X.A.in1) (I.ok.hd hc) it a hat its.toArray) he ⟨st', show s.heap.IsTuple a its.toArray from p⟩ fun h' eb => ⟨rfl, I.turned (t' := s.toks) (fun b o hb q => eb b o hb q) f0 f1 f3 f4 f5⟩
  self := fun A i s Q E st h => let ⟨⟨_, he⟩, _⟩ := st; wpAny_pyIter_enum he h
def iEnumT (K : PySem.W.Frag) (ta : TA) : TI := fun σ H R => ta σ H fun vs H1 => ∃ a xs, vs = [.ref a] ∧ SqT K H1 a xs ∧ R (IteT K a) H1
theorem pi_enumT {X : Cx} {e : Expr} {ta : TA} {p pos tpos : Pos} {elts : List Expr} {kk : Nat} (hg : Gl X "enumerate") (hm : X.mg "enumerate" = none) (ha : PA X [e] ta) (hs : starEach [e] X.env = [(false, eval e X.env)] := by rfl) :
    PI X (.Tuple elts kk tpos) (.Call (.Name "enumerate" p) [e] [] pos) (iEnumT X.K ta) := by
  refine ⟨fun pins s σ H R I h => ?_⟩
  refine Call_ (ld_blt I hg hm boot_enumerate (PyProof.Rows.callWith_type1 (thn (ha.run pos pins s σ H _ I h) fun us s1 ⟨vs, H1, I1, r1, q1⟩ => ?_) hs rfl))
  obtain ⟨a, xs, ex, hq, q⟩ := q1
  subst ex
  cases r1 with
  | cons r rr =>
    cases rr
    cases r
    obtain ⟨its, rv, p', hz⟩ := I1.tuple hq
    have hal : a < s1.heap.objs.size := by
      have : s1.heap.IsTuple a its.toArray := p'
      obtain ⟨o, ho, _⟩ := this
      exact Heap.lt_size ho
    refine call_enumerate_tuple (show s1.heap.IsTuple a its.toArray from p') fun h' he hit hsz hk => wpAny_pyIter_enum he ?_
    have I2 : Inv X pins σ H1 { s1 with heap := h' } := I1.kept (t' := s1.toks) hk
    refine ⟨s1.heap.objs.size + 1, [s1.heap.objs.size + 1, s1.heap.objs.size], _, _, H1, rfl, I2, turn_enumT a (s1.heap.objs.size + 1) s1.heap.objs.size (Nat.ne_of_lt hal) (Nat.ne_of_lt (Nat.lt_succ_of_lt hal)), ⟨⟨.none, he⟩, hit, Nat.succ_ne_self _⟩, fun b hb => ?_, q⟩
    have e' : b = s1.heap.objs.size + 1 ∨ b = s1.heap.objs.size := by simpa using hb
    have hle : s1.heap.objs.size ≤ b := by
      rcases e' with z | z
      · rw [z]; exact Nat.le_add_right _ _
      · rw [z]; exact Nat.le_refl _
    exact I1.fpOk hle (I1.hok.fresh hle)
theorem walk_enumT {K : PySem.W.Frag} {a : Addr} {xs : List V} : Walk (IteT K a) xs.length (fun H => SqT K H a xs) (YPair (fun i => some (.int (i : Nat))) (fun i => xs[i]?)) := by
  refine ⟨fun i _ hi q => ⟨xs, xs[i], q, by simp [hi]⟩, fun _ q => ⟨xs, q, rfl⟩, fun i H v H' _ q y => ?_⟩
  obtain ⟨T, x, h1, h2, h3, h4⟩ := y
  exact ⟨T, .int (i : Nat), x, h1, h2, h3, rfl, h4 xs q⟩
end L2

end

section
set_option Elab.async false
set_option linter.all false
set_option maxRecDepth 100000
set_option maxHeartbeats 4000000
/-! D layer a: isinstance, str(object), texts, walks. -/
namespace L2
open PySem PySem.Spec PyProof.Rows
/-- str(x), x an instance whose class has its own __str__ -/
theorem call_str_own {X : Cx} {C f : Addr} {fd : FuncData} {ps : List Str} {sp : Sp} {k : Nat} (hs : PySem.W.findIn X.K (.ref C) "__str__" = some (some (.ref f))) (hf : PySem.W.isFn X.K (.ref f) = true)
    (Fk : FnOk X.prog X.w X.K X.mg X.base CX0 k f fd ps sp) (hr : Room (k + 2) X.A) (hb : Binds X.K fd ps []) :
    CallR X (.type "str") (fun xs H Q => ∃ a dx fs, xs = [.ref a] ∧ H a = some (.ins C dx fs) ∧ sp [.ref a] H (fun v H' => (∃ z, v = .str z) ∧ Q v H') E0) := by
  intro pins s σ H xs us Q I r h
  obtain ⟨a, dx, fs, rfl, ea, q⟩ := h
  obtain ⟨u, rfl, ru⟩ := vals1 r
  obtain rfl : u = Value.ref a := ru
  obtain ⟨mA, O, _, _, _, _⟩ := ins_get I.hok ea
  obtain ⟨od, J, _⟩ := O.look
  have hl : ([Value.ref a] ++ ([] : List Value)).length = ps.length := by
    rw [← Fk.len _ _ _ _ q]; rfl
  have hru := hr.in1.in1.units0
  refine PySem.W.kso_call hru I.kIn J hs hf (wpAny_call (codeAny_mono (Fk.run X.A.in1.in1 X.stack s H ⟨[.ref a], []⟩ [.ref a] [.ref a] _ E0 hr.in1.in1 I.env0.in1.in1 (hb s [.ref a] I.kIn hl) (.cons rfl .nil) q) fun r s' hq => ?_))
  cases r with
  | error er => exact False.elim hq
  | ok fl =>
    cases fl with
    | ret u =>
      obtain ⟨v, H', I3, rv, ⟨z, rfl⟩, q3⟩ := I.after hq
      obtain ⟨t, rfl⟩ := id rv
      exact ⟨.str z, H', I3, rv, q3⟩
    | next => exact False.elim hq
    | brk => exact False.elim hq
    | cont => exact False.elim hq
end L2
namespace DL
open PySem L2
section
variable {G : Glob} {F H : Hp} {m : List Addr} {cs : List D} {v u : V} {d e z : D} {Q : VK}
theorem tyX_l {a : Addr} {vs : List V} (h : SqL G.K H a vs) : TyX G.K H (.ref a) (.type "list") := by
  rcases h with (h | ⟨o, h⟩) | ⟨o, its, n, h1, h2, _⟩
  · exact .base (.lst h)
  · exact .base (.frz h)
  · exact .kList h1 h2
theorem tyX_t {a : Addr} {vs : List V} (h : SqT G.K H a vs) : TyX G.K H (.ref a) (.type "tuple") := by
  rcases h with (h | ⟨o, h⟩) | ⟨o, its, n, h1, h2, _⟩
  · exact .base (.tup h)
  · exact .fTuple h
  · exact .kTuple h1 h2
theorem ty_ok {t : TyN} (w : W G H F m cs) (r : Rep G F m v d) (h : tyD cs d = some t) : TyX G.K H v (.type t.nm) := by
  unfold tyD at h
  cases r with
  | non => simp [cont] at h; subst h; exact .base .non
  | bl b => simp [cont] at h; subst h; exact .base (.bl b)
  | int b => simp [cont] at h; subst h; exact .base (.int b)
  | str b => simp [cont] at h; subst h; exact .base (.str b)
  | lst h1 h2 => simp [cont] at h; subst h; exact .base (.lst (w.sub _ _ h1))
  | rls h1 h2 => simp [cont] at h; subst h; exact tyX_l (sub_l w h1)
  | tup h1 h2 => simp [cont] at h; subst h; exact tyX_t (sub_t w h1)
  | dct h1 l h2 => simp [cont] at h; subst h; exact .base (.dK (w.sub _ _ h1))
  | cell h1 =>
    obtain ⟨d', o, e1, e2, c⟩ := w.cell h1
    simp only [cont, e1] at h
    cases c with
    | lst r => simp at h; subst h; exact .base (.lst e2)
    | dct l r => simp at h; subst h; exact .base (.dK e2)
    | obj _ _ => simp at h
  | _ => simp [cont] at h
theorem kit_all (a b : TyN) : b ≠ .none → kitB a.nm b.nm = some (isT a b) := by
  cases a <;> cases b <;> decide +kernel
end
section
variable {T : Tab} {S : Sta T} {n : Nat} {C : CallF} {c : Cxt} {X : Cx}
theorem boot_ty (t : TyN) (h : t ≠ .none) : bootBuiltins (PySem.Str.ofString t.nm) = some (.type t.nm) := by
  cases t <;> first | exact absurd rfl h | decide +kernel
theorem nm_tyne (t : TyN) : PySem.Str.ofString t.nm ≠ "__name__" := by cases t <;> decide +kernel
theorem mg_ty (S : Sta T) (t : TyN) (h : t ≠ .none) : S.mg (PySem.Str.ofString t.nm) = none := by
  cases t with
  | none => exact absurd rfl h
  | bool => exact S.nobx _ (by simp [TyN.nm])
  | int => exact S.nob .int
  | str => exact S.nob .str
  | list => exact S.nobx _ (by simp [TyN.nm])
  | tuple => exact S.nob .tuple
  | dict => exact S.nobx _ (by simp [TyN.nm])
theorem snd_isi {a : E} {t : TyN} (iha : Snd S n C a) : Snd S n C (.isi a t) := by
  intro c tg h
  simp only [chk] at h
  split at h
  · rename_i x p0 y z p1 p
    simp only [Bool.and_eq_true, Bool.not_eq_true', decide_eq_true_eq] at h
    obtain ⟨⟨⟨⟨⟨⟨hg, hx⟩, hst⟩, hgz⟩, hz⟩, hnn⟩, h2⟩ := h
    have e := beq_iff_eq.mp hx
    subst e
    have e := beq_iff_eq.mp hz
    subst e
    intro X g
    obtain ⟨g1, g2⟩ := gl_of g hg
    obtain ⟨g3, g4⟩ := gl_of g hgz
    have hm : X.mg "isinstance" = none := by rw [g.mg]; exact S.nobx _ (by simp)
    have PT' : PE X (.Name (PySem.Str.ofString t.nm) p1) (tC (.ty t.nm)) := pe_bltn (v := .ty t.nm) g3 (by rw [g.mg]; exact mg_ty S t hnn) (boot_ty t hnn) rfl (nm_tyne t) g4
    refine (pe_callB call_isi g1 hm PyProof.Rows.boot_isinstance (pa_cons (iha _ _ h2 X g) (pa_cons PT' pa_nil (star_cons rfl)) (star_cons hst)) (by decide) g2 (star_cons hst) (by rfl)).imp fun σ H Q q => ?_
    obtain ⟨F, m, cs, δ, d, cs', w, en, he, k⟩ := q
    simp only [ev, Option.bind_eq_some_iff, Option.map_eq_some_iff] at he
    obtain ⟨⟨y1, cs2⟩, hy, zz, hz, e⟩ := he
    cases e
    unfold isiD at hz
    simp only [Option.map_eq_some_iff] at hz
    obtain ⟨ty, hty, rfl⟩ := hz
    refine tE.intro w en hy fun H2 F2 m2 w2 n2 en2 v2 r2 => ?_
    rw [g.K]
    exact ⟨v2, .ty t.nm, .type ty.nm, .type t.nm, _, rfl, .ty _, ty_ok w2 r2 hty, kit_ty (kit_all ty t hnn), (k.mono n2).here w2 (.bl _)⟩
  · cases h
theorem snd_isc {a : E} {kc : Nat} (iha : Snd S n C a) : Snd S n C (.isc a kc) := by
  intro c tg h
  simp only [chk] at h
  split at h
  · rename_i x p0 y z p1 p
    simp only [Bool.and_eq_true, Bool.not_eq_true'] at h
    obtain ⟨⟨⟨⟨⟨hg, hx⟩, hst⟩, hgz⟩, hz⟩, h2⟩ := h
    have e := beq_iff_eq.mp hx
    subst e
    unfold clName at hz
    split at hz
    · rename_i cl hcl
      have co := S.cls kc cl hcl
      have e := beq_iff_eq.mp hz
      subst e
      intro X g
      obtain ⟨g1, g2⟩ := gl_of g hg
      obtain ⟨g3, g4⟩ := gl_of g hgz
      have hm : X.mg "isinstance" = none := by rw [g.mg]; exact S.nobx _ (by simp)
      have PT' : PE X (.Name cl.nm p1) (tC (.ref (S.G.ca kc))) := pe_glob (v := .ref (S.G.ca kc)) g3 (by rw [g.mg]; exact co.mgC) rfl g4
      refine (pe_callB call_isi g1 hm PyProof.Rows.boot_isinstance (pa_cons (iha _ _ h2 X g) (pa_cons PT' pa_nil (star_cons rfl)) (star_cons hst)) (by decide) g2 (star_cons hst) (by rfl)).imp fun σ H Q q => ?_
      obtain ⟨F, m, cs, δ, d, cs', w, en, he, k⟩ := q
      simp only [ev, Option.bind_eq_some_iff, Option.map_eq_some_iff] at he
      obtain ⟨⟨y1, cs2⟩, hy, zz, hz, e⟩ := he
      cases e
      refine tE.intro w en hy fun H2 F2 m2 w2 n2 en2 v2 r2 => ?_
      rw [g.K]
      unfold iscD at hz
      dsimp only at hz
      split at hz
      · rename_i c' ks xs hc
        split at hz
        · rename_i he
          subst he
          cases hz
          obtain ⟨aa, dx, vs, rfl, h5, h3, h4⟩ := cont_obj w2 r2 hc
          refine ⟨.ref aa, .ref (S.G.ca c'), .ref (S.G.ca c'), .ref (S.G.ca c'), true, rfl, .own _, .base (.ins h5 co.cls co.ha S.oc1 S.oc2 co.hm), ?_, (k.mono n2).here w2 (.bl _)⟩
          unfold PySem.W.kitOne
          rw [if_pos (by simp)]
        · cases hz
      · split at hz
        · rename_i ty hty
          cases hz
          exact ⟨v2, .ref (S.G.ca kc), .type ty.nm, .ref (S.G.ca kc), false, rfl, .own _, ty_ok w2 r2 hty, co.notin ty, (k.mono n2).here w2 (.bl _)⟩
        · cases hz
    · cases hz
  · cases h
theorem snd_stro {a : E} (iha : Snd S n C a) (hC : CallOk S n C) : Snd S n C (.stro a) := by
  intro c tg h
  simp only [chk] at h
  split at h
  · rename_i x p0 y p
    simp only [Bool.and_eq_true, Bool.not_eq_true'] at h
    obtain ⟨⟨⟨hg, hx⟩, hst⟩, h2⟩ := h
    have e := beq_iff_eq.mp hx
    subst e
    intro X g
    obtain ⟨g1, g2⟩ := gl_of g hg
    have hm : X.mg "str" = none := by rw [g.mg]; exact S.nob .str
    refine ⟨fun pins s σ H Q I q => ?_⟩
    obtain ⟨F, m, cs, δ, d, cs', w, en, he, k⟩ := q
    simp only [ev, Option.bind_eq_some_iff] at he
    obtain ⟨⟨x1, cs1⟩, hx, ⟨y1, cs2⟩, hy, he⟩ := he
    dsimp only at he
    split at he
    · cases he
      unfold methD at hy
      split at hy
      · rename_i kc ks zs hc
        split at hy
        · rename_i cl hcl
          have co := S.cls kc cl hcl
          split at hy
          · cases hy
          · split at hy
            · rename_i gi hg
              obtain ⟨fn, hfn, hl⟩ := hC.fn _ _ _ _ hy
              have mt := co.meth _ gi hg
              refine (pe_callTy (call_str_own (C := S.G.ca kc) (by rw [g.K]; exact mt.at_) (by rw [g.K]; exact mt.fn) (fnok g hC hfn) g.room (fnb g hfn)) g1 hm PyProof.Rows.boot_str (pa_cons (iha _ _ h2 X g) pa_nil (star_cons hst)) (by decide) g2 (star_cons hst) (by rfl)).run pins s σ H Q I ?_
              refine tE.intro w en hx fun H1 F1 m1 w1 n1 en1 v1 r1 => ?_
              obtain ⟨aa, dx, vs, rfl, h5, h3, h4⟩ := cont_obj w1 r1 hc
              refine ⟨aa, dx, _, rfl, h5, F1, m1, cs1, [x1], _, _, w1, .cons r1 .nil, hy, fun v' H' F' m' w' n' r' => ?_⟩
              cases r'
              exact ⟨⟨_, rfl⟩, k _ _ _ _ w' (n1.trans n') (.str _)⟩
            · cases hy
        · cases hy
      · cases hy
    · cases he
  · cases h
/-! ### texts -/
theorem snd_sm {sm : Sm} {a b : E} (iha : Snd S n C a) (ihb : Snd S n C b) : Snd S n C (.sm sm a b) := by
  intro c t h
  simp only [chk] at h
  split at h
  · rename_i x mm ap y p
    simp only [Bool.and_eq_true, Bool.not_eq_true'] at h
    obtain ⟨⟨⟨⟨⟨hm, hb⟩, hst⟩, hln⟩, h1⟩, h2⟩ := h
    have e := beq_iff_eq.mp hm
    subst e
    intro X g
    have hs1 : starEach [y] X.env = [(false, eval y X.env)] := star_cons hst
    refine ⟨fun pins s σ H Q I q => ?_⟩
    obtain ⟨F, m, cs, δ, d, cs', w, en, he, k⟩ := q
    simp only [ev, Option.bind_eq_some_iff, Option.map_eq_some_iff] at he
    obtain ⟨⟨x1, cs1⟩, hx, ⟨y1, cs2⟩, hy, zz, hz, e⟩ := he
    cases e
    unfold smD at hz
    dsimp only at hz
    split at hz
    · simp only [Option.bind_eq_some_iff] at hz
      obtain ⟨xs, hxs, ys, hys, hz⟩ := hz
      split at hz
      · rename_i hl
        cases hz
        refine (pe_join (iha _ _ h1 X g) (ihb _ _ h2 X g) hs1 (base_plain hb) hln).run pins s σ H Q I ?_
        refine tE.intro w en hx fun H1 F1 m1 w1 n1 en1 v1 r1 => ?_
        cases r1
        refine ⟨⟨_, rfl⟩, tE.intro w1 en1 hy fun H2 F2 m2 w2 n2 en2 v2 r2 => ?_⟩
        obtain ⟨aa, vs, rfl, h3, h4⟩ := seqD_ok w2 r2 hxs
        have e := txts_ok h4 hys
        subst e
        rw [g.K]
        exact ⟨_, aa, ys, rfl, rfl, h3, hl, (k.mono (n1.trans n2)).here w2 (.str _)⟩
      · cases hz
    · cases hz
      refine (pe_m1 PySem.F.slot_str_endswith PySem.F.type_str_endswith mt_endswith (iha _ _ h1 X g) (ihb _ _ h2 X g) hs1 (base_plain hb) hln).run pins s σ H Q I ?_
      refine tE.intro w en hx fun H1 F1 m1 w1 n1 en1 v1 r1 => ?_
      cases r1
      refine ⟨⟨_, rfl⟩, tE.intro w1 en1 hy fun H2 F2 m2 w2 n2 en2 v2 r2 => ?_⟩
      cases r2
      exact ⟨_, _, rfl, rfl, (k.mono (n1.trans n2)).here w2 (.bl _)⟩
    · cases hz
  · cases h
theorem snd_split {a b : E} (iha : Snd S n C a) (ihb : Snd S n C b) : Snd S n C (.split a b) := by
  intro c t h
  simp only [chk] at h
  split at h
  · rename_i x mm ap y p
    simp only [Bool.and_eq_true, Bool.not_eq_true'] at h
    obtain ⟨⟨⟨⟨⟨hm, hb⟩, hst⟩, hln⟩, h1⟩, h2⟩ := h
    have e := beq_iff_eq.mp hm
    subst e
    intro X g
    have hs1 : starEach [y] X.env = [(false, eval y X.env)] := star_cons hst
    refine (pe_split (iha _ _ h1 X g) (ihb _ _ h2 X g) hs1 (base_plain hb) hln).imp fun σ H Q q => ?_
    obtain ⟨F, m, cs, δ, d, cs', w, en, he, k⟩ := q
    simp only [ev, Option.bind_eq_some_iff, Option.map_eq_some_iff] at he
    obtain ⟨⟨x1, cs1⟩, hx, ⟨y1, cs2⟩, hy, zz, hz, e⟩ := he
    cases e
    unfold splitD at hz
    dsimp only at hz
    split at hz
    · split at hz
      · rename_i hl
        cases hz
        refine tE.intro w en hx fun H1 F1 m1 w1 n1 en1 v1 r1 => ?_
        cases r1
        refine ⟨⟨_, rfl⟩, tE.intro w1 en1 hy fun H2 F2 m2 w2 n2 en2 v2 r2 => ?_⟩
        cases r2
        refine ⟨_, _, rfl, rfl, hl.1, hl.2, fun p hp => ?_⟩
        exact k p _ H2 F2 m2 w2 (n1.trans n2) hp (.lst (Reps.map (fun x => .str x) _))
      · cases hz
    · cases hz
  · cases h
theorem snd_lof {a : E} (iha : Snd S n C a) : Snd S n C (.lof a) := by
  intro c t h
  simp only [chk] at h
  split at h
  · rename_i x p0 y p
    simp only [Bool.and_eq_true, Bool.not_eq_true'] at h
    obtain ⟨⟨⟨hg, hx⟩, hst⟩, h2⟩ := h
    have e := beq_iff_eq.mp hx
    subst e
    intro X g
    obtain ⟨g1, g2⟩ := gl_of g hg
    have hm : X.mg "list" = none := by rw [g.mg]; exact S.nobx _ (by simp)
    refine (pe_callTy call_list_of g1 hm PyProof.Rows.boot_list (pa_cons (iha _ _ h2 X g) pa_nil (star_cons hst)) (by decide) g2 (star_cons hst) (by rfl)).imp fun σ H Q q => ?_
    obtain ⟨F, m, cs, δ, d, cs', w, en, he, k⟩ := q
    simp only [ev, Option.bind_eq_some_iff, Option.map_eq_some_iff] at he
    obtain ⟨⟨x1, cs1⟩, hx, xs, hxs, e⟩ := he
    cases e
    refine tE.intro w en hx fun H1 F1 m1 w1 n1 en1 v1 r1 => ?_
    obtain ⟨aa, vs, rfl, h3, h4⟩ := seqD_ok w1 r1 hxs
    rw [g.K]
    exact ⟨aa, vs, rfl, h3, fun p hp => k p _ H1 F1 m1 w1 n1 hp (.lst h4)⟩
  · cases h
theorem snd_fmt {a : E} (iha : Snd S n C a) : Snd S n C (.fmt a) := by
  intro c t h
  simp only [chk] at h
  split at h
  · intro X g
    refine (pe_fmt (iha _ _ h X g)).imp fun σ H Q q => ?_
    obtain ⟨F, m, cs, δ, d, cs', w, en, he, k⟩ := q
    simp only [ev, Option.bind_eq_some_iff, Option.map_eq_some_iff] at he
    obtain ⟨⟨x1, cs1⟩, hx, z, hz, e⟩ := he
    cases e
    refine tE.intro w en hx fun H1 F1 m1 w1 n1 en1 v1 r1 => ?_
    unfold fmtD at hz
    dsimp only at hz
    split at hz
    · split at hz
      · rename_i hl
        cases hz; cases r1
        exact .inl ⟨_, rfl, hl, (k.mono n1).here w1 (.str _)⟩
      · cases hz
    · split at hz
      · rename_i hl
        cases hz; cases r1
        exact .inr ⟨_, rfl, hl, (k.mono n1).here w1 (.str _)⟩
      · cases hz
    · cases hz
  · cases h
/-- of all elements of a list of arguments -/
def AllEl (P : E → Prop) : E → Prop
  | .cons a b => P a ∧ AllEl P b
  | _ => True
/-- the pieces of an f-string -/
theorem js_ok (g : GX S n c X) : ∀ (a : E) {xs : List Expr}, AllEl (Snd S n C) a → xs.any isStar = false → chk T a c (.ar xs) = true → ∃ ts, PJ X xs ts ∧
    ∀ {σ : L2.St} {δ : Env'} {H F : Hp} {m : List Addr} {cs cs' ds : List D} {acc out : Str} {Q : Str → Hp → Prop}, W S.G H F m cs → EnvR S.G F m σ δ → ev T C a δ cs = some (.lst ds, cs') → jsD acc ds = some out →
      (∀ H' F' m', W S.G H' F' m' cs' → Nx H F m H' F' m' → Q out H') → tJs ts acc σ H Q := by
  intro a
  induction a with
  | nil =>
    intro xs hs hst h
    simp only [chk] at h
    split at h
    · rename_i hxs
      cases hxs
      refine ⟨[], .nil, fun w en he hj k => ?_⟩
      simp only [ev] at he
      cases he
      simp only [jsD] at hj
      cases hj
      exact k _ _ _ w Nx.refl
    · cases h
  | cons a b iha ihb =>
    intro xs hs hst h
    simp only [chk] at h
    split at h
    · rename_i x xs hxs
      cases hxs
      simp only [List.any_cons, Bool.or_eq_false_iff] at hst
      simp only [Bool.and_eq_true, Bool.not_eq_true'] at h
      obtain ⟨ts, hp, kk⟩ := ihb hs.2 hst.2 h.2
      refine ⟨tE S.G (ev T C a) :: ts, .cons (hs.1 _ _ h.1.2 X g) hp, fun w en he hj k => ?_⟩
      simp only [ev, Option.bind_eq_some_iff, Option.map_eq_some_iff] at he
      obtain ⟨⟨x1, cs1⟩, hx, ⟨y1, cs2⟩, hy, zs, hz, e⟩ := he
      cases e
      have hz := lstArgs_some hz
      dsimp only at hz
      subst hz
      refine tE.intro w en hx fun H1 F1 m1 w1 n1 en1 v1 r1 => ?_
      unfold jsD at hj
      split at hj
      · rename_i hq; cases hq
      · rename_i y r hq
        cases hq
        split at hj
        · rename_i hl
          cases r1
          exact ⟨_, rfl, hl, kk w1 en1 hy hj fun H' F' m' w' n' => k H' F' m' w' (n1.trans n')⟩
        · cases hj
      · cases hj
    · cases h
  | star a b iha ihb =>
    intro xs hs hst h
    simp only [chk] at h
    split at h
    · rename_i x p xs hxs
      cases hxs
      simp [isStar] at hst
    · cases h
  | _ => intro xs hs hst h; simp [chk] at h
theorem snd_js {a : E} (hs : AllEl (Snd S n C) a) : Snd S n C (.js a) := by
  intro c t h
  simp only [chk] at h
  split at h
  · simp only [Bool.and_eq_true, Bool.not_eq_true'] at h
    intro X g
    obtain ⟨ts, hp, kk⟩ := js_ok g a hs h.1 h.2
    refine (pe_joined hp).imp fun σ H Q q => ?_
    obtain ⟨F, m, cs, δ, d, cs', w, en, he, k⟩ := q
    simp only [ev, Option.bind_eq_some_iff, Option.map_eq_some_iff] at he
    obtain ⟨⟨x1, cs1⟩, hx, xs, hxs, z, hz, e⟩ := he
    cases e
    have hxs := lstArgs_some hxs
    dsimp only at hxs
    subst hxs
    exact kk w en hx hz fun H' F' m' w' n' => k _ _ _ _ w' n' (.str _)
  · cases h
end
end DL

end

section
set_option Elab.async false
set_option linter.all false
set_option maxRecDepth 100000
set_option maxHeartbeats 4000000
/-! D layer b: walks, targets, comprehensions. -/
namespace DL
open PySem L2
section
variable {G : Glob} {F H F' H' : Hp} {m m' : List Addr} {cs : List D}
theorem wr_l {a : Addr} {vs : List V} {ds : List D} (h : SqL G.K F a vs) (r : Reps G F m vs ds) : WalkR G F m (Itl G.K a) ds :=
  ⟨fun H => SqL G.K H a vs, YAt vs, by rw [← r.length]; exact walk_list, fun H2 F2 e1 e2 => Evl.ex_l e2 (Evl.ex_l e1 h), fun i H2 x H3 hi y F2 m2 cs2 w e p => by
    obtain ⟨rfl, y⟩ := y
    obtain ⟨d, hd, rd⟩ := r.getV y
    exact ⟨F2, d, hd, w, Nx.refl, rd.mono e p⟩⟩
theorem wr_t {a : Addr} {vs : List V} {ds : List D} (h : SqT G.K F a vs) (r : Reps G F m vs ds) : WalkR G F m (Itt G.K a) ds :=
  ⟨fun H => SqT G.K H a vs, YAt vs, by rw [← r.length]; exact walk_tup, fun H2 F2 e1 e2 => Evl.ex_t e2 (Evl.ex_t e1 h), fun i H2 x H3 hi y F2 m2 cs2 w e p => by
    obtain ⟨rfl, y⟩ := y
    obtain ⟨d, hd, rd⟩ := r.getV y
    exact ⟨F2, d, hd, w, Nx.refl, rd.mono e p⟩⟩
theorem wr_s {x : Str} : WalkR G F m (Its x) (charsL x) :=
  ⟨fun _ => True, _, by
      have e : (charsL x).length = x.cps.size := by simp [charsL]
      rw [e]; exact walk_str, fun _ _ _ _ => trivial, fun i H2 v H3 hi y F2 m2 cs2 w e p => by
    obtain ⟨rfl, c, hc, rfl⟩ := y
    refine ⟨F2, .str ⟨#[c]⟩, ?_, w, Nx.refl, .str _⟩
    unfold charsL
    rw [List.getElem?_map]
    have : x.cps.toList[i]? = some c := by simpa using hc
    rw [this]; rfl⟩
theorem range_get (lo : Int) (n i : Nat) (h : i < n) : (rangeL lo n)[i]? = some (.int (lo + i)) := by
  unfold rangeL
  rw [List.getElem?_map, List.getElem?_range h]
  rfl
theorem wr_r {lo : Int} {n : Nat} : WalkR G F m (Itr lo n) (rangeL lo n) :=
  ⟨fun _ => True, _, by
      have e : (rangeL lo n).length = n := by simp [rangeL]
      rw [e]; exact walk_range, fun _ _ _ _ => trivial, fun i H2 v H3 hi y F2 m2 cs2 w e p => by
    obtain ⟨rfl, rfl⟩ := y
    have e : (rangeL lo n).length = n := by simp [rangeL]
    exact ⟨F2, .int (lo + i), range_get lo n i (by omega), w, Nx.refl, .int _⟩⟩
theorem enum_len : ∀ (k : Nat) (ds : List D), (enumL k ds).length = ds.length
  | _, [] => rfl
  | k, _ :: ds => by simp [enumL, enum_len (k + 1) ds]
theorem enum_get : ∀ (k : Nat) (ds : List D) (i : Nat) (d : D), ds[i]? = some d → (enumL k ds)[i]? = some (.tup [.int ((k + i : Nat) : Int), d])
  | _, [], _, _, h => by simp at h
  | k, x :: ds, 0, d, h => by simp at h; subst h; simp [enumL]
  | k, x :: ds, i + 1, d, h => by
    have := enum_get (k + 1) ds i d (by simpa using h)
    simp only [enumL, List.getElem?_cons_succ]
    rw [this, show k + 1 + i = k + (i + 1) by omega]
theorem wr_pair {vs : List V} {ds : List D} (r : Reps G F m vs ds) {H2 H3 F2 : Hp} {m2 : List Addr} {cs2 : List D} {i : Nat} {v : V} (y : YPair (fun i => some (.int (i : Nat))) (fun i => vs[i]?) i H2 v H3) (w : W G H2 F2 m2 cs2) (e : Ex F F2) (p : m <+: m2) :
    ∃ F3 d, (enumL 0 ds)[i]? = some d ∧ W G H3 F3 m2 cs2 ∧ Nx H2 F2 m2 H3 F3 m2 ∧ Rep G F3 m2 v d := by
  obtain ⟨T', x, z, rfl, hT, rfl, hx, hz⟩ := y
  cases hx
  obtain ⟨d, hd, rd⟩ := r.getV hz
  refine ⟨upd F2 T' (.tup [.int (i : Nat), z]), _, enum_get 0 ds i d hd, w.frz hT, Nx.frz w hT, .tup (.of upd_same) (.cons ?_ (.cons ?_ .nil))⟩
  · rw [Nat.zero_add]; exact .int _
  · exact (rd.mono e p).mono (ex_new (w.fnone hT)) (List.prefix_refl m2)
theorem wr_e {a : Addr} {vs : List V} {ds : List D} (h : SqL G.K F a vs) (r : Reps G F m vs ds) : WalkR G F m (Ite G.K a) (enumL 0 ds) :=
  ⟨fun H => SqL G.K H a vs, _, by rw [enum_len, ← r.length]; exact walk_enum, fun H2 F2 e1 e2 => Evl.ex_l e2 (Evl.ex_l e1 h), fun i H2 x H3 hi y F2 m2 cs2 w e p => wr_pair r y w e p⟩
theorem wr_et {a : Addr} {vs : List V} {ds : List D} (h : SqT G.K F a vs) (r : Reps G F m vs ds) : WalkR G F m (IteT G.K a) (enumL 0 ds) :=
  ⟨fun H => SqT G.K H a vs, _, by rw [enum_len, ← r.length]; exact walk_enumT, fun H2 F2 e1 e2 => Evl.ex_t e2 (Evl.ex_t e1 h), fun i H2 x H3 hi y F2 m2 cs2 w e p => wr_pair r y w e p⟩
end
section
variable {T : Tab} {S : Sta T} {n : Nat} {C : CallF} {c : Cxt} {X : Cx}
theorem snd_iseq {a : E} (iha : Snd S n C a) : Snd S n C (.iseq a) := by
  intro c t h
  simp only [chk] at h
  split at h
  · simp only [Bool.and_eq_true, Bool.not_eq_true'] at h
    intro X g
    refine ⟨fun pins s σ H R I q => ?_⟩
    obtain ⟨F, m, cs, δ, items, cs', w, en, he, k⟩ := q
    simp only [ev, Option.bind_eq_some_iff, Option.map_eq_some_iff] at he
    obtain ⟨⟨x1, cs1⟩, hx, xs, hxs, e⟩ := he
    cases e
    unfold iseqD at hxs
    dsimp only at hxs
    split at hxs
    · cases hxs
      refine (pi_str (iha _ _ h.2 X g)).run pins s σ H R I ?_
      refine tE.intro w en hx fun H1 F1 m1 w1 n1 en1 v1 r1 => ?_
      cases r1
      exact ⟨_, rfl, k _ H1 F1 m1 w1 n1 wr_s⟩
    · cases hxs
    · rename_i hn1 hn2
      cases x1 with
      | lst ys =>
        have e : items = ys := by simpa [seqD, lstD, cont] using hxs.symm
        subst e
        refine (pi_list (iha _ _ h.2 X g)).run pins s σ H R I ?_
        refine tE.intro w en hx fun H1 F1 m1 w1 n1 en1 v1 r1 => ?_
        cases r1 with
        | lst h1 h2 => rw [g.K]; exact ⟨_, rfl, ⟨_, .of (w1.sub _ _ h1)⟩, k _ H1 F1 m1 w1 n1 (wr_l (.of h1) h2)⟩
      | rls ys =>
        have e : items = ys := by simpa [seqD, lstD, cont] using hxs.symm
        subst e
        refine (pi_list (iha _ _ h.2 X g)).run pins s σ H R I ?_
        refine tE.intro w en hx fun H1 F1 m1 w1 n1 en1 v1 r1 => ?_
        cases r1 with
        | rls h1 h2 => rw [g.K]; exact ⟨_, rfl, ⟨_, sub_l w1 h1⟩, k _ H1 F1 m1 w1 n1 (wr_l h1 h2)⟩
      | tup ys =>
        have e : items = ys := by simpa [seqD, lstD, tupD, cont] using hxs.symm
        subst e
        refine (pi_tup (iha _ _ h.2 X g)).run pins s σ H R I ?_
        refine tE.intro w en hx fun H1 F1 m1 w1 n1 en1 v1 r1 => ?_
        cases r1 with
        | tup h1 h2 => rw [g.K]; exact ⟨_, rfl, ⟨_, sub_t w1 h1⟩, k _ H1 F1 m1 w1 n1 (wr_t h1 h2)⟩
      | cell j => exact absurd rfl (hn2 j)
      | _ => simp [seqD, lstD, tupD, cont] at hxs
  · cases h
theorem snd_irng {a : E} (iha : Snd S n C a) : Snd S n C (.irng a) := by
  intro c t h
  simp only [chk] at h
  split at h
  · simp only [Bool.and_eq_true, Bool.not_eq_true'] at h
    obtain ⟨⟨⟨hg, hx⟩, hst⟩, h2⟩ := h
    have e := beq_iff_eq.mp hx
    subst e
    intro X g
    obtain ⟨g1, g2⟩ := gl_of g hg
    have hm : X.mg "range" = none := by rw [g.mg]; exact S.nobx _ (by simp)
    refine (pi_range1 g1 hm (pa_cons (iha _ _ h2 X g) pa_nil (star_cons hst)) (star_cons hst)).imp fun σ H R q => ?_
    obtain ⟨F, m, cs, δ, items, cs', w, en, he, k⟩ := q
    simp only [ev, Option.bind_eq_some_iff] at he
    obtain ⟨⟨x1, cs1⟩, hx, he⟩ := he
    dsimp only at he
    split at he
    · split at he
      · rename_i hb
        cases he
        refine tE.intro w en hx fun H1 F1 m1 w1 n1 en1 v1 r1 => ?_
        cases r1
        exact ⟨_, rfl, hb.1, hb.2, k _ H1 F1 m1 w1 n1 wr_r⟩
      · cases he
    · cases he
  · cases h
theorem snd_irng2 {a b : E} (iha : Snd S n C a) (ihb : Snd S n C b) : Snd S n C (.irng2 a b) := by
  intro c t h
  simp only [chk] at h
  split at h
  · simp only [Bool.and_eq_true, Bool.not_eq_true'] at h
    obtain ⟨⟨⟨⟨⟨hg, hx⟩, hst⟩, hst2⟩, h1⟩, h2⟩ := h
    have e := beq_iff_eq.mp hx
    subst e
    intro X g
    obtain ⟨g1, g2⟩ := gl_of g hg
    have hm : X.mg "range" = none := by rw [g.mg]; exact S.nobx _ (by simp)
    refine (pi_range2 g1 hm (pa_cons (iha _ _ h1 X g) (pa_cons (ihb _ _ h2 X g) pa_nil (star_cons hst2)) (star_cons hst)) (by rw [star_cons hst, star_cons hst2]; rfl) (star_cons hst2)).imp fun σ H R q => ?_
    obtain ⟨F, m, cs, δ, items, cs', w, en, he, k⟩ := q
    simp only [ev, Option.bind_eq_some_iff] at he
    obtain ⟨⟨x1, cs1⟩, hx, ⟨y1, cs2⟩, hy, he⟩ := he
    dsimp only at he
    split at he
    · split at he
      · rename_i hb
        cases he
        refine tE.intro w en hx fun H1 F1 m1 w1 n1 en1 v1 r1 => tE.intro w1 en1 hy fun H2 F2 m2 w2 n2 en2 v2 r2 => ?_
        cases r1; cases r2
        exact ⟨_, _, rfl, hb, k _ H2 F2 m2 w2 (n1.trans n2) wr_r⟩
      · cases he
    · cases he
  · cases h
theorem snd_ienum {a : E} (iha : Snd S n C a) : Snd S n C (.ienum a) := by
  intro c t h
  simp only [chk] at h
  split at h
  · simp only [Bool.and_eq_true, Bool.not_eq_true'] at h
    obtain ⟨⟨⟨hg, hx⟩, hst⟩, h2⟩ := h
    have e := beq_iff_eq.mp hx
    subst e
    intro X g
    obtain ⟨g1, g2⟩ := gl_of g hg
    have hm : X.mg "enumerate" = none := by rw [g.mg]; exact S.nobx _ (by simp)
    refine ⟨fun pins s σ H R I q => ?_⟩
    obtain ⟨F, m, cs, δ, items, cs', w, en, he, k⟩ := q
    simp only [ev, Option.bind_eq_some_iff] at he
    obtain ⟨⟨x1, cs1⟩, hx, he⟩ := he
    dsimp only at he
    split at he
    · cases he
    · rename_i hn
      simp only [Option.map_eq_some_iff] at he
      obtain ⟨xs, hxs, e⟩ := he
      cases e
      cases x1 with
      | lst ys =>
        have e : xs = ys := by simpa [seqD, lstD, cont] using hxs.symm
        subst e
        refine (pi_enum g1 hm (pa_cons (iha _ _ h2 X g) pa_nil (star_cons hst)) (star_cons hst)).run pins s σ H R I ?_
        refine tE.intro w en hx fun H1 F1 m1 w1 n1 en1 v1 r1 => ?_
        cases r1 with
        | lst h1 h2 => rw [g.K]; exact ⟨_, _, rfl, .of (w1.sub _ _ h1), k _ H1 F1 m1 w1 n1 (wr_e (.of h1) h2)⟩
      | rls ys =>
        have e : xs = ys := by simpa [seqD, lstD, cont] using hxs.symm
        subst e
        refine (pi_enum g1 hm (pa_cons (iha _ _ h2 X g) pa_nil (star_cons hst)) (star_cons hst)).run pins s σ H R I ?_
        refine tE.intro w en hx fun H1 F1 m1 w1 n1 en1 v1 r1 => ?_
        cases r1 with
        | rls h1 h2 => rw [g.K]; exact ⟨_, _, rfl, sub_l w1 h1, k _ H1 F1 m1 w1 n1 (wr_e h1 h2)⟩
      | tup ys =>
        have e : xs = ys := by simpa [seqD, lstD, tupD, cont] using hxs.symm
        subst e
        refine (pi_enumT g1 hm (pa_cons (iha _ _ h2 X g) pa_nil (star_cons hst)) (star_cons hst)).run pins s σ H R I ?_
        refine tE.intro w en hx fun H1 F1 m1 w1 n1 en1 v1 r1 => ?_
        cases r1 with
        | tup h1 h2 => rw [g.K]; exact ⟨_, _, rfl, sub_t w1 h1, k _ H1 F1 m1 w1 n1 (wr_et h1 h2)⟩
      | cell j => exact absurd rfl (hn j)
      | _ => simp [seqD, lstD, tupD, cont] at hxs
  · cases h
end
/-! ### targets -/
def Chg (is : List Nat) (σ σ' : L2.St) : Prop := σ'.length = σ.length ∧ ∀ i, i ∉ is → σ'[i]? = σ[i]?
def tG (G : Glob) (t : Tg) : TG := fun v σ H Q => ∃ F m cs δ x δ', W G H F m cs ∧ EnvR G F m σ δ ∧ Rep G F m v x ∧ bindT t cs x δ = some δ' ∧ ∀ σ', EnvR G F m σ' δ' → Chg t.slots σ σ' → Q σ' H
def gNames : List Nat → TGs
  | [] => gNil
  | i :: is => gCons (gName i) (gNames is)
section
variable {T : Tab} {S : Sta T} {n : Nat} {C : CallF} {c : Cxt} {X : Cx}
theorem tgn_ok (g : GX S n c X) {i : Nat} {x : Str} {p : Pos} (h : tgB c i x = true) : PG X (.Name x p) (gName i) := by
  unfold tgB at h
  simp only [Bool.and_eq_true, decide_eq_true_eq] at h
  obtain ⟨h1, h2⟩ := h
  refine pg_name (by rw [g.hN]; exact g.nd) (by rw [g.hN]; exact h1) ?_ ?_
  · unfold L2.Loc
    rw [g.sc]
    split at h2
    · exact .inl (by assumption)
    · exact .inr (by assumption)
    · cases h2
  · split at h2
    · exact .inr (by rw [g.sc]; assumption)
    · exact .inl (g.fn x h2)
    · cases h2
theorem tgs_ok (g : GX S n c X) : ∀ {is : List Nat} {es : List Expr}, tgsB c is es = true → PGs X es (gNames is) ∧ (assignEach es X.env).length = is.length ∧ (assignEach es X.env).findIdx? (·.1) = none
  | [], [], _ => ⟨pgs_nil, rfl, rfl⟩
  | [], _ :: _, h => by simp [tgsB] at h
  | _ :: _, [], h => by simp [tgsB] at h
  | i :: is, e :: es, h => by
    cases e with
    | Name x p =>
      simp only [tgsB, Bool.and_eq_true] at h
      obtain ⟨h1, h2, h3⟩ := tgs_ok g h.2
      refine ⟨pgs_cons (tgn_ok g h.1) h1, ?_, ?_⟩
      · show (assignEach es X.env).length + 1 = is.length + 1
        rw [h2]
      · show ((false, _) :: assignEach es X.env).findIdx? (·.1) = none
        rw [List.findIdx?_cons, h3]
        simp
    | _ => simp [tgsB] at h
theorem names_ok {G : Glob} {F : Hp} {m : List Addr} : ∀ {is : List Nat} {vs : List V} {ds : List D} {σ : L2.St} {δ : Env'} {H : Hp} {Q : L2.St → Hp → Prop}, Reps G F m vs ds → ds.length = is.length → EnvR G F m σ δ →
    (∀ σ', EnvR G F m σ' ((is.zip ds).foldl (fun δ p => δ.set p.1 (some p.2)) δ) → Chg is σ σ' → Q σ' H) → gNames is vs σ H Q
  | [], _, _, σ, δ, H, Q, .nil, _, en, k => ⟨rfl, k σ en ⟨rfl, fun _ _ => rfl⟩⟩
  | [], _, _, _, _, _, _, .cons _ _, h, _, _ => by simp at h
  | _ :: _, _, _, _, _, _, _, .nil, h, _, _ => by simp at h
  | i :: is, _, _, σ, δ, H, Q, .cons (v := v) (d := d) r t, h, en, k => by
    refine ⟨_, _, rfl, ?_⟩
    refine names_ok (is := is) t (by simpa using h) (en.set r i) fun σ' en' ch => k σ' en' ⟨by rw [ch.1]; simp, fun j hj => ?_⟩
    simp only [List.mem_cons, not_or] at hj
    rw [ch.2 j hj.2, List.getElem?_set_ne (Ne.symm hj.1)]
theorem tgt_ok (g : GX S n c X) {t : Tg} {e : Expr} (h : tgtB c t e = true) : PG X e (tG S.G t) := by
  cases t with
  | nm i =>
    cases e with
    | Name x p =>
      refine (tgn_ok g h).imp fun v σ H Q q => ?_
      obtain ⟨F, m, cs, δ, x, δ', w, en, r, hb, k⟩ := q
      simp only [bindT] at hb
      cases hb
      exact k _ (en.set r i) ⟨by simp, fun j hj => by
        have : i ≠ j := fun z => hj (by simp [Tg.slots, z])
        rw [List.getElem?_set_ne this]⟩
    | _ => simp [tgtB] at h
  | tp is =>
    cases e with
    | Tuple es kk p =>
      obtain ⟨h1, h2, h3⟩ := tgs_ok g (show tgsB c is es = true from h)
      refine ⟨fun pins s σ H v u Q I ru q => ?_⟩
      obtain ⟨F, m, cs, δ, x, δ', w, en, r, hb, k⟩ := q
      simp only [bindT, Option.bind_eq_some_iff] at hb
      obtain ⟨xs, hxs, hb⟩ := hb
      split at hb
      · rename_i hl
        cases hb
        obtain ⟨a, vs, rfl, h5, h6⟩ := seqD_ok w r hxs
        have rd : gNames is vs σ H Q := names_ok h6 hl en fun σ' en' ch => k σ' en' ch
        rcases h5 with h5 | h5
        · exact (pg_lst g.calm h1 h2 h3).run pins s σ H _ u Q I ru ⟨a, vs, rfl, by rw [g.K]; exact h5, by rw [h6.length]; exact hl, rd⟩
        · exact (pg_tup g.calm h1 h2 h3).run pins s σ H _ u Q I ru ⟨a, vs, rfl, by rw [g.K]; exact h5, by rw [h6.length]; exact hl, rd⟩
      · cases hb
    | _ => simp [tgtB] at h
end
end DL

end

section
set_option Elab.async false
set_option linter.all false
set_option maxRecDepth 100000
set_option maxHeartbeats 4000000
/-! D layer c: comprehensions; all expressions. -/
namespace DL
open PySem L2
section
variable {G : Glob} {F H F' H' : Hp} {m m' : List Addr} {cs : List D} {σ : L2.St} {δ : Env'}
theorem wipeD_length (δ : Env') : ∀ vs : List Nat, (wipeD δ vs).length = δ.length
  | [] => rfl
  | v :: vs => by simp [wipeD, wipeD_length δ vs]
theorem EnvR.wipe (en : EnvR G F m σ δ) : ∀ vs : List Nat, EnvR G F m (L2.wipe σ vs) (wipeD δ vs)
  | [] => en
  | v :: vs => by
    have ih := EnvR.wipe en vs
    refine ⟨by rw [wipe_length, wipeD_length]; exact en.len, fun i d h => ?_⟩
    by_cases hv : v = i
    · subst hv
      have hl := (List.getElem?_eq_some_iff.mp h).1
      rw [wipeD_length, ← wipeD_length δ vs] at hl
      simp only [wipeD] at h
      rw [List.getElem?_set_self hl] at h
      cases h
    · simp only [wipeD] at h
      rw [List.getElem?_set_ne hv] at h
      obtain ⟨u, h1, h2⟩ := ih.at_ i d h
      exact ⟨u, by simp only [L2.wipe]; rw [List.getElem?_set_ne hv]; exact h1, h2⟩
theorem wipe_get (σ : L2.St) : ∀ (vs : List Nat) (i : Nat), (L2.wipe σ vs)[i]? = if i ∈ vs ∧ i < σ.length then some none else σ[i]?
  | [], i => by simp [L2.wipe]
  | v :: vs, i => by
    simp only [L2.wipe]
    by_cases hv : v = i
    · subst hv
      by_cases hl : v < σ.length
      · rw [List.getElem?_set_self (by rw [wipe_length]; exact hl), if_pos ⟨by simp, hl⟩]
      · rw [if_neg (by omega), List.getElem?_eq_none (by simp [wipe_length]; omega), List.getElem?_eq_none (by omega)]
    · rw [List.getElem?_set_ne hv, wipe_get σ vs i]
      have : (i ∈ v :: vs) ↔ i ∈ vs := by simp [Ne.symm hv]
      simp only [this]
theorem chg_wipe {σ σ' : L2.St} {vs : List Nat} (ch : Chg vs (L2.wipe σ vs) σ') : L2.wipe σ' vs = L2.wipe σ vs := by
  have hl : σ'.length = σ.length := by rw [ch.1, wipe_length]
  refine List.ext_getElem? fun i => ?_
  rw [wipe_get, wipe_get, hl]
  by_cases h : i ∈ vs
  · by_cases h2 : i < σ.length
    · rw [if_pos ⟨h, h2⟩, if_pos ⟨h, h2⟩]
    · rw [if_neg (by omega), if_neg (by omega), List.getElem?_eq_none (by omega), List.getElem?_eq_none (by omega)]
  · rw [if_neg (by simp [h]), if_neg (by simp [h]), ch.2 i h, wipe_get, if_neg (by simp [h])]
theorem Nx.over {p : Addr} {o : HO} (n : Nx H F m H' F' m') (hp : H p = none) : Nx H F m (upd H' p o) F' m' :=
  ⟨n.ex, n.pre, fun b u h hm => by
    obtain ⟨h1, h2, h3⟩ := n.fr b u h hm
    exact ⟨by rw [upd_ne (ne_of_none h hp)]; exact h1, h2, h3⟩⟩
theorem Nx.free {p : Addr} (n : Nx H F m H' F' m') (w : W G H' F' m' cs) (hp : H' p = none) : H p = none := by
  cases e : H p with
  | none => rfl
  | some o =>
    by_cases hm : p ∈ m
    · obtain ⟨u, hu⟩ := w.mem (n.pre.subset hm)
      rw [hp] at hu; cases hu
    · rw [(n.fr p o e hm).1] at hp; cases hp
/-- a thing is taken out of sight -/
def hidH (H : Hp) (p : Addr) : Hp := fun b => if b = p then none else H b
theorem hid_upd {p : Addr} {o : HO} (h : H p = some o) : upd (hidH H p) p o = H := by
  funext b
  unfold upd hidH
  by_cases hb : b = p
  · rw [if_pos hb, hb, h]
  · rw [if_neg hb, if_neg hb]
theorem W.hid {p : Addr} (w : W G H F m cs) (hp : F p = none) (hm : p ∉ m) : W G (hidH H p) F m cs where
  sub := fun a u e => by
    have h : a ≠ p := fun z => by subst z; rw [hp] at e; cases e
    unfold hidH
    rw [if_neg h]; exact w.sub a u e
  nd := w.nd
  len := w.len
  off := w.off
  at_ := fun i a d h1 h2 => by
    obtain ⟨u, h3, h4⟩ := w.at_ i a d h1 h2
    have h : a ≠ p := fun z => by subst z; exact hm (List.mem_of_getElem? h1)
    exact ⟨u, by unfold hidH; rw [if_neg h]; exact h3, h4⟩
  ord := w.ord
theorem Nx.hid {p : Addr} (n : Nx H F m H' F' m') (hp : H p = none) : Nx H F m (hidH H' p) F' m' :=
  ⟨n.ex, n.pre, fun b u h hm => by
    obtain ⟨h1, h2, h3⟩ := n.fr b u h hm
    exact ⟨by unfold hidH; rw [if_neg (ne_of_none h hp)]; exact h1, h2, h3⟩⟩
end
section
variable {T : Tab} {S : Sta T} {n : Nat} {C : CallF} {c : Cxt} {X : Cx}
theorem GX.blk (g : GX S n c X) (scope : Scope) (s : Shared) (H : Hp) (C' : Addr) (cl : List (Str × Addr)) (fp : List Addr) : GX S n ⟨c.N, relS scope c.sc, some scope⟩ (X.blk s H scope (compEnvC scope cl C' X.env) fp) where
  prog := g.prog
  w := g.w
  K := g.K
  mg := g.mg
  base := g.base
  hN := g.hN
  nd := g.nd
  sc := by rw [← g.sc]; rfl
  calm := g.calm
  room := g.room
  fn := fun x h => h
theorem own_map (N : List Str) (is : List Nat) : (ownOf N is).map (·.2) = is := by
  unfold ownOf
  rw [List.map_map]
  exact List.map_id _
/-- the reading of a comprehension -/
theorem comp_read {t : Tg} {i d e : E} {σ : L2.St} {H : Hp} {Q : VK} (q : tN S.G (ev T C (.comp t i d e)) σ H Q) : tLc (tI S.G (ev T C i)) (tG S.G t) (tT S.G (ev T C d)) (tE S.G (ev T C e)) t.slots σ H Q := by
  obtain ⟨F, m, cs, δ, dd, cs', w, en, he, k⟩ := q
  simp only [ev, Option.bind_eq_some_iff] at he
  obtain ⟨⟨x1, cs1⟩, hx1, items, hit, ⟨ys, cs2⟩, hc, he⟩ := he
  have hit := lstArgs_some hit
  dsimp only at hit
  subst hit
  dsimp only at hc he
  split at he
  · rename_i hsz
    cases he
    refine tI.intro w en hx1 fun H1 F1 m1 w1 n1 en1 J wk => ?_
    intro D hD
    obtain ⟨Gd, Y, wlk, hG, hY⟩ := wk.ex
    refine lc_it wlk (fun i H' => ∃ F' m' csi ysi vsi rest, W S.G H' F' m' csi ∧ Nx H1 F1 m1 H' F' m' ∧ F' D = none ∧ D ∉ m' ∧ H' D = some (.lst vsi) ∧ Reps S.G F' m' vsi ysi ∧
        compL (fun x cs => (bindT t cs x (wipeD δ t.slots)).bind fun δ' => (ev T C d δ' cs).bind fun b => match b.1 with
          | .bl false => some (none, b.2)
          | .bl true => (ev T C e δ' b.2).map fun y => (some y.1, y.2)
          | _ => none) (items.drop i) csi = some (rest, cs') ∧ ys = ysi ++ rest) ?h0 ?hG ?hs ?hd
    case h0 =>
      exact ⟨F1, m1, cs1, [], [], ys, w1.junk hD, Nx.junk hD, w1.fnone hD, w1.nin hD, upd_same, .nil, hc, rfl⟩
    case hG =>
      rintro i H' hi ⟨F', m', csi, ysi, vsi, rest, w', n', _⟩
      exact hG H' F' n'.ex w'.sub
    case hs =>
      rintro i x H' H2 hi ⟨F', m', csi, ysi, vsi, rest, w', n', f1, f2, f3, f4, f5, rfl⟩ hy
      obtain ⟨F3, dx, hdx, w3, n3, r3⟩ := hY i H' x H2 hi hy F' m' csi w' n'.ex n'.pre
      have hdrop : items.drop i = dx :: items.drop (i + 1) := by
        rw [List.drop_eq_getElem_cons hi]
        rw [List.getElem?_eq_getElem hi] at hdx
        cases hdx; rfl
      rw [hdrop] at f5
      simp only [compL, Option.bind_eq_some_iff, Option.map_eq_some_iff] at f5
      obtain ⟨⟨o1, c1⟩, ⟨δ', hb, ⟨b1, c2⟩, hd1, hm1⟩, ⟨rest', c3⟩, hrest, e1⟩ := f5
      cases e1
      obtain ⟨f1', f2', f3'⟩ := n3.fr D _ f3 f2
      refine ⟨F3, m', csi, wipeD δ t.slots, dx, δ', w3, ((en1.mono (n'.trans n3)).wipe t.slots), r3, hb, fun σ' en' ch => ⟨chg_wipe ch, ?_⟩⟩
      dsimp only at hm1
      split at hm1
      · cases hm1
        refine tT.intro w3 en' hd1 fun H4 F4 m4 w4 n4 en4 => ?_
        rw [if_neg (by decide)]
        obtain ⟨g1, g2, g3⟩ := n4.fr D _ f1' f2'
        exact ⟨F4, m4, _, ysi, vsi, rest', w4, (n'.trans n3).trans n4, g3 (f3' f1), g2, g1, (f4.nx n3).nx n4, hrest, rfl⟩
      · simp only [Option.map_eq_some_iff] at hm1
        obtain ⟨⟨y1, c4⟩, hy1, e2⟩ := hm1
        cases e2
        refine tT.intro w3 en' hd1 fun H4 F4 m4 w4 n4 en4 => ?_
        rw [if_pos rfl]
        refine tE.intro w4 en4 hy1 fun H5 F5 m5 w5 n5 en5 v5 r5 => ?_
        obtain ⟨g1, g2, g3⟩ := (n4.trans n5).fr D _ f1' f2'
        have r6 := ((f4.nx n3).nx n4).nx n5
        refine ⟨vsi, g1, ?_, ?_⟩
        · rw [r6.length]
          have : (ysi ++ y1 :: rest').length ≤ sizeLine := hsz
          simp at this
          omega
        · exact ⟨F5, m5, _, ysi ++ [y1], vsi ++ [v5], rest', w5.over (g3 (f3' f1)) g2, (((n'.trans n3).trans n4).trans n5).over hD, g3 (f3' f1), g2, upd_same, r6.append (.cons r5 .nil), hrest, by simp⟩
      · cases hm1
    case hd =>
      rintro H' ⟨F', m', csi, ysi, vsi, rest, w', n', f1, f2, f3, f4, f5, rfl⟩
      rw [List.drop_eq_nil_of_le (Nat.le_refl _)] at f5
      simp only [compL] at f5
      cases f5
      rw [← hid_upd f3]
      refine k D _ (hidH H' D) F' m' (w'.hid f1 f2) ((n1.trans n').hid ?_) ?_ (.lst (by simpa using f4))
      · exact n1.free w1 hD
      · unfold hidH; rw [if_pos rfl]
  · cases he

/-- the parts of a comprehension -/
theorem comp_parts {t : Tg} {i d e : E} (ihi : Snd S n C i) (ihd : Snd S n C d) (ihe : Snd S n C e) {c : Cxt} {x tg it : Expr} {ifs : List Expr} {scope : Scope} {pos : Pos}
    (h : chk T (.comp t i d e) c (.nw (.ListComp x [⟨tg, it, ifs, 0⟩] scope pos)) = true) {X : Cx} (g : GX S n c X) :
    PI X tg it (tI S.G (ev T C i)) ∧ BlkOk X.N X.env.scope scope (ownOf c.N t.slots) ∧
    (∀ (s : Shared) (H : Hp) (C' : Addr) (cl : List (Str × Addr)) (fp : List Addr), PG (X.blk s H scope (compEnvC scope cl C' X.env) fp) tg (tG S.G t)) ∧
    (∀ (s : Shared) (H : Hp) (C' : Addr) (cl : List (Str × Addr)) (fp : List Addr), PTs (X.blk s H scope (compEnvC scope cl C' X.env) fp) ifs (tT S.G (ev T C d))) ∧
    (∀ (s : Shared) (H : Hp) (C' : Addr) (cl : List (Str × Addr)) (fp : List Addr), PE (X.blk s H scope (compEnvC scope cl C' X.env) fp) x (tE S.G (ev T C e))) ∧ ∀ y, foldedSetIterable it X.env y = pure y := by
  simp only [chk, Bool.and_eq_true, Bool.not_eq_true'] at h
  obtain ⟨⟨⟨⟨⟨hset, hblk⟩, hi⟩, htg⟩, hif⟩, hx⟩ := h
  refine ⟨ihi _ _ hi X g, ?_, fun s H C' cl fp => tgt_ok (g.blk scope s H C' cl fp) htg, ?_, fun s H C' cl fp => ihe _ _ hx _ (g.blk scope s H C' cl fp), folded_plain hset⟩
  · rw [g.hN, g.sc]; exact blkOk_by hblk
  · intro s H C' cl fp
    split at hif
    · refine pts_nil.imp fun σ H Q q => ?_
      obtain ⟨F, m, cs, δ, b, cs', w, en, he, k⟩ := q
      unfold isTT at hif
      split at hif
      · simp only [ev] at he
        cases he
        exact k H F m w Nx.refl
      · cases hif
    · exact pts_one (ihd _ _ hif _ (g.blk scope s H C' cl fp))
    · cases hif
theorem snd_comp {t : Tg} {i d e : E} (ihi : Snd S n C i) (ihd : Snd S n C d) (ihe : Snd S n C e) : Snd S n C (.comp t i d e) := by
  intro c tg0 h
  have h' := h
  simp only [chk] at h'
  split at h'
  · intro X g
    obtain ⟨p1, p2, p3, p4, p5, p6⟩ := comp_parts ihi ihd ihe h g
    refine (pe_lc g.calm (by rw [g.hN]; exact g.nd) p1 p2 p3 p4 p5 p6).imp fun σ H Q q => ?_
    rw [own_map]
    exact comp_read q
  · cases h'
end
end DL

end

section
set_option Elab.async false
set_option linter.all false
set_option maxRecDepth 100000
set_option maxHeartbeats 4000000
/-! D layer d: dict comprehensions; all expressions together. -/
namespace L2
open PySem PySem.Spec PyProof.Rows
theorem dc_it {J : It} {n : Nat} {G : Hp → Prop} {Y : Nat → Hp → V → Hp → Prop} (w : Walk J n G Y) {g : TG} {tt : TT} {tk tv : TE} {vs : List Nat} {σ : St} {H1 : Hp} {D : Addr} {Qd : Hp → Prop} (Pv : Nat → Hp → Prop) (h0 : Pv 0 (upd H1 D (.dK []))) (hG : ∀ i H, i ≤ n → Pv i H → G H)
    (hs : ∀ i x H H', i < n → Pv i H → Y i H x H' → g x (wipe σ vs) H' fun σ2 H2 => wipe σ2 vs = wipe σ vs ∧ tt σ2 H2 fun b H3 =>
      if b = true then tk σ2 H3 fun y H4 => tv σ2 H4 fun z H5 => ∃ kvs k, y = kV k ∧ H5 D = some (.dK kvs) ∧ kvs.length < sizeLine ∧ Pv (i + 1) (upd H5 D (.dK (putK kvs k z))) else Pv (i + 1) H3) (hd : ∀ H, Pv n H → Qd H) :
    ∃ W : Nat → Nat → Hp → Prop, (∃ m, W 0 m (upd H1 D (.dK []))) ∧ ∀ i m H, W i m H →
      (J.stop i H ∧ Qd H) ∨ (J.go i H ∧ ∃ Nx : Hp → Prop, (∀ H', Nx H' → ∃ m', m' < m ∧ W (i + 1) m' H') ∧ ∀ x H', J.yld i H x H' → g x (wipe σ vs) H' fun σ2 H2 => wipe σ2 vs = wipe σ vs ∧ tt σ2 H2 fun b H3 =>
        if b = true then tk σ2 H3 fun y H4 => tv σ2 H4 fun z H5 => ∃ kvs k, y = kV k ∧ H5 D = some (.dK kvs) ∧ kvs.length < sizeLine ∧ Nx (upd H5 D (.dK (putK kvs k z))) else Nx H3) := by
  refine ⟨fun i m H => m = n - i ∧ i ≤ n ∧ Pv i H, ⟨n, by simp, Nat.zero_le _, h0⟩, ?_⟩
  rintro i m H ⟨rfl, hi, p⟩
  have q := hG i H hi p
  by_cases hlt : i < n
  · refine .inr ⟨w.goes i H hlt q, Pv (i + 1), fun H' p' => ⟨n - (i + 1), by omega, rfl, hlt, p'⟩, fun x H' y => hs i x H H' hlt p (w.yields i H x H' hlt q y)⟩
  · have e : i = n := by omega
    subst e
    exact .inl ⟨w.stops H q, hd H p⟩
end L2
namespace DL
open PySem L2
section
variable {G : Glob} {F : Hp} {m : List Addr}
theorem repl_zip (k : Key) (v : V) : ∀ (ks : List Key) (vs : List V), (ks.zip vs).map (fun kv => if kv.1 = k then (kv.1, v) else kv) = ks.zip (replG k v ks vs)
  | [], _ => by simp [replG]
  | _ :: _, [] => by simp [replG]
  | k' :: ks, x :: vs => by
    rw [replG, List.zip_cons_cons, List.zip_cons_cons, List.map_cons, repl_zip k v ks vs]
    by_cases h : k' = k
    · simp [h]
    · simp [h]
theorem any_zip (k : Key) : ∀ (ks : List Key) (vs : List V), ks.length = vs.length → ((ks.zip vs).any fun kv => decide (kv.1 = k)) = ks.any fun k' => decide (k' = k)
  | [], _, _ => by simp
  | _ :: _, [], h => by simp at h
  | k' :: ks, x :: vs, h => by
    rw [List.zip_cons_cons, List.any_cons, List.any_cons, any_zip k ks vs (by simpa using h)]
theorem repl_len {α : Type} (k : Key) (v : α) : ∀ (ks : List Key) (vs : List α), (replG k v ks vs).length = vs.length
  | [], _ => rfl
  | _ :: _, [] => rfl
  | _ :: ks, _ :: vs => by simp [replG, repl_len k v ks vs]
theorem repl_rep {k : Key} {v : V} {d : D} (r : Rep G F m v d) : ∀ {ks : List Key} {vs : List V} {ds : List D}, Reps G F m vs ds → Reps G F m (replG k v ks vs) (replG k d ks ds)
  | [], _, _, h => h
  | _ :: _, _, _, .nil => .nil
  | k' :: ks, _, _, .cons h t => by
    simp only [replG]
    by_cases e : k' = k
    · rw [if_pos e, if_pos e]; exact .cons r (repl_rep r t)
    · rw [if_neg e, if_neg e]; exact .cons h (repl_rep r t)
theorem putD_ok {k : Key} {v : V} {d : D} {ks : List Key} {vs : List V} {ds : List D} (l : ks.length = vs.length) (r : Rep G F m v d) (rs : Reps G F m vs ds) :
    ∃ vs', putK (ks.zip vs) k v = (putD k d ks ds).1.zip vs' ∧ (putD k d ks ds).1.length = vs'.length ∧ Reps G F m vs' (putD k d ks ds).2 := by
  unfold putK putD
  rw [any_zip k ks vs l]
  by_cases h : (ks.any fun k' => decide (k' = k)) = true
  · rw [if_pos h, if_pos h]
    exact ⟨replG k v ks vs, repl_zip k v ks vs, by rw [repl_len]; exact l, repl_rep r rs⟩
  · rw [if_neg h, if_neg h]
    refine ⟨vs ++ [v], ?_, by simp [l], rs.append (.cons r .nil)⟩
    rw [List.zip_append l]
    rfl
theorem keyD_ok {v : V} {d : D} {k : Key} (r : Rep G F m v d) (h : keyD d = some k) : v = kV k := by
  cases r <;> simp [keyD] at h <;> (subst h; rfl)
end
section
variable {T : Tab} {S : Sta T} {n : Nat} {C : CallF} {c : Cxt} {X : Cx}
theorem snd_dcomp {t : Tg} {i d e : E} (ihi : Snd S n C i) (ihd : Snd S n C d) (ihe : Snd S n C e) : Snd S n C (.dcomp t i d e) := by
  intro c tg0 h
  simp only [chk] at h
  split at h
  · rename_i x y tg it scope pos
    simp only [Bool.and_eq_true, Bool.not_eq_true'] at h
    obtain ⟨⟨⟨⟨⟨hset, hblk⟩, hi⟩, htg⟩, hk⟩, hx⟩ := h
    intro X g
    have ok : BlkOk X.N X.env.scope scope (ownOf c.N t.slots) := by
      rw [g.hN, g.sc]; exact blkOk_by hblk
    refine (pe_dc g.calm (by rw [g.hN]; exact g.nd) (ihi _ _ hi X g) ok (fun s H C' cl fp => tgt_ok (g.blk scope s H C' cl fp) htg) (fun s H C' cl fp => pts_nil) (fun s H C' cl fp => ihd _ _ hk _ (g.blk scope s H C' cl fp))
      (fun s H C' cl fp => ihe _ _ hx _ (g.blk scope s H C' cl fp)) (folded_plain hset)).imp fun σ H Q q => ?_
    rw [own_map]
    obtain ⟨F, m, cs, δ, dd, cs', w, en, he, k⟩ := q
    simp only [ev, Option.bind_eq_some_iff, Option.map_eq_some_iff] at he
    obtain ⟨⟨x1, cs1⟩, hx1, items, hit, ⟨kk, yy, cs2⟩, hc, he⟩ := he
    have hit := lstArgs_some hit
    dsimp only at hit
    subst hit
    cases he
    dsimp only at hc
    refine tI.intro w en hx1 fun H1 F1 m1 w1 n1 en1 J wk => ?_
    intro D hD
    obtain ⟨Gd, Y, wlk, hG, hY⟩ := wk.ex
    refine dc_it wlk (fun i H' => ∃ F' m' csi ksi ysi vsi, W S.G H' F' m' csi ∧ Nx H1 F1 m1 H' F' m' ∧ F' D = none ∧ D ∉ m' ∧ H' D = some (.dK (ksi.zip vsi)) ∧ ksi.length = vsi.length ∧ Reps S.G F' m' vsi ysi ∧
        dcompL (fun x cs => (bindT t cs x (wipeD δ t.slots)).bind fun δ' => (ev T C d δ' cs).bind fun b => (keyD b.1).bind fun key => (ev T C e δ' b.2).map fun y => (key, y.1, y.2)) (items.drop i) ksi ysi csi = some (kk, yy, cs2)) ?h0 ?hG ?hs ?hd
    case h0 =>
      exact ⟨F1, m1, cs1, [], [], [], w1.junk hD, Nx.junk hD, w1.fnone hD, w1.nin hD, upd_same, rfl, .nil, hc⟩
    case hG =>
      rintro i H' hi ⟨F', m', csi, ksi, ysi, vsi, w', n', _⟩
      exact hG H' F' n'.ex w'.sub
    case hs =>
      rintro i x H' H2 hi ⟨F', m', csi, ksi, ysi, vsi, w', n', f1, f2, f3, fl, f4, f5⟩ hy
      obtain ⟨F3, dx, hdx, w3, n3, r3⟩ := hY i H' x H2 hi hy F' m' csi w' n'.ex n'.pre
      have hdrop : items.drop i = dx :: items.drop (i + 1) := by
        rw [List.drop_eq_getElem_cons hi]
        rw [List.getElem?_eq_getElem hi] at hdx
        cases hdx; rfl
      rw [hdrop] at f5
      simp only [dcompL, Option.bind_eq_some_iff, Option.map_eq_some_iff] at f5
      obtain ⟨⟨key, y1, c4⟩, ⟨δ', hb, ⟨b1, c2⟩, hd1, key', hkey, ⟨y1', c4'⟩, hy1, e1⟩, f5⟩ := f5
      cases e1
      split at f5
      · rename_i hsz
        obtain ⟨f1', f2', f3'⟩ := n3.fr D _ f3 f2
        refine ⟨F3, m', csi, wipeD δ t.slots, dx, δ', w3, ((en1.mono (n'.trans n3)).wipe t.slots), r3, hb, fun σ' en' ch => ⟨chg_wipe ch, ?_⟩⟩
        unfold tYes
        dsimp only
        rw [if_pos rfl]
        refine tE.intro w3 en' hd1 fun H4 F4 m4 w4 n4 en4 v4 r4 => tE.intro w4 en4 hy1 fun H5 F5 m5 w5 n5 en5 v5 r5 => ?_
        obtain ⟨g1, g2, g3⟩ := (n4.trans n5).fr D _ f1' f2'
        have r6 := ((f4.nx n3).nx n4).nx n5
        obtain ⟨vs', p1, p2, p3⟩ := putD_ok (k := key) fl r5 r6
        refine ⟨ksi.zip vsi, key, keyD_ok r4 hkey, g1, ?_, ?_⟩
        · rw [List.length_zip, ← fl, Nat.min_self]; exact hsz
        · rw [p1]
          exact ⟨F5, m5, _, _, _, vs', w5.over (g3 (f3' f1)) g2, (((n'.trans n3).trans n4).trans n5).over hD, g3 (f3' f1), g2, upd_same, p2, p3, f5⟩
      · cases f5
    case hd =>
      rintro H' ⟨F', m', csi, ksi, ysi, vsi, w', n', f1, f2, f3, fl, f4, f5⟩
      rw [List.drop_eq_nil_of_le (Nat.le_refl _)] at f5
      simp only [dcompL] at f5
      cases f5
      rw [← hid_upd f3]
      refine k D _ (hidH H' D) F' m' (w'.hid f1 f2) ((n1.trans n').hid (n1.free w1 hD)) ?_ (.dct fl f4)
      unfold hidH; rw [if_pos rfl]
  · cases h

theorem lrng_no {a : E} : Snd S n C (.lrng a) := by
  intro c t h
  simp [chk] at h
/-- of an expression: it is right; of the elements of a list of arguments; of a test whatever its whole is -/
structure All3 (S : Sta T) (n : Nat) (C : CallF) (e : E) : Prop where
  s : Snd S n C e
  el : AllEl (Snd S n C) e
  a : ∀ c x y r p X, chk T e c (.te (.BoolOp .And (x :: y :: r) p)) = true → GX S n c X → PW X (.BoolOp .And (x :: y :: r) p) (tT S.G (ev T C e))
  o : ∀ c x y r p X, chk T e c (.te (.BoolOp .Or (x :: y :: r) p)) = true → GX S n c X → PW X (.BoolOp .Or (x :: y :: r) p) (tT S.G (ev T C e))
theorem all3 {e : E} (s : Snd S n C e) (el : AllEl (Snd S n C) e) (h1 : ∀ c x y r p, chk T e c (.te (.BoolOp .And (x :: y :: r) p)) = false) (h2 : ∀ c x y r p, chk T e c (.te (.BoolOp .Or (x :: y :: r) p)) = false) : All3 S n C e :=
  ⟨s, el, fun c x y r p X h => absurd (h.symm.trans (h1 c x y r p)) (by decide), fun c x y r p X h => absurd (h.symm.trans (h2 c x y r p)) (by decide)⟩
theorem snd_all (hC : CallOk S n C) (e : E) : All3 S n C e := by
  induction e with
  | var i => exact all3 (snd_var i) trivial (fun _ _ _ _ _ => rfl) (fun _ _ _ _ _ => rfl)
  | int i => exact all3 (snd_int i) trivial (fun _ _ _ _ _ => rfl) (fun _ _ _ _ _ => rfl)
  | str i => exact all3 (snd_str i) trivial (fun _ _ _ _ _ => rfl) (fun _ _ _ _ _ => rfl)
  | bl i => exact all3 (snd_bl i) trivial (fun _ _ _ _ _ => rfl) (fun _ _ _ _ _ => rfl)
  | non => exact all3 snd_non trivial (fun _ _ _ _ _ => rfl) (fun _ _ _ _ _ => rfl)
  | glob k => exact all3 (snd_glob k) trivial (fun _ _ _ _ _ => rfl) (fun _ _ _ _ _ => rfl)
  | fr a ia => exact all3 (snd_fr ia.s) trivial (fun _ _ _ _ _ => rfl) (fun _ _ _ _ _ => rfl)
  | mu a ia => exact all3 (snd_mu ia.s) trivial (fun _ _ _ _ _ => rfl) (fun _ _ _ _ _ => rfl)
  | bin o a b ia ib => exact all3 (snd_bin ia.s ib.s) trivial (fun _ _ _ _ _ => rfl) (fun _ _ _ _ _ => rfl)
  | neg a ia => exact all3 (snd_neg ia.s) trivial (fun _ _ _ _ _ => rfl) (fun _ _ _ _ _ => rfl)
  | cmp o a b ia ib => exact all3 (snd_cmp ia.s ib.s) trivial (fun _ _ _ _ _ => rfl) (fun _ _ _ _ _ => rfl)
  | chain o o' a b c ia ib ic => exact all3 (snd_chain ia.s ib.s ic.s) trivial (fun _ _ _ _ _ => rfl) (fun _ _ _ _ _ => rfl)
  | and' a b ia ib => exact all3 (snd_and ia.s ib.s) trivial (fun _ _ _ _ _ => rfl) (fun _ _ _ _ _ => rfl)
  | or' a b ia ib => exact all3 (snd_or ia.s ib.s) trivial (fun _ _ _ _ _ => rfl) (fun _ _ _ _ _ => rfl)
  | not' a ia => exact all3 (snd_not ia.s) trivial (fun _ _ _ _ _ => rfl) (fun _ _ _ _ _ => rfl)
  | ite t a b it ia ib => exact all3 (snd_ite it.s ia.s ib.s) trivial (fun _ _ _ _ _ => rfl) (fun _ _ _ _ _ => rfl)
  | tval a ia => exact all3 (snd_tval ia.s) trivial (fun _ _ _ _ _ => rfl) (fun _ _ _ _ _ => rfl)
  | tnot a ia => exact all3 (snd_tnot ia.s) trivial (fun _ _ _ _ _ => rfl) (fun _ _ _ _ _ => rfl)
  | tand a b ia ib =>
    obtain ⟨h1, h2⟩ := snd_tand ia.s ib.s ib.a
    exact ⟨h1, trivial, h2, fun c x y r p X h => by simp [chk] at h⟩
  | tor a b ia ib =>
    obtain ⟨h1, h2⟩ := snd_tor ia.s ib.s ib.o
    exact ⟨h1, trivial, fun c x y r p X h => by simp [chk] at h, h2⟩
  | nil => exact all3 snd_nil trivial (fun _ _ _ _ _ => rfl) (fun _ _ _ _ _ => rfl)
  | cons a b ia ib => exact all3 (snd_cons ia.s ib.s) ⟨ia.s, ib.el⟩ (fun _ _ _ _ _ => rfl) (fun _ _ _ _ _ => rfl)
  | star a b ia ib => exact all3 (snd_star ia.s ib.s) trivial (fun _ _ _ _ _ => rfl) (fun _ _ _ _ _ => rfl)
  | lst a ia => exact all3 (snd_lst ia.s) trivial (fun _ _ _ _ _ => rfl) (fun _ _ _ _ _ => rfl)
  | cat a b ia ib => exact all3 (snd_cat ia.s ib.s) trivial (fun _ _ _ _ _ => rfl) (fun _ _ _ _ _ => rfl)
  | tup a ia => exact all3 (snd_tup ia.s) trivial (fun _ _ _ _ _ => rfl) (fun _ _ _ _ _ => rfl)
  | dnil => exact all3 snd_dnil trivial (fun _ _ _ _ _ => rfl) (fun _ _ _ _ _ => rfl)
  | idx a b ia ib => exact all3 (snd_idx ia.s ib.s) trivial (fun _ _ _ _ _ => rfl) (fun _ _ _ _ _ => rfl)
  | slc a l h ia il ih => exact all3 (snd_slc ia.s il.s ih.s) trivial (fun _ _ _ _ _ => rfl) (fun _ _ _ _ _ => rfl)
  | nop => exact all3 snd_nop trivial (fun _ _ _ _ _ => rfl) (fun _ _ _ _ _ => rfl)
  | attr a f ia => exact all3 (snd_attr ia.s hC) trivial (fun _ _ _ _ _ => rfl) (fun _ _ _ _ _ => rfl)
  | meth a f b ia ib => exact all3 (snd_meth ia.s ib.s hC) trivial (fun _ _ _ _ _ => rfl) (fun _ _ _ _ _ => rfl)
  | call f a ia => exact all3 (snd_call ia.s hC) trivial (fun _ _ _ _ _ => rfl) (fun _ _ _ _ _ => rfl)
  | make k a ia => exact all3 (snd_make ia.s hC) trivial (fun _ _ _ _ _ => rfl) (fun _ _ _ _ _ => rfl)
  | blt b a ia => exact all3 (snd_blt ia.s) trivial (fun _ _ _ _ _ => rfl) (fun _ _ _ _ _ => rfl)
  | stro a ia => exact all3 (snd_stro ia.s hC) trivial (fun _ _ _ _ _ => rfl) (fun _ _ _ _ _ => rfl)
  | isi a t ia => exact all3 (snd_isi ia.s) trivial (fun _ _ _ _ _ => rfl) (fun _ _ _ _ _ => rfl)
  | isc a k ia => exact all3 (snd_isc ia.s) trivial (fun _ _ _ _ _ => rfl) (fun _ _ _ _ _ => rfl)
  | sm s a b ia ib => exact all3 (snd_sm ia.s ib.s) trivial (fun _ _ _ _ _ => rfl) (fun _ _ _ _ _ => rfl)
  | split a b ia ib => exact all3 (snd_split ia.s ib.s) trivial (fun _ _ _ _ _ => rfl) (fun _ _ _ _ _ => rfl)
  | lof a ia => exact all3 (snd_lof ia.s) trivial (fun _ _ _ _ _ => rfl) (fun _ _ _ _ _ => rfl)
  | lrng a ia => exact all3 lrng_no trivial (fun _ _ _ _ _ => rfl) (fun _ _ _ _ _ => rfl)
  | fmt a ia => exact all3 (snd_fmt ia.s) trivial (fun _ _ _ _ _ => rfl) (fun _ _ _ _ _ => rfl)
  | js a ia => exact all3 (snd_js ia.el) trivial (fun _ _ _ _ _ => rfl) (fun _ _ _ _ _ => rfl)
  | iseq a ia => exact all3 (snd_iseq ia.s) trivial (fun _ _ _ _ _ => rfl) (fun _ _ _ _ _ => rfl)
  | irng a ia => exact all3 (snd_irng ia.s) trivial (fun _ _ _ _ _ => rfl) (fun _ _ _ _ _ => rfl)
  | irng2 a b ia ib => exact all3 (snd_irng2 ia.s ib.s) trivial (fun _ _ _ _ _ => rfl) (fun _ _ _ _ _ => rfl)
  | ienum a ia => exact all3 (snd_ienum ia.s) trivial (fun _ _ _ _ _ => rfl) (fun _ _ _ _ _ => rfl)
  | comp t i c e ii ic ie => exact all3 (snd_comp ii.s ic.s ie.s) trivial (fun _ _ _ _ _ => rfl) (fun _ _ _ _ _ => rfl)
  | dcomp t i k v ii ik iv => exact all3 (snd_dcomp ii.s ik.s iv.s) trivial (fun _ _ _ _ _ => rfl) (fun _ _ _ _ _ => rfl)
end
end DL

end

section
set_option Elab.async false
set_option linter.all false
set_option maxRecDepth 100000
set_option maxHeartbeats 4000000
/-! D layer f: statements. -/
namespace DL
open PySem L2
abbrev EvS := Env' → List D → Option (Out × List D)
def PostO (G : Glob) (H F : Hp) (m : List Addr) (cs' : List D) (D' : Ends) : Out → Prop
  | .nx δ' => ∀ σ' H' F' m', W G H' F' m' cs' → Nx H F m H' F' m' → EnvR G F' m' σ' δ' → D'.nx σ' H'
  | .rt d => ∀ v H' F' m', W G H' F' m' cs' → Nx H F m H' F' m' → Rep G F' m' v d → D'.rt v H'
  | .bk δ' => ∀ σ' H' F' m', W G H' F' m' cs' → Nx H F m H' F' m' → EnvR G F' m' σ' δ' → D'.bk σ' H'
  | .ct δ' => ∀ σ' H' F' m', W G H' F' m' cs' → Nx H F m H' F' m' → EnvR G F' m' σ' δ' → D'.ct σ' H'
def tS (G : Glob) (f : EvS) : TS := fun D' σ H => ∃ F m cs δ o cs', W G H F m cs ∧ EnvR G F m σ δ ∧ f δ cs = some (o, cs') ∧ PostO G H F m cs' D' o
theorem PostO.mono {G : Glob} {H F H1 F1 : Hp} {m m1 : List Addr} {cs' : List D} {D' : Ends} {o : Out} (h : PostO G H F m cs' D' o) (n : Nx H F m H1 F1 m1) : PostO G H1 F1 m1 cs' D' o := by
  cases o with
  | nx δ => exact fun σ' H' F' m' w n' en => h σ' H' F' m' w (n.trans n') en
  | rt d => exact fun σ' H' F' m' w n' en => h σ' H' F' m' w (n.trans n') en
  | bk δ => exact fun σ' H' F' m' w n' en => h σ' H' F' m' w (n.trans n') en
  | ct δ => exact fun σ' H' F' m' w n' en => h σ' H' F' m' w (n.trans n') en

/-! ### the text of statements -/
inductive TgS where
  | st (s : Stmt) | bl (ss : List Stmt)
def isComp : Expr → Bool
  | .ListComp _ _ _ _ => true
  | .SetComp _ _ _ _ => true
  | .DictComp _ _ _ _ _ => true
  | _ => false
def isTupleX : Expr → Bool
  | .Tuple _ _ _ => true
  | _ => false
def compFr : E → Bool
  | .fr (.comp _ _ _ _) => true
  | .mu (.comp _ _ _ _) => true
  | _ => false
/-- a store that is exchanged with the comprehension's own -/
def swB (c : Cxt) (t : Str) (l l' : Nat) (scope : Scope) : Bool := (c.sc.names.lookup t == some .local) && (l == l') && !(scope.names.any fun y => y.1 == t && (y.2 == .local || y.2 == .cell))
def asgB (T : Tab) (c : Cxt) (e : E) (x : Str) (p : Pos) (v : Expr) : Bool := match v with
  | .ListComp y [g] scope p' => compFr e && decide (g.is_async = 0) && chk T e c (.ex v)
  | .DictComp y z g scope p' => !swB c x p.line p'.line scope && chk T e c (.ex v)
  | _ => !isComp v && chk T e c (.ex v)
def allLocal (c : Cxt) (l : Nat) : List Expr → Bool
  | [] => true
  | .Name x p :: es => (c.sc.names.lookup x == some .local) && (p.line == l) && allLocal c l es
  | _ => false
/-- no exchange of stores: not a tuple of as many, or some name is captured -/
def noSwap (c : Cxt) (es : List Expr) (v : Expr) : Bool := match v with
  | .Tuple vs _ _ => !(vs.length == es.length && !vs.any isStar && (es.length == 2 || es.length == 3)) || !allLocal c ((es.head?.map (·.pos.line)).getD 0) es
  | _ => true

def chkS (T : Tab) : S → Cxt → TgS → Bool
  | .nil, c, t => (match t with
    | .bl [] => true
    | _ => false)
  | .seq a b, c, t => (match t with
    | .bl (s :: ss) => chkS T a c (.st s) && chkS T b c (.bl ss)
    | _ => false)
  | .pass, c, t => (match t with
    | .st (.Pass _) => true
    | .st (.Expr (.Constant (.str _) _ _) _) => true
    | _ => false)
  | .never, c, t => (match t with
    | .st _ => true
    | _ => false)
  | .asg i e, c, t => (match t with
    | .st (.Assign [.Name x p] v _) => tgB c i x && asgB T c e x p v
    | _ => false)
  | .unp is e, c, t => (match t with
    | .st (.Assign [.Tuple es k p] v _) => tgsB c is es && noSwap c es v && chk T e c (.ex v)
    | _ => false)
  | .par i j e, c, t => (match t with
    | .st (.Assign [.Tuple [.Name x px, .Name y py] _ _] (.Tuple [a, b] _ _) _) => decide (c.N[i]? = some x) && decide (c.N[j]? = some y) && decide (i ≠ j) && !(x == y) && allLocal c px.line [.Name x px, .Name y py] && !isStar a && !isStar b &&
        !([a, b].all (constantsAlone 8)) && !([a, b].all (foldedForSure 8)) && chk T e c (.ar [a, b])
    | _ => false)
  | .setf o f e, c, t => (match t with
    | .st (.Assign [.Attribute x f' _] v _) => decide (f = f') && chk T o c (.ex x) && chk T e c (.ex v)
    | _ => false)
  | .seti o i e, c, t => (match t with
    | .st (.Assign [.Subscript x y _] v _) => !isSlice y && chk T o c (.ex x) && chk T i c (.ex y) && chk T e c (.ex v)
    | _ => false)
  | .app o e, c, t => (match t with
    | .st (.Expr (.Call (.Attribute x m ap) [y] [] p) _) => (m == ("append" : Str)) && plainBase x && !isStar y && (ap.endLine == p.line) && chk T o c (.ex x) && chk T e c (.ex y)
    | _ => false)
  | .rem _ _, _, _ => false
  | .ex e, c, t => (match t with
    | .st (.Expr v _) => !isComp v && chk T e c (.ex v)
    | _ => false)
  | .aug i o e, c, t => (match t with
    | .st (.AugAssign (.Name x _) o' v _) => decide (o = .Add) && decide (o' = .Add) && tgB c i x && chk T e c (.ex v)
    | _ => false)
  | .iff s a b, c, t => (match t with
    | .st (.If x l r _) => chk T s c (.te x) && chkS T a c (.bl l) && chkS T b c (.bl r)
    | _ => false)
  | .for_ g i b, c, t => (match t with
    | .st (.For tg it l [] _) => !isSet it && tgtB c g tg && chk T i c (.it g tg it) && chkS T b c (.bl l)
    | _ => false)
  | .whl s b, c, t => (match t with
    | .st (.While x l [] _) => chk T s c (.te x) && chkS T b c (.bl l)
    | _ => false)
  | .ret e, c, t => (match t with
    | .st (.Return (some v) _) => chk T e c (.ex v)
    | _ => false)
  | .retN, c, t => (match t with
    | .st (.Return none _) => true
    | _ => false)
  | .brk, c, t => (match t with
    | .st (.Break _) => true
    | _ => false)
  | .cnt, c, t => (match t with
    | .st (.Continue _) => true
    | _ => false)

structure GXS {T : Tab} (S : Sta T) (n : Nat) (c : Cxt) (X : Cx) : Prop where
  g : GX S n c X
  xe : X.xe = fun _ _ => False
  kind : c.sc.kind = .function
def MeansS {T : Tab} (S : Sta T) (n : Nat) (f : EvS) (c : Cxt) : TgS → Prop
  | .st s => ∀ X, GXS S n c X → PS X s (tS S.G f)
  | .bl ss => ∀ X, GXS S n c X → PSs X ss (tS S.G f)
def SndS {T : Tab} (S : Sta T) (n : Nat) (C : CallF) (wf : Nat) (s : DL.S) : Prop := ∀ c t, chkS T s c t = true → MeansS S n (evS T C wf s) c t
section
variable {T : Tab} {S : Sta T} {n : Nat} {C : CallF} {wf : Nat} {c : Cxt} {X : Cx}
theorem swaps_plain {v : Expr} {tg : Option Expr} {l : Nat} {env : Env} (h : isComp v = false) : swapsWith v tg l env = pure false := by
  cases v <;> first | rfl | (simp [isComp] at h)
theorem GXS.own (g : GXS S n c X) : PassesOwn (model X.prog X.w) X.A X.env X.xe := by rw [g.xe]; exact PassesOwn.never
theorem GXS.bk (g : GXS S n c X) : X.env.blockKind = .function := by
  unfold Env.blockKind
  rw [g.g.sc, g.kind]
  rfl
theorem ss_nil : SndS S n C wf .nil := by
  intro c t h
  simp only [chkS] at h
  split at h
  · intro X g
    refine pss_nil.imp fun D' σ H q => ?_
    obtain ⟨F, m, cs, δ, o, cs', w, en, he, k⟩ := q
    simp only [evS] at he
    cases he
    exact k σ H F m w Nx.refl en
  · cases h
theorem ss_pass : SndS S n C wf .pass := by
  intro c t h
  simp only [chkS] at h
  split at h
  · intro X g
    refine ps_pass.imp fun D' σ H q => ?_
    obtain ⟨F, m, cs, δ, o, cs', w, en, he, k⟩ := q
    simp only [evS] at he
    cases he
    exact k σ H F m w Nx.refl en
  · intro X g
    refine ps_doc.imp fun D' σ H q => ?_
    obtain ⟨F, m, cs, δ, o, cs', w, en, he, k⟩ := q
    simp only [evS] at he
    cases he
    exact k σ H F m w Nx.refl en
  · cases h
theorem ss_never : SndS S n C wf .never := by
  intro c t h
  simp only [chkS] at h
  split at h
  · intro X g
    refine ps_never.imp fun D' σ H q => ?_
    obtain ⟨F, m, cs, δ, o, cs', w, en, he, k⟩ := q
    simp only [evS] at he
    cases he
  · cases h
theorem ss_seq {a b : DL.S} (iha : SndS S n C wf a) (ihb : SndS S n C wf b) : SndS S n C wf (.seq a b) := by
  intro c t h
  simp only [chkS] at h
  split at h
  · simp only [Bool.and_eq_true] at h
    intro X g
    refine (pss_cons (iha _ _ h.1 X g) (ihb _ _ h.2 X g)).imp fun D' σ H q => ?_
    obtain ⟨F, m, cs, δ, o, cs', w, en, he, k⟩ := q
    simp only [evS, Option.bind_eq_some_iff] at he
    obtain ⟨⟨o1, cs1⟩, h1, he⟩ := he
    dsimp only at he
    refine ⟨F, m, cs, δ, o1, cs1, w, en, h1, ?_⟩
    cases o1 with
    | nx δ1 => exact fun σ' H' F' m' w' n' en' => ⟨F', m', cs1, δ1, o, cs', w', en', he, k.mono n'⟩
    | rt d => cases he; exact k
    | bk δ1 => cases he; exact k
    | ct δ1 => cases he; exact k
  · cases h
/-- what a plain assignment's reading asks -/
theorem asg_read {e : E} {i : Nat} {D' : Ends} {σ : L2.St} {H : Hp} (q : tS S.G (evS T C wf (.asg i e)) D' σ H) : tAsg (tE S.G (ev T C e)) (gName i) D' σ H := by
  obtain ⟨F, m, cs, δ, o, cs', w, en, he, k⟩ := q
  simp only [evS, Option.map_eq_some_iff] at he
  obtain ⟨⟨d, cs1⟩, h1, e1⟩ := he
  cases e1
  exact tE.intro w en h1 fun H1 F1 m1 w1 n1 en1 v1 r1 => k _ H1 F1 m1 w1 n1 (en1.set r1 i)
theorem ss_asg {e : E} {i : Nat} (ihe : All3 S n C e) (hparts : ∀ t j d b, (e = .fr (.comp t j d b) ∨ e = .mu (.comp t j d b)) → Snd S n C j ∧ Snd S n C d ∧ Snd S n C b) : SndS S n C wf (.asg i e) := by
  intro c t h
  simp only [chkS] at h
  split at h
  · rename_i x p v sp
    simp only [Bool.and_eq_true] at h
    obtain ⟨h1, h2⟩ := h
    intro X g
    have plain : swapsWith v (some (.Name x p)) sp.line X.env = pure false → chk T e c (.ex v) = true → PS X (.Assign [.Name x p] v sp) (tS S.G (evS T C wf (.asg i e))) := fun hs hc =>
      (ps_asg (ihe.s _ _ hc X g.g) (tgn_ok g.g h1) hs (by cases v <;> rfl)).imp fun D' σ H q => asg_read q
    unfold asgB at h2
    split at h2
    · rename_i y gg scope p'
      simp only [Bool.and_eq_true, decide_eq_true_eq] at h2
      obtain ⟨⟨hcf, has⟩, hc⟩ := h2
      have hsw : swapsWith (.ListComp y [gg] scope p') (some (.Name x p)) sp.line X.env = pure (X.env.blockKind == .function && X.env.kindOf x == some .local && p.line == p'.line && !(scope.names.any fun (n, k) => n == x && (k == .local || k == .cell))) := rfl
      cases hb : (X.env.blockKind == .function && X.env.kindOf x == some .local && p.line == p'.line && !(scope.names.any fun (n, k) => n == x && (k == .local || k == .cell))) with
      | false =>
        rw [hb] at hsw
        exact plain hsw hc
      | true =>
        rw [hb] at hsw
        simp only [Bool.and_eq_true] at hb
        have hloc : X.env.scope.names.lookup x = some .local := beq_iff_eq.mp hb.1.1.2
        obtain ⟨tg, it, ifs, asy⟩ := gg
        dsimp only at has
        subst has
        have hN : X.N[i]? = some x := by
          unfold tgB at h1
          simp only [Bool.and_eq_true, decide_eq_true_eq] at h1
          rw [g.g.hN]; exact h1.1
        have key : ∃ t j d b, chk T (.comp t j d b) c (.nw (.ListComp y [⟨tg, it, ifs, 0⟩] scope p')) = true ∧ (e = .fr (.comp t j d b) ∨ e = .mu (.comp t j d b)) := by
          unfold compFr at hcf
          split at hcf
          · exact ⟨_, _, _, _, hc, .inl rfl⟩
          · exact ⟨_, _, _, _, hc, .inr rfl⟩
          · cases hcf
        obtain ⟨t, j, d, b, hcc, hee⟩ := key
        obtain ⟨s1, s2, s3⟩ := hparts t j d b hee
        obtain ⟨p1, p2, p3, p4, p5, p6⟩ := comp_parts s1 s2 s3 hcc g.g
        refine (ps_setLc g.g.calm (by rw [g.g.hN]; exact g.g.nd) hN hloc hsw p1 p2 p3 p4 p5 p6).imp fun D' σ H q => ?_
        rw [own_map]
        have q := asg_read q
        show tLc _ _ _ _ _ σ H _
        refine comp_read (S := S) (C := C) ?_
        have q' : tE S.G (ev T C e) σ H (fun x H1 => gName i x σ H1 D'.nx) := q
        obtain ⟨F, m, cs, δ, dd, cs', w, en, he, k⟩ := q'
        rcases hee with rfl | rfl
        · simp only [ev] at he
          refine tN.intro w en (by simp only [ev]; exact he) fun H1 F1 m1 w1 n1 en1 pp o hp co => ?_
          refine (k.mono n1).frz w1 hp ?_
          have co' := co.mono (ex_new (o := o) (w1.fnone hp)) (List.prefix_refl m1)
          cases co' with
          | lst r => exact .lst upd_same r
          | dct l r => exact .dct upd_same l r
          | obj l r => exact .obj upd_same l r
        · rw [show ev T C (.mu (.comp t j d b)) δ cs = (ev T C (.comp t j d b) δ cs).map fun r => (.cell r.2.length, r.2 ++ [r.1]) from rfl] at he
          simp only [Option.map_eq_some_iff] at he
          obtain ⟨⟨d1, cs1⟩, he, e2⟩ := he
          cases e2
          refine tN.intro w en he fun H1 F1 m1 w1 n1 en1 pp o hp co => ?_
          refine k _ _ _ _ (w1.new hp co) (n1.trans (Nx.new hp)) (.cell ?_)
          rw [← w1.len, List.getElem?_append_right (Nat.le_refl _)]
          simp
    · rename_i y z gg scope p'
      simp only [Bool.and_eq_true, Bool.not_eq_true'] at h2
      obtain ⟨hsw, hc⟩ := h2
      refine plain ?_ hc
      have e1 : swapsWith (.DictComp y z gg scope p') (some (.Name x p)) sp.line X.env = pure (X.env.blockKind == .function && X.env.kindOf x == some .local && p.line == p'.line && !(scope.names.any fun (n, k) => n == x && (k == .local || k == .cell))) := rfl
      rw [e1]
      unfold swB at hsw
      rw [show (X.env.kindOf x) = c.sc.names.lookup x by unfold Env.kindOf; rw [g.g.sc]]
      rw [show (X.env.blockKind == .function && c.sc.names.lookup x == some .local && p.line == p'.line && !(scope.names.any fun (n, k) => n == x && (k == .local || k == .cell))) = false by
        rw [Bool.and_assoc, Bool.and_assoc, ← Bool.and_assoc (c.sc.names.lookup x == some .local)]
        rw [show (c.sc.names.lookup x == some .local && p.line == p'.line && !(scope.names.any fun (n, k) => n == x && (k == .local || k == .cell))) = false from hsw]
        simp]
    · simp only [Bool.and_eq_true, Bool.not_eq_true'] at h2
      exact plain (swaps_plain h2.1) h2.2
  · cases h
end
end DL

end

section
set_option Elab.async false
set_option linter.all false
set_option maxRecDepth 100000
set_option maxHeartbeats 4000000
/-! D layer g: more statements; a def's call. -/
namespace DL
open PySem L2
section
variable {T : Tab} {S : Sta T} {n : Nat} {C : CallF} {wf : Nat} {c : Cxt} {X : Cx}
/-- the names that a parallel assignment could exchange -/
def swNames (env : Env) (l : Nat) (ts : List Expr) : List Str := ts.filterMap fun
  | .Name id pos => if env.kindOf id == some .local && pos.line == l then some id else none
  | _ => none
theorem swNames_le (env : Env) (l : Nat) : ∀ ts : List Expr, (swNames env l ts).length ≤ ts.length := fun ts => List.length_filterMap_le _ _
theorem swNames_lt (g : GX S n c X) (l : Nat) : ∀ ts : List Expr, allLocal c l ts = false → (swNames X.env l ts).length < ts.length
  | [], h => by simp [allLocal] at h
  | e :: es, h => by
    have hle := swNames_le X.env l es
    cases e with
    | Name x p =>
      unfold swNames at hle ⊢
      rw [List.filterMap_cons]
      dsimp only
      by_cases hb : (X.env.kindOf x == some .local && p.line == l) = true
      · rw [if_pos hb]
        have hb' : (c.sc.names.lookup x == some .local && p.line == l) = true := by
          rw [← g.sc]; exact hb
        simp only [allLocal] at h
        rw [hb', Bool.true_and] at h
        have ih := swNames_lt g l es h
        unfold swNames at ih
        simp only [List.length_cons]
        omega
      · rw [if_neg hb]
        simp only [List.length_cons]
        omega
    | _ =>
      unfold swNames at hle ⊢
      rw [List.filterMap_cons]
      dsimp only
      simp only [List.length_cons]
      omega
theorem noSwap_ok (g : GX S n c X) {es : List Expr} {v : Expr} {k : Nat} {p : Pos} (h : noSwap c es v = true) : swappedStores [.Tuple es k p] v X.env = pure none := by
  unfold noSwap at h
  cases v with
  | Tuple vs k2 p2 =>
    unfold swappedStores
    dsimp only
    split
    · rfl
    · split
      · rfl
      · split
        · rfl
        · rename_i c1 c2 c3
          exfalso
          simp only [Bool.or_eq_true, Bool.not_eq_true'] at h
          rcases h with h | h
          · simp only [Bool.or_eq_true, Bool.not_eq_true', not_or, bne_iff_ne, ne_eq, Decidable.not_not, Bool.not_eq_false] at c1
            have e1 : (vs.length == es.length) = true := by simp [c1.1.2]
            have e2 : vs.any isStar = false := by
              cases e : vs.any isStar with
              | false => rfl
              | true =>
                exfalso
                refine c2 ?_
                have ef : isStar = (fun x : Expr => match x with | .Starred .. => true | _ => false) := by
                  funext x; cases x <;> rfl
                rw [ef] at e
                exact e
            rw [e1, e2] at h
            have e3 : (es.length == 2 || es.length == 3) = true := by simpa using c1.1.1
            rw [e3] at h
            cases h
          · have hlt := swNames_lt g _ es h
            simp only [Bool.or_eq_true, not_or, bne_iff_ne, ne_eq, Decidable.not_not] at c3
            have e4 : (swNames X.env ((es.head?.map (·.pos.line)).getD 0) es).length = es.length := c3.1
            omega
  | _ => rfl
theorem ss_unp {is : List Nat} {e : E} (ihe : Snd S n C e) : SndS S n C wf (.unp is e) := by
  intro c t h
  simp only [chkS] at h
  split at h
  · rename_i es k p v sp
    simp only [Bool.and_eq_true] at h
    obtain ⟨⟨h1, h2⟩, h3⟩ := h
    intro X g
    have hs : swapsWithSole [.Tuple es k p] v sp.line X.env = pure false := by
      show swapsWith v (some (.Tuple es k p)) sp.line X.env = pure false
      cases v <;> rfl
    refine (ps_asg (ihe _ _ h3 X g.g) (tgt_ok (t := .tp is) (e := .Tuple es k p) g.g h1) hs (noSwap_ok g.g h2)).imp fun D' σ H q => ?_
    obtain ⟨F, m, cs, δ, o, cs', w, en, he, k⟩ := q
    simp only [evS, Option.bind_eq_some_iff, Option.map_eq_some_iff] at he
    obtain ⟨⟨d, cs1⟩, hd, δ', hb, e1⟩ := he
    cases e1
    refine tE.intro w en hd fun H1 F1 m1 w1 n1 en1 v1 r1 => ?_
    exact ⟨F1, m1, cs1, δ, d, δ', w1, en1, r1, hb, fun σ' en' _ => k σ' H1 F1 m1 w1 n1 en'⟩
  · cases h
theorem ss_par {i j : Nat} {e : E} (ihe : Snd S n C e) : SndS S n C wf (.par i j e) := by
  intro c t h
  simp only [chkS] at h
  split at h
  · rename_i x px y py kt pt a b k2 pt2 sp
    simp only [Bool.and_eq_true, decide_eq_true_eq, Bool.not_eq_true'] at h
    obtain ⟨⟨⟨⟨⟨⟨⟨⟨⟨h1, h2⟩, h3⟩, hxy⟩, hl⟩, hsa⟩, hsb⟩, hca⟩, hcf⟩, h4⟩ := h
    intro X g
    simp only [allLocal, Bool.and_eq_true, Bool.and_true] at hl
    have hx : X.env.scope.names.lookup x = some .local := by rw [g.g.sc]; exact beq_iff_eq.mp hl.1.1
    have hy : X.env.scope.names.lookup y = some .local := by rw [g.g.sc]; exact beq_iff_eq.mp hl.2.1
    have hw : swappedStores [.Tuple [.Name x px, .Name y py] kt pt] (.Tuple [a, b] k2 pt2) X.env = pure (some [x, y]) := by
      have c2 : (([a, b] : List Expr).any fun | .Starred .. => true | _ => false) = false := by
        have ef : (fun x : Expr => match x with | .Starred .. => true | _ => false) = isStar := by
          funext x; cases x <;> rfl
        rw [ef]
        simp [hsa, hsb]
      have nm : swNames X.env px.line [.Name x px, .Name y py] = [x, y] := by
        unfold swNames
        rw [List.filterMap_cons]
        dsimp only
        rw [if_pos (by unfold Env.kindOf; rw [hx]; simp)]
        dsimp only
        rw [List.filterMap_cons]
        dsimp only
        rw [if_pos (by unfold Env.kindOf; rw [hy, hl.2.2]; rfl)]
        rfl
      have ed : ([x, y] : List Str).eraseDups.length = 2 := by
        have hne : (y == x) = false := by
          rw [Bool.eq_false_iff]
          intro z
          have := beq_iff_eq.mp z
          subst this
          simp at hxy
        simp [List.eraseDups_cons, hne]
      unfold swappedStores
      dsimp only
      split
      · rename_i c1
        rw [g.bk] at c1
        simp at c1
      · split
        · rename_i c1 c3
          exact absurd (c2.symm.trans c3) (by decide)
        · split
          · rename_i c1 c3 c4
            exfalso
            have c5 : ((swNames X.env px.line [.Name x px, .Name y py]).length != 2 || (swNames X.env px.line [.Name x px, .Name y py]).eraseDups.length != (swNames X.env px.line [.Name x px, .Name y py]).length) = true := c4
            rw [nm, ed] at c5
            simp at c5
          · split
            · rename_i c6
              rw [hcf] at c6
              cases c6
            · split
              · rename_i c7
                rw [hca] at c7
                cases c7
              · show pure (some (swNames X.env px.line [.Name x px, .Name y py])) = _
                rw [nm]
    refine (ps_par g.g.calm (by rw [g.g.hN]; exact g.g.nd) (by rw [g.g.hN]; exact h1) (by rw [g.g.hN]; exact h2) h3 hx hy (ihe _ _ h4 X g.g) hw).imp fun D' σ H q => ?_
    obtain ⟨F, m, cs, δ, o, cs', w, en, he, k⟩ := q
    simp only [evS, Option.bind_eq_some_iff] at he
    obtain ⟨⟨d, cs1⟩, hd, he⟩ := he
    dsimp only at he
    split at he
    · cases he
      refine tA.intro w en hd fun H1 F1 m1 w1 n1 en1 vs r1 => ?_
      cases r1 with
      | cons r1 t1 =>
        cases t1 with
        | cons r2 t2 =>
          cases t2
          exact ⟨_, _, rfl, k _ H1 F1 m1 w1 n1 ((en1.set r1 i).set r2 j)⟩
    · cases he
  · cases h
theorem putN_ok {G : Glob} {F : Hp} {m : List Addr} {f : Str} {v : V} {d : D} (r : Rep G F m v d) : ∀ {ks : List Str} {vs : List V} {ds : List D}, ks.length = vs.length → Reps G F m vs ds →
    ∃ vs', putF f v (ks.zip vs) = (putN f d ks ds).1.zip vs' ∧ (putN f d ks ds).1.length = vs'.length ∧ Reps G F m vs' (putN f d ks ds).2
  | [], _, _, l, .nil => ⟨[v], rfl, rfl, .cons r .nil⟩
  | [], _, _, l, .cons _ _ => by simp at l
  | _ :: _, _, _, l, .nil => by simp at l
  | k :: ks, x :: _, y :: _, l, .cons h t => by
    obtain ⟨vs', e1, e2, e3⟩ := putN_ok (f := f) r (ks := ks) (by simpa using l) t
    simp only [List.zip_cons_cons, putF, putN]
    by_cases hk : k = f
    · rw [if_pos hk, if_pos hk]
      exact ⟨v :: _, rfl, by simpa using l, .cons r t⟩
    · rw [if_neg hk, if_neg hk]
      exact ⟨x :: vs', by rw [e1]; rfl, by simp [e2], .cons h e3⟩
theorem putN_blw' {k : Nat} {f : Str} {d : D} (hd : d.blw k = true) : ∀ {ks : List Str} {xs : List D}, belowL k xs = true → belowL k (putN f d ks xs).2 = true
  | [], [], _ => by simp [putN, belowL, hd]
  | [], _ :: _, h => h
  | _ :: _, [], _ => rfl
  | a :: ks, x :: xs, h => by
    simp only [belowL, Bool.and_eq_true] at h
    simp only [putN]
    by_cases e : a = f
    · rw [if_pos e]; simp only [belowL, Bool.and_eq_true]; exact ⟨hd, h.2⟩
    · rw [if_neg e]; simp only [belowL, Bool.and_eq_true]; exact ⟨h.1, putN_blw' hd h.2⟩
theorem putN_blw {k c : Nat} {f : Str} {d : D} (hd : d.blw k = true) {ks : List Str} {xs : List D} (h : (D.obj c ks xs).blw k = true) : (D.obj c (putN f d ks xs).1 (putN f d ks xs).2).blw k = true := by
  simp only [D.blw] at h ⊢
  exact putN_blw' hd h
theorem set_blw' {k : Nat} {d : D} (hd : d.blw k = true) : ∀ {xs : List D} {j : Nat}, belowL k xs = true → belowL k (xs.set j d) = true
  | [], _, _ => rfl
  | x :: xs, 0, h => by
    simp only [belowL, Bool.and_eq_true] at h
    simp only [List.set_cons_zero, belowL, Bool.and_eq_true]; exact ⟨hd, h.2⟩
  | x :: xs, j + 1, h => by
    simp only [belowL, Bool.and_eq_true] at h
    simp only [List.set_cons_succ, belowL, Bool.and_eq_true]; exact ⟨h.1, set_blw' hd h.2⟩
theorem set_blw {k j : Nat} {d : D} (hd : d.blw k = true) {xs : List D} (h : (D.lst xs).blw k = true) : (D.lst (xs.set j d)).blw k = true := by
  simp only [D.blw] at h ⊢
  exact set_blw' hd h
theorem app_blw' {k : Nat} {d : D} (hd : d.blw k = true) : ∀ {xs : List D}, belowL k xs = true → belowL k (xs ++ [d]) = true
  | [], _ => by simp [belowL, hd]
  | x :: xs, h => by
    simp only [belowL, Bool.and_eq_true] at h
    simp only [List.cons_append, belowL, Bool.and_eq_true]; exact ⟨h.1, app_blw' hd h.2⟩
theorem app_blw {k : Nat} {d : D} {xs : List D} (h : (D.lst xs).blw k = true) (hd : d.blw k = true) : (D.lst (xs ++ [d])).blw k = true := by
  simp only [D.blw] at h ⊢
  exact app_blw' hd h
theorem ss_setf {o e : E} {f : Str} (iho : Snd S n C o) (ihe : Snd S n C e) : SndS S n C wf (.setf o f e) := by
  intro c t h
  simp only [chkS] at h
  split at h
  · rename_i x f' p v sp
    simp only [Bool.and_eq_true, decide_eq_true_eq] at h
    obtain ⟨⟨rfl, h1⟩, h2⟩ := h
    intro X g
    have hs : swapsWith v (some (.Attribute x f p)) sp.line X.env = pure false := by cases v <;> rfl
    refine (ps_fld (iho _ _ h1 X g.g) (ihe _ _ h2 X g.g) hs).imp fun D' σ H q => ?_
    obtain ⟨F, m, cs, δ, oo, cs', w, en, he, k⟩ := q
    simp only [evS, Option.bind_eq_some_iff] at he
    obtain ⟨⟨d, cs1⟩, hd, ⟨d2, cs2⟩, hd2, he⟩ := he
    dsimp only at he
    split at he
    · rename_i j
      split at he
      · rename_i kc ks xs hc
        split at he
        · rename_i cl hcl
          have co := S.cls kc cl hcl
          split at he
          · rename_i hb
            cases he
            refine tE.intro w en hd fun H1 F1 m1 w1 n1 en1 v1 r1 => tE.intro w1 en1 hd2 fun H2 F2 m2 w2 n2 en2 v2 r2 => ?_
            cases r2 with
            | cell hj =>
              obtain ⟨o2, g1, g2⟩ := w2.at_ _ _ _ hj hc
              cases g2 with
              | obj l rr =>
                rw [g.g.K]
                refine ⟨_, _, _, _, rfl, g1, co.cls, co.fld f hb.1, ?_, ?_⟩
                · rw [List.length_zip, ← l, Nat.min_self]; exact hb.2.1
                · obtain ⟨vs', e1, e2, e3⟩ := putN_ok (f := f) (r1.nx n2) l rr
                  rw [e1]
                  exact k σ _ F2 m2 (w2.put hj (.obj e2 e3) (putN_blw hb.2.2 (w2.ord _ _ hc))) ((n1.trans n2).trans (Nx.put (List.mem_of_getElem? hj))) en2
          · cases he
        · cases he
      · cases he
    · cases he
  · cases h
theorem ss_seti {o i e : E} (iho : Snd S n C o) (ihi : Snd S n C i) (ihe : Snd S n C e) : SndS S n C wf (.seti o i e) := by
  intro c t h
  simp only [chkS] at h
  split at h
  · rename_i x y p v sp
    simp only [Bool.and_eq_true, Bool.not_eq_true'] at h
    obtain ⟨⟨⟨hsl, h1⟩, h2⟩, h3⟩ := h
    intro X g
    have hs : swapsWithSole [.Subscript x y p] v sp.line X.env = pure false := by
      show swapsWith v (some (.Subscript x y p)) sp.line X.env = pure false
      cases v <;> rfl
    refine (ps_asg (ihe _ _ h3 X g.g) (pg_sub (iho _ _ h1 X g.g) (ihi _ _ h2 X g.g) set_list (by intro v; cases y <;> first | rfl | (simp [isSlice] at hsl))) hs (by cases v <;> rfl)).imp fun D' σ H q => ?_
    obtain ⟨F, m, cs, δ, oo, cs', w, en, he, k⟩ := q
    simp only [evS, Option.bind_eq_some_iff] at he
    obtain ⟨⟨d, cs1⟩, hd, ⟨d2, cs2⟩, hd2, ⟨d3, cs3⟩, hd3, he⟩ := he
    dsimp only at he
    split at he
    · rename_i j kk
      split at he
      · rename_i xs hc
        have hq : d.blw j = true := by
          split at he
          · assumption
          · cases he
        rw [if_pos hq] at he
        simp only [Option.map_eq_some_iff] at he
        obtain ⟨jj, hjj, e1⟩ := he
        cases e1
        refine tE.intro w en hd fun H1 F1 m1 w1 n1 en1 v1 r1 => tE.intro w1 en1 hd2 fun H2 F2 m2 w2 n2 en2 v2 r2 => tE.intro w2 en2 hd3 fun H3 F3 m3 w3 n3 en3 v3 r3 => ?_
        have r2' := r2.nx n3
        cases r2' with
        | cell hj =>
          cases r3
          obtain ⟨o2, g1, g2⟩ := w3.at_ _ _ _ hj hc
          cases g2 with
          | lst rr =>
            refine ⟨_, _, _, jj, rfl, rfl, g1, by rw [rr.length]; exact hjj, ?_⟩
            exact k σ _ F3 m3 (w3.put hj (.lst (rr.set ((r1.nx n2).nx n3) jj)) (set_blw hq (w3.ord _ _ hc))) (((n1.trans n2).trans n3).trans (Nx.put (List.mem_of_getElem? hj))) en3
      · cases he
    · cases he
  · cases h
theorem ss_app {o e : E} (iho : Snd S n C o) (ihe : Snd S n C e) : SndS S n C wf (.app o e) := by
  intro c t h
  simp only [chkS] at h
  split at h
  · rename_i x mm ap y p sp
    simp only [Bool.and_eq_true, Bool.not_eq_true'] at h
    obtain ⟨⟨⟨⟨⟨hm, hb⟩, hst⟩, hln⟩, h1⟩, h2⟩ := h
    have e1 := beq_iff_eq.mp hm
    subst e1
    intro X g
    have hs1 : starEach [y] X.env = [(false, eval y X.env)] := star_cons hst
    have hfew : ((backTo p (starEach [y] X.env)).all (fun x => !x.1) && (backToKw p (keywordEach [] X.env)).all (fun x => x.1.isSome) && decide (([y] : List Expr).length + ([] : List Keyword).length + (if ([] : List Keyword).isEmpty then 0 else 1) < 30)) = true := by
      rw [hs1]; rfl
    refine (ps_expr (pe_bm PySem.F.plainAttrs_list PySem.F.slot_list_append PySem.F.type_list_append mt_append (iho _ _ h1 X g.g) (pa_cons (ihe _ _ h2 X g.g) pa_nil (star_cons hst)) (base_plain hb) hfew hln (star_cons hst) rfl)).imp fun D' σ H q => ?_
    obtain ⟨F, m, cs, δ, oo, cs', w, en, he, k⟩ := q
    simp only [evS, Option.bind_eq_some_iff] at he
    obtain ⟨⟨d, cs1⟩, hd, ⟨d2, cs2⟩, hd2, he⟩ := he
    dsimp only at he
    split at he
    · rename_i j
      split at he
      · rename_i xs0 xs hc0 hc
        split at he
        · rename_i hl
          cases he
          refine tE.intro w en hd fun H1 F1 m1 w1 n1 en1 v1 r1 => ?_
          cases r1 with
          | cell hj =>
            obtain ⟨o1, g1, g2⟩ := w1.at_ _ _ _ hj hc0
            cases g2 with
            | lst rr0 =>
              refine ⟨.inl ⟨rfl, _, .of g1⟩, tE.intro w1 en1 hd2 fun H2 F2 m2 w2 n2 en2 v2 r2 => ?_⟩
              have hj2 := pre_get n2.pre hj
              obtain ⟨o2, g3, g4⟩ := w2.at_ _ _ _ hj2 hc
              cases g4 with
              | lst rr =>
                refine ⟨_, _, v2, rfl, rfl, g3, by rw [rr.length]; exact hl.1, ?_⟩
                exact k σ _ F2 m2 (w2.put hj2 (.lst (rr.append (.cons r2 .nil))) (app_blw (w2.ord _ _ hc) hl.2)) ((n1.trans n2).trans (Nx.put (List.mem_of_getElem? hj2))) en2
        · cases he
      · cases he
    · cases he
  · cases h
theorem ss_ex {e : E} (ihe : Snd S n C e) : SndS S n C wf (.ex e) := by
  intro c t h
  simp only [chkS] at h
  split at h
  · simp only [Bool.and_eq_true, Bool.not_eq_true'] at h
    intro X g
    refine (ps_expr (ihe _ _ h.2 X g.g) (swaps_plain h.1)).imp fun D' σ H q => ?_
    obtain ⟨F, m, cs, δ, oo, cs', w, en, he, k⟩ := q
    simp only [evS, Option.map_eq_some_iff] at he
    obtain ⟨⟨d, cs1⟩, hd, e1⟩ := he
    cases e1
    exact tE.intro w en hd fun H1 F1 m1 w1 n1 en1 v1 r1 => k σ H1 F1 m1 w1 n1 en1
  · cases h
theorem ss_aug {i : Nat} {o : Operator} {e : E} (ihe : Snd S n C e) : SndS S n C wf (.aug i o e) := by
  intro c t h
  simp only [chkS] at h
  split at h
  · rename_i x p0 o' v sp
    simp only [Bool.and_eq_true, decide_eq_true_eq] at h
    obtain ⟨⟨⟨rfl, rfl⟩, h1⟩, h2⟩ := h
    intro X g
    unfold tgB at h1
    simp only [Bool.and_eq_true, decide_eq_true_eq] at h1
    obtain ⟨h1, h3⟩ := h1
    have hL : L2.Loc X.env.scope x := by
      unfold L2.Loc
      rw [g.g.sc]
      split at h3
      · exact .inl (by assumption)
      · exact .inr (by assumption)
      · cases h3
    have hF : X.fn x = true ∨ X.env.scope.names.lookup x = some .local := by
      split at h3
      · exact .inr (by rw [g.g.sc]; assumption)
      · exact .inl (g.g.fn _ h3)
      · cases h3
    refine (ps_aug (by rw [g.g.hN]; exact g.g.nd) (by rw [g.g.hN]; exact h1) hL (ihe _ _ h2 X g.g) ip_add hF).imp fun D' σ H q => ?_
    obtain ⟨F, m, cs, δ, oo, cs', w, en, he, k⟩ := q
    simp only [evS] at he
    split at he
    · rename_i a ha
      simp only [Option.bind_eq_some_iff] at he
      obtain ⟨⟨d, cs1⟩, hd, he⟩ := he
      dsimp only at he
      split at he
      · cases he
        obtain ⟨v0, e1, e2⟩ := en.at_ _ _ ha
        cases e2
        refine ⟨_, e1, tE.intro w en hd fun H1 F1 m1 w1 n1 en1 v1 r1 => ?_⟩
        cases r1
        exact ⟨_, _, rfl, rfl, k _ H1 F1 m1 w1 n1 (en1.set (.int _) i)⟩
      · cases he
    · cases he
  · cases h
theorem ss_iff {s : E} {a b : DL.S} (ihs : Snd S n C s) (iha : SndS S n C wf a) (ihb : SndS S n C wf b) : SndS S n C wf (.iff s a b) := by
  intro c t h
  simp only [chkS] at h
  split at h
  · simp only [Bool.and_eq_true] at h
    intro X g
    refine (ps_if (ihs _ _ h.1.1 X g.g) (iha _ _ h.1.2 X g) (ihb _ _ h.2 X g)).imp fun D' σ H q => ?_
    obtain ⟨F, m, cs, δ, oo, cs', w, en, he, k⟩ := q
    simp only [evS, Option.bind_eq_some_iff] at he
    obtain ⟨⟨d, cs1⟩, hd, he⟩ := he
    dsimp only at he
    split at he
    · refine tT.intro w en hd fun H1 F1 m1 w1 n1 en1 => ?_
      rw [if_pos rfl]
      exact ⟨F1, m1, cs1, δ, oo, cs', w1, en1, he, k.mono n1⟩
    · refine tT.intro w en hd fun H1 F1 m1 w1 n1 en1 => ?_
      rw [if_neg (by decide)]
      exact ⟨F1, m1, cs1, δ, oo, cs', w1, en1, he, k.mono n1⟩
    · cases he
  · cases h
theorem ss_for {t : Tg} {i : E} {b : DL.S} (ihi : Snd S n C i) (ihb : SndS S n C wf b) : SndS S n C wf (.for_ t i b) := by
  intro c t0 h
  simp only [chkS] at h
  split at h
  · simp only [Bool.and_eq_true, Bool.not_eq_true'] at h
    obtain ⟨⟨⟨hset, htg⟩, hi⟩, hb⟩ := h
    intro X g
    refine (ps_for g.own g.g.calm (ihi _ _ hi X g.g) (tgt_ok g.g htg) (ihb _ _ hb X g) (folded_plain hset)).imp fun D' σ H q => ?_
    obtain ⟨F, m, cs, δ, oo, cs', w, en, he, k⟩ := q
    simp only [evS, Option.bind_eq_some_iff] at he
    obtain ⟨⟨x1, cs1⟩, hx1, items, hit, he⟩ := he
    have hit := lstArgs_some hit
    dsimp only at hit he
    subst hit
    refine tI.intro w en hx1 fun H1 F1 m1 w1 n1 en1 J wk => ?_
    obtain ⟨Gd, Y, wlk, hG, hY⟩ := wk.ex
    refine for_it wlk (fun j σ' H' => ∃ F' m' csi δi o, W S.G H' F' m' csi ∧ Nx H1 F1 m1 H' F' m' ∧ EnvR S.G F' m' σ' δi ∧ forL (evS T C wf b) t (items.drop j) δi csi = some (o, cs') ∧ PostO S.G H' F' m' cs' D' o) ?h0 ?hG ?hs ?hd
    case h0 => exact ⟨F1, m1, cs1, δ, oo, w1, Nx.refl, en1, he, k.mono n1⟩
    case hG =>
      rintro j σ' H' hj ⟨F', m', csi, δi, o, w', n', _⟩
      exact hG H' F' n'.ex w'.sub
    case hs =>
      rintro j x σ' H' H2 hj ⟨F', m', csi, δi, o, w', n', en', hf, kk⟩ hy
      obtain ⟨F3, dx, hdx, w3, n3, r3⟩ := hY j H' x H2 hj hy F' m' csi w' n'.ex n'.pre
      have hdrop : items.drop j = dx :: items.drop (j + 1) := by
        rw [List.drop_eq_getElem_cons hj]
        rw [List.getElem?_eq_getElem hj] at hdx
        cases hdx; rfl
      rw [hdrop] at hf
      simp only [forL, Option.bind_eq_some_iff] at hf
      obtain ⟨δ', hbt, ⟨o1, c1⟩, hbd, hf⟩ := hf
      dsimp only at hf
      refine ⟨F3, m', csi, δi, dx, δ', w3, en'.mono n3, r3, hbt, fun σ2 en2 _ => ⟨F3, m', csi, δ', o1, c1, w3, en2, hbd, ?_⟩⟩
      have kk3 := kk.mono n3
      cases o1 with
      | nx δ2 => exact fun σ5 H5 F5 m5 w5 n5 en5 => ⟨F5, m5, c1, δ2, o, w5, (n'.trans n3).trans n5, en5, hf, kk3.mono n5⟩
      | ct δ2 => exact fun σ5 H5 F5 m5 w5 n5 en5 => ⟨F5, m5, c1, δ2, o, w5, (n'.trans n3).trans n5, en5, hf, kk3.mono n5⟩
      | bk δ2 => cases hf; exact kk3
      | rt d => cases hf; exact kk3
    case hd =>
      rintro σ' H' ⟨F', m', csi, δi, o, w', n', en', hf, kk⟩
      rw [List.drop_eq_nil_of_le (Nat.le_refl _)] at hf
      simp only [forL] at hf
      cases hf
      exact kk σ' H' F' m' w' Nx.refl en'
  · cases h
theorem ss_whl {s : E} {b : DL.S} (ihs : Snd S n C s) (ihb : SndS S n C wf b) : SndS S n C wf (.whl s b) := by
  intro c t0 h
  simp only [chkS] at h
  split at h
  · simp only [Bool.and_eq_true] at h
    intro X g
    refine (ps_while g.own (ihs _ _ h.1 X g.g) (ihb _ _ h.2 X g)).imp fun D' σ H q => ?_
    obtain ⟨F, m, cs, δ, oo, cs', w, en, he, k⟩ := q
    simp only [evS] at he
    refine ⟨fun j σ' H' => ∃ F' m' csi δi o, W S.G H' F' m' csi ∧ EnvR S.G F' m' σ' δi ∧ whileL (ev T C s) (evS T C wf b) j δi csi = some (o, cs') ∧ PostO S.G H' F' m' cs' D' o, ⟨wf, F, m, cs, δ, oo, w, en, he, k⟩, ?_⟩
    rintro j σ' H' ⟨F', m', csi, δi, o, w', en', hf, kk⟩
    cases j with
    | zero => simp [whileL] at hf
    | succ j =>
      simp only [whileL, Option.bind_eq_some_iff] at hf
      obtain ⟨⟨b1, c1⟩, hb1, hf⟩ := hf
      dsimp only at hf
      split at hf
      · cases hf
        refine tT.intro w' en' hb1 fun H1 F1 m1 w1 n1 en1 => ?_
        rw [if_neg (by decide)]
        exact kk σ' H1 F1 m1 w1 n1 en1
      · simp only [Option.bind_eq_some_iff] at hf
        obtain ⟨⟨o1, c2⟩, hbd, hf⟩ := hf
        dsimp only at hf
        refine tT.intro w' en' hb1 fun H1 F1 m1 w1 n1 en1 => ?_
        rw [if_pos rfl]
        refine ⟨fun σ5 H5 => ∃ F' m' csi δi o, W S.G H5 F' m' csi ∧ EnvR S.G F' m' σ5 δi ∧ whileL (ev T C s) (evS T C wf b) j δi csi = some (o, cs') ∧ PostO S.G H5 F' m' cs' D' o, fun σ5 H5 z => ⟨j, Nat.lt_succ_self _, z⟩, F1, m1, c1, δi, o1, c2, w1, en1, hbd, ?_⟩
        have kk1 := kk.mono n1
        cases o1 with
        | nx δ2 => exact fun σ5 H5 F5 m5 w5 n5 en5 => ⟨F5, m5, c2, δ2, o, w5, en5, hf, kk1.mono n5⟩
        | ct δ2 => exact fun σ5 H5 F5 m5 w5 n5 en5 => ⟨F5, m5, c2, δ2, o, w5, en5, hf, kk1.mono n5⟩
        | bk δ2 => cases hf; exact kk1
        | rt d => cases hf; exact kk1
      · cases hf
  · cases h
theorem ss_ret {e : E} (ihe : Snd S n C e) : SndS S n C wf (.ret e) := by
  intro c t h
  simp only [chkS] at h
  split at h
  · intro X g
    refine (ps_ret (ihe _ _ h X g.g)).imp fun D' σ H q => ?_
    obtain ⟨F, m, cs, δ, oo, cs', w, en, he, k⟩ := q
    simp only [evS, Option.map_eq_some_iff] at he
    obtain ⟨⟨d, cs1⟩, hd, e1⟩ := he
    cases e1
    exact tE.intro w en hd fun H1 F1 m1 w1 n1 en1 v1 r1 => k v1 H1 F1 m1 w1 n1 r1
  · cases h
theorem ss_retN : SndS S n C wf .retN := by
  intro c t h
  simp only [chkS] at h
  split at h
  · intro X g
    refine ps_retN.imp fun D' σ H q => ?_
    obtain ⟨F, m, cs, δ, oo, cs', w, en, he, k⟩ := q
    simp only [evS] at he
    cases he
    exact k .non H F m w Nx.refl .non
  · cases h
theorem ss_brk : SndS S n C wf .brk := by
  intro c t h
  simp only [chkS] at h
  split at h
  · intro X g
    refine ps_break.imp fun D' σ H q => ?_
    obtain ⟨F, m, cs, δ, oo, cs', w, en, he, k⟩ := q
    simp only [evS] at he
    cases he
    exact k σ H F m w Nx.refl en
  · cases h
theorem ss_cnt : SndS S n C wf .cnt := by
  intro c t h
  simp only [chkS] at h
  split at h
  · intro X g
    refine ps_continue.imp fun D' σ H q => ?_
    obtain ⟨F, m, cs, δ, oo, cs', w, en, he, k⟩ := q
    simp only [evS] at he
    cases he
    exact k σ H F m w Nx.refl en
  · cases h
theorem ss_rem {o e : E} : SndS S n C wf (.rem o e) := by
  intro c t h
  simp [chkS] at h
theorem ss_all (hC : CallOk S n C) (s : DL.S) : SndS S n C wf s := by
  have A := fun e => snd_all hC e
  induction s with
  | nil => exact ss_nil
  | seq a b ia ib => exact ss_seq ia ib
  | asg i e =>
    refine ss_asg (A e) ?_
    rintro t j d b _
    exact ⟨(A j).s, (A d).s, (A b).s⟩
  | unp is e => exact ss_unp (A e).s
  | par i j e => exact ss_par (A e).s
  | setf o f e => exact ss_setf (A o).s (A e).s
  | seti o i e => exact ss_seti (A o).s (A i).s (A e).s
  | app o e => exact ss_app (A o).s (A e).s
  | rem o e => exact ss_rem
  | ex e => exact ss_ex (A e).s
  | aug i o e => exact ss_aug (A e).s
  | iff t a b ia ib => exact ss_iff (A t).s ia ib
  | for_ t i b ib => exact ss_for (A i).s ib
  | whl t b ib => exact ss_whl (A t).s ib
  | ret e => exact ss_ret (A e).s
  | retN => exact ss_retN
  | brk => exact ss_brk
  | cnt => exact ss_cnt
  | pass => exact ss_pass
  | never => exact ss_never
end
end DL

end

section
set_option Elab.async false
set_option linter.all false
set_option maxRecDepth 100000
set_option maxHeartbeats 4000000
/-! D layer h: calls, to any depth. -/
namespace DL
open PySem L2
def nodupB : List Str → Bool
  | [] => true
  | x :: xs => !xs.contains x && nodupB xs
theorem nodup_of : ∀ {l : List Str}, nodupB l = true → l.Nodup
  | [], _ => List.nodup_nil
  | x :: xs, h => by
    simp only [nodupB, Bool.and_eq_true, Bool.not_eq_true'] at h
    refine List.nodup_cons.mpr ⟨fun z => ?_, nodup_of h.2⟩
    have := List.contains_iff_mem.mpr z
    rw [h.1] at this
    cases this
def scopeB (N ps : List Str) (sc : Scope) : Bool := (match sc.kind with | .function => true | _ => false) && !sc.isCoroutine && !sc.isGenerator && nodupB N && decide (N.take ps.length = ps) &&
  (ps.all fun x => match sc.names.lookup x with | some .local => true | some .cell => true | _ => false) && sc.names.all fun y => match y.2 with | .free => false | _ => true
theorem scope_of {N ps : List Str} {sc : Scope} (h : scopeB N ps sc = true) : FnScope N ps sc := by
  unfold scopeB at h
  simp only [Bool.and_eq_true, Bool.not_eq_true', decide_eq_true_eq, List.all_eq_true] at h
  obtain ⟨⟨⟨⟨⟨⟨h1, h2⟩, h3⟩, h4⟩, h5⟩, h6⟩, h7⟩ := h
  refine ⟨?_, h2, h3, nodup_of h4, h5, fun x hx => ?_, fun y hy e => ?_⟩
  · split at h1
    · assumption
    · cases h1
  · have q := h6 x hx
    split at q
    · exact .inl (by assumption)
    · exact .inr (by assumption)
    · cases q
  · have q := h7 y hy
    rw [e] at q
    cases q
/-- a def of the table against its text -/
def fnChk (T : Tab) (fn : Fn) (st : Stmt) : Bool := scopeB fn.N fn.ps (defScope st) && chkS T fn.body ⟨fn.N, defScope st, none⟩ (.bl (defBody st))
structure Txts {T : Tab} (S : Sta T) (sts : Nat → Stmt) : Prop where
  fn : ∀ (f : Nat) (fn : Fn), T.fns[f]? = some fn → Fun S.G.K fn.nm fn.qual (sts f) (S.fa f) (S.fd f)
  ok : ∀ (f : Nat) (fn : Fn), T.fns[f]? = some fn → fnChk T fn (sts f) = true
theorem start_ok {G : Glob} {F : Hp} {m : List Addr} {N : List Str} {vs : List V} {ds : List D} (r : Reps G F m vs ds) : EnvR G F m (L2.start N vs) (startD N ds) := by
  unfold L2.start startD
  rw [r.length]
  refine ⟨by simp [r.length], fun i d h => ?_⟩
  by_cases hi : i < ds.length
  · rw [List.getElem?_append_left (by simpa using hi), List.getElem?_map] at h
    cases e : ds[i]? with
    | none => rw [e] at h; cases h
    | some d' =>
      rw [e] at h
      cases h
      obtain ⟨v, h1, h2⟩ := r.get e
      refine ⟨v, ?_, h2⟩
      rw [List.getElem?_append_left (by rw [List.length_map, r.length]; exact hi), List.getElem?_map, h1]
      rfl
  · rw [List.getElem?_append_right (by simpa using hi), List.getElem?_replicate] at h
    split at h <;> cases h
theorem fin_ok {G : Glob} {H F H' F' : Hp} {m m' : List Addr} {cs1 cs' : List D} {keep : Bool} {d0 d : D} {v : V} {Q : VK} {n : Nat} (hf : finD keep n d0 cs1 = some (d, cs')) (w : W G H' F' m' cs1) (x : Nx H F m H' F' m') (hn : m.length = n)
    (r : Rep G F' m' v d0) (k : Kont G H F m cs' d Q) : Q v H' := by
  unfold finD at hf
  split at hf
  · cases hf; exact k v H' F' m' w x r
  · split at hf
    · cases hf; exact k v H' F' m' w x r
    · simp only [Option.map_eq_some_iff] at hf
      obtain ⟨z, hz, e⟩ := hf
      cases e
      exact k v H' _ _ w.freeze (Nx.freeze w x hn).1 (fz_ok w r hz)
theorem evCall_fn {T : Tab} {wf j f : Nat} {ds cs : List D} {r : D × List D} (h : evCall T wf j f ds cs = some r) : ∃ fn, T.fns[f]? = some fn ∧ ds.length = fn.ps.length := by
  cases j with
  | zero => cases h
  | succ j =>
    simp only [evCall] at h
    split at h
    · rename_i fn hfn
      split at h
      · rename_i hl; exact ⟨fn, hfn, hl⟩
      · cases h
    · cases h
theorem call_all {T : Tab} {S : Sta T} {sts : Nat → Stmt} (X : Txts S sts) (wf : Nat) : ∀ j : Nat, CallOk S (3 * j) (evCall T wf j)
  | 0 => ⟨fun f fn hf => ⟨fun vs H Q E h => (by obtain ⟨F, m, cs, ds, d, cs', w, r, he, k⟩ := h; cases he), fun A outer s H args us vs Q E _ _ _ _ h => (by obtain ⟨F, m, cs, ds, d, cs', w, r, he, k⟩ := h; cases he)⟩, fun f ds cs r h => evCall_fn h⟩
  | j + 1 => by
    have ih := call_all X wf j
    refine ⟨fun f fn hf => ?_, fun f ds cs r h => evCall_fn h⟩
    have hok := X.ok f fn hf
    unfold fnChk at hok
    simp only [Bool.and_eq_true] at hok
    have sc := scope_of hok.1
    rw [show 3 * (j + 1) = 3 * j + 2 + 1 by omega]
    refine (X.fn f fn hf).ok sc (fun vs H Q E h => ?_) (fun cdv A outer s H vs Q E hr h => ?_)
    · obtain ⟨F, m, cs, ds, d, cs', w, r, he, k⟩ := h
      obtain ⟨fn', hf', hl⟩ := evCall_fn he
      rw [hf] at hf'
      cases hf'
      rw [r.length]; exact hl
    · obtain ⟨F, m, cs, ds, d, cs', w, r, he, k⟩ := h
      simp only [evCall, hf] at he
      split at he
      · simp only [Option.bind_eq_some_iff] at he
        obtain ⟨⟨o, cs1⟩, hs, hfin⟩ := he
        refine ⟨tS S.G (evS T (evCall T wf j) wf fn.body), ss_all ih fn.body _ _ hok.2 _ ⟨⟨rfl, rfl, rfl, rfl, rfl, rfl, sc.nd, rfl, rfl, hr, fun _ _ => rfl⟩, rfl, sc.kind⟩, ?_⟩
        refine ⟨F, m, cs, startD fn.N ds, o, cs1, w, start_ok r, hs, ?_⟩
        unfold finO at hfin
        cases o with
        | nx δ => exact fun σ' H' F' m' w' n' _ => fin_ok hfin w' n' w.len .non k
        | rt d0 => exact fun v H' F' m' w' n' r' => fin_ok hfin w' n' w.len r' k
        | bk δ => cases hfin
        | ct δ => cases hfin
      · cases he
end DL

end

section
set_option Elab.async false
set_option linter.all false
set_option maxRecDepth 100000
set_option maxHeartbeats 4000000
/-! D layer x: to run the evaluator by simp, from outside in. -/
namespace DL
open PySem L2
/-- by a truth value -/
def onB {α : Type} (d : D) (t f : Option α) : Option α := match d with
  | .bl true => t
  | .bl false => f
  | _ => none
theorem onB_t {α : Type} {t f : Option α} : onB (.bl true) t f = t := rfl
theorem onB_f {α : Type} {t f : Option α} : onB (.bl false) t f = f := rfl
theorem onB_d {α : Type} {p : Prop} [Decidable p] {t f : Option α} : onB (.bl (decide p)) t f = if p then t else f := by
  by_cases h : p <;> simp [h, onB]
theorem onB_b {α : Type} {b : Bool} {t f : Option α} : onB (.bl b) t f = if b = true then t else f := by cases b <;> rfl
/-- by how a statement ends -/
def onO (r : Out × List D) (k : Env' → List D → Option (Out × List D)) : Option (Out × List D) := match r.1 with
  | .nx δ => k δ r.2
  | o => some (o, r.2)
theorem onO_nx {δ : Env'} {cs : List D} {k : Env' → List D → Option (Out × List D)} : onO (.nx δ, cs) k = k δ cs := rfl
theorem onO_rt {d : D} {cs : List D} {k : Env' → List D → Option (Out × List D)} : onO (.rt d, cs) k = some (.rt d, cs) := rfl
theorem onO_bk {δ : Env'} {cs : List D} {k : Env' → List D → Option (Out × List D)} : onO (.bk δ, cs) k = some (.bk δ, cs) := rfl
theorem onO_ct {δ : Env'} {cs : List D} {k : Env' → List D → Option (Out × List D)} : onO (.ct δ, cs) k = some (.ct δ, cs) := rfl
section
variable {T : Tab} {C : CallF} {wf : Nat} {δ : Env'} {cs : List D}
def varD (o : Option (Option D)) (cs : List D) : Option (D × List D) := match o with
  | some (some d) => some (d, cs)
  | _ => none
theorem varD_s {d : D} : varD (some (some d)) cs = some (d, cs) := rfl
theorem x_var {i : Nat} : ev T C (.var i) δ cs = varD δ[i]? cs := by simp only [ev, varD] <;> (try (split <;> simp_all))
theorem x_int {i : Int} : ev T C (.int i) δ cs = some (.int i, cs) := rfl
theorem x_str {i : Str} : ev T C (.str i) δ cs = some (.str i, cs) := rfl
theorem x_bl {i : Bool} : ev T C (.bl i) δ cs = some (.bl i, cs) := rfl
theorem x_non : ev T C .non δ cs = some (.non, cs) := rfl
theorem x_glob {k : Nat} : ev T C (.glob k) δ cs = (T.cons[k]?).map fun p => (p.2, cs) := rfl
theorem x_fr {a : E} : ev T C (.fr a) δ cs = ev T C a δ cs := rfl
theorem x_mu {a : E} : ev T C (.mu a) δ cs = (ev T C a δ cs).map fun r => (.cell r.2.length, r.2 ++ [r.1]) := rfl
theorem x_bin {o : Operator} {a b : E} : ev T C (.bin o a b) δ cs = (ev T C a δ cs).bind fun r => (ev T C b δ r.2).bind fun s => (binA o s.2 r.1 s.1).map fun z => (z, s.2) := rfl
def negD : D → Option D
  | .int i => some (.int (-i))
  | _ => none
theorem negD_i {i : Int} : negD (.int i) = some (.int (-i)) := rfl
theorem x_neg {a : E} : ev T C (.neg a) δ cs = (ev T C a δ cs).bind fun r => (negD r.1).map fun z => (z, r.2) := by
  simp only [ev]; congr; funext r; cases r.1 <;> rfl
theorem x_cmp {o : CmpOp} {a b : E} : ev T C (.cmp o a b) δ cs = (ev T C a δ cs).bind fun r => (ev T C b δ r.2).bind fun s => (cmpD (okC T) o s.2 r.1 s.1).map fun z => (.bl z, s.2) := rfl
theorem x_chain {o o' : CmpOp} {a b c : E} : ev T C (.chain o o' a b c) δ cs = (ev T C a δ cs).bind fun r => (ev T C b δ r.2).bind fun s => (cmpD (okC T) o s.2 r.1 s.1).bind fun z =>
    onB (.bl z) ((ev T C c δ s.2).bind fun t => (cmpD (okC T) o' t.2 s.1 t.1).map fun y => (.bl y, t.2)) (some (.bl false, s.2)) := by
  simp only [ev]; congr; funext r; congr; funext s; congr; funext z; cases z <;> rfl
theorem x_and {a b : E} : ev T C (.and' a b) δ cs = (ev T C a δ cs).bind fun r => (truD r.2 r.1).bind fun k => onB (.bl k) (ev T C b δ r.2) (some r) := by
  simp only [ev]; congr; funext r; congr; funext z; cases z <;> rfl
theorem x_or {a b : E} : ev T C (.or' a b) δ cs = (ev T C a δ cs).bind fun r => (truD r.2 r.1).bind fun k => onB (.bl k) (some r) (ev T C b δ r.2) := by
  simp only [ev]; congr; funext r; congr; funext z; cases z <;> rfl
theorem x_not {a : E} : ev T C (.not' a) δ cs = (ev T C a δ cs).bind fun r => (truD r.2 r.1).map fun k => (.bl (!k), r.2) := rfl
theorem x_ite {t a b : E} : ev T C (.ite t a b) δ cs = (ev T C t δ cs).bind fun r => onB r.1 (ev T C a δ r.2) (ev T C b δ r.2) := by
  simp only [ev]; rfl
theorem x_tval {a : E} : ev T C (.tval a) δ cs = (ev T C a δ cs).bind fun r => (truD r.2 r.1).map fun k => (.bl k, r.2) := rfl
theorem x_tnot {a : E} : ev T C (.tnot a) δ cs = (ev T C a δ cs).bind fun r => onB r.1 (some (.bl false, r.2)) (some (.bl true, r.2)) := by
  simp only [ev]; congr; funext r; cases r.1 with
  | bl b => cases b <;> rfl
  | _ => rfl
theorem x_tand {a b : E} : ev T C (.tand a b) δ cs = (ev T C a δ cs).bind fun r => onB r.1 (ev T C b δ r.2) (some (.bl false, r.2)) := by
  simp only [ev]; rfl
theorem x_tor {a b : E} : ev T C (.tor a b) δ cs = (ev T C a δ cs).bind fun r => onB r.1 (some (.bl true, r.2)) (ev T C b δ r.2) := by
  simp only [ev]; rfl
theorem x_nil : ev T C .nil δ cs = some (.lst [], cs) := rfl
theorem x_cons {a b : E} : ev T C (.cons a b) δ cs = (ev T C a δ cs).bind fun r => (ev T C b δ r.2).bind fun s => (lstArgs s.1).map fun xs => (.lst (r.1 :: xs), s.2) := rfl
theorem x_star {a b : E} : ev T C (.star a b) δ cs = (ev T C a δ cs).bind fun r => (seqD r.2 r.1).bind fun ys => (ev T C b δ r.2).bind fun s => (lstArgs s.1).map fun xs => (.lst (ys ++ xs), s.2) := rfl
def sizeD {α : Type} (n : Nat) (z : α) : Option α := if n ≤ sizeLine then some z else none
theorem sizeD_s {α : Type} {n : Nat} {z : α} (h : n ≤ sizeLine) : sizeD n z = some z := if_pos h
theorem x_lst {a : E} : ev T C (.lst a) δ cs = (ev T C a δ cs).bind fun r => (lstArgs r.1).bind fun xs => sizeD xs.length (.lst xs, r.2) := rfl
theorem x_tup {a : E} : ev T C (.tup a) δ cs = (ev T C a δ cs).bind fun r => (lstArgs r.1).bind fun xs => sizeD xs.length (.tup xs, r.2) := rfl
theorem x_dnil : ev T C .dnil δ cs = some (.dct [] [], cs) := rfl
theorem x_idx {a b : E} : ev T C (.idx a b) δ cs = (ev T C a δ cs).bind fun r => (ev T C b δ r.2).bind fun s => (idxD s.2 r.1 s.1).map fun z => (z, s.2) := rfl
theorem x_slc {a l h : E} : ev T C (.slc a l h) δ cs = (ev T C a δ cs).bind fun r => (partE (isNop l) (ev T C l δ r.2) r.2).bind fun s => (partE (isNop h) (ev T C h δ s.2) s.2).bind fun t => (slcD t.2 r.1 s.1 t.1).map fun z => (z, t.2) := rfl
theorem x_attr {a : E} {f : Str} : ev T C (.attr a f) δ cs = (ev T C a δ cs).bind fun r => attrD T C r.1 f r.2 := rfl
theorem x_meth {a b : E} {f : Str} : ev T C (.meth a f b) δ cs = (ev T C a δ cs).bind fun r => (ev T C b δ r.2).bind fun s => (lstArgs s.1).bind fun xs => methD T C r.1 f xs r.2 s.2 := rfl
theorem x_call {f : Nat} {a : E} : ev T C (.call f a) δ cs = (ev T C a δ cs).bind fun r => (lstArgs r.1).bind fun xs => C f xs r.2 := rfl
theorem x_make {k : Nat} {a : E} : ev T C (.make k a) δ cs = (ev T C a δ cs).bind fun r => (lstArgs r.1).bind fun xs => makeD T C k xs r.2 := rfl
theorem x_blt {b : Bi} {a : E} : ev T C (.blt b a) δ cs = (ev T C a δ cs).bind fun r => (lstArgs r.1).bind fun xs => (bltD b r.2 xs).map fun z => (z, r.2) := rfl
theorem x_isi {a : E} {t : TyN} : ev T C (.isi a t) δ cs = (ev T C a δ cs).bind fun r => (isiD r.2 r.1 t).map fun z => (z, r.2) := rfl
theorem x_isc {a : E} {k : Nat} : ev T C (.isc a k) δ cs = (ev T C a δ cs).bind fun r => (iscD r.2 r.1 k).map fun z => (z, r.2) := rfl
theorem x_sm {s : Sm} {a b : E} : ev T C (.sm s a b) δ cs = (ev T C a δ cs).bind fun r => (ev T C b δ r.2).bind fun t => (smD s t.2 r.1 t.1).map fun z => (z, t.2) := rfl
theorem x_split {a b : E} : ev T C (.split a b) δ cs = (ev T C a δ cs).bind fun r => (ev T C b δ r.2).bind fun t => (splitD r.1 t.1).map fun z => (z, t.2) := rfl
theorem x_lof {a : E} : ev T C (.lof a) δ cs = (ev T C a δ cs).bind fun r => (seqD r.2 r.1).map fun xs => (.lst xs, r.2) := rfl
theorem x_fmt {a : E} : ev T C (.fmt a) δ cs = (ev T C a δ cs).bind fun r => (fmtD r.1).map fun z => (z, r.2) := rfl
theorem x_js {a : E} : ev T C (.js a) δ cs = (ev T C a δ cs).bind fun r => (lstArgs r.1).bind fun xs => (jsD Str.empty xs).map fun z => (.str z, r.2) := rfl
theorem x_iseq {a : E} : ev T C (.iseq a) δ cs = (ev T C a δ cs).bind fun r => (iseqD r.2 r.1).map fun xs => (.lst xs, r.2) := rfl
def rngD : D → Option (List D)
  | .int n => if -(2 ^ 62) ≤ n ∧ n < 2 ^ 62 then some (rangeL 0 n.toNat) else none
  | _ => none
theorem rngD_s {n : Int} (h1 : -(2 ^ 62) ≤ n) (h2 : n < 2 ^ 62) : rngD (.int n) = some (rangeL 0 n.toNat) := if_pos ⟨h1, h2⟩
theorem x_irng {a : E} : ev T C (.irng a) δ cs = (ev T C a δ cs).bind fun r => (rngD r.1).map fun xs => (.lst xs, r.2) := by
  simp only [ev]; congr; funext r; cases r.1 <;> try rfl
  simp only [rngD]; split <;> rfl
def enmD (cs : List D) : D → Option (List D)
  | .cell _ => none
  | d => (seqD cs d).map (enumL 0)
theorem enmD_t {xs : List D} : enmD cs (.tup xs) = some (enumL 0 xs) := rfl
theorem enmD_l {xs : List D} : enmD cs (.lst xs) = some (enumL 0 xs) := rfl
theorem x_ienum {a : E} : ev T C (.ienum a) δ cs = (ev T C a δ cs).bind fun r => (enmD r.2 r.1).map fun xs => (.lst xs, r.2) := by
  simp only [ev]; congr; funext r; cases h : r.1 <;> simp [enmD, h] <;> (try rfl)
/-- a turn of a comprehension -/
def turnC (T : Tab) (C : CallF) (t : Tg) (c e : E) (δ : Env') (x : D) (cs : List D) : Option (Option D × List D) := (bindT t cs x (wipeD δ t.slots)).bind fun δ' => (ev T C c δ' cs).bind fun b =>
  onB b.1 ((ev T C e δ' b.2).map fun y => (some y.1, y.2)) (some (none, b.2))
theorem x_comp {t : Tg} {i c e : E} : ev T C (.comp t i c e) δ cs = (ev T C i δ cs).bind fun r => (lstArgs r.1).bind fun items => (compL (turnC T C t c e δ) items r.2).bind fun q => sizeD q.1.length (.lst q.1, q.2) := by
  simp only [ev]; congr; funext r; congr; funext items
  refine congrArg (fun f => (compL f items r.2).bind fun q => sizeD q.1.length (D.lst q.1, q.2)) ?_
  funext x cs
  unfold turnC
  congr; funext δ'; congr; funext b
  cases b.1 with
  | bl k => cases k <;> rfl
  | _ => rfl
def turnD (T : Tab) (C : CallF) (t : Tg) (k v : E) (δ : Env') (x : D) (cs : List D) : Option (Key × D × List D) := (bindT t cs x (wipeD δ t.slots)).bind fun δ' => (ev T C k δ' cs).bind fun b => (keyD b.1).bind fun key => (ev T C v δ' b.2).map fun y => (key, y.1, y.2)
theorem x_dcomp {t : Tg} {i k v : E} : ev T C (.dcomp t i k v) δ cs = (ev T C i δ cs).bind fun r => (lstArgs r.1).bind fun items => (dcompL (turnD T C t k v δ) items [] [] r.2).map fun q => (.dct q.1 q.2.1, q.2.2) := rfl
/-! statements -/
theorem y_nil : evS T C wf .nil δ cs = some (.nx δ, cs) := rfl
theorem y_pass : evS T C wf .pass δ cs = some (.nx δ, cs) := rfl
theorem y_seq {a b : DL.S} : evS T C wf (.seq a b) δ cs = (evS T C wf a δ cs).bind fun r => onO r (fun δ' cs' => evS T C wf b δ' cs') := by
  simp only [evS]; rfl
theorem y_asg {i : Nat} {e : E} : evS T C wf (.asg i e) δ cs = (ev T C e δ cs).map fun r => (.nx (δ.set i (some r.1)), r.2) := rfl
theorem y_unp {is : List Nat} {e : E} : evS T C wf (.unp is e) δ cs = (ev T C e δ cs).bind fun r => (bindT (.tp is) r.2 r.1 δ).map fun δ' => (.nx δ', r.2) := rfl
def par2 : D → Option (D × D)
  | .lst [x, y] => some (x, y)
  | _ => none
theorem par2_s {x y : D} : par2 (.lst [x, y]) = some (x, y) := rfl
theorem y_par {i j : Nat} {e : E} : evS T C wf (.par i j e) δ cs = (ev T C e δ cs).bind fun r => (par2 r.1).map fun p => (.nx ((δ.set i (some p.1)).set j (some p.2)), r.2) := by
  simp only [evS]; congr; funext r; unfold par2; split <;> simp_all
theorem y_ex {e : E} : evS T C wf (.ex e) δ cs = (ev T C e δ cs).map fun r => (.nx δ, r.2) := rfl
theorem y_iff {t : E} {a b : DL.S} : evS T C wf (.iff t a b) δ cs = (ev T C t δ cs).bind fun r => onB r.1 (evS T C wf a δ r.2) (evS T C wf b δ r.2) := by
  simp only [evS]; rfl
theorem y_for {t : Tg} {i : E} {b : DL.S} : evS T C wf (.for_ t i b) δ cs = (ev T C i δ cs).bind fun r => (lstArgs r.1).bind fun items => forL (evS T C wf b) t items δ r.2 := rfl
theorem y_ret {e : E} : evS T C wf (.ret e) δ cs = (ev T C e δ cs).map fun r => (.rt r.1, r.2) := rfl
theorem y_retN : evS T C wf .retN δ cs = some (.rt .non, cs) := rfl
/-- o[i] = v: the cell, the place, the value -/
def setiD (v o i : D) (cs : List D) : Option (List D) := match o, i with
  | .cell n, .int k => match cs[n]? with
    | some (.lst xs) => if v.blw n = true then (ixN xs.length k).map fun j => cs.set n (.lst (xs.set j v)) else none
    | _ => none
  | _, _ => none
theorem setiD_s {v : D} {n : Nat} {k : Int} {xs : List D} {j : Nat} (h : cs[n]? = some (.lst xs)) (hv : v.blw n = true) (hj : ixN xs.length k = some j) : setiD v (.cell n) (.int k) cs = some (cs.set n (.lst (xs.set j v))) := by
  simp [setiD, h, hv, hj]
theorem y_seti {o i e : E} : evS T C wf (.seti o i e) δ cs = (ev T C e δ cs).bind fun r => (ev T C o δ r.2).bind fun s => (ev T C i δ s.2).bind fun t => (setiD r.1 s.1 t.1 t.2).map fun c => (.nx δ, c) := by
  simp only [evS]; congr; funext r; congr; funext s; congr; funext t
  unfold setiD
  cases s.1 <;> try rfl
  cases t.1 <;> try rfl
  rename_i n k
  dsimp only
  generalize t.2[n]? = q
  cases q with
  | none => rfl
  | some d =>
    cases d <;> try rfl
    dsimp only
    split
    · rw [Option.map_map]; rfl
    · rfl
def appD (v o : D) (cs0 cs : List D) : Option (List D) := match o with
  | .cell n => match cs0[n]?, cs[n]? with
    | some (.lst _), some (.lst xs) => if xs.length < sizeLine ∧ v.blw n = true then some (cs.set n (.lst (xs ++ [v]))) else none
    | _, _ => none
  | _ => none
theorem appD_s {v : D} {n : Nat} {cs0 : List D} {xs ys : List D} (h0 : cs0[n]? = some (.lst ys)) (h : cs[n]? = some (.lst xs)) (hl : xs.length < sizeLine) (hv : v.blw n = true) : appD v (.cell n) cs0 cs = some (cs.set n (.lst (xs ++ [v]))) := by
  simp [appD, h0, h, hl, hv]
theorem y_app {o e : E} : evS T C wf (.app o e) δ cs = (ev T C o δ cs).bind fun s => (ev T C e δ s.2).bind fun r => (appD r.1 s.1 s.2 r.2).map fun c => (.nx δ, c) := by
  simp only [evS]; congr; funext s; congr; funext r
  unfold appD
  cases s.1 <;> try rfl
  rename_i n
  dsimp only
  generalize s.2[n]? = q
  generalize r.2[n]? = q'
  cases q with
  | none => rfl
  | some d =>
    cases d <;> try rfl
    cases q' with
    | none => rfl
    | some d' =>
      cases d' <;> try rfl
      dsimp only
      split <;> rfl
def setfD (T : Tab) (v o : D) (f : Str) (cs : List D) : Option (List D) := match o with
  | .cell n => match cs[n]? with
    | some (.obj c ks xs) => match T.cls[c]? with
      | some cl => if cl.flds.contains f = true ∧ ks.length < 1000 ∧ v.blw n = true then some (cs.set n (.obj c (putN f v ks xs).1 (putN f v ks xs).2)) else none
      | none => none
    | _ => none
  | _ => none
theorem y_setf {o e : E} {f : Str} : evS T C wf (.setf o f e) δ cs = (ev T C e δ cs).bind fun r => (ev T C o δ r.2).bind fun s => (setfD T r.1 s.1 f s.2).map fun c => (.nx δ, c) := by
  simp only [evS]; congr; funext r; congr; funext s
  unfold setfD
  cases s.1 <;> try rfl
  rename_i n
  dsimp only
  generalize s.2[n]? = q
  cases q with
  | none => rfl
  | some d =>
    cases d <;> try rfl
    rename_i c ks xs
    dsimp only
    generalize T.cls[c]? = q'
    cases q' with
    | none => rfl
    | some cl =>
      dsimp only
      split <;> rfl
/-! values -/
theorem b_add {i j : Int} : binA .Add cs (.int i) (.int j) = some (.int (i + j)) := rfl
theorem b_sub {i j : Int} : binA .Sub cs (.int i) (.int j) = some (.int (i - j)) := rfl
theorem b_mulL {i j : Int} (h1 : -18446744073709551616 < i) (h2 : i < 18446744073709551616) : binA .Mult cs (.int i) (.int j) = some (.int (i * j)) := by
  simp only [binA, binD]; rw [if_pos (.inl ⟨h1, h2⟩)]
theorem b_mulR {i j : Int} (h1 : -18446744073709551616 < j) (h2 : j < 18446744073709551616) : binA .Mult cs (.int i) (.int j) = some (.int (i * j)) := by
  simp only [binA, binD]; rw [if_pos (.inr ⟨h1, h2⟩)]
theorem b_m16807 {i : Int} : binA .Mult cs (.int i) (.int 16807) = some (.int (i * 16807)) := b_mulR (by decide) (by decide)
theorem b_m6469 {i : Int} : binA .Mult cs (.int 6469) (.int i) = some (.int (6469 * i)) := b_mulL (by decide) (by decide)
theorem b_m577 {i : Int} : binA .Mult cs (.int 577) (.int i) = some (.int (577 * i)) := b_mulL (by decide) (by decide)
theorem b_m41 {i : Int} : binA .Mult cs (.int 41) (.int i) = some (.int (41 * i)) := b_mulL (by decide) (by decide)
theorem b_mod {i j : Int} (h : 0 < j) : binA .Mod cs (.int i) (.int j) = some (.int (i % j)) := by
  simp only [binA, binD]; rw [if_pos h]
theorem b_fdiv {i j : Int} (h : 0 < j) (h2 : j < 1073741824) : binA .FloorDiv cs (.int i) (.int j) = some (.int (i / j)) := by
  simp only [binA, binD]; rw [if_pos ⟨h, h2⟩]
theorem b_pow {i j : Int} (h : 0 ≤ j) (h2 : j ≤ 1000000) (h3 : i.natAbs < 2 ^ 64) : binA .Pow cs (.int i) (.int j) = some (.int (i ^ j.toNat)) := by
  simp only [binA, binD]; rw [if_pos ⟨h, h2, h3⟩]
theorem b_adds {a b : Str} (h : a.length + b.length ≤ sizeLine) : binA .Add cs (.str a) (.str b) = some (.str (a ++ b)) := by
  simp only [binA, binD]; rw [if_pos h]
theorem b_cat {a b : List D} (h : a.length + b.length ≤ sizeLine) : binA .Add cs (.lst a) (.lst b) = some (.lst (a ++ b)) := by
  simp only [binA, binD, cont]; rw [if_pos h]
theorem m_lt {ok : Nat → Bool} {i j : Int} : cmpD ok .Lt cs (.int i) (.int j) = some (decide (i < j)) := rfl
theorem m_le {ok : Nat → Bool} {i j : Int} : cmpD ok .LtE cs (.int i) (.int j) = some (decide (i ≤ j)) := rfl
theorem m_gt {ok : Nat → Bool} {i j : Int} : cmpD ok .Gt cs (.int i) (.int j) = some (decide (j < i)) := rfl
theorem m_ge {ok : Nat → Bool} {i j : Int} : cmpD ok .GtE cs (.int i) (.int j) = some (decide (j ≤ i)) := rfl
theorem m_isN {ok : Nat → Bool} {d : D} : cmpD ok .Is cs d .non = some (isNonD d) := by cases d <;> rfl
theorem m_isNN {ok : Nat → Bool} {d : D} : cmpD ok .IsNot cs d .non = some (!isNonD d) := by cases d <;> rfl
theorem i_cell {n : Nat} {i : Int} {xs : List D} (h : cs[n]? = some (.lst xs)) : idxD cs (.cell n) (.int i) = atI xs i := by
  simp [idxD, seqD, lstD, cont, h]
theorem i_lst {i : Int} {xs : List D} : idxD cs (.lst xs) (.int i) = atI xs i := by simp [idxD, seqD, lstD, cont]
theorem i_rls {i : Int} {xs : List D} : idxD cs (.rls xs) (.int i) = atI xs i := by simp [idxD, seqD, lstD, cont]
theorem i_tup {i : Int} {xs : List D} : idxD cs (.tup xs) (.int i) = atI xs i := by simp [idxD, seqD, lstD, tupD, cont]
theorem atI0 {α : Type} {x : α} {xs : List α} : atI (x :: xs) (0 : Int) = some x := by
  simp [atI, ixN]
theorem atI1 {α : Type} {x y : α} {xs : List α} : atI (x :: y :: xs) (1 : Int) = some y := by
  unfold atI ixN
  rw [if_pos (by omega), if_pos (by simp only [List.length_cons]; omega)]
  rfl
theorem atI2 {α : Type} {x y z : α} {xs : List α} : atI (x :: y :: z :: xs) (2 : Int) = some z := by
  unfold atI ixN
  rw [if_pos (by omega), if_pos (by simp only [List.length_cons]; omega)]
  rfl
theorem f_int {i : Int} : bltD .int cs [.int i] = some (.int i) := rfl
theorem f_abs {i : Int} : bltD .abs cs [.int i] = some (.int (if i < 0 then -i else i)) := rfl
theorem f_max {i j : Int} : bltD .max cs [.int i, .int j] = some (.int (if j > i then j else i)) := rfl
theorem f_min {i j : Int} : bltD .min cs [.int i, .int j] = some (.int (if j < i then j else i)) := rfl
theorem f_lenR {xs : List D} : bltD .len cs [.rls xs] = some (.int xs.length) := rfl
theorem f_lenL {xs : List D} : bltD .len cs [.lst xs] = some (.int xs.length) := rfl
theorem f_lenT {xs : List D} : bltD .len cs [.tup xs] = some (.int xs.length) := rfl
theorem f_tupC {n : Nat} {xs : List D} (h : cs[n]? = some (.lst xs)) : bltD .tuple cs [.cell n] = some (.tup xs) := by
  simp [bltD, seqD, lstD, cont, h]
theorem f_tupL {xs : List D} : bltD .tuple cs [.lst xs] = some (.tup xs) := rfl
/-- a list of the call's own, as it is now -/
def lstO : Option D → Option (List D)
  | some (.lst xs) => some xs
  | some (.rls xs) => some xs
  | _ => none
theorem lstO_s {xs : List D} : lstO (some (.lst xs)) = some xs := rfl
theorem i_cell' {n : Nat} {i : Int} : idxD cs (.cell n) (.int i) = (lstO cs[n]?).bind fun xs => atI xs i := by
  simp only [idxD, seqD, lstD, cont, tupD, Option.or_none]
  generalize cs[n]? = q
  cases q with
  | none => rfl
  | some d => cases d <;> rfl
def okB {α : Type} (b : Bool) (z : Option α) : Option α := if b = true then z else none
theorem okB_t {α : Type} {z : Option α} : okB true z = z := rfl
def lstW : Option D → Option (List D)
  | some (.lst xs) => some xs
  | _ => none
theorem lstW_s {xs : List D} : lstW (some (.lst xs)) = some xs := rfl
theorem setiD_c {v : D} {n : Nat} {k : Int} : setiD v (.cell n) (.int k) cs = (lstW cs[n]?).bind fun xs => okB (v.blw n) ((ixN xs.length k).map fun j => cs.set n (.lst (xs.set j v))) := by
  simp only [setiD]
  generalize cs[n]? = q
  cases q with
  | none => rfl
  | some d => cases d <;> rfl
theorem appD_c {v : D} {n : Nat} {cs0 : List D} : appD v (.cell n) cs0 cs = (lstW cs0[n]?).bind fun _ => (lstW cs[n]?).bind fun xs => okB (decide (xs.length < sizeLine) && v.blw n) (some (cs.set n (.lst (xs ++ [v])))) := by
  simp only [appD]
  generalize cs0[n]? = q
  generalize cs[n]? = q'
  cases q with
  | none => rfl
  | some d =>
    cases d <;> try rfl
    cases q' with
    | none => rfl
    | some d' =>
      cases d' <;> try rfl
      rename_i xs ys
      dsimp only [lstW, Option.bind_some]
      unfold okB
      by_cases h1 : ys.length < sizeLine <;> cases h2 : v.blw n <;> simp [h1, h2]
theorem f_tupC' {n : Nat} : bltD .tuple cs [.cell n] = (lstO cs[n]?).map .tup := by
  simp only [bltD, seqD, lstD, cont, tupD, Option.or_none]
  generalize cs[n]? = q
  cases q with
  | none => rfl
  | some d => cases d <;> rfl
theorem ix0 {n : Nat} : ixN (n + 1) 0 = some 0 := by simp [ixN]
theorem ix1 {n : Nat} : ixN (n + 1 + 1) 1 = some 1 := by
  unfold ixN; rw [if_pos (by omega), if_pos (by omega)]; rfl
theorem ix2 {n : Nat} : ixN (n + 1 + 1 + 1) 2 = some 2 := by
  unfold ixN; rw [if_pos (by omega), if_pos (by omega)]; rfl
theorem finO_rt {k : Bool} {n : Nat} {d : D} : finO k n (.rt d, cs) = finD k n d cs := rfl
theorem finO_nx {k : Bool} {n : Nat} {δ : Env'} : finO k n (.nx δ, cs) = finD k n .non cs := rfl
theorem finD_k {n : Nat} {d : D} : finD true n d cs = some (d, cs) := rfl
theorem finD_e {k : Bool} {n : Nat} {d : D} (h : cs.length = n) : finD k n d cs = some (d, cs) := by
  unfold finD; cases k <;> simp [h]
theorem blw_int {n : Nat} {i : Int} : (D.int i).blw n = true := rfl
theorem blw_str {n : Nat} {i : Str} : (D.str i).blw n = true := rfl
theorem blw_non {n : Nat} : D.non.blw n = true := rfl
theorem blw_bl {n : Nat} {b : Bool} : (D.bl b).blw n = true := rfl
theorem blw_tup {n : Nat} {xs : List D} : (D.tup xs).blw n = belowL n xs := by simp only [D.blw]
theorem blw_lst {n : Nat} {xs : List D} : (D.lst xs).blw n = belowL n xs := by simp only [D.blw]
theorem blwL_nil {n : Nat} : belowL n [] = true := rfl
theorem blwL_cons {n : Nat} {x : D} {xs : List D} : belowL n (x :: xs) = (x.blw n && belowL n xs) := rfl
theorem p_nop {x : Option (D × List D)} : partE (isNop .nop) x cs = some (none, cs) := rfl
theorem p_int {i j : Int} {c : List D} : partE (isNop (.int i)) (some (.int j, c)) cs = some (some j, c) := rfl
theorem p_neg {a : E} {j : Int} {c : List D} : partE (isNop (.neg a)) (some (.int j, c)) cs = some (some j, c) := rfl
theorem p_var {i : Nat} {j : Int} {c : List D} : partE (isNop (.var i)) (some (.int j, c)) cs = some (some j, c) := rfl
theorem p_glob {i : Nat} {j : Int} {c : List D} : partE (isNop (.glob i)) (some (.int j, c)) cs = some (some j, c) := rfl
theorem p_bin {o : Operator} {a b : E} {j : Int} {c : List D} : partE (isNop (.bin o a b)) (some (.int j, c)) cs = some (some j, c) := rfl
theorem p_blt {o : Bi} {a : E} {j : Int} {c : List D} : partE (isNop (.blt o a)) (some (.int j, c)) cs = some (some j, c) := rfl
theorem s_rls {xs : List D} {lo hi : Option Int} : slcD cs (.rls xs) lo hi = some (.lst (sliceL xs lo hi)) := rfl
theorem s_lst {xs : List D} {lo hi : Option Int} : slcD cs (.lst xs) lo hi = some (.lst (sliceL xs lo hi)) := rfl
theorem s_tup {xs : List D} {lo hi : Option Int} : slcD cs (.tup xs) lo hi = some (.tup (sliceL xs lo hi)) := rfl
theorem q_lst {xs : List D} : iseqD cs (.lst xs) = some xs := rfl
theorem q_rls {xs : List D} : iseqD cs (.rls xs) = some xs := rfl
theorem q_tup {xs : List D} : iseqD cs (.tup xs) = some xs := rfl
theorem q_str {x : Str} : iseqD cs (.str x) = some (charsL x) := rfl
theorem b_p9 : binA .Pow cs (.int 10) (.int 9) = some (.int 1000000000) := b_pow (by decide) (by decide) (by decide)
theorem b_p18 : binA .Pow cs (.int 10) (.int 18) = some (.int 1000000000000000000) := b_pow (by decide) (by decide) (by decide)
theorem sizeD_l {α : Type} {n : Nat} {z : α} (h : n ≤ 16777216) : sizeD n z = some z := if_pos h
theorem bind_nm {i : Nat} {x : D} : bindT (.nm i) cs x δ = some (δ.set i (some x)) := rfl
theorem forL_nil {b : EvS} {t : Tg} : forL b t [] δ cs = some (.nx δ, cs) := rfl
def onL (r : Out × List D) (k : Env' → List D → Option (Out × List D)) : Option (Out × List D) := match r.1 with
  | .nx δ2 => k δ2 r.2
  | .ct δ2 => k δ2 r.2
  | .bk δ2 => some (.nx δ2, r.2)
  | .rt d => some (.rt d, r.2)
theorem onL_nx {c : List D} {k : Env' → List D → Option (Out × List D)} : onL (.nx δ, c) k = k δ c := rfl
theorem onL_ct {c : List D} {k : Env' → List D → Option (Out × List D)} : onL (.ct δ, c) k = k δ c := rfl
theorem onL_bk {c : List D} {k : Env' → List D → Option (Out × List D)} : onL (.bk δ, c) k = some (.nx δ, c) := rfl
theorem onL_rt {c : List D} {d : D} {k : Env' → List D → Option (Out × List D)} : onL (.rt d, c) k = some (.rt d, c) := rfl
theorem forL_cons {b : EvS} {t : Tg} {x : D} {xs : List D} : forL b t (x :: xs) δ cs = (bindT t cs x δ).bind fun δ' => (b δ' cs).bind fun r => onL r (forL b t xs) := by
  simp only [forL]; rfl
theorem compL_nil {f : D → List D → Option (Option D × List D)} : compL f [] cs = some ([], cs) := rfl
theorem compL_cons {f : D → List D → Option (Option D × List D)} {x : D} {xs : List D} : compL f (x :: xs) cs = (f x cs).bind fun r => (compL f xs r.2).map fun t => (match r.1 with | some y => y :: t.1 | none => t.1, t.2) := rfl
theorem lstArgs_s {xs : List D} : lstArgs (.lst xs) = some xs := rfl
end
end DL

end

section
set_option Elab.async false
set_option linter.all false
set_option maxRecDepth 100000
set_option maxHeartbeats 4000000
/-! D layer y: the end of a law. -/
namespace DL
open PySem L2
inductive AllF (K : PySem.W.Frag) (mg : Str → Option Value) : List Fn → List Stmt → List Addr → List FuncData → Prop
  | nil : AllF K mg [] [] [] []
  | cons {fn : Fn} {st : Stmt} {fa : Addr} {fd : FuncData} {fns : List Fn} {sts : List Stmt} {fas : List Addr} {fds : List FuncData} (F : Fun K fn.nm fn.qual st fa fd) (b : Binds K fd fn.ps []) (m : fn.glob = true → mg fn.nm = some (.ref fa))
      (t : AllF K mg fns sts fas fds) : AllF K mg (fn :: fns) (st :: sts) (fa :: fas) (fd :: fds)
theorem AllF.get {K : PySem.W.Frag} {mg : Str → Option Value} : ∀ {fns : List Fn} {sts : List Stmt} {fas : List Addr} {fds : List FuncData} {i : Nat} {fn : Fn} {dS : Stmt} {dA : Addr} {dD : FuncData}, AllF K mg fns sts fas fds → fns[i]? = some fn →
    Fun K fn.nm fn.qual (sts.getD i dS) (fas.getD i dA) (fds.getD i dD) ∧ Binds K (fds.getD i dD) fn.ps [] ∧ (fn.glob = true → mg fn.nm = some (.ref (fas.getD i dA)))
  | _, _, _, _, _, _, _, _, _, .nil, h => by simp at h
  | _, _, _, _, 0, _, _, _, _, .cons F b m t, h => by
    simp at h; subst h
    exact ⟨F, b, m⟩
  | _, _, _, _, i + 1, _, dS, dA, dD, .cons F b m t, h => by
    have := AllF.get (i := i) (dS := dS) (dA := dA) (dD := dD) t (by simpa using h)
    simpa using this
theorem zip_all {α β : Type} {p : α × β → Bool} : ∀ {l : List α} {r : List β} {i : Nat} {a : α} {b : β}, (l.zip r).all p = true → l.length ≤ r.length → l[i]? = some a → p (a, r.getD i b) = true
  | [], _, _, _, _, _, _, h => by simp at h
  | _ :: _, [], _, _, _, _, hl, _ => by simp at hl
  | x :: l, y :: r, 0, a, b, h, hl, e => by
    simp only [List.zip_cons_cons, List.all_cons, Bool.and_eq_true] at h
    simp at e; subst e
    exact h.1
  | x :: l, y :: r, i + 1, a, b, h, hl, e => by
    simp only [List.zip_cons_cons, List.all_cons, Bool.and_eq_true] at h
    have := zip_all (i := i) (b := b) h.2 (by simpa using hl) (by simpa using e)
    simpa using this
theorem lookup_mem {α : Type} {f : Str} {g : α} : ∀ {l : List (Str × α)}, l.lookup f = some g → (f, g) ∈ l
  | [], h => by simp at h
  | (k, v) :: l, h => by
    rw [List.lookup_cons] at h
    cases e : f == k with
    | true =>
      rw [e] at h
      dsimp only at h
      cases h
      rw [beq_iff_eq.mp e]
      exact List.mem_cons_self
    | false =>
      rw [e] at h
      exact List.mem_cons_of_mem _ (lookup_mem h)
/-- isinstance of a built-in's value against an own class -/
theorem notin_of {K : PySem.W.Frag} {C : Addr} (h1 : PySem.W.isClsIn K C = true) (h2 : PySem.W.typeIn K (.ref C) = some (.type "type")) (h : ∀ t : TyN, PySem.W.subIn K (.type t.nm) (.ref C) = some false) (t : TyN) : PySem.W.kitOne K (.type t.nm) (.ref C) = some false := by
  unfold PySem.W.kitOne
  rw [if_neg (by cases t <;> simp)]
  unfold PySem.W.kitCls
  dsimp only
  have h1' : (PySem.W.clsIn K C).isSome = true := h1
  rw [if_pos (by rw [h1', h2]; rfl)]
  exact h t
/-- the law's promise: whatever the classes' addresses are -/
def spL (T : Tab) (wf j f : Nat) (K : PySem.W.Frag) : Sp := fun vs H Q E => ∀ ca : Nat → Addr, spC ⟨K, ca⟩ (evCall T wf j) f vs H Q E
theorem FnOk.weaken {P : Program} {w : World} {K : PySem.W.Frag} {mg : Str → Option Value} {base : Heap} {CX : CXT} {k : Nat} {f : Addr} {fd : FuncData} {ps : List Str} {sp sp' : Sp} (h : FnOk P w K mg base CX k f fd ps sp) (i : ∀ vs H Q E, sp' vs H Q E → sp vs H Q E) : FnOk P w K mg base CX k f fd ps sp' :=
  ⟨fun vs H Q E q => h.len vs H Q E (i vs H Q E q), fun A outer s H args us vs Q E hr e b v q => h.run A outer s H args us vs Q E hr e b v (i vs H Q E q)⟩
/-- the script at the law's entry -/
theorem law_start {T : Tab} {wf j f : Nat} {K : PySem.W.Frag} {H : Hp} {a : Addr} {ns : List Int} {cs' : List D} (hs : SqL K H a (ns.map V.int)) (h : evCall T wf j f [.rls (ns.map .int)] [] = some (.bl true, cs')) :
    spL T wf j f K [.ref a] H (fun v _ => v = .bl true) fun _ _ _ => False := by
  intro ca
  refine ⟨H, [], [], [.rls (ns.map .int)], .bl true, cs', ⟨Evl.Ex.refl H, List.nodup_nil, rfl, (fun a h => nomatch h), (fun i a d h => by simp at h), (fun i d h => by simp at h)⟩, .cons (.rls hs (Reps.map (fun i => .int i) ns)) .nil, h, fun v H' F' m' w n r => ?_⟩
  cases r
  rfl
end DL

end

section
set_option Elab.async false
set_option linter.all false
/-! D layer z: constants by their place in the row. -/
namespace DL
open PySem L2
def eNo : Expr := .Name Str.empty ⟨0, 0, 0, 0⟩
def eSub (i : Nat) : Expr → Expr
  | .List es _ => es.getD i eNo
  | .Tuple es _ _ => es.getD i eNo
  | .BinOp a _ b _ => [a, b].getD i eNo
  | .Compare a _ bs _ => (a :: bs).getD i eNo
  | .Call f as _ _ => (f :: as).getD i eNo
  | .BoolOp _ vs _ => vs.getD i eNo
  | .JoinedStr vs _ => vs.getD i eNo
  | .IfExp a b c _ => [a, b, c].getD i eNo
  | .UnaryOp _ a _ => a
  | .Subscript a _ _ => a
  | .Attribute a _ _ => a
  | .Starred a _ => a
  | _ => eNo
def sNo : Stmt := .Pass ⟨0, 0, 0, 0⟩
def sAt (i : Nat) : Stmt → Stmt
  | .FunctionDef _ _ b _ _ _ _ _ _ _ => b.getD i sNo
  | .If _ b _ _ => b.getD i sNo
  | .For _ _ b _ _ => b.getD i sNo
  | .While _ b _ _ => b.getD i sNo
  | _ => sNo
def sElse : Stmt → Stmt
  | .If t _ b p => .If t b [] p
  | s => s
def sVal : Stmt → Expr
  | .Assign _ v _ => v
  | .Return (some v) _ => v
  | .If t _ _ _ => t
  | .While t _ _ _ => t
  | .Expr v _ => v
  | _ => eNo
def strOf : Expr → Str
  | .Constant (.str x) _ _ => x
  | _ => Str.empty
end DL

end

section
set_option Elab.async false
set_option linter.all false
set_option maxRecDepth 100000
set_option maxHeartbeats 4000000
namespace K06
open PySem L2 DL
def topS (i : Nat) : Stmt := PySem.Challenge.pw_fewfaces_k06_sample_books.main.body.getD i (.Pass ⟨0, 0, 0, 0⟩)
def t_0 : Str := strOf (eSub 0 (eSub 1 (sVal (sAt 1 (topS 40)))))
def t_1 : Str := strOf (eSub 0 (sVal (sAt 0 (topS 40))))
def t_2 : Str := strOf (eSub 0 (sVal (sAt 0 (topS 41))))
def t_3 : Str := strOf (sVal (sAt 3 (topS 60)))
def t_4 : Str := strOf (eSub 1 (sVal (sAt 2 (topS 60))))
def t_5 : Str := strOf (sVal (sAt 1 (topS 60)))
def t_6 : Str := strOf (sVal (sAt 0 (topS 60)))
def b_is_integer : DL.S := (.seq (.ret (.and' (.isi (.var 0) .int) (.not' (.isi (.var 0) .bool)))) .nil)
def n_is_integer : Fn := ⟨(PySem.Str.ofString "is_integer"), (PySem.Str.ofString "is_integer"), [(PySem.Str.ofString "value")], [(PySem.Str.ofString "value")], true, false, b_is_integer⟩
def b_is_between : DL.S := (.seq (.ret (.and' (.call 0 (.cons (.var 0) .nil)) (.chain .LtE .LtE (.var 1) (.var 0) (.var 2)))) .nil)
def n_is_between : Fn := ⟨(PySem.Str.ofString "is_between"), (PySem.Str.ofString "is_between"), [(PySem.Str.ofString "value"), (PySem.Str.ofString "least"), (PySem.Str.ofString "most")], [(PySem.Str.ofString "value"), (PySem.Str.ofString "least"), (PySem.Str.ofString "most")], true, false, b_is_between⟩
def b_is_name_E1 : E := (.cmp .In (.var 1) (.glob 7))
def b_is_name : DL.S := (.seq (.iff (.tor (.tnot (.tval (.isi (.var 0) .str))) (.tnot (.chain .LtE .LtE (.int 1) (.blt .len (.cons (.var 0) .nil)) (.glob 8)))) (.seq (.ret (.bl false)) .nil) .nil) (.seq (.ret (.blt .all (.cons (.fr (.comp (.nm 1) (.iseq (.var 0)) (.bl true) b_is_name_E1)) .nil))) .nil))
def n_is_name : Fn := ⟨(PySem.Str.ofString "is_name"), (PySem.Str.ofString "is_name"), [(PySem.Str.ofString "value")], [(PySem.Str.ofString "value"), (PySem.Str.ofString "sign")], true, false, b_is_name⟩
def b_is_word : DL.S := (.seq (.ret (.and' (.call 2 (.cons (.var 0) .nil)) (.cmp .NotIn (.var 0) (.glob 9)))) .nil)
def n_is_word : Fn := ⟨(PySem.Str.ofString "is_word"), (PySem.Str.ofString "is_word"), [(PySem.Str.ofString "value")], [(PySem.Str.ofString "value")], true, false, b_is_word⟩
def b_Row__init : DL.S := (.seq (.setf (.var 0) (PySem.Str.ofString "mood") (.var 1)) (.seq (.setf (.var 0) (PySem.Str.ofString "wish") (.var 2)) (.seq (.setf (.var 0) (PySem.Str.ofString "place") (.var 3)) (.seq (.setf (.var 0) (PySem.Str.ofString "answer") (.var 4)) (.seq (.setf (.var 0) (PySem.Str.ofString "later") (.var 5)) (.seq (.setf (.var 0) (PySem.Str.ofString "puts") (.var 6)) .nil))))))
def n_Row__init : Fn := ⟨(PySem.Str.ofString "__init__"), (PySem.Str.ofString "Row.__init__"), [(PySem.Str.ofString "self"), (PySem.Str.ofString "mood"), (PySem.Str.ofString "wish"), (PySem.Str.ofString "place"), (PySem.Str.ofString "answer"), (PySem.Str.ofString "later"), (PySem.Str.ofString "puts")], [(PySem.Str.ofString "self"), (PySem.Str.ofString "mood"), (PySem.Str.ofString "wish"), (PySem.Str.ofString "place"), (PySem.Str.ofString "answer"), (PySem.Str.ofString "later"), (PySem.Str.ofString "puts")], false, false, b_Row__init⟩
def b_Row_fits : DL.S := (.seq (.iff (.tor (.cmp .NotIn (.attr (.var 0) (PySem.Str.ofString "mood")) (.tup (.cons .non (.cons (.var 1) .nil)))) (.cmp .NotIn (.attr (.var 0) (PySem.Str.ofString "wish")) (.tup (.cons .non (.cons (.var 2) .nil))))) (.seq (.ret (.bl false)) .nil) .nil) (.seq (.ret (.ite (.cmp .Eq (.attr (.var 0) (PySem.Str.ofString "place")) (.neg (.int 1))) (.cmp .IsNot (.var 3) .non) (.cmp .Eq (.attr (.var 0) (PySem.Str.ofString "place")) (.var 3)))) .nil))
def n_Row_fits : Fn := ⟨(PySem.Str.ofString "fits"), (PySem.Str.ofString "Row.fits"), [(PySem.Str.ofString "self"), (PySem.Str.ofString "mood"), (PySem.Str.ofString "wish"), (PySem.Str.ofString "place")], [(PySem.Str.ofString "self"), (PySem.Str.ofString "mood"), (PySem.Str.ofString "wish"), (PySem.Str.ofString "place")], false, false, b_Row_fits⟩
def b_Shape__init : DL.S := (.seq (.setf (.var 0) (PySem.Str.ofString "wish_words") (.var 1)) (.seq (.setf (.var 0) (PySem.Str.ofString "answer_words") (.var 2)) (.seq (.setf (.var 0) (PySem.Str.ofString "mood_words") (.var 3)) (.seq (.setf (.var 0) (PySem.Str.ofString "spots") (.var 4)) .nil))))
def n_Shape__init : Fn := ⟨(PySem.Str.ofString "__init__"), (PySem.Str.ofString "Shape.__init__"), [(PySem.Str.ofString "self"), (PySem.Str.ofString "wishes"), (PySem.Str.ofString "answers"), (PySem.Str.ofString "moods"), (PySem.Str.ofString "places")], [(PySem.Str.ofString "self"), (PySem.Str.ofString "wishes"), (PySem.Str.ofString "answers"), (PySem.Str.ofString "moods"), (PySem.Str.ofString "places")], false, false, b_Shape__init⟩
def b_words_in_E1 : E := (.call 3 (.cons (.var 5) .nil))
def b_words_in : DL.S := (.seq (.asg 3 (.fr (.split (.var 0) (.str (PySem.Str.ofString " "))))) (.seq (.asg 4 (.blt .tuple (.cons (.slc (.var 3) (.int 1) .nop) .nil))) (.seq (.iff (.tor (.cmp .NotEq (.idx (.var 3) (.int 0)) (.var 1)) (.tor (.tnot (.chain .LtE .LtE (.int 1) (.blt .len (.cons (.var 4) .nil)) (.var 2))) (.tnot (.tval (.blt .all (.cons (.fr (.comp (.nm 5) (.iseq (.var 4)) (.bl true) b_words_in_E1)) .nil)))))) (.seq (.ret .non) .nil) .nil) (.seq (.ret (.ite (.cmp .Eq (.blt .len (.cons (.fr (.dcomp (.nm 5) (.iseq (.var 4)) (.var 5) (.bl true))) .nil)) (.blt .len (.cons (.var 4) .nil))) (.var 4) .non)) .nil))))
def n_words_in : Fn := ⟨(PySem.Str.ofString "words_in"), (PySem.Str.ofString "words_in"), [(PySem.Str.ofString "line"), (PySem.Str.ofString "head"), (PySem.Str.ofString "most")], [(PySem.Str.ofString "line"), (PySem.Str.ofString "head"), (PySem.Str.ofString "most"), (PySem.Str.ofString "parts"), (PySem.Str.ofString "words"), (PySem.Str.ofString "word")], true, false, b_words_in⟩
def b_place_in_E1 : E := (.blt .str (.cons (.var 2) .nil))
def b_place_in : DL.S := (.seq (.ret (.ite (.cmp .In (.var 0) (.fr (.comp (.nm 2) (.irng (.var 1)) (.bl true) b_place_in_E1))) (.blt .int (.cons (.var 0) .nil)) .non)) .nil)
def n_place_in : Fn := ⟨(PySem.Str.ofString "place_in"), (PySem.Str.ofString "place_in"), [(PySem.Str.ofString "text"), (PySem.Str.ofString "places")], [(PySem.Str.ofString "text"), (PySem.Str.ofString "places"), (PySem.Str.ofString "place")], true, false, b_place_in⟩
def b_put_in : DL.S := (.seq (.iff (.cmp .In (.var 0) (.tup (.cons (.str (PySem.Str.ofString "him")) (.cons (.str (PySem.Str.ofString "none")) .nil)))) (.seq (.ret (.ite (.cmp .Eq (.var 0) (.str (PySem.Str.ofString "him"))) (.tup (.cons (.str (PySem.Str.ofString "him")) .nil)) (.tup (.cons .non .nil)))) .nil) .nil) (.seq (.asg 2 (.call 8 (.cons (.var 0) (.cons (.var 1) .nil)))) (.seq (.ret (.ite (.cmp .Is (.var 2) .non) (.tup .nil) (.tup (.cons (.var 2) .nil)))) .nil)))
def n_put_in : Fn := ⟨(PySem.Str.ofString "put_in"), (PySem.Str.ofString "put_in"), [(PySem.Str.ofString "text"), (PySem.Str.ofString "places")], [(PySem.Str.ofString "text"), (PySem.Str.ofString "places"), (PySem.Str.ofString "place")], true, false, b_put_in⟩
def b_who_in : DL.S := (.seq (.iff (.cmp .In (.var 0) (.tup (.cons (.str (PySem.Str.ofString "stranger:")) (.cons (.str (PySem.Str.ofString "known:")) .nil)))) (.seq (.ret (.ite (.cmp .Eq (.var 0) (.str (PySem.Str.ofString "stranger:"))) (.tup (.cons .non .nil)) (.tup (.cons (.neg (.int 1)) .nil)))) .nil) .nil) (.seq (.asg 2 (.ite (.tval (.sm .endswith (.var 0) (.str (PySem.Str.ofString ":")))) (.call 8 (.cons (.slc (.var 0) .nop (.neg (.int 1))) (.cons (.var 1) .nil))) .non)) (.seq (.ret (.ite (.cmp .Is (.var 2) .non) (.tup .nil) (.tup (.cons (.var 2) .nil)))) .nil)))
def n_who_in : Fn := ⟨(PySem.Str.ofString "who_in"), (PySem.Str.ofString "who_in"), [(PySem.Str.ofString "text"), (PySem.Str.ofString "places")], [(PySem.Str.ofString "text"), (PySem.Str.ofString "places"), (PySem.Str.ofString "place")], true, false, b_who_in⟩
def b_are_puts_C1 : E := (.cmp .IsNot (.var 3) .non)
def b_are_puts_E1 : E := (.var 3)
def b_are_puts : DL.S := (.seq (.asg 2 (.fr (.comp (.nm 3) (.iseq (.var 0)) b_are_puts_C1 b_are_puts_E1))) (.seq (.iff (.cmp .NotEq (.blt .len (.cons (.fr (.dcomp (.nm 3) (.iseq (.var 2)) (.var 3) (.bl true))) .nil)) (.blt .len (.cons (.var 2) .nil))) (.seq (.ret (.bl false)) .nil) .nil) (.seq (.ret (.or' (.cmp .NotIn (.str (PySem.Str.ofString "him")) (.var 2)) (.or' (.cmp .Is (.var 1) .non) (.and' (.cmp .NotEq (.var 1) (.neg (.int 1))) (.cmp .NotIn (.var 1) (.var 2)))))) .nil)))
def n_are_puts : Fn := ⟨(PySem.Str.ofString "are_puts"), (PySem.Str.ofString "are_puts"), [(PySem.Str.ofString "puts"), (PySem.Str.ofString "place")], [(PySem.Str.ofString "puts"), (PySem.Str.ofString "place"), (PySem.Str.ofString "told"), (PySem.Str.ofString "put")], true, false, b_are_puts⟩
def b_row_in_E1 : E := (.idx (.var 12) (.int 0))
def b_row_in_E2 : E := (.call 9 (.cons (.var 11) (.cons (.attr (.var 1) (PySem.Str.ofString "spots")) .nil)))
def b_row_in : DL.S := (.seq (.asg 2 (.ite (.tval (.isi (.var 0) .str)) (.fr (.split (.var 0) (.str (PySem.Str.ofString " ")))) (.fr (.lst .nil)))) (.seq (.iff (.cmp .NotEq (.blt .len (.cons (.var 2) .nil)) (.bin .Add (.int 5) (.attr (.var 1) (PySem.Str.ofString "spots")))) (.seq (.ret .non) .nil) .nil) (.seq (.unp [6, 7, 8, 9, 10] (.slc (.var 2) .nop (.int 5))) (.seq (.iff (.tor (.cmp .NotIn (.var 6) (.tup (.cons (.str (PySem.Str.ofString "any")) (.star (.attr (.var 1) (PySem.Str.ofString "mood_words")) .nil)))) (.cmp .NotIn (.var 7) (.tup (.cons (.str (PySem.Str.ofString "any")) (.star (.attr (.var 1) (PySem.Str.ofString "wish_words")) .nil))))) (.seq (.ret .non) .nil) .nil) (.seq (.iff (.cmp .NotIn (.var 9) (.attr (.var 1) (PySem.Str.ofString "answer_words"))) (.seq (.ret .non) .nil) .nil) (.seq (.asg 3 (.call 10 (.cons (.var 8) (.cons (.attr (.var 1) (PySem.Str.ofString "spots")) .nil)))) (.seq (.asg 4 (.fr (.comp (.nm 11) (.iseq (.slc (.var 2) (.int 5) .nop)) (.bl true) b_row_in_E2))) (.seq (.iff (.tor (.cmp .Eq (.var 3) (.tup .nil)) (.tor (.cmp .In (.tup .nil) (.var 4)) (.cmp .NotIn (.var 10) (.tup (.cons (.str (PySem.Str.ofString "same")) (.star (.attr (.var 1) (PySem.Str.ofString "mood_words")) .nil)))))) (.seq (.ret .non) .nil) .nil) (.seq (.asg 5 (.blt .tuple (.cons (.fr (.comp (.nm 12) (.iseq (.var 4)) (.bl true) b_row_in_E1)) .nil))) (.seq (.iff (.tnot (.tval (.call 11 (.cons (.var 5) (.cons (.idx (.var 3) (.int 0)) .nil))))) (.seq (.ret .non) .nil) .nil) (.seq (.ret (.make 0 (.cons (.call 13 (.cons (.var 6) (.cons (.str (PySem.Str.ofString "any")) .nil))) (.cons (.call 13 (.cons (.var 7) (.cons (.str (PySem.Str.ofString "any")) .nil))) (.cons (.idx (.var 3) (.int 0)) (.cons (.var 9) (.cons (.call 13 (.cons (.var 10) (.cons (.str (PySem.Str.ofString "same")) .nil))) (.cons (.var 5) .nil)))))))) .nil)))))))))))
def n_row_in : Fn := ⟨(PySem.Str.ofString "row_in"), (PySem.Str.ofString "row_in"), [(PySem.Str.ofString "line"), (PySem.Str.ofString "shape")], [(PySem.Str.ofString "line"), (PySem.Str.ofString "shape"), (PySem.Str.ofString "parts"), (PySem.Str.ofString "place"), (PySem.Str.ofString "puts"), (PySem.Str.ofString "told"), (PySem.Str.ofString "mood"), (PySem.Str.ofString "wish"), (PySem.Str.ofString "who"), (PySem.Str.ofString "answer"), (PySem.Str.ofString "later"), (PySem.Str.ofString "part"), (PySem.Str.ofString "put")], true, false, b_row_in⟩
def b_unless : DL.S := (.seq (.ret (.ite (.cmp .Eq (.var 0) (.var 1)) .non (.var 0))) .nil)
def n_unless : Fn := ⟨(PySem.Str.ofString "unless"), (PySem.Str.ofString "unless"), [(PySem.Str.ofString "word"), (PySem.Str.ofString "none")], [(PySem.Str.ofString "word"), (PySem.Str.ofString "none")], true, false, b_unless⟩
def b_shape_in_E1 : E := (.js (.cons (.str (PySem.Str.ofString "places ")) (.cons (.fmt (.var 2)) .nil)))
def b_shape_in : DL.S := (.seq (.iff (.cmp .Lt (.blt .len (.cons (.var 0) .nil)) (.glob 10)) (.seq (.ret .non) .nil) .nil) (.seq (.asg 1 (.mu (.lst (.cons (.call 7 (.cons (.idx (.var 0) (.int 0)) (.cons (.str (PySem.Str.ofString "wishes")) (.cons (.glob 0) .nil)))) (.cons (.call 7 (.cons (.idx (.var 0) (.int 1)) (.cons (.str (PySem.Str.ofString "answers")) (.cons (.glob 1) .nil)))) .nil))))) (.seq (.app (.var 1) (.call 7 (.cons (.idx (.var 0) (.int 2)) (.cons (.str (PySem.Str.ofString "moods")) (.cons (.glob 2) .nil))))) (.seq (.iff (.tor (.cmp .In .non (.var 1)) (.cmp .NotIn (.idx (.var 0) (.int 3)) (.fr (.comp (.nm 2) (.irng (.bin .Add (.glob 3) (.int 1))) (.bl true) b_shape_in_E1)))) (.seq (.ret .non) .nil) .nil) (.seq (.ret (.make 1 (.cons (.idx (.var 1) (.int 0)) (.cons (.idx (.var 1) (.int 1)) (.cons (.idx (.var 1) (.int 2)) (.cons (.blt .int (.cons (.slc (.idx (.var 0) (.int 3)) (.blt .len (.cons (.str (PySem.Str.ofString "places ")) .nil)) .nop) .nil)) .nil)))))) .nil)))))
def n_shape_in : Fn := ⟨(PySem.Str.ofString "shape_in"), (PySem.Str.ofString "shape_in"), [(PySem.Str.ofString "lines")], [(PySem.Str.ofString "lines"), (PySem.Str.ofString "found"), (PySem.Str.ofString "places")], true, false, b_shape_in⟩
def b_Book__init_E1 : E := (.call 12 (.cons (.var 5) (.cons (.var 3) .nil)))
def b_Book__init : DL.S := (.seq (.asg 2 (.ite (.tval (.isi (.var 1) .str)) (.fr (.split (.var 1) (.str (PySem.Str.ofString "\n")))) (.fr (.lst .nil)))) (.seq (.asg 3 (.call 14 (.cons (.var 2) .nil))) (.seq (.asg 4 (.ite (.cmp .IsNot (.var 3) .non) (.fr (.comp (.nm 5) (.iseq (.slc (.var 2) (.glob 10) .nop)) (.bl true) b_Book__init_E1)) (.fr (.lst (.cons .non .nil))))) (.seq (.iff (.tor (.cmp .In .non (.var 4)) (.cmp .Gt (.blt .len (.cons (.var 4) .nil)) (.glob 4))) (.seq .never .nil) .nil) (.seq (.setf (.var 0) (PySem.Str.ofString "wording") (.var 1)) (.seq (.setf (.var 0) (PySem.Str.ofString "shape") (.var 3)) (.seq (.setf (.var 0) (PySem.Str.ofString "parts") (.var 4)) (.seq (.setf (.var 0) (PySem.Str.ofString "noted") (.fr .dnil)) .nil))))))))
def n_Book__init : Fn := ⟨(PySem.Str.ofString "__init__"), (PySem.Str.ofString "Book.__init__"), [(PySem.Str.ofString "self"), (PySem.Str.ofString "text")], [(PySem.Str.ofString "self"), (PySem.Str.ofString "text"), (PySem.Str.ofString "lines"), (PySem.Str.ofString "shape"), (PySem.Str.ofString "found"), (PySem.Str.ofString "line")], false, false, b_Book__init⟩
def b_Book_wishes : DL.S := (.seq (.ret (.attr (.attr (.var 0) (PySem.Str.ofString "shape")) (PySem.Str.ofString "wish_words"))) .nil)
def n_Book_wishes : Fn := ⟨(PySem.Str.ofString "wishes"), (PySem.Str.ofString "Book.wishes"), [(PySem.Str.ofString "self")], [(PySem.Str.ofString "self")], false, false, b_Book_wishes⟩
def b_Book_answers : DL.S := (.seq (.ret (.attr (.attr (.var 0) (PySem.Str.ofString "shape")) (PySem.Str.ofString "answer_words"))) .nil)
def n_Book_answers : Fn := ⟨(PySem.Str.ofString "answers"), (PySem.Str.ofString "Book.answers"), [(PySem.Str.ofString "self")], [(PySem.Str.ofString "self")], false, false, b_Book_answers⟩
def b_Book_moods : DL.S := (.seq (.ret (.attr (.attr (.var 0) (PySem.Str.ofString "shape")) (PySem.Str.ofString "mood_words"))) .nil)
def n_Book_moods : Fn := ⟨(PySem.Str.ofString "moods"), (PySem.Str.ofString "Book.moods"), [(PySem.Str.ofString "self")], [(PySem.Str.ofString "self")], false, false, b_Book_moods⟩
def b_Book_places : DL.S := (.seq (.ret (.attr (.attr (.var 0) (PySem.Str.ofString "shape")) (PySem.Str.ofString "spots"))) .nil)
def n_Book_places : Fn := ⟨(PySem.Str.ofString "places"), (PySem.Str.ofString "Book.places"), [(PySem.Str.ofString "self")], [(PySem.Str.ofString "self")], false, false, b_Book_places⟩
def b_Book__str : DL.S := (.seq (.ret (.blt .str (.cons (.attr (.var 0) (PySem.Str.ofString "wording")) .nil))) .nil)
def n_Book__str : Fn := ⟨(PySem.Str.ofString "__str__"), (PySem.Str.ofString "Book.__str__"), [(PySem.Str.ofString "self")], [(PySem.Str.ofString "self")], false, false, b_Book__str⟩
def b_check_book : DL.S := (.seq (.iff (.tnot (.tval (.isc (.var 0) 2))) (.seq .never .nil) .nil) .nil)
def n_check_book : Fn := ⟨(PySem.Str.ofString "check_book"), (PySem.Str.ofString "check_book"), [(PySem.Str.ofString "value")], [(PySem.Str.ofString "value")], true, false, b_check_book⟩
def b_sample_book : DL.S := (.seq (.asg 0 (.fr (.lst (.cons (.str t_1) (.cons (.str (PySem.Str.ofString "calm goes known: bye same 0 1")) .nil))))) (.seq (.asg 0 (.bin .Add (.var 0) (.fr (.lst (.cons (.str t_0) (.cons (.str (PySem.Str.ofString "any comes 1: in same 1 0")) .nil)))))) (.seq (.ret (.make 2 (.cons (.sm .join (.str (PySem.Str.ofString "\n")) (.fr (.lst (.cons (.glob 11) (.cons (.str (PySem.Str.ofString "places 2")) (.star (.var 0) .nil)))))) .nil))) .nil)))
def n_sample_book : Fn := ⟨(PySem.Str.ofString "sample_book"), (PySem.Str.ofString "sample_book"), [], [(PySem.Str.ofString "rows")], true, false, b_sample_book⟩
def b_last_book : DL.S := (.seq (.asg 0 (.fr (.lst (.cons (.str t_2) (.cons (.str (PySem.Str.ofString "any goes known: bye same 0")) (.cons (.str (PySem.Str.ofString "any goes stranger: no same 0")) .nil)))))) (.seq (.ret (.make 2 (.cons (.sm .join (.str (PySem.Str.ofString "\n")) (.fr (.lst (.cons (.glob 11) (.cons (.str (PySem.Str.ofString "places 1")) (.star (.var 0) .nil)))))) .nil))) .nil))
def n_last_book : Fn := ⟨(PySem.Str.ofString "last_book"), (PySem.Str.ofString "last_book"), [], [(PySem.Str.ofString "rows")], true, false, b_last_book⟩
def b_is_person : DL.S := (.seq (.ret (.call 1 (.cons (.var 0) (.cons (.int 0) (.cons (.glob 6) .nil))))) .nil)
def n_is_person : Fn := ⟨(PySem.Str.ofString "is_person"), (PySem.Str.ofString "is_person"), [(PySem.Str.ofString "value")], [(PySem.Str.ofString "value")], true, false, b_is_person⟩
def b_is_visit : DL.S := (.seq (.iff (.tor (.tnot (.tval (.isi (.var 0) .tuple))) (.cmp .NotEq (.blt .len (.cons (.var 0) .nil)) (.int 2))) (.seq (.ret (.bl false)) .nil) .nil) (.seq (.ret (.and' (.isi (.idx (.var 0) (.int 0)) .str) (.and' (.cmp .In (.idx (.var 0) (.int 0)) (.attr (.var 1) (PySem.Str.ofString "wishes"))) (.call 24 (.cons (.idx (.var 0) (.int 1)) .nil))))) .nil))
def n_is_visit : Fn := ⟨(PySem.Str.ofString "is_visit"), (PySem.Str.ofString "is_visit"), [(PySem.Str.ofString "value"), (PySem.Str.ofString "book")], [(PySem.Str.ofString "value"), (PySem.Str.ofString "book")], true, false, b_is_visit⟩
def b_wrong_visit_L1 : DL.S := (.seq (.iff (.tor (.cmp .Eq (.var 2) (.glob 5)) (.tnot (.tval (.call 25 (.cons (.var 3) (.cons (.var 1) .nil)))))) (.seq (.ret (.tup (.cons (.var 2) .nil))) .nil) .nil) .nil)
def b_wrong_visit : DL.S := (.seq (.iff (.tnot (.tval (.isi (.var 0) .tuple))) (.seq (.ret (.tup (.cons .non .nil))) .nil) .nil) (.seq (.for_ (.tp [2, 3]) (.ienum (.var 0)) b_wrong_visit_L1) (.seq (.ret (.tup .nil)) .nil)))
def n_wrong_visit : Fn := ⟨(PySem.Str.ofString "wrong_visit"), (PySem.Str.ofString "wrong_visit"), [(PySem.Str.ofString "visits"), (PySem.Str.ofString "book")], [(PySem.Str.ofString "visits"), (PySem.Str.ofString "book"), (PySem.Str.ofString "index"), (PySem.Str.ofString "visit")], true, false, b_wrong_visit⟩
def b_check_visits : DL.S := (.seq (.asg 2 (.call 26 (.cons (.var 0) (.cons (.var 1) .nil)))) (.seq (.iff (.tval (.var 2)) (.seq .never .nil) .nil) .nil))
def n_check_visits : Fn := ⟨(PySem.Str.ofString "check_visits"), (PySem.Str.ofString "check_visits"), [(PySem.Str.ofString "visits"), (PySem.Str.ofString "book")], [(PySem.Str.ofString "visits"), (PySem.Str.ofString "book"), (PySem.Str.ofString "wrong")], true, false, b_check_visits⟩
def b_first_moment_E1 : E := .non
def b_first_moment : DL.S := (.seq (.ret (.tup (.cons (.idx (.attr (.var 0) (PySem.Str.ofString "moods")) (.int 0)) (.cons (.blt .tuple (.cons (.fr (.comp (.nm 1) (.irng (.attr (.var 0) (PySem.Str.ofString "places"))) (.bl true) b_first_moment_E1)) .nil)) .nil)))) .nil)
def n_first_moment : Fn := ⟨(PySem.Str.ofString "first_moment"), (PySem.Str.ofString "first_moment"), [(PySem.Str.ofString "book")], [(PySem.Str.ofString "book"), (PySem.Str.ofString "place")], true, false, b_first_moment⟩
def b_place_of_L1 : DL.S := (.seq (.iff (.tand (.cmp .IsNot (.var 3) .non) (.cmp .Eq (.var 3) (.var 1))) (.seq (.ret (.var 2)) .nil) .nil) .nil)
def b_place_of : DL.S := (.seq (.for_ (.tp [2, 3]) (.ienum (.var 0)) b_place_of_L1) (.seq (.ret .non) .nil))
def n_place_of : Fn := ⟨(PySem.Str.ofString "place_of"), (PySem.Str.ofString "place_of"), [(PySem.Str.ofString "people"), (PySem.Str.ofString "person")], [(PySem.Str.ofString "people"), (PySem.Str.ofString "person"), (PySem.Str.ofString "place"), (PySem.Str.ofString "each")], true, false, b_place_of⟩
def b_row_for_L1 : DL.S := (.seq (.iff (.tval (.meth (.var 4) (PySem.Str.ofString "fits") (.cons (.var 1) (.cons (.var 2) (.cons (.var 3) .nil))))) (.seq (.ret (.var 4)) .nil) .nil) .nil)
def b_row_for : DL.S := (.seq (.for_ (.nm 4) (.iseq (.attr (.var 0) (PySem.Str.ofString "parts"))) b_row_for_L1) (.seq (.ret .non) .nil))
def n_row_for : Fn := ⟨(PySem.Str.ofString "row_for"), (PySem.Str.ofString "row_for"), [(PySem.Str.ofString "book"), (PySem.Str.ofString "mood"), (PySem.Str.ofString "wish"), (PySem.Str.ofString "place")], [(PySem.Str.ofString "book"), (PySem.Str.ofString "mood"), (PySem.Str.ofString "wish"), (PySem.Str.ofString "place"), (PySem.Str.ofString "row")], true, false, b_row_for⟩
def b_stepped_E1 : E := (.call 32 (.cons (.var 7) (.cons (.var 3) (.cons (.var 8) .nil))))
def b_stepped : DL.S := (.seq (.unp [6, 7] (.var 1)) (.seq (.asg 4 (.call 30 (.cons (.var 0) (.cons (.var 6) (.cons (.var 2) (.cons (.call 29 (.cons (.var 7) (.cons (.var 3) .nil))) .nil)))))) (.seq (.iff (.cmp .Is (.var 4) .non) (.seq (.ret (.tup (.cons (.idx (.attr (.var 0) (PySem.Str.ofString "answers")) (.int 0)) (.cons (.var 1) .nil)))) .nil) .nil) (.seq (.asg 5 (.ite (.cmp .Is (.attr (.var 4) (PySem.Str.ofString "later")) .non) (.var 6) (.attr (.var 4) (PySem.Str.ofString "later")))) (.seq (.ret (.tup (.cons (.attr (.var 4) (PySem.Str.ofString "answer")) (.cons (.tup (.cons (.var 5) (.cons (.blt .tuple (.cons (.fr (.comp (.nm 8) (.iseq (.attr (.var 4) (PySem.Str.ofString "puts"))) (.bl true) b_stepped_E1)) .nil)) .nil))) .nil)))) .nil)))))
def n_stepped : Fn := ⟨(PySem.Str.ofString "stepped"), (PySem.Str.ofString "stepped"), [(PySem.Str.ofString "book"), (PySem.Str.ofString "now"), (PySem.Str.ofString "wish"), (PySem.Str.ofString "person")], [(PySem.Str.ofString "book"), (PySem.Str.ofString "now"), (PySem.Str.ofString "wish"), (PySem.Str.ofString "person"), (PySem.Str.ofString "row"), (PySem.Str.ofString "later"), (PySem.Str.ofString "mood"), (PySem.Str.ofString "people"), (PySem.Str.ofString "put")], true, false, b_stepped⟩
def b_put_there : DL.S := (.seq (.iff (.cmp .Is (.var 2) .non) (.seq (.ret .non) .nil) .nil) (.seq (.ret (.ite (.cmp .Eq (.var 2) (.str (PySem.Str.ofString "him"))) (.var 1) (.idx (.var 0) (.var 2)))) .nil))
def n_put_there : Fn := ⟨(PySem.Str.ofString "put_there"), (PySem.Str.ofString "put_there"), [(PySem.Str.ofString "people"), (PySem.Str.ofString "person"), (PySem.Str.ofString "put")], [(PySem.Str.ofString "people"), (PySem.Str.ofString "person"), (PySem.Str.ofString "put")], true, false, b_put_there⟩
def b_played_L1 : DL.S := (.seq (.unp [7, 4] (.call 31 (.cons (.var 0) (.cons (.var 4) (.cons (.var 5) (.cons (.var 6) .nil)))))) (.seq (.app (.var 3) (.var 7)) .nil))
def b_played : DL.S := (.seq (.par 3 4 (.cons (.mu (.lst .nil)) (.cons (.var 1) .nil))) (.seq (.for_ (.tp [5, 6]) (.iseq (.var 2)) b_played_L1) (.seq (.ret (.tup (.cons (.blt .tuple (.cons (.var 3) .nil)) (.cons (.var 4) .nil)))) .nil)))
def n_played : Fn := ⟨(PySem.Str.ofString "played"), (PySem.Str.ofString "played"), [(PySem.Str.ofString "book"), (PySem.Str.ofString "now"), (PySem.Str.ofString "visits")], [(PySem.Str.ofString "book"), (PySem.Str.ofString "now"), (PySem.Str.ofString "visits"), (PySem.Str.ofString "told"), (PySem.Str.ofString "here"), (PySem.Str.ofString "wish"), (PySem.Str.ofString "person"), (PySem.Str.ofString "answer")], true, false, b_played⟩
def b_answered : DL.S := (.seq (.ex (.call 21 (.cons (.var 0) .nil))) (.seq (.ex (.call 27 (.cons (.var 1) (.cons (.var 0) .nil)))) (.seq (.ret (.idx (.call 33 (.cons (.var 0) (.cons (.call 28 (.cons (.var 0) .nil)) (.cons (.var 1) .nil)))) (.int 0))) .nil)))
def n_answered : Fn := ⟨(PySem.Str.ofString "answered"), (PySem.Str.ofString "answered"), [(PySem.Str.ofString "book"), (PySem.Str.ofString "visits")], [(PySem.Str.ofString "book"), (PySem.Str.ofString "visits")], true, false, b_answered⟩
def b_moment : DL.S := (.seq (.ex (.call 21 (.cons (.var 0) .nil))) (.seq (.ex (.call 27 (.cons (.var 1) (.cons (.var 0) .nil)))) (.seq (.ret (.idx (.call 33 (.cons (.var 0) (.cons (.call 28 (.cons (.var 0) .nil)) (.cons (.var 1) .nil)))) (.int 1))) .nil)))
def n_moment : Fn := ⟨(PySem.Str.ofString "moment"), (PySem.Str.ofString "moment"), [(PySem.Str.ofString "book"), (PySem.Str.ofString "visits")], [(PySem.Str.ofString "book"), (PySem.Str.ofString "visits")], true, false, b_moment⟩
def b_law_well_L1 : DL.S := (.seq (.asg 3 (.bin .Mod (.blt .int (.cons (.bin .Add (.bin .Add (.bin .Mult (.var 3) (.int 16807)) (.bin .Mod (.blt .int (.cons (.var 4) .nil)) (.int 999983))) (.var 1)) .nil)) (.int 2147483647))) .nil)
def b_law_well : DL.S := (.seq (.asg 2 (.ite (.cmp .Lt (.var 1) (.blt .len (.cons (.var 0) .nil))) (.blt .int (.cons (.idx (.var 0) (.var 1)) .nil)) (.bin .Add (.bin .Mult (.int 41) (.var 1)) (.int 3)))) (.seq (.asg 3 (.bin .Add (.int 9973) (.bin .Mult (.int 577) (.var 1)))) (.seq (.for_ (.nm 4) (.iseq (.slc (.var 0) .nop (.int 8))) b_law_well_L1) (.seq (.asg 3 (.bin .Mod (.blt .int (.cons (.bin .Add (.bin .Mult (.var 3) (.int 16807)) (.bin .Mod (.blt .int (.cons (.var 2) .nil)) (.int 999983))) .nil)) (.int 2147483647))) (.seq (.ret (.mu (.lst (.cons (.ite (.cmp .GtE (.blt .abs (.cons (.var 2) .nil)) (.bin .Pow (.int 10) (.int 18))) (.blt .abs (.cons (.var 2) .nil)) (.int 0)) (.cons (.var 3) (.cons (.int 0) .nil)))))) .nil)))))
def n_law_well : Fn := ⟨(PySem.Str.ofString "_law_well"), (PySem.Str.ofString "_law_well"), [(PySem.Str.ofString "_law_script"), (PySem.Str.ofString "_law_turn")], [(PySem.Str.ofString "_law_script"), (PySem.Str.ofString "_law_turn"), (PySem.Str.ofString "_law_entry"), (PySem.Str.ofString "_law_stirred"), (PySem.Str.ofString "_law_each")], true, true, b_law_well⟩
def b_law_dip : DL.S := (.seq (.seti (.var 0) (.int 2) (.bin .Add (.idx (.var 0) (.int 2)) (.int 1))) (.seq (.iff (.cmp .Gt (.idx (.var 0) (.int 0)) (.int 0)) (.seq (.asg 2 (.bin .Mod (.blt .int (.cons (.idx (.var 0) (.int 0)) .nil)) (.var 1))) (.seq (.seti (.var 0) (.int 0) (.bin .FloorDiv (.blt .int (.cons (.idx (.var 0) (.int 0)) .nil)) (.var 1))) (.seq (.ret (.var 2)) .nil))) .nil) (.seq (.seti (.var 0) (.int 1) (.bin .Mod (.blt .int (.cons (.bin .Add (.bin .Add (.bin .Mult (.idx (.var 0) (.int 1)) (.int 16807)) (.bin .Mult (.int 6469) (.idx (.var 0) (.int 2)))) (.int 7)) .nil)) (.int 2147483647))) (.seq (.ret (.bin .Mod (.blt .int (.cons (.bin .FloorDiv (.idx (.var 0) (.int 1)) (.int 512)) .nil)) (.var 1))) .nil))))
def n_law_dip : Fn := ⟨(PySem.Str.ofString "_law_dip"), (PySem.Str.ofString "_law_dip"), [(PySem.Str.ofString "_law_well_here"), (PySem.Str.ofString "_law_size")], [(PySem.Str.ofString "_law_well_here"), (PySem.Str.ofString "_law_size"), (PySem.Str.ofString "_law_digit")], true, false, b_law_dip⟩
def b_law_one : DL.S := (.seq (.ret (.idx (.var 1) (.call 37 (.cons (.var 0) (.cons (.blt .len (.cons (.var 1) .nil)) .nil))))) .nil)
def n_law_one : Fn := ⟨(PySem.Str.ofString "_law_one"), (PySem.Str.ofString "_law_one"), [(PySem.Str.ofString "_law_well_here"), (PySem.Str.ofString "_law_menu")], [(PySem.Str.ofString "_law_well_here"), (PySem.Str.ofString "_law_menu")], true, false, b_law_one⟩
def b_law_right_C1 : E := (.cmp .NotEq (.var 11) (.var 9))
def b_law_right_E1 : E := (.var 11)
def b_law_right_L1 : DL.S := (.seq (.unp [8, 9] (.tup (.cons (.call 38 (.cons (.var 0) (.cons (.fr (.lst (.cons (.str (PySem.Str.ofString "comes")) (.cons (.str (PySem.Str.ofString "goes")) (.cons (.str (PySem.Str.ofString "comes")) .nil))))) .nil))) (.cons (.call 38 (.cons (.var 0) (.cons (.var 1) .nil))) .nil)))) (.seq (.app (.var 4) (.tup (.cons (.var 8) (.cons (.var 9) .nil)))) (.seq (.app (.var 6) (.ite (.cmp .Eq (.var 8) (.str (PySem.Str.ofString "comes"))) (.str (PySem.Str.ofString "in")) (.ite (.cmp .In (.var 9) (.var 5)) (.str (PySem.Str.ofString "bye")) (.str (PySem.Str.ofString "no"))))) (.seq (.app (.var 7) (.ite (.cmp .Eq (.var 8) (.str (PySem.Str.ofString "comes"))) (.str (PySem.Str.ofString "in")) (.ite (.cmp .In (.var 9) (.slc (.var 5) .nop (.int 1))) (.str (PySem.Str.ofString "bye")) (.str (PySem.Str.ofString "no"))))) (.seq (.iff (.cmp .Eq (.var 8) (.str (PySem.Str.ofString "comes"))) (.seq (.asg 5 (.slc (.bin .Add (.fr (.lst (.cons (.var 9) .nil))) (.fr (.comp (.nm 11) (.iseq (.var 5)) b_law_right_C1 b_law_right_E1))) .nop (.int 2))) .nil) .nil) .nil)))))
def b_law_right_E2 : E := (.call 38 (.cons (.var 0) (.cons (.fr (.lst (.cons (.int 0) (.cons (.int 7) (.cons (.bin .Pow (.int 10) (.int 9)) (.cons (.int 5) .nil)))))) .nil)))
def b_law_right : DL.S := (.seq (.asg 1 (.bin .Add (.fr (.comp (.nm 10) (.irng (.int 2)) (.bl true) b_law_right_E2)) (.fr (.lst (.cons (.int 11) (.cons (.int 12) (.cons (.int 13) .nil))))))) (.seq (.par 4 5 (.cons (.mu (.lst .nil)) (.cons (.fr (.lst .nil)) .nil))) (.seq (.par 6 7 (.cons (.mu (.lst .nil)) (.cons (.mu (.lst .nil)) .nil))) (.seq (.for_ (.nm 2) (.irng (.bin .Add (.int 3) (.call 37 (.cons (.var 0) (.cons (.int 20) .nil))))) b_law_right_L1) (.seq (.iff (.tor (.cmp .NotEq (.call 34 (.cons (.call 22 .nil) (.cons (.blt .tuple (.cons (.var 4) .nil)) .nil))) (.blt .tuple (.cons (.var 6) .nil))) (.cmp .NotEq (.call 34 (.cons (.call 23 .nil) (.cons (.blt .tuple (.cons (.var 4) .nil)) .nil))) (.blt .tuple (.cons (.var 7) .nil)))) (.seq (.ret (.bl false)) .nil) .nil) (.seq (.asg 3 (.blt .tuple (.cons (.slc (.bin .Add (.var 5) (.fr (.lst (.cons .non (.cons .non .nil))))) .nop (.int 2)) .nil))) (.seq (.iff (.cmp .NotEq (.call 35 (.cons (.call 22 .nil) (.cons (.blt .tuple (.cons (.var 4) .nil)) .nil))) (.tup (.cons (.str (PySem.Str.ofString "calm")) (.cons (.var 3) .nil)))) (.seq (.ret (.bl false)) .nil) .nil) (.seq (.ret (.cmp .Eq (.call 35 (.cons (.call 23 .nil) (.cons (.blt .tuple (.cons (.var 4) .nil)) .nil))) (.tup (.cons (.str (PySem.Str.ofString "calm")) (.cons (.slc (.var 3) .nop (.int 1)) .nil))))) .nil))))))))
def n_law_right : Fn := ⟨(PySem.Str.ofString "_law_right"), (PySem.Str.ofString "_law_right"), [(PySem.Str.ofString "_law_well_here")], [(PySem.Str.ofString "_law_well_here"), (PySem.Str.ofString "_law_folk"), (PySem.Str.ofString "_law_turn"), (PySem.Str.ofString "_law_full"), (PySem.Str.ofString "_law_calls"), (PySem.Str.ofString "_law_last"), (PySem.Str.ofString "_law_due"), (PySem.Str.ofString "_law_less"), (PySem.Str.ofString "_law_ask"), (PySem.Str.ofString "_law_guest"), (PySem.Str.ofString "_law_k"), (PySem.Str.ofString "_law_each")], true, false, b_law_right⟩
def b_law_E1 : E := (.call 39 (.cons (.call 36 (.cons (.var 0) (.cons (.var 4) .nil))) .nil))
def b_law : DL.S := (.seq (.asg 1 (.str t_6)) (.seq (.asg 2 (.str t_5)) (.seq (.asg 2 (.bin .Add (.var 2) (.str t_4))) (.seq (.asg 3 (.str t_3)) (.seq (.asg 3 (.bin .Add (.var 3) (.str (PySem.Str.ofString "any goes stranger: no same 0")))) (.seq (.iff (.cmp .NotEq (.fr (.lst (.cons (.stro (.call 22 .nil)) (.cons (.stro (.call 23 .nil)) .nil)))) (.fr (.lst (.cons (.bin .Add (.bin .Add (.var 1) (.var 2)) (.str (PySem.Str.ofString "any comes 1: in same 1 0"))) (.cons (.bin .Add (.var 1) (.var 3)) .nil))))) (.seq (.ret (.bl false)) .nil) .nil) (.seq (.ret (.blt .all (.cons (.fr (.comp (.nm 4) (.irng (.blt .max (.cons (.int 2) (.cons (.blt .min (.cons (.blt .len (.cons (.var 0) .nil)) (.cons (.int 4) .nil))) .nil)))) (.bl true) b_law_E1)) .nil))) .nil)))))))
def n_law : Fn := ⟨(PySem.Str.ofString "law"), (PySem.Str.ofString "law"), [(PySem.Str.ofString "_law_script")], [(PySem.Str.ofString "_law_script"), (PySem.Str.ofString "_law_head"), (PySem.Str.ofString "_law_two"), (PySem.Str.ofString "_law_lead"), (PySem.Str.ofString "_law_turn")], true, false, b_law⟩
def k_Row : Cl := ⟨(PySem.Str.ofString "Row"), [(PySem.Str.ofString "mood"), (PySem.Str.ofString "wish"), (PySem.Str.ofString "place"), (PySem.Str.ofString "answer"), (PySem.Str.ofString "later"), (PySem.Str.ofString "puts")], [], [((PySem.Str.ofString "fits"), 5)], 4, true⟩
def k_Shape : Cl := ⟨(PySem.Str.ofString "Shape"), [(PySem.Str.ofString "wish_words"), (PySem.Str.ofString "answer_words"), (PySem.Str.ofString "mood_words"), (PySem.Str.ofString "spots")], [], [], 6, true⟩
def k_Book : Cl := ⟨(PySem.Str.ofString "Book"), [(PySem.Str.ofString "wording"), (PySem.Str.ofString "shape"), (PySem.Str.ofString "parts"), (PySem.Str.ofString "noted")], [((PySem.Str.ofString "wishes"), 16), ((PySem.Str.ofString "answers"), 17), ((PySem.Str.ofString "moods"), 18), ((PySem.Str.ofString "places"), 19)], [((PySem.Str.ofString "__str__"), 20)], 15, false⟩
def tab : Tab := ⟨[n_is_integer, n_is_between, n_is_name, n_is_word, n_Row__init, n_Row_fits, n_Shape__init, n_words_in, n_place_in, n_put_in, n_who_in, n_are_puts, n_row_in, n_unless, n_shape_in, n_Book__init, n_Book_wishes, n_Book_answers, n_Book_moods, n_Book_places, n_Book__str, n_check_book, n_sample_book, n_last_book, n_is_person, n_is_visit, n_wrong_visit, n_check_visits, n_first_moment, n_place_of, n_row_for, n_stepped, n_put_there, n_played, n_answered, n_moment, n_law_well, n_law_dip, n_law_one, n_law_right, n_law],
  [k_Row,
   k_Shape,
   k_Book],
  [((PySem.Str.ofString "MOST_WISHES"), (.int (3))), ((PySem.Str.ofString "MOST_ANSWERS"), (.int (4))), ((PySem.Str.ofString "MOST_MOODS"), (.int (50))), ((PySem.Str.ofString "MOST_PLACES"), (.int (3))), ((PySem.Str.ofString "MOST_ROWS"), (.int (800))), ((PySem.Str.ofString "MOST_VISITS"), (.int (200))), ((PySem.Str.ofString "MOST_PERSON"), (.int (1000000000))), ((PySem.Str.ofString "LETTERS"), (.str (PySem.Str.ofString "abcdefghijklmnopqrstuvwxyz"))), ((PySem.Str.ofString "MOST_LETTERS"), (.int (8))), ((PySem.Str.ofString "KEPT_WORDS"), (.tup [(.str (PySem.Str.ofString "any")), (.str (PySem.Str.ofString "same"))])), ((PySem.Str.ofString "HEADS"), (.int (4))), ((PySem.Str.ofString "HEAD"), (.str (PySem.Str.ofString "wishes comes goes\nanswers in no bye\nmoods calm")))]⟩
def lawIx : Nat := 40
def stL : List Stmt := [topS 19, topS 20, topS 21, topS 22, inClass (topS 24) 0, inClass (topS 24) 1, inClass (topS 25) 0, topS 26, topS 27, topS 28, topS 29, topS 30, topS 31, topS 32, topS 35, inClass (topS 36) 0, inClass (topS 36) 2, inClass (topS 36) 3, inClass (topS 36) 4, inClass (topS 36) 5, inClass (topS 36) 14, topS 37, topS 40, topS 41, topS 43, topS 44, topS 45, topS 46, topS 47, topS 48, topS 49, topS 50, topS 51, topS 52, topS 53, topS 54, topS 56, topS 57, topS 58, topS 59, topS 60]
theorem fn_ok : ((tab.fns.zip stL).all fun p => fnChk tab p.1 p.2) = true := by decide +kernel
abbrev wf : Nat := 100
theorem c_is_integer (n : Nat) (x0 : D) (cs : List D) : evCall tab wf (n + 1) 0 [x0] cs = (evS tab (evCall tab wf n) wf b_is_integer [some x0] cs).bind (finO false cs.length) := rfl
theorem c_is_between (n : Nat) (x0 x1 x2 : D) (cs : List D) : evCall tab wf (n + 1) 1 [x0, x1, x2] cs = (evS tab (evCall tab wf n) wf b_is_between [some x0, some x1, some x2] cs).bind (finO false cs.length) := rfl
theorem c_is_name (n : Nat) (x0 : D) (cs : List D) : evCall tab wf (n + 1) 2 [x0] cs = (evS tab (evCall tab wf n) wf b_is_name [some x0, none] cs).bind (finO false cs.length) := rfl
theorem c_is_word (n : Nat) (x0 : D) (cs : List D) : evCall tab wf (n + 1) 3 [x0] cs = (evS tab (evCall tab wf n) wf b_is_word [some x0] cs).bind (finO false cs.length) := rfl
theorem c_Row__init (n : Nat) (x0 x1 x2 x3 x4 x5 x6 : D) (cs : List D) : evCall tab wf (n + 1) 4 [x0, x1, x2, x3, x4, x5, x6] cs = (evS tab (evCall tab wf n) wf b_Row__init [some x0, some x1, some x2, some x3, some x4, some x5, some x6] cs).bind (finO false cs.length) := rfl
theorem c_Row_fits (n : Nat) (x0 x1 x2 x3 : D) (cs : List D) : evCall tab wf (n + 1) 5 [x0, x1, x2, x3] cs = (evS tab (evCall tab wf n) wf b_Row_fits [some x0, some x1, some x2, some x3] cs).bind (finO false cs.length) := rfl
theorem c_Shape__init (n : Nat) (x0 x1 x2 x3 x4 : D) (cs : List D) : evCall tab wf (n + 1) 6 [x0, x1, x2, x3, x4] cs = (evS tab (evCall tab wf n) wf b_Shape__init [some x0, some x1, some x2, some x3, some x4] cs).bind (finO false cs.length) := rfl
theorem c_words_in (n : Nat) (x0 x1 x2 : D) (cs : List D) : evCall tab wf (n + 1) 7 [x0, x1, x2] cs = (evS tab (evCall tab wf n) wf b_words_in [some x0, some x1, some x2, none, none, none] cs).bind (finO false cs.length) := rfl
theorem c_place_in (n : Nat) (x0 x1 : D) (cs : List D) : evCall tab wf (n + 1) 8 [x0, x1] cs = (evS tab (evCall tab wf n) wf b_place_in [some x0, some x1, none] cs).bind (finO false cs.length) := rfl
theorem c_put_in (n : Nat) (x0 x1 : D) (cs : List D) : evCall tab wf (n + 1) 9 [x0, x1] cs = (evS tab (evCall tab wf n) wf b_put_in [some x0, some x1, none] cs).bind (finO false cs.length) := rfl
theorem c_who_in (n : Nat) (x0 x1 : D) (cs : List D) : evCall tab wf (n + 1) 10 [x0, x1] cs = (evS tab (evCall tab wf n) wf b_who_in [some x0, some x1, none] cs).bind (finO false cs.length) := rfl
theorem c_are_puts (n : Nat) (x0 x1 : D) (cs : List D) : evCall tab wf (n + 1) 11 [x0, x1] cs = (evS tab (evCall tab wf n) wf b_are_puts [some x0, some x1, none, none] cs).bind (finO false cs.length) := rfl
theorem c_row_in (n : Nat) (x0 x1 : D) (cs : List D) : evCall tab wf (n + 1) 12 [x0, x1] cs = (evS tab (evCall tab wf n) wf b_row_in [some x0, some x1, none, none, none, none, none, none, none, none, none, none, none] cs).bind (finO false cs.length) := rfl
theorem c_unless (n : Nat) (x0 x1 : D) (cs : List D) : evCall tab wf (n + 1) 13 [x0, x1] cs = (evS tab (evCall tab wf n) wf b_unless [some x0, some x1] cs).bind (finO false cs.length) := rfl
theorem c_shape_in (n : Nat) (x0 : D) (cs : List D) : evCall tab wf (n + 1) 14 [x0] cs = (evS tab (evCall tab wf n) wf b_shape_in [some x0, none, none] cs).bind (finO false cs.length) := rfl
theorem c_Book__init (n : Nat) (x0 x1 : D) (cs : List D) : evCall tab wf (n + 1) 15 [x0, x1] cs = (evS tab (evCall tab wf n) wf b_Book__init [some x0, some x1, none, none, none, none] cs).bind (finO false cs.length) := rfl
theorem c_Book_wishes (n : Nat) (x0 : D) (cs : List D) : evCall tab wf (n + 1) 16 [x0] cs = (evS tab (evCall tab wf n) wf b_Book_wishes [some x0] cs).bind (finO false cs.length) := rfl
theorem c_Book_answers (n : Nat) (x0 : D) (cs : List D) : evCall tab wf (n + 1) 17 [x0] cs = (evS tab (evCall tab wf n) wf b_Book_answers [some x0] cs).bind (finO false cs.length) := rfl
theorem c_Book_moods (n : Nat) (x0 : D) (cs : List D) : evCall tab wf (n + 1) 18 [x0] cs = (evS tab (evCall tab wf n) wf b_Book_moods [some x0] cs).bind (finO false cs.length) := rfl
theorem c_Book_places (n : Nat) (x0 : D) (cs : List D) : evCall tab wf (n + 1) 19 [x0] cs = (evS tab (evCall tab wf n) wf b_Book_places [some x0] cs).bind (finO false cs.length) := rfl
theorem c_Book__str (n : Nat) (x0 : D) (cs : List D) : evCall tab wf (n + 1) 20 [x0] cs = (evS tab (evCall tab wf n) wf b_Book__str [some x0] cs).bind (finO false cs.length) := rfl
theorem c_check_book (n : Nat) (x0 : D) (cs : List D) : evCall tab wf (n + 1) 21 [x0] cs = (evS tab (evCall tab wf n) wf b_check_book [some x0] cs).bind (finO false cs.length) := rfl
theorem c_sample_book (n : Nat) (cs : List D) : evCall tab wf (n + 1) 22 [] cs = (evS tab (evCall tab wf n) wf b_sample_book [none] cs).bind (finO false cs.length) := rfl
theorem c_last_book (n : Nat) (cs : List D) : evCall tab wf (n + 1) 23 [] cs = (evS tab (evCall tab wf n) wf b_last_book [none] cs).bind (finO false cs.length) := rfl
theorem c_is_person (n : Nat) (x0 : D) (cs : List D) : evCall tab wf (n + 1) 24 [x0] cs = (evS tab (evCall tab wf n) wf b_is_person [some x0] cs).bind (finO false cs.length) := rfl
theorem c_is_visit (n : Nat) (x0 x1 : D) (cs : List D) : evCall tab wf (n + 1) 25 [x0, x1] cs = (evS tab (evCall tab wf n) wf b_is_visit [some x0, some x1] cs).bind (finO false cs.length) := rfl
theorem c_wrong_visit (n : Nat) (x0 x1 : D) (cs : List D) : evCall tab wf (n + 1) 26 [x0, x1] cs = (evS tab (evCall tab wf n) wf b_wrong_visit [some x0, some x1, none, none] cs).bind (finO false cs.length) := rfl
theorem c_check_visits (n : Nat) (x0 x1 : D) (cs : List D) : evCall tab wf (n + 1) 27 [x0, x1] cs = (evS tab (evCall tab wf n) wf b_check_visits [some x0, some x1, none] cs).bind (finO false cs.length) := rfl
theorem c_first_moment (n : Nat) (x0 : D) (cs : List D) : evCall tab wf (n + 1) 28 [x0] cs = (evS tab (evCall tab wf n) wf b_first_moment [some x0, none] cs).bind (finO false cs.length) := rfl
theorem c_place_of (n : Nat) (x0 x1 : D) (cs : List D) : evCall tab wf (n + 1) 29 [x0, x1] cs = (evS tab (evCall tab wf n) wf b_place_of [some x0, some x1, none, none] cs).bind (finO false cs.length) := rfl
theorem c_row_for (n : Nat) (x0 x1 x2 x3 : D) (cs : List D) : evCall tab wf (n + 1) 30 [x0, x1, x2, x3] cs = (evS tab (evCall tab wf n) wf b_row_for [some x0, some x1, some x2, some x3, none] cs).bind (finO false cs.length) := rfl
theorem c_stepped (n : Nat) (x0 x1 x2 x3 : D) (cs : List D) : evCall tab wf (n + 1) 31 [x0, x1, x2, x3] cs = (evS tab (evCall tab wf n) wf b_stepped [some x0, some x1, some x2, some x3, none, none, none, none, none] cs).bind (finO false cs.length) := rfl
theorem c_put_there (n : Nat) (x0 x1 x2 : D) (cs : List D) : evCall tab wf (n + 1) 32 [x0, x1, x2] cs = (evS tab (evCall tab wf n) wf b_put_there [some x0, some x1, some x2] cs).bind (finO false cs.length) := rfl
theorem c_played (n : Nat) (x0 x1 x2 : D) (cs : List D) : evCall tab wf (n + 1) 33 [x0, x1, x2] cs = (evS tab (evCall tab wf n) wf b_played [some x0, some x1, some x2, none, none, none, none, none] cs).bind (finO false cs.length) := rfl
theorem c_answered (n : Nat) (x0 x1 : D) (cs : List D) : evCall tab wf (n + 1) 34 [x0, x1] cs = (evS tab (evCall tab wf n) wf b_answered [some x0, some x1] cs).bind (finO false cs.length) := rfl
theorem c_moment (n : Nat) (x0 x1 : D) (cs : List D) : evCall tab wf (n + 1) 35 [x0, x1] cs = (evS tab (evCall tab wf n) wf b_moment [some x0, some x1] cs).bind (finO false cs.length) := rfl
theorem c_law_well (n : Nat) (x0 x1 : D) (cs : List D) : evCall tab wf (n + 1) 36 [x0, x1] cs = (evS tab (evCall tab wf n) wf b_law_well [some x0, some x1, none, none, none] cs).bind (finO true cs.length) := rfl
theorem c_law_dip (n : Nat) (x0 x1 : D) (cs : List D) : evCall tab wf (n + 1) 37 [x0, x1] cs = (evS tab (evCall tab wf n) wf b_law_dip [some x0, some x1, none] cs).bind (finO false cs.length) := rfl
theorem c_law_one (n : Nat) (x0 x1 : D) (cs : List D) : evCall tab wf (n + 1) 38 [x0, x1] cs = (evS tab (evCall tab wf n) wf b_law_one [some x0, some x1] cs).bind (finO false cs.length) := rfl
theorem c_law_right (n : Nat) (x0 : D) (cs : List D) : evCall tab wf (n + 1) 39 [x0] cs = (evS tab (evCall tab wf n) wf b_law_right [some x0, none, none, none, none, none, none, none, none, none, none, none] cs).bind (finO false cs.length) := rfl
theorem c_law (n : Nat) (x0 : D) (cs : List D) : evCall tab wf (n + 1) 40 [x0] cs = (evS tab (evCall tab wf n) wf b_law [some x0, none, none, none, none] cs).bind (finO false cs.length) := rfl
end K06

end

section
set_option Elab.async false
set_option linter.all false
set_option maxRecDepth 100000
set_option maxHeartbeats 4000000
namespace K06
open PySem L2 DL
theorem fin_mk {P : Program} {w : World} {K : PySem.W.Frag} {h : Heap} {mg : Str → Option Value} {fa C0 C1 C2 f0 f1 f2 f3 f4 f5 f6 f7 f8 f9 f10 f11 f12 f13 f14 f15 f16 p16 f17 p17 f18 p18 f19 p19 f20 f21 f22 f23 f24 f25 f26 f27 f28 f29 f30 f31 f32 f33 f34 f35 f36 f37 f38 f39 f40 q9 : Addr} {od0 an0 : Option Addr} {sl0 : Array (Option Value)} {oc0 kV0 dc0 pm0 cd0 ct0 : Value} {od1 an1 : Option Addr} {sl1 : Array (Option Value)} {oc1 kV1 dc1 pm1 cd1 ct1 : Value} {od2 an2 : Option Addr} {sl2 : Array (Option Value)} {oc2 kV2 dc2 pm2 cd2 ct2 : Value} {od3 an3 : Option Addr} {sl3 : Array (Option Value)} {oc3 kV3 dc3 pm3 cd3 ct3 : Value} {od4 an4 : Option Addr} {sl4 : Array (Option Value)} {oc4 kV4 dc4 pm4 cd4 ct4 : Value} {od5 an5 : Option Addr} {sl5 : Array (Option Value)} {oc5 kV5 dc5 pm5 cd5 ct5 : Value} {od6 an6 : Option Addr} {sl6 : Array (Option Value)} {oc6 kV6 dc6 pm6 cd6 ct6 : Value} {od7 an7 : Option Addr} {sl7 : Array (Option Value)} {oc7 kV7 dc7 pm7 cd7 ct7 : Value} {od8 an8 : Option Addr} {sl8 : Array (Option Value)} {oc8 kV8 dc8 pm8 cd8 ct8 : Value} {od9 an9 : Option Addr} {sl9 : Array (Option Value)} {oc9 kV9 dc9 pm9 cd9 ct9 : Value} {od10 an10 : Option Addr} {sl10 : Array (Option Value)} {oc10 kV10 dc10 pm10 cd10 ct10 : Value} {od11 an11 : Option Addr} {sl11 : Array (Option Value)} {oc11 kV11 dc11 pm11 cd11 ct11 : Value} {od12 an12 : Option Addr} {sl12 : Array (Option Value)} {oc12 kV12 dc12 pm12 cd12 ct12 : Value} {od13 an13 : Option Addr} {sl13 : Array (Option Value)} {oc13 kV13 dc13 pm13 cd13 ct13 : Value} {od14 an14 : Option Addr} {sl14 : Array (Option Value)} {oc14 kV14 dc14 pm14 cd14 ct14 : Value} {od15 an15 : Option Addr} {sl15 : Array (Option Value)} {oc15 kV15 dc15 pm15 cd15 ct15 : Value} {r16 : List Value} {od16 an16 : Option Addr} {sl16 : Array (Option Value)} {oc16 kV16 dc16 pm16 cd16 ct16 : Value} {r17 : List Value} {od17 an17 : Option Addr} {sl17 : Array (Option Value)} {oc17 kV17 dc17 pm17 cd17 ct17 : Value} {r18 : List Value} {od18 an18 : Option Addr} {sl18 : Array (Option Value)} {oc18 kV18 dc18 pm18 cd18 ct18 : Value} {r19 : List Value} {od19 an19 : Option Addr} {sl19 : Array (Option Value)} {oc19 kV19 dc19 pm19 cd19 ct19 : Value} {od20 an20 : Option Addr} {sl20 : Array (Option Value)} {oc20 kV20 dc20 pm20 cd20 ct20 : Value} {od21 an21 : Option Addr} {sl21 : Array (Option Value)} {oc21 kV21 dc21 pm21 cd21 ct21 : Value} {od22 an22 : Option Addr} {sl22 : Array (Option Value)} {oc22 kV22 dc22 pm22 cd22 ct22 : Value} {od23 an23 : Option Addr} {sl23 : Array (Option Value)} {oc23 kV23 dc23 pm23 cd23 ct23 : Value} {od24 an24 : Option Addr} {sl24 : Array (Option Value)} {oc24 kV24 dc24 pm24 cd24 ct24 : Value} {od25 an25 : Option Addr} {sl25 : Array (Option Value)} {oc25 kV25 dc25 pm25 cd25 ct25 : Value} {od26 an26 : Option Addr} {sl26 : Array (Option Value)} {oc26 kV26 dc26 pm26 cd26 ct26 : Value} {od27 an27 : Option Addr} {sl27 : Array (Option Value)} {oc27 kV27 dc27 pm27 cd27 ct27 : Value} {od28 an28 : Option Addr} {sl28 : Array (Option Value)} {oc28 kV28 dc28 pm28 cd28 ct28 : Value} {od29 an29 : Option Addr} {sl29 : Array (Option Value)} {oc29 kV29 dc29 pm29 cd29 ct29 : Value} {od30 an30 : Option Addr} {sl30 : Array (Option Value)} {oc30 kV30 dc30 pm30 cd30 ct30 : Value} {od31 an31 : Option Addr} {sl31 : Array (Option Value)} {oc31 kV31 dc31 pm31 cd31 ct31 : Value} {od32 an32 : Option Addr} {sl32 : Array (Option Value)} {oc32 kV32 dc32 pm32 cd32 ct32 : Value} {od33 an33 : Option Addr} {sl33 : Array (Option Value)} {oc33 kV33 dc33 pm33 cd33 ct33 : Value} {od34 an34 : Option Addr} {sl34 : Array (Option Value)} {oc34 kV34 dc34 pm34 cd34 ct34 : Value} {od35 an35 : Option Addr} {sl35 : Array (Option Value)} {oc35 kV35 dc35 pm35 cd35 ct35 : Value} {od36 an36 : Option Addr} {sl36 : Array (Option Value)} {oc36 kV36 dc36 pm36 cd36 ct36 : Value} {od37 an37 : Option Addr} {sl37 : Array (Option Value)} {oc37 kV37 dc37 pm37 cd37 ct37 : Value} {od38 an38 : Option Addr} {sl38 : Array (Option Value)} {oc38 kV38 dc38 pm38 cd38 ct38 : Value} {od39 an39 : Option Addr} {sl39 : Array (Option Value)} {oc39 kV39 dc39 pm39 cd39 ct39 : Value} {od40 an40 : Option Addr} {sl40 : Array (Option Value)} {oc40 kV40 dc40 pm40 cd40 ct40 : Value} {tk0 : Tok} {tk1 : Tok} {tk2 : Tok} {tk3 : Tok} {tk4 : Tok} {tk5 : Tok} {tk6 : Tok} {tk7 : Tok} {tk8 : Tok} {tk9_0 tk9_1 : Tok} {dq9 : Option Addr} {nq9 : Nat} {sq9 : Array (Option Value)} {tk10 : Tok} {tk11 : Tok} (X : K.In h) (G : h.Ns mainGlobals mg) (hfa : mg "law" = some (.ref fa))
    (aC0 : PySem.W.nsIn K mainGlobals "Row" = some (some (.ref C0)))
    (aC1 : PySem.W.nsIn K mainGlobals "Shape" = some (some (.ref C1)))
    (aC2 : PySem.W.nsIn K mainGlobals "Book" = some (some (.ref C2)))
    (a0 : PySem.W.nsIn K mainGlobals "is_integer" = some (some (.ref f0)))
    (l0 : K.lookup f0 = some ⟨oc0, od0, .func (PySem.W.fnOf "is_integer" "is_integer" (defArgs (topS 19)) (defBody (topS 19)) (defScope (topS 19)) .none kV0 dc0 pm0 an0 cd0 ct0), sl0⟩)
    (c0 : PySem.W.codeIn K cd0 "is_integer" = true)
    (k0 : PySem.W.keepIn K (.ref f0) = true)
    (a1 : PySem.W.nsIn K mainGlobals "is_between" = some (some (.ref f1)))
    (l1 : K.lookup f1 = some ⟨oc1, od1, .func (PySem.W.fnOf "is_between" "is_between" (defArgs (topS 20)) (defBody (topS 20)) (defScope (topS 20)) .none kV1 dc1 pm1 an1 cd1 ct1), sl1⟩)
    (c1 : PySem.W.codeIn K cd1 "is_between" = true)
    (k1 : PySem.W.keepIn K (.ref f1) = true)
    (a2 : PySem.W.nsIn K mainGlobals "is_name" = some (some (.ref f2)))
    (l2 : K.lookup f2 = some ⟨oc2, od2, .func (PySem.W.fnOf "is_name" "is_name" (defArgs (topS 21)) (defBody (topS 21)) (defScope (topS 21)) .none kV2 dc2 pm2 an2 cd2 ct2), sl2⟩)
    (c2 : PySem.W.codeIn K cd2 "is_name" = true)
    (k2 : PySem.W.keepIn K (.ref f2) = true)
    (a3 : PySem.W.nsIn K mainGlobals "is_word" = some (some (.ref f3)))
    (l3 : K.lookup f3 = some ⟨oc3, od3, .func (PySem.W.fnOf "is_word" "is_word" (defArgs (topS 22)) (defBody (topS 22)) (defScope (topS 22)) .none kV3 dc3 pm3 an3 cd3 ct3), sl3⟩)
    (c3 : PySem.W.codeIn K cd3 "is_word" = true)
    (k3 : PySem.W.keepIn K (.ref f3) = true)
    (a4 : PySem.W.findIn K (.ref C0) "__init__" = some (some (.ref f4)))
    (i4 : PySem.W.isFn K (.ref f4) = true)
    (l4 : K.lookup f4 = some ⟨oc4, od4, .func (PySem.W.fnOf "__init__" "Row.__init__" (defArgs (inClass (topS 24) 0)) (defBody (inClass (topS 24) 0)) (defScope (inClass (topS 24) 0)) .none kV4 dc4 pm4 an4 cd4 ct4), sl4⟩)
    (c4 : PySem.W.codeIn K cd4 "Row.__init__" = true)
    (k4 : PySem.W.keepIn K (.ref f4) = true)
    (a5 : PySem.W.findIn K (.ref C0) "fits" = some (some (.ref f5)))
    (i5 : PySem.W.isFn K (.ref f5) = true)
    (l5 : K.lookup f5 = some ⟨oc5, od5, .func (PySem.W.fnOf "fits" "Row.fits" (defArgs (inClass (topS 24) 1)) (defBody (inClass (topS 24) 1)) (defScope (inClass (topS 24) 1)) .none kV5 dc5 pm5 an5 cd5 ct5), sl5⟩)
    (c5 : PySem.W.codeIn K cd5 "Row.fits" = true)
    (k5 : PySem.W.keepIn K (.ref f5) = true)
    (a6 : PySem.W.findIn K (.ref C1) "__init__" = some (some (.ref f6)))
    (i6 : PySem.W.isFn K (.ref f6) = true)
    (l6 : K.lookup f6 = some ⟨oc6, od6, .func (PySem.W.fnOf "__init__" "Shape.__init__" (defArgs (inClass (topS 25) 0)) (defBody (inClass (topS 25) 0)) (defScope (inClass (topS 25) 0)) .none kV6 dc6 pm6 an6 cd6 ct6), sl6⟩)
    (c6 : PySem.W.codeIn K cd6 "Shape.__init__" = true)
    (k6 : PySem.W.keepIn K (.ref f6) = true)
    (a7 : PySem.W.nsIn K mainGlobals "words_in" = some (some (.ref f7)))
    (l7 : K.lookup f7 = some ⟨oc7, od7, .func (PySem.W.fnOf "words_in" "words_in" (defArgs (topS 26)) (defBody (topS 26)) (defScope (topS 26)) .none kV7 dc7 pm7 an7 cd7 ct7), sl7⟩)
    (c7 : PySem.W.codeIn K cd7 "words_in" = true)
    (k7 : PySem.W.keepIn K (.ref f7) = true)
    (a8 : PySem.W.nsIn K mainGlobals "place_in" = some (some (.ref f8)))
    (l8 : K.lookup f8 = some ⟨oc8, od8, .func (PySem.W.fnOf "place_in" "place_in" (defArgs (topS 27)) (defBody (topS 27)) (defScope (topS 27)) .none kV8 dc8 pm8 an8 cd8 ct8), sl8⟩)
    (c8 : PySem.W.codeIn K cd8 "place_in" = true)
    (k8 : PySem.W.keepIn K (.ref f8) = true)
    (a9 : PySem.W.nsIn K mainGlobals "put_in" = some (some (.ref f9)))
    (l9 : K.lookup f9 = some ⟨oc9, od9, .func (PySem.W.fnOf "put_in" "put_in" (defArgs (topS 28)) (defBody (topS 28)) (defScope (topS 28)) .none kV9 dc9 pm9 an9 cd9 ct9), sl9⟩)
    (c9 : PySem.W.codeIn K cd9 "put_in" = true)
    (k9 : PySem.W.keepIn K (.ref f9) = true)
    (a10 : PySem.W.nsIn K mainGlobals "who_in" = some (some (.ref f10)))
    (l10 : K.lookup f10 = some ⟨oc10, od10, .func (PySem.W.fnOf "who_in" "who_in" (defArgs (topS 29)) (defBody (topS 29)) (defScope (topS 29)) .none kV10 dc10 pm10 an10 cd10 ct10), sl10⟩)
    (c10 : PySem.W.codeIn K cd10 "who_in" = true)
    (k10 : PySem.W.keepIn K (.ref f10) = true)
    (a11 : PySem.W.nsIn K mainGlobals "are_puts" = some (some (.ref f11)))
    (l11 : K.lookup f11 = some ⟨oc11, od11, .func (PySem.W.fnOf "are_puts" "are_puts" (defArgs (topS 30)) (defBody (topS 30)) (defScope (topS 30)) .none kV11 dc11 pm11 an11 cd11 ct11), sl11⟩)
    (c11 : PySem.W.codeIn K cd11 "are_puts" = true)
    (k11 : PySem.W.keepIn K (.ref f11) = true)
    (a12 : PySem.W.nsIn K mainGlobals "row_in" = some (some (.ref f12)))
    (l12 : K.lookup f12 = some ⟨oc12, od12, .func (PySem.W.fnOf "row_in" "row_in" (defArgs (topS 31)) (defBody (topS 31)) (defScope (topS 31)) .none kV12 dc12 pm12 an12 cd12 ct12), sl12⟩)
    (c12 : PySem.W.codeIn K cd12 "row_in" = true)
    (k12 : PySem.W.keepIn K (.ref f12) = true)
    (a13 : PySem.W.nsIn K mainGlobals "unless" = some (some (.ref f13)))
    (l13 : K.lookup f13 = some ⟨oc13, od13, .func (PySem.W.fnOf "unless" "unless" (defArgs (topS 32)) (defBody (topS 32)) (defScope (topS 32)) .none kV13 dc13 pm13 an13 cd13 ct13), sl13⟩)
    (c13 : PySem.W.codeIn K cd13 "unless" = true)
    (k13 : PySem.W.keepIn K (.ref f13) = true)
    (a14 : PySem.W.nsIn K mainGlobals "shape_in" = some (some (.ref f14)))
    (l14 : K.lookup f14 = some ⟨oc14, od14, .func (PySem.W.fnOf "shape_in" "shape_in" (defArgs (topS 35)) (defBody (topS 35)) (defScope (topS 35)) .none kV14 dc14 pm14 an14 cd14 ct14), sl14⟩)
    (c14 : PySem.W.codeIn K cd14 "shape_in" = true)
    (k14 : PySem.W.keepIn K (.ref f14) = true)
    (a15 : PySem.W.findIn K (.ref C2) "__init__" = some (some (.ref f15)))
    (i15 : PySem.W.isFn K (.ref f15) = true)
    (l15 : K.lookup f15 = some ⟨oc15, od15, .func (PySem.W.fnOf "__init__" "Book.__init__" (defArgs (inClass (topS 36) 0)) (defBody (inClass (topS 36) 0)) (defScope (inClass (topS 36) 0)) .none kV15 dc15 pm15 an15 cd15 ct15), sl15⟩)
    (c15 : PySem.W.codeIn K cd15 "Book.__init__" = true)
    (k15 : PySem.W.keepIn K (.ref f15) = true)
    (a16 : PySem.W.findIn K (.ref C2) "wishes" = some (some (.ref p16)))
    (g16 : PySem.W.specialIn K (.ref p16) "__get__" = some (some (.builtin "property.__get__")))
    (t16 : PySem.W.takesIn K (.ref p16) = some true)
    (r16_ : PySem.W.recIn K p16 "property" = some (.ref f16 :: r16))
    (l16 : K.lookup f16 = some ⟨oc16, od16, .func (PySem.W.fnOf "wishes" "Book.wishes" (defArgs (inClass (topS 36) 2)) (defBody (inClass (topS 36) 2)) (defScope (inClass (topS 36) 2)) .none kV16 dc16 pm16 an16 cd16 ct16), sl16⟩)
    (c16 : PySem.W.codeIn K cd16 "Book.wishes" = true)
    (k16 : PySem.W.keepIn K (.ref f16) = true)
    (a17 : PySem.W.findIn K (.ref C2) "answers" = some (some (.ref p17)))
    (g17 : PySem.W.specialIn K (.ref p17) "__get__" = some (some (.builtin "property.__get__")))
    (t17 : PySem.W.takesIn K (.ref p17) = some true)
    (r17_ : PySem.W.recIn K p17 "property" = some (.ref f17 :: r17))
    (l17 : K.lookup f17 = some ⟨oc17, od17, .func (PySem.W.fnOf "answers" "Book.answers" (defArgs (inClass (topS 36) 3)) (defBody (inClass (topS 36) 3)) (defScope (inClass (topS 36) 3)) .none kV17 dc17 pm17 an17 cd17 ct17), sl17⟩)
    (c17 : PySem.W.codeIn K cd17 "Book.answers" = true)
    (k17 : PySem.W.keepIn K (.ref f17) = true)
    (a18 : PySem.W.findIn K (.ref C2) "moods" = some (some (.ref p18)))
    (g18 : PySem.W.specialIn K (.ref p18) "__get__" = some (some (.builtin "property.__get__")))
    (t18 : PySem.W.takesIn K (.ref p18) = some true)
    (r18_ : PySem.W.recIn K p18 "property" = some (.ref f18 :: r18))
    (l18 : K.lookup f18 = some ⟨oc18, od18, .func (PySem.W.fnOf "moods" "Book.moods" (defArgs (inClass (topS 36) 4)) (defBody (inClass (topS 36) 4)) (defScope (inClass (topS 36) 4)) .none kV18 dc18 pm18 an18 cd18 ct18), sl18⟩)
    (c18 : PySem.W.codeIn K cd18 "Book.moods" = true)
    (k18 : PySem.W.keepIn K (.ref f18) = true)
    (a19 : PySem.W.findIn K (.ref C2) "places" = some (some (.ref p19)))
    (g19 : PySem.W.specialIn K (.ref p19) "__get__" = some (some (.builtin "property.__get__")))
    (t19 : PySem.W.takesIn K (.ref p19) = some true)
    (r19_ : PySem.W.recIn K p19 "property" = some (.ref f19 :: r19))
    (l19 : K.lookup f19 = some ⟨oc19, od19, .func (PySem.W.fnOf "places" "Book.places" (defArgs (inClass (topS 36) 5)) (defBody (inClass (topS 36) 5)) (defScope (inClass (topS 36) 5)) .none kV19 dc19 pm19 an19 cd19 ct19), sl19⟩)
    (c19 : PySem.W.codeIn K cd19 "Book.places" = true)
    (k19 : PySem.W.keepIn K (.ref f19) = true)
    (a20 : PySem.W.findIn K (.ref C2) "__str__" = some (some (.ref f20)))
    (i20 : PySem.W.isFn K (.ref f20) = true)
    (l20 : K.lookup f20 = some ⟨oc20, od20, .func (PySem.W.fnOf "__str__" "Book.__str__" (defArgs (inClass (topS 36) 14)) (defBody (inClass (topS 36) 14)) (defScope (inClass (topS 36) 14)) .none kV20 dc20 pm20 an20 cd20 ct20), sl20⟩)
    (c20 : PySem.W.codeIn K cd20 "Book.__str__" = true)
    (k20 : PySem.W.keepIn K (.ref f20) = true)
    (a21 : PySem.W.nsIn K mainGlobals "check_book" = some (some (.ref f21)))
    (l21 : K.lookup f21 = some ⟨oc21, od21, .func (PySem.W.fnOf "check_book" "check_book" (defArgs (topS 37)) (defBody (topS 37)) (defScope (topS 37)) .none kV21 dc21 pm21 an21 cd21 ct21), sl21⟩)
    (c21 : PySem.W.codeIn K cd21 "check_book" = true)
    (k21 : PySem.W.keepIn K (.ref f21) = true)
    (a22 : PySem.W.nsIn K mainGlobals "sample_book" = some (some (.ref f22)))
    (l22 : K.lookup f22 = some ⟨oc22, od22, .func (PySem.W.fnOf "sample_book" "sample_book" (defArgs (topS 40)) (defBody (topS 40)) (defScope (topS 40)) .none kV22 dc22 pm22 an22 cd22 ct22), sl22⟩)
    (c22 : PySem.W.codeIn K cd22 "sample_book" = true)
    (k22 : PySem.W.keepIn K (.ref f22) = true)
    (a23 : PySem.W.nsIn K mainGlobals "last_book" = some (some (.ref f23)))
    (l23 : K.lookup f23 = some ⟨oc23, od23, .func (PySem.W.fnOf "last_book" "last_book" (defArgs (topS 41)) (defBody (topS 41)) (defScope (topS 41)) .none kV23 dc23 pm23 an23 cd23 ct23), sl23⟩)
    (c23 : PySem.W.codeIn K cd23 "last_book" = true)
    (k23 : PySem.W.keepIn K (.ref f23) = true)
    (a24 : PySem.W.nsIn K mainGlobals "is_person" = some (some (.ref f24)))
    (l24 : K.lookup f24 = some ⟨oc24, od24, .func (PySem.W.fnOf "is_person" "is_person" (defArgs (topS 43)) (defBody (topS 43)) (defScope (topS 43)) .none kV24 dc24 pm24 an24 cd24 ct24), sl24⟩)
    (c24 : PySem.W.codeIn K cd24 "is_person" = true)
    (k24 : PySem.W.keepIn K (.ref f24) = true)
    (a25 : PySem.W.nsIn K mainGlobals "is_visit" = some (some (.ref f25)))
    (l25 : K.lookup f25 = some ⟨oc25, od25, .func (PySem.W.fnOf "is_visit" "is_visit" (defArgs (topS 44)) (defBody (topS 44)) (defScope (topS 44)) .none kV25 dc25 pm25 an25 cd25 ct25), sl25⟩)
    (c25 : PySem.W.codeIn K cd25 "is_visit" = true)
    (k25 : PySem.W.keepIn K (.ref f25) = true)
    (a26 : PySem.W.nsIn K mainGlobals "wrong_visit" = some (some (.ref f26)))
    (l26 : K.lookup f26 = some ⟨oc26, od26, .func (PySem.W.fnOf "wrong_visit" "wrong_visit" (defArgs (topS 45)) (defBody (topS 45)) (defScope (topS 45)) .none kV26 dc26 pm26 an26 cd26 ct26), sl26⟩)
    (c26 : PySem.W.codeIn K cd26 "wrong_visit" = true)
    (k26 : PySem.W.keepIn K (.ref f26) = true)
    (a27 : PySem.W.nsIn K mainGlobals "check_visits" = some (some (.ref f27)))
    (l27 : K.lookup f27 = some ⟨oc27, od27, .func (PySem.W.fnOf "check_visits" "check_visits" (defArgs (topS 46)) (defBody (topS 46)) (defScope (topS 46)) .none kV27 dc27 pm27 an27 cd27 ct27), sl27⟩)
    (c27 : PySem.W.codeIn K cd27 "check_visits" = true)
    (k27 : PySem.W.keepIn K (.ref f27) = true)
    (a28 : PySem.W.nsIn K mainGlobals "first_moment" = some (some (.ref f28)))
    (l28 : K.lookup f28 = some ⟨oc28, od28, .func (PySem.W.fnOf "first_moment" "first_moment" (defArgs (topS 47)) (defBody (topS 47)) (defScope (topS 47)) .none kV28 dc28 pm28 an28 cd28 ct28), sl28⟩)
    (c28 : PySem.W.codeIn K cd28 "first_moment" = true)
    (k28 : PySem.W.keepIn K (.ref f28) = true)
    (a29 : PySem.W.nsIn K mainGlobals "place_of" = some (some (.ref f29)))
    (l29 : K.lookup f29 = some ⟨oc29, od29, .func (PySem.W.fnOf "place_of" "place_of" (defArgs (topS 48)) (defBody (topS 48)) (defScope (topS 48)) .none kV29 dc29 pm29 an29 cd29 ct29), sl29⟩)
    (c29 : PySem.W.codeIn K cd29 "place_of" = true)
    (k29 : PySem.W.keepIn K (.ref f29) = true)
    (a30 : PySem.W.nsIn K mainGlobals "row_for" = some (some (.ref f30)))
    (l30 : K.lookup f30 = some ⟨oc30, od30, .func (PySem.W.fnOf "row_for" "row_for" (defArgs (topS 49)) (defBody (topS 49)) (defScope (topS 49)) .none kV30 dc30 pm30 an30 cd30 ct30), sl30⟩)
    (c30 : PySem.W.codeIn K cd30 "row_for" = true)
    (k30 : PySem.W.keepIn K (.ref f30) = true)
    (a31 : PySem.W.nsIn K mainGlobals "stepped" = some (some (.ref f31)))
    (l31 : K.lookup f31 = some ⟨oc31, od31, .func (PySem.W.fnOf "stepped" "stepped" (defArgs (topS 50)) (defBody (topS 50)) (defScope (topS 50)) .none kV31 dc31 pm31 an31 cd31 ct31), sl31⟩)
    (c31 : PySem.W.codeIn K cd31 "stepped" = true)
    (k31 : PySem.W.keepIn K (.ref f31) = true)
    (a32 : PySem.W.nsIn K mainGlobals "put_there" = some (some (.ref f32)))
    (l32 : K.lookup f32 = some ⟨oc32, od32, .func (PySem.W.fnOf "put_there" "put_there" (defArgs (topS 51)) (defBody (topS 51)) (defScope (topS 51)) .none kV32 dc32 pm32 an32 cd32 ct32), sl32⟩)
    (c32 : PySem.W.codeIn K cd32 "put_there" = true)
    (k32 : PySem.W.keepIn K (.ref f32) = true)
    (a33 : PySem.W.nsIn K mainGlobals "played" = some (some (.ref f33)))
    (l33 : K.lookup f33 = some ⟨oc33, od33, .func (PySem.W.fnOf "played" "played" (defArgs (topS 52)) (defBody (topS 52)) (defScope (topS 52)) .none kV33 dc33 pm33 an33 cd33 ct33), sl33⟩)
    (c33 : PySem.W.codeIn K cd33 "played" = true)
    (k33 : PySem.W.keepIn K (.ref f33) = true)
    (a34 : PySem.W.nsIn K mainGlobals "answered" = some (some (.ref f34)))
    (l34 : K.lookup f34 = some ⟨oc34, od34, .func (PySem.W.fnOf "answered" "answered" (defArgs (topS 53)) (defBody (topS 53)) (defScope (topS 53)) .none kV34 dc34 pm34 an34 cd34 ct34), sl34⟩)
    (c34 : PySem.W.codeIn K cd34 "answered" = true)
    (k34 : PySem.W.keepIn K (.ref f34) = true)
    (a35 : PySem.W.nsIn K mainGlobals "moment" = some (some (.ref f35)))
    (l35 : K.lookup f35 = some ⟨oc35, od35, .func (PySem.W.fnOf "moment" "moment" (defArgs (topS 54)) (defBody (topS 54)) (defScope (topS 54)) .none kV35 dc35 pm35 an35 cd35 ct35), sl35⟩)
    (c35 : PySem.W.codeIn K cd35 "moment" = true)
    (k35 : PySem.W.keepIn K (.ref f35) = true)
    (a36 : PySem.W.nsIn K mainGlobals "_law_well" = some (some (.ref f36)))
    (l36 : K.lookup f36 = some ⟨oc36, od36, .func (PySem.W.fnOf "_law_well" "_law_well" (defArgs (topS 56)) (defBody (topS 56)) (defScope (topS 56)) .none kV36 dc36 pm36 an36 cd36 ct36), sl36⟩)
    (c36 : PySem.W.codeIn K cd36 "_law_well" = true)
    (k36 : PySem.W.keepIn K (.ref f36) = true)
    (a37 : PySem.W.nsIn K mainGlobals "_law_dip" = some (some (.ref f37)))
    (l37 : K.lookup f37 = some ⟨oc37, od37, .func (PySem.W.fnOf "_law_dip" "_law_dip" (defArgs (topS 57)) (defBody (topS 57)) (defScope (topS 57)) .none kV37 dc37 pm37 an37 cd37 ct37), sl37⟩)
    (c37 : PySem.W.codeIn K cd37 "_law_dip" = true)
    (k37 : PySem.W.keepIn K (.ref f37) = true)
    (a38 : PySem.W.nsIn K mainGlobals "_law_one" = some (some (.ref f38)))
    (l38 : K.lookup f38 = some ⟨oc38, od38, .func (PySem.W.fnOf "_law_one" "_law_one" (defArgs (topS 58)) (defBody (topS 58)) (defScope (topS 58)) .none kV38 dc38 pm38 an38 cd38 ct38), sl38⟩)
    (c38 : PySem.W.codeIn K cd38 "_law_one" = true)
    (k38 : PySem.W.keepIn K (.ref f38) = true)
    (a39 : PySem.W.nsIn K mainGlobals "_law_right" = some (some (.ref f39)))
    (l39 : K.lookup f39 = some ⟨oc39, od39, .func (PySem.W.fnOf "_law_right" "_law_right" (defArgs (topS 59)) (defBody (topS 59)) (defScope (topS 59)) .none kV39 dc39 pm39 an39 cd39 ct39), sl39⟩)
    (c39 : PySem.W.codeIn K cd39 "_law_right" = true)
    (k39 : PySem.W.keepIn K (.ref f39) = true)
    (a40 : PySem.W.nsIn K mainGlobals "law" = some (some (.ref f40)))
    (l40 : K.lookup f40 = some ⟨oc40, od40, .func (PySem.W.fnOf "law" "law" (defArgs (topS 60)) (defBody (topS 60)) (defScope (topS 60)) .none kV40 dc40 pm40 an40 cd40 ct40), sl40⟩)
    (c40 : PySem.W.codeIn K cd40 "law" = true)
    (k40 : PySem.W.keepIn K (.ref f40) = true)
    (pgC0 : PySem.W.plainGet K C0 Str.empty = true)
    (hdC0 : PySem.W.hasDictIn K C0 = true)
    (poC0 : PySem.W.plainOver K C0 = true)
    (saC0 : PySem.W.findIn K (.ref C0) "__setattr__" = some (some (.builtin "object.__setattr__")))
    (mkC0 : PySem.W.makesIn K C0 = true)
    (kcC0 : PySem.W.keepIn K (.ref C0) = true)
    (haC0 : PySem.W.findIn K (.ref C0) "__class__" = some (some (.builtin "object.__class__")))
    (hmC0 : PySem.W.mroIn K C0 (.type "object") = some true)
    (eqC0 : PySem.W.findIn K (.ref C0) "__eq__" = some (some (.builtin "object.__eq__")))
    (icC0 : PySem.W.isClsIn K C0 = true)
    (tyC0 : PySem.W.typeIn K (.ref C0) = some (.type "type"))
    (sNoneTypeC0 : PySem.W.subIn K (.type "NoneType") (.ref C0) = some false)
    (sboolC0 : PySem.W.subIn K (.type "bool") (.ref C0) = some false)
    (sintC0 : PySem.W.subIn K (.type "int") (.ref C0) = some false)
    (sstrC0 : PySem.W.subIn K (.type "str") (.ref C0) = some false)
    (slistC0 : PySem.W.subIn K (.type "list") (.ref C0) = some false)
    (stupleC0 : PySem.W.subIn K (.type "tuple") (.ref C0) = some false)
    (sdictC0 : PySem.W.subIn K (.type "dict") (.ref C0) = some false)
    (nC0_mood : PySem.W.findIn K (.ref C0) "mood" = some none)
    (nC0_wish : PySem.W.findIn K (.ref C0) "wish" = some none)
    (nC0_place : PySem.W.findIn K (.ref C0) "place" = some none)
    (nC0_answer : PySem.W.findIn K (.ref C0) "answer" = some none)
    (nC0_later : PySem.W.findIn K (.ref C0) "later" = some none)
    (nC0_puts : PySem.W.findIn K (.ref C0) "puts" = some none)
    (pgC1 : PySem.W.plainGet K C1 Str.empty = true)
    (hdC1 : PySem.W.hasDictIn K C1 = true)
    (poC1 : PySem.W.plainOver K C1 = true)
    (saC1 : PySem.W.findIn K (.ref C1) "__setattr__" = some (some (.builtin "object.__setattr__")))
    (mkC1 : PySem.W.makesIn K C1 = true)
    (kcC1 : PySem.W.keepIn K (.ref C1) = true)
    (haC1 : PySem.W.findIn K (.ref C1) "__class__" = some (some (.builtin "object.__class__")))
    (hmC1 : PySem.W.mroIn K C1 (.type "object") = some true)
    (eqC1 : PySem.W.findIn K (.ref C1) "__eq__" = some (some (.builtin "object.__eq__")))
    (icC1 : PySem.W.isClsIn K C1 = true)
    (tyC1 : PySem.W.typeIn K (.ref C1) = some (.type "type"))
    (sNoneTypeC1 : PySem.W.subIn K (.type "NoneType") (.ref C1) = some false)
    (sboolC1 : PySem.W.subIn K (.type "bool") (.ref C1) = some false)
    (sintC1 : PySem.W.subIn K (.type "int") (.ref C1) = some false)
    (sstrC1 : PySem.W.subIn K (.type "str") (.ref C1) = some false)
    (slistC1 : PySem.W.subIn K (.type "list") (.ref C1) = some false)
    (stupleC1 : PySem.W.subIn K (.type "tuple") (.ref C1) = some false)
    (sdictC1 : PySem.W.subIn K (.type "dict") (.ref C1) = some false)
    (nC1_wish_words : PySem.W.findIn K (.ref C1) "wish_words" = some none)
    (nC1_answer_words : PySem.W.findIn K (.ref C1) "answer_words" = some none)
    (nC1_mood_words : PySem.W.findIn K (.ref C1) "mood_words" = some none)
    (nC1_spots : PySem.W.findIn K (.ref C1) "spots" = some none)
    (pgC2 : PySem.W.plainGet K C2 Str.empty = true)
    (hdC2 : PySem.W.hasDictIn K C2 = true)
    (poC2 : PySem.W.plainOver K C2 = true)
    (saC2 : PySem.W.findIn K (.ref C2) "__setattr__" = some (some (.builtin "object.__setattr__")))
    (mkC2 : PySem.W.makesIn K C2 = true)
    (kcC2 : PySem.W.keepIn K (.ref C2) = true)
    (haC2 : PySem.W.findIn K (.ref C2) "__class__" = some (some (.builtin "object.__class__")))
    (hmC2 : PySem.W.mroIn K C2 (.type "object") = some true)
    (icC2 : PySem.W.isClsIn K C2 = true)
    (tyC2 : PySem.W.typeIn K (.ref C2) = some (.type "type"))
    (sNoneTypeC2 : PySem.W.subIn K (.type "NoneType") (.ref C2) = some false)
    (sboolC2 : PySem.W.subIn K (.type "bool") (.ref C2) = some false)
    (sintC2 : PySem.W.subIn K (.type "int") (.ref C2) = some false)
    (sstrC2 : PySem.W.subIn K (.type "str") (.ref C2) = some false)
    (slistC2 : PySem.W.subIn K (.type "list") (.ref C2) = some false)
    (stupleC2 : PySem.W.subIn K (.type "tuple") (.ref C2) = some false)
    (sdictC2 : PySem.W.subIn K (.type "dict") (.ref C2) = some false)
    (nC2_wording : PySem.W.findIn K (.ref C2) "wording" = some none)
    (nC2_shape : PySem.W.findIn K (.ref C2) "shape" = some none)
    (nC2_parts : PySem.W.findIn K (.ref C2) "parts" = some none)
    (nC2_noted : PySem.W.findIn K (.ref C2) "noted" = some none)
    (z_abs : PySem.W.nsIn K mainGlobals "abs" = some none)
    (z_all : PySem.W.nsIn K mainGlobals "all" = some none)
    (z_any : PySem.W.nsIn K mainGlobals "any" = some none)
    (z_int : PySem.W.nsIn K mainGlobals "int" = some none)
    (z_len : PySem.W.nsIn K mainGlobals "len" = some none)
    (z_max : PySem.W.nsIn K mainGlobals "max" = some none)
    (z_min : PySem.W.nsIn K mainGlobals "min" = some none)
    (z_str : PySem.W.nsIn K mainGlobals "str" = some none)
    (z_tuple : PySem.W.nsIn K mainGlobals "tuple" = some none)
    (z_range : PySem.W.nsIn K mainGlobals "range" = some none)
    (z_enumerate : PySem.W.nsIn K mainGlobals "enumerate" = some none)
    (z_isinstance : PySem.W.nsIn K mainGlobals "isinstance" = some none)
    (z_list : PySem.W.nsIn K mainGlobals "list" = some none)
    (z_bool : PySem.W.nsIn K mainGlobals "bool" = some none)
    (z_dict : PySem.W.nsIn K mainGlobals "dict" = some none)
    (v0 : PySem.W.nsIn K mainGlobals "MOST_WISHES" = some (some (.int 3 tk0)))
    (v1 : PySem.W.nsIn K mainGlobals "MOST_ANSWERS" = some (some (.int 4 tk1)))
    (v2 : PySem.W.nsIn K mainGlobals "MOST_MOODS" = some (some (.int 50 tk2)))
    (v3 : PySem.W.nsIn K mainGlobals "MOST_PLACES" = some (some (.int 3 tk3)))
    (v4 : PySem.W.nsIn K mainGlobals "MOST_ROWS" = some (some (.int 800 tk4)))
    (v5 : PySem.W.nsIn K mainGlobals "MOST_VISITS" = some (some (.int 200 tk5)))
    (v6 : PySem.W.nsIn K mainGlobals "MOST_PERSON" = some (some (.int 1000000000 tk6)))
    (v7 : PySem.W.nsIn K mainGlobals "LETTERS" = some (some (.str (PySem.Str.ofString "abcdefghijklmnopqrstuvwxyz") tk7)))
    (v8 : PySem.W.nsIn K mainGlobals "MOST_LETTERS" = some (some (.int 8 tk8)))
    (v9 : PySem.W.nsIn K mainGlobals "KEPT_WORDS" = some (some (.ref q9)))
    (w9 : K.lookup q9 = some ⟨.type "tuple", dq9, .seq #[.str (PySem.Str.ofString "any") tk9_0, .str (PySem.Str.ofString "same") tk9_1] nq9, sq9⟩)
    (v10 : PySem.W.nsIn K mainGlobals "HEADS" = some (some (.int 4 tk10)))
    (v11 : PySem.W.nsIn K mainGlobals "HEAD" = some (some (.str (PySem.Str.ofString "wishes comes goes\nanswers in no bye\nmoods calm") tk11)))
    (oc1 : PySem.W.specialIn K (.builtin "object.__class__") "__get__" = some (some (.builtin "getset_descriptor.__get__")))
    (oc2 : PySem.W.takesIn K (.builtin "object.__class__") = some true)
    : ∃ fd : FuncData, (∀ (s : Shared) (v : Value), BindsTo s fd ⟨[v], []⟩ [("_law_script", v)]) ∧ ∀ base : Heap, K.In base → base.Ns mainGlobals mg → FnOk P w K mg base CX0 30 fa fd ["_law_script"] (spL tab wf 10 lawIx K) := by
  have e : f40 = fa := by
    have q := hfa.symm.trans (PySem.W.mg_of X G a40)
    cases q
    rfl
  subst e
  have F0 := fun_mk (st := topS 19) l0 c0 k0
  have b0 := F0.binds (ps := ["value"]) fun _ _ _ _ _ _ us hl => match us, hl with | [_], _ => rfl
  have F1 := fun_mk (st := topS 20) l1 c1 k1
  have b1 := F1.binds (ps := ["value", "least", "most"]) fun _ _ _ _ _ _ us hl => match us, hl with | [_, _, _], _ => rfl
  have F2 := fun_mk (st := topS 21) l2 c2 k2
  have b2 := F2.binds (ps := ["value"]) fun _ _ _ _ _ _ us hl => match us, hl with | [_], _ => rfl
  have F3 := fun_mk (st := topS 22) l3 c3 k3
  have b3 := F3.binds (ps := ["value"]) fun _ _ _ _ _ _ us hl => match us, hl with | [_], _ => rfl
  have F4 := fun_mk (st := inClass (topS 24) 0) l4 c4 k4
  have b4 := F4.binds (ps := ["self", "mood", "wish", "place", "answer", "later", "puts"]) fun _ _ _ _ _ _ us hl => match us, hl with | [_, _, _, _, _, _, _], _ => rfl
  have F5 := fun_mk (st := inClass (topS 24) 1) l5 c5 k5
  have b5 := F5.binds (ps := ["self", "mood", "wish", "place"]) fun _ _ _ _ _ _ us hl => match us, hl with | [_, _, _, _], _ => rfl
  have F6 := fun_mk (st := inClass (topS 25) 0) l6 c6 k6
  have b6 := F6.binds (ps := ["self", "wishes", "answers", "moods", "places"]) fun _ _ _ _ _ _ us hl => match us, hl with | [_, _, _, _, _], _ => rfl
  have F7 := fun_mk (st := topS 26) l7 c7 k7
  have b7 := F7.binds (ps := ["line", "head", "most"]) fun _ _ _ _ _ _ us hl => match us, hl with | [_, _, _], _ => rfl
  have F8 := fun_mk (st := topS 27) l8 c8 k8
  have b8 := F8.binds (ps := ["text", "places"]) fun _ _ _ _ _ _ us hl => match us, hl with | [_, _], _ => rfl
  have F9 := fun_mk (st := topS 28) l9 c9 k9
  have b9 := F9.binds (ps := ["text", "places"]) fun _ _ _ _ _ _ us hl => match us, hl with | [_, _], _ => rfl
  have F10 := fun_mk (st := topS 29) l10 c10 k10
  have b10 := F10.binds (ps := ["text", "places"]) fun _ _ _ _ _ _ us hl => match us, hl with | [_, _], _ => rfl
  have F11 := fun_mk (st := topS 30) l11 c11 k11
  have b11 := F11.binds (ps := ["puts", "place"]) fun _ _ _ _ _ _ us hl => match us, hl with | [_, _], _ => rfl
  have F12 := fun_mk (st := topS 31) l12 c12 k12
  have b12 := F12.binds (ps := ["line", "shape"]) fun _ _ _ _ _ _ us hl => match us, hl with | [_, _], _ => rfl
  have F13 := fun_mk (st := topS 32) l13 c13 k13
  have b13 := F13.binds (ps := ["word", "none"]) fun _ _ _ _ _ _ us hl => match us, hl with | [_, _], _ => rfl
  have F14 := fun_mk (st := topS 35) l14 c14 k14
  have b14 := F14.binds (ps := ["lines"]) fun _ _ _ _ _ _ us hl => match us, hl with | [_], _ => rfl
  have F15 := fun_mk (st := inClass (topS 36) 0) l15 c15 k15
  have b15 := F15.binds (ps := ["self", "text"]) fun _ _ _ _ _ _ us hl => match us, hl with | [_, _], _ => rfl
  have F16 := fun_mk (st := inClass (topS 36) 2) l16 c16 k16
  have b16 := F16.binds (ps := ["self"]) fun _ _ _ _ _ _ us hl => match us, hl with | [_], _ => rfl
  have F17 := fun_mk (st := inClass (topS 36) 3) l17 c17 k17
  have b17 := F17.binds (ps := ["self"]) fun _ _ _ _ _ _ us hl => match us, hl with | [_], _ => rfl
  have F18 := fun_mk (st := inClass (topS 36) 4) l18 c18 k18
  have b18 := F18.binds (ps := ["self"]) fun _ _ _ _ _ _ us hl => match us, hl with | [_], _ => rfl
  have F19 := fun_mk (st := inClass (topS 36) 5) l19 c19 k19
  have b19 := F19.binds (ps := ["self"]) fun _ _ _ _ _ _ us hl => match us, hl with | [_], _ => rfl
  have F20 := fun_mk (st := inClass (topS 36) 14) l20 c20 k20
  have b20 := F20.binds (ps := ["self"]) fun _ _ _ _ _ _ us hl => match us, hl with | [_], _ => rfl
  have F21 := fun_mk (st := topS 37) l21 c21 k21
  have b21 := F21.binds (ps := ["value"]) fun _ _ _ _ _ _ us hl => match us, hl with | [_], _ => rfl
  have F22 := fun_mk (st := topS 40) l22 c22 k22
  have b22 := F22.binds (ps := []) fun _ _ _ _ _ _ us hl => match us, hl with | [], _ => rfl
  have F23 := fun_mk (st := topS 41) l23 c23 k23
  have b23 := F23.binds (ps := []) fun _ _ _ _ _ _ us hl => match us, hl with | [], _ => rfl
  have F24 := fun_mk (st := topS 43) l24 c24 k24
  have b24 := F24.binds (ps := ["value"]) fun _ _ _ _ _ _ us hl => match us, hl with | [_], _ => rfl
  have F25 := fun_mk (st := topS 44) l25 c25 k25
  have b25 := F25.binds (ps := ["value", "book"]) fun _ _ _ _ _ _ us hl => match us, hl with | [_, _], _ => rfl
  have F26 := fun_mk (st := topS 45) l26 c26 k26
  have b26 := F26.binds (ps := ["visits", "book"]) fun _ _ _ _ _ _ us hl => match us, hl with | [_, _], _ => rfl
  have F27 := fun_mk (st := topS 46) l27 c27 k27
  have b27 := F27.binds (ps := ["visits", "book"]) fun _ _ _ _ _ _ us hl => match us, hl with | [_, _], _ => rfl
  have F28 := fun_mk (st := topS 47) l28 c28 k28
  have b28 := F28.binds (ps := ["book"]) fun _ _ _ _ _ _ us hl => match us, hl with | [_], _ => rfl
  have F29 := fun_mk (st := topS 48) l29 c29 k29
  have b29 := F29.binds (ps := ["people", "person"]) fun _ _ _ _ _ _ us hl => match us, hl with | [_, _], _ => rfl
  have F30 := fun_mk (st := topS 49) l30 c30 k30
  have b30 := F30.binds (ps := ["book", "mood", "wish", "place"]) fun _ _ _ _ _ _ us hl => match us, hl with | [_, _, _, _], _ => rfl
  have F31 := fun_mk (st := topS 50) l31 c31 k31
  have b31 := F31.binds (ps := ["book", "now", "wish", "person"]) fun _ _ _ _ _ _ us hl => match us, hl with | [_, _, _, _], _ => rfl
  have F32 := fun_mk (st := topS 51) l32 c32 k32
  have b32 := F32.binds (ps := ["people", "person", "put"]) fun _ _ _ _ _ _ us hl => match us, hl with | [_, _, _], _ => rfl
  have F33 := fun_mk (st := topS 52) l33 c33 k33
  have b33 := F33.binds (ps := ["book", "now", "visits"]) fun _ _ _ _ _ _ us hl => match us, hl with | [_, _, _], _ => rfl
  have F34 := fun_mk (st := topS 53) l34 c34 k34
  have b34 := F34.binds (ps := ["book", "visits"]) fun _ _ _ _ _ _ us hl => match us, hl with | [_, _], _ => rfl
  have F35 := fun_mk (st := topS 54) l35 c35 k35
  have b35 := F35.binds (ps := ["book", "visits"]) fun _ _ _ _ _ _ us hl => match us, hl with | [_, _], _ => rfl
  have F36 := fun_mk (st := topS 56) l36 c36 k36
  have b36 := F36.binds (ps := ["_law_script", "_law_turn"]) fun _ _ _ _ _ _ us hl => match us, hl with | [_, _], _ => rfl
  have F37 := fun_mk (st := topS 57) l37 c37 k37
  have b37 := F37.binds (ps := ["_law_well_here", "_law_size"]) fun _ _ _ _ _ _ us hl => match us, hl with | [_, _], _ => rfl
  have F38 := fun_mk (st := topS 58) l38 c38 k38
  have b38 := F38.binds (ps := ["_law_well_here", "_law_menu"]) fun _ _ _ _ _ _ us hl => match us, hl with | [_, _], _ => rfl
  have F39 := fun_mk (st := topS 59) l39 c39 k39
  have b39 := F39.binds (ps := ["_law_well_here"]) fun _ _ _ _ _ _ us hl => match us, hl with | [_], _ => rfl
  have F40 := fun_mk (st := topS 60) l40 c40 k40
  have b40 := F40.binds (ps := ["_law_script"]) fun _ _ _ _ _ _ us hl => match us, hl with | [_], _ => rfl
  obtain ⟨fds, AF, hlaw⟩ : ∃ fds : List FuncData, AllF K mg tab.fns stL [f0, f1, f2, f3, f4, f5, f6, f7, f8, f9, f10, f11, f12, f13, f14, f15, f16, f17, f18, f19, f20, f21, f22, f23, f24, f25, f26, f27, f28, f29, f30, f31, f32, f33, f34, f35, f36, f37, f38, f39, f40] fds ∧ fds.getD lawIx (PySem.W.fnOf "law" "law" (defArgs (topS 60)) (defBody (topS 60)) (defScope (topS 60)) .none kV40 dc40 pm40 an40 cd40 ct40) = (PySem.W.fnOf "law" "law" (defArgs (topS 60)) (defBody (topS 60)) (defScope (topS 60)) .none kV40 dc40 pm40 an40 cd40 ct40) := ⟨_, .cons (fn := n_is_integer) F0 b0 (fun _ => PySem.W.mg_of X G a0) (.cons (fn := n_is_between) F1 b1 (fun _ => PySem.W.mg_of X G a1) (.cons (fn := n_is_name) F2 b2 (fun _ => PySem.W.mg_of X G a2) (.cons (fn := n_is_word) F3 b3 (fun _ => PySem.W.mg_of X G a3) (.cons (fn := n_Row__init) F4 b4 (fun z => by cases z) (.cons (fn := n_Row_fits) F5 b5 (fun z => by cases z) (.cons (fn := n_Shape__init) F6 b6 (fun z => by cases z) (.cons (fn := n_words_in) F7 b7 (fun _ => PySem.W.mg_of X G a7) (.cons (fn := n_place_in) F8 b8 (fun _ => PySem.W.mg_of X G a8) (.cons (fn := n_put_in) F9 b9 (fun _ => PySem.W.mg_of X G a9) (.cons (fn := n_who_in) F10 b10 (fun _ => PySem.W.mg_of X G a10) (.cons (fn := n_are_puts) F11 b11 (fun _ => PySem.W.mg_of X G a11) (.cons (fn := n_row_in) F12 b12 (fun _ => PySem.W.mg_of X G a12) (.cons (fn := n_unless) F13 b13 (fun _ => PySem.W.mg_of X G a13) (.cons (fn := n_shape_in) F14 b14 (fun _ => PySem.W.mg_of X G a14) (.cons (fn := n_Book__init) F15 b15 (fun z => by cases z) (.cons (fn := n_Book_wishes) F16 b16 (fun z => by cases z) (.cons (fn := n_Book_answers) F17 b17 (fun z => by cases z) (.cons (fn := n_Book_moods) F18 b18 (fun z => by cases z) (.cons (fn := n_Book_places) F19 b19 (fun z => by cases z) (.cons (fn := n_Book__str) F20 b20 (fun z => by cases z) (.cons (fn := n_check_book) F21 b21 (fun _ => PySem.W.mg_of X G a21) (.cons (fn := n_sample_book) F22 b22 (fun _ => PySem.W.mg_of X G a22) (.cons (fn := n_last_book) F23 b23 (fun _ => PySem.W.mg_of X G a23) (.cons (fn := n_is_person) F24 b24 (fun _ => PySem.W.mg_of X G a24) (.cons (fn := n_is_visit) F25 b25 (fun _ => PySem.W.mg_of X G a25) (.cons (fn := n_wrong_visit) F26 b26 (fun _ => PySem.W.mg_of X G a26) (.cons (fn := n_check_visits) F27 b27 (fun _ => PySem.W.mg_of X G a27) (.cons (fn := n_first_moment) F28 b28 (fun _ => PySem.W.mg_of X G a28) (.cons (fn := n_place_of) F29 b29 (fun _ => PySem.W.mg_of X G a29) (.cons (fn := n_row_for) F30 b30 (fun _ => PySem.W.mg_of X G a30) (.cons (fn := n_stepped) F31 b31 (fun _ => PySem.W.mg_of X G a31) (.cons (fn := n_put_there) F32 b32 (fun _ => PySem.W.mg_of X G a32) (.cons (fn := n_played) F33 b33 (fun _ => PySem.W.mg_of X G a33) (.cons (fn := n_answered) F34 b34 (fun _ => PySem.W.mg_of X G a34) (.cons (fn := n_moment) F35 b35 (fun _ => PySem.W.mg_of X G a35) (.cons (fn := n_law_well) F36 b36 (fun _ => PySem.W.mg_of X G a36) (.cons (fn := n_law_dip) F37 b37 (fun _ => PySem.W.mg_of X G a37) (.cons (fn := n_law_one) F38 b38 (fun _ => PySem.W.mg_of X G a38) (.cons (fn := n_law_right) F39 b39 (fun _ => PySem.W.mg_of X G a39) (.cons (fn := n_law) F40 b40 (fun _ => PySem.W.mg_of X G a40) (.nil))))))))))))))))))))))))))))))))))))))))), rfl⟩
  have flC0 : ∀ f ∈ k_Row.flds, NoAttr K C0 f := List.forall_mem_cons.mpr ⟨nC0_mood, List.forall_mem_cons.mpr ⟨nC0_wish, List.forall_mem_cons.mpr ⟨nC0_place, List.forall_mem_cons.mpr ⟨nC0_answer, List.forall_mem_cons.mpr ⟨nC0_later, List.forall_mem_cons.mpr ⟨nC0_puts, List.forall_mem_nil _⟩⟩⟩⟩⟩⟩
  have ppC0 : ∀ x ∈ k_Row.props, ∃ p, PropOf K C0 x.1 p (([f0, f1, f2, f3, f4, f5, f6, f7, f8, f9, f10, f11, f12, f13, f14, f15, f16, f17, f18, f19, f20, f21, f22, f23, f24, f25, f26, f27, f28, f29, f30, f31, f32, f33, f34, f35, f36, f37, f38, f39, f40] : List Addr).getD x.2 0) := List.forall_mem_nil _
  have mmC0 : ∀ x ∈ k_Row.meths, Meth K C0 x.1 (([f0, f1, f2, f3, f4, f5, f6, f7, f8, f9, f10, f11, f12, f13, f14, f15, f16, f17, f18, f19, f20, f21, f22, f23, f24, f25, f26, f27, f28, f29, f30, f31, f32, f33, f34, f35, f36, f37, f38, f39, f40] : List Addr).getD x.2 0) := List.forall_mem_cons.mpr ⟨⟨a5, i5, k5⟩, List.forall_mem_nil _⟩
  have CKC0 : ClsOk ⟨K, fun c => ([C0, C1, C2] : List Addr).getD c 0⟩ mg (fun f => ([f0, f1, f2, f3, f4, f5, f6, f7, f8, f9, f10, f11, f12, f13, f14, f15, f16, f17, f18, f19, f20, f21, f22, f23, f24, f25, f26, f27, f28, f29, f30, f31, f32, f33, f34, f35, f36, f37, f38, f39, f40] : List Addr).getD f 0) 0 k_Row := ⟨PySem.W.mg_of X G aC0, ⟨pgC0, hdC0, poC0, saC0⟩, ⟨mkC0, a4, i4, kcC0⟩, fun f h => flC0 f (List.contains_iff_mem.mp h), fun f g h => ppC0 (f, g) (lookup_mem h), fun f g h => mmC0 (f, g) (lookup_mem h), haC0, hmC0, fun z => eqC0, notin_of icC0 tyC0 fun t => by cases t <;> assumption⟩
  have flC1 : ∀ f ∈ k_Shape.flds, NoAttr K C1 f := List.forall_mem_cons.mpr ⟨nC1_wish_words, List.forall_mem_cons.mpr ⟨nC1_answer_words, List.forall_mem_cons.mpr ⟨nC1_mood_words, List.forall_mem_cons.mpr ⟨nC1_spots, List.forall_mem_nil _⟩⟩⟩⟩
  have ppC1 : ∀ x ∈ k_Shape.props, ∃ p, PropOf K C1 x.1 p (([f0, f1, f2, f3, f4, f5, f6, f7, f8, f9, f10, f11, f12, f13, f14, f15, f16, f17, f18, f19, f20, f21, f22, f23, f24, f25, f26, f27, f28, f29, f30, f31, f32, f33, f34, f35, f36, f37, f38, f39, f40] : List Addr).getD x.2 0) := List.forall_mem_nil _
  have mmC1 : ∀ x ∈ k_Shape.meths, Meth K C1 x.1 (([f0, f1, f2, f3, f4, f5, f6, f7, f8, f9, f10, f11, f12, f13, f14, f15, f16, f17, f18, f19, f20, f21, f22, f23, f24, f25, f26, f27, f28, f29, f30, f31, f32, f33, f34, f35, f36, f37, f38, f39, f40] : List Addr).getD x.2 0) := List.forall_mem_nil _
  have CKC1 : ClsOk ⟨K, fun c => ([C0, C1, C2] : List Addr).getD c 0⟩ mg (fun f => ([f0, f1, f2, f3, f4, f5, f6, f7, f8, f9, f10, f11, f12, f13, f14, f15, f16, f17, f18, f19, f20, f21, f22, f23, f24, f25, f26, f27, f28, f29, f30, f31, f32, f33, f34, f35, f36, f37, f38, f39, f40] : List Addr).getD f 0) 1 k_Shape := ⟨PySem.W.mg_of X G aC1, ⟨pgC1, hdC1, poC1, saC1⟩, ⟨mkC1, a6, i6, kcC1⟩, fun f h => flC1 f (List.contains_iff_mem.mp h), fun f g h => ppC1 (f, g) (lookup_mem h), fun f g h => mmC1 (f, g) (lookup_mem h), haC1, hmC1, fun z => eqC1, notin_of icC1 tyC1 fun t => by cases t <;> assumption⟩
  have flC2 : ∀ f ∈ k_Book.flds, NoAttr K C2 f := List.forall_mem_cons.mpr ⟨nC2_wording, List.forall_mem_cons.mpr ⟨nC2_shape, List.forall_mem_cons.mpr ⟨nC2_parts, List.forall_mem_cons.mpr ⟨nC2_noted, List.forall_mem_nil _⟩⟩⟩⟩
  have ppC2 : ∀ x ∈ k_Book.props, ∃ p, PropOf K C2 x.1 p (([f0, f1, f2, f3, f4, f5, f6, f7, f8, f9, f10, f11, f12, f13, f14, f15, f16, f17, f18, f19, f20, f21, f22, f23, f24, f25, f26, f27, f28, f29, f30, f31, f32, f33, f34, f35, f36, f37, f38, f39, f40] : List Addr).getD x.2 0) := List.forall_mem_cons.mpr ⟨⟨p16, a16, g16, t16, _, r16_⟩, List.forall_mem_cons.mpr ⟨⟨p17, a17, g17, t17, _, r17_⟩, List.forall_mem_cons.mpr ⟨⟨p18, a18, g18, t18, _, r18_⟩, List.forall_mem_cons.mpr ⟨⟨p19, a19, g19, t19, _, r19_⟩, List.forall_mem_nil _⟩⟩⟩⟩
  have mmC2 : ∀ x ∈ k_Book.meths, Meth K C2 x.1 (([f0, f1, f2, f3, f4, f5, f6, f7, f8, f9, f10, f11, f12, f13, f14, f15, f16, f17, f18, f19, f20, f21, f22, f23, f24, f25, f26, f27, f28, f29, f30, f31, f32, f33, f34, f35, f36, f37, f38, f39, f40] : List Addr).getD x.2 0) := List.forall_mem_cons.mpr ⟨⟨a20, i20, k20⟩, List.forall_mem_nil _⟩
  have CKC2 : ClsOk ⟨K, fun c => ([C0, C1, C2] : List Addr).getD c 0⟩ mg (fun f => ([f0, f1, f2, f3, f4, f5, f6, f7, f8, f9, f10, f11, f12, f13, f14, f15, f16, f17, f18, f19, f20, f21, f22, f23, f24, f25, f26, f27, f28, f29, f30, f31, f32, f33, f34, f35, f36, f37, f38, f39, f40] : List Addr).getD f 0) 2 k_Book := ⟨PySem.W.mg_of X G aC2, ⟨pgC2, hdC2, poC2, saC2⟩, ⟨mkC2, a15, i15, kcC2⟩, fun f h => flC2 f (List.contains_iff_mem.mp h), fun f g h => ppC2 (f, g) (lookup_mem h), fun f g h => mmC2 (f, g) (lookup_mem h), haC2, hmC2, fun z => (by cases z), notin_of icC2 tyC2 fun t => by cases t <;> assumption⟩
  refine ⟨(PySem.W.fnOf "law" "law" (defArgs (topS 60)) (defBody (topS 60)) (defScope (topS 60)) .none kV40 dc40 pm40 an40 cd40 ct40), fun s v => .of_eq rfl, fun base _ _ => ?_⟩
  rw [← hlaw]
  let S : Sta tab := {
    P := P, w := w, G := ⟨K, fun c => ([C0, C1, C2] : List Addr).getD c 0⟩, mg := mg, base := base, fa := fun f => ([f0, f1, f2, f3, f4, f5, f6, f7, f8, f9, f10, f11, f12, f13, f14, f15, f16, f17, f18, f19, f20, f21, f22, f23, f24, f25, f26, f27, f28, f29, f30, f31, f32, f33, f34, f35, f36, f37, f38, f39, f40] : List Addr).getD f 0, fd := fun f => fds.getD f (PySem.W.fnOf "law" "law" (defArgs (topS 60)) (defBody (topS 60)) (defScope (topS 60)) .none kV40 dc40 pm40 an40 cd40 ct40),
    fmg := (fun f fn hf hg => (AF.get (dS := .Pass ⟨0, 0, 0, 0⟩) (dA := 0) (dD := (PySem.W.fnOf "law" "law" (defArgs (topS 60)) (defBody (topS 60)) (defScope (topS 60)) .none kV40 dc40 pm40 an40 cd40 ct40)) hf).2.2 hg), fkp := (fun f fn hf => (AF.get (dS := .Pass ⟨0, 0, 0, 0⟩) (dA := 0) (dD := (PySem.W.fnOf "law" "law" (defArgs (topS 60)) (defBody (topS 60)) (defScope (topS 60)) .none kV40 dc40 pm40 an40 cd40 ct40)) hf).1.kp), fb := (fun f fn hf => (AF.get (dS := .Pass ⟨0, 0, 0, 0⟩) (dA := 0) (dD := (PySem.W.fnOf "law" "law" (defArgs (topS 60)) (defBody (topS 60)) (defScope (topS 60)) .none kV40 dc40 pm40 an40 cd40 ct40)) hf).2.1),
    cls := (fun c cl h => match c, h with | 0, h => (Option.some.inj h) ▸ CKC0 | 1, h => (Option.some.inj h) ▸ CKC1 | 2, h => (Option.some.inj h) ▸ CKC2 | n + 3, h => (by cases h)),
    con := (fun k p h => match k, h with | 0, h => (Option.some.inj h) ▸ ⟨.int 3, _, PySem.W.mg_of X G v0, ⟨_, rfl⟩, fun F m => .int _⟩ | 1, h => (Option.some.inj h) ▸ ⟨.int 4, _, PySem.W.mg_of X G v1, ⟨_, rfl⟩, fun F m => .int _⟩ | 2, h => (Option.some.inj h) ▸ ⟨.int 50, _, PySem.W.mg_of X G v2, ⟨_, rfl⟩, fun F m => .int _⟩ | 3, h => (Option.some.inj h) ▸ ⟨.int 3, _, PySem.W.mg_of X G v3, ⟨_, rfl⟩, fun F m => .int _⟩ | 4, h => (Option.some.inj h) ▸ ⟨.int 800, _, PySem.W.mg_of X G v4, ⟨_, rfl⟩, fun F m => .int _⟩ | 5, h => (Option.some.inj h) ▸ ⟨.int 200, _, PySem.W.mg_of X G v5, ⟨_, rfl⟩, fun F m => .int _⟩ | 6, h => (Option.some.inj h) ▸ ⟨.int 1000000000, _, PySem.W.mg_of X G v6, ⟨_, rfl⟩, fun F m => .int _⟩ | 7, h => (Option.some.inj h) ▸ ⟨.str (PySem.Str.ofString "abcdefghijklmnopqrstuvwxyz"), _, PySem.W.mg_of X G v7, ⟨_, rfl⟩, fun F m => .str _⟩ | 8, h => (Option.some.inj h) ▸ ⟨.int 8, _, PySem.W.mg_of X G v8, ⟨_, rfl⟩, fun F m => .int _⟩ | 9, h => (Option.some.inj h) ▸ ⟨.ref q9, _, PySem.W.mg_of X G v9, rfl, fun F m => .tup (vs := [.str (PySem.Str.ofString "any"), .str (PySem.Str.ofString "same")]) (.inr ⟨_, _, _, w9, rfl, rfl, (show 2 ≤ sizeLine by decide), .cons ⟨_, rfl⟩ (.cons ⟨_, rfl⟩ (.nil))⟩) (.cons (.str _) (.cons (.str _) (.nil)))⟩ | 10, h => (Option.some.inj h) ▸ ⟨.int 4, _, PySem.W.mg_of X G v10, ⟨_, rfl⟩, fun F m => .int _⟩ | 11, h => (Option.some.inj h) ▸ ⟨.str (PySem.Str.ofString "wishes comes goes\nanswers in no bye\nmoods calm"), _, PySem.W.mg_of X G v11, ⟨_, rfl⟩, fun F m => .str _⟩ | n + 12, h => (by cases h)),
    nob := (fun b => by cases b <;> (first | exact PySem.W.mg_none_of X G z_abs | exact PySem.W.mg_none_of X G z_all | exact PySem.W.mg_none_of X G z_any | exact PySem.W.mg_none_of X G z_int | exact PySem.W.mg_none_of X G z_len | exact PySem.W.mg_none_of X G z_max | exact PySem.W.mg_none_of X G z_min | exact PySem.W.mg_none_of X G z_str | exact PySem.W.mg_none_of X G z_tuple)),
    nobx := List.forall_mem_cons.mpr ⟨PySem.W.mg_none_of X G z_range, List.forall_mem_cons.mpr ⟨PySem.W.mg_none_of X G z_enumerate, List.forall_mem_cons.mpr ⟨PySem.W.mg_none_of X G z_isinstance, List.forall_mem_cons.mpr ⟨PySem.W.mg_none_of X G z_list, List.forall_mem_cons.mpr ⟨PySem.W.mg_none_of X G z_bool, List.forall_mem_cons.mpr ⟨PySem.W.mg_none_of X G z_dict, List.forall_mem_nil _⟩⟩⟩⟩⟩⟩, oc1 := oc1, oc2 := oc2 }
  have TX : Txts S fun f => stL.getD f (.Pass ⟨0, 0, 0, 0⟩) := ⟨fun f fn hf => (AF.get hf).1, fun f fn hf => zip_all fn_ok (by decide) hf⟩
  exact FnOk.weaken ((call_all TX wf 10).ok lawIx n_law rfl) fun vs H Q E q => q _
end K06

end

section
set_option Elab.async false
set_option linter.all false
set_option maxRecDepth 100000
set_option maxHeartbeats 4000000
local macro_rules | `(tactic| walk_at "dl") => `(tactic| simp only [DL.x_var, DL.x_int, DL.x_str, DL.x_bl, DL.x_non, DL.x_glob, DL.x_fr, DL.x_mu, DL.x_bin, DL.x_neg, DL.negD_i, DL.x_cmp, DL.x_chain, DL.x_and, DL.x_or, DL.x_not, DL.x_ite, DL.x_tval, DL.x_tnot, DL.x_tand, DL.x_tor, DL.x_nil, DL.x_cons, DL.x_star, DL.x_lst, DL.x_tup, DL.x_dnil, DL.x_idx, DL.x_slc, DL.x_attr, DL.x_meth, DL.x_call, DL.x_make, DL.x_blt, DL.x_isi, DL.x_isc, DL.x_sm, DL.x_split, DL.x_lof, DL.x_fmt, DL.x_js, DL.x_iseq, DL.x_irng, DL.x_ienum, DL.x_comp, DL.x_dcomp, DL.y_nil, DL.y_pass, DL.y_seq, DL.y_asg, DL.y_unp, DL.y_par, DL.y_ex, DL.y_iff, DL.y_for, DL.y_ret, DL.y_retN, DL.y_seti, DL.y_app, DL.y_setf, DL.onB_t, DL.onB_f, DL.onO_nx, DL.onO_rt, DL.onO_bk, DL.onO_ct, DL.varD_s, DL.lstArgs_s, DL.b_add, DL.b_sub, DL.m_lt, DL.m_le, DL.m_gt, DL.m_ge, DL.m_isN, DL.m_isNN, DL.i_lst, DL.i_rls, DL.i_tup, DL.atI0, DL.atI1, DL.atI2, DL.f_int, DL.f_abs, DL.f_max, DL.f_min, DL.f_lenR, DL.f_lenL, DL.f_lenT, DL.f_tupL, DL.par2_s, DL.enmD_t, DL.enmD_l, DL.lstO_s, DL.lstW_s, DL.i_cell', DL.setiD_c, DL.appD_c, DL.f_tupC', DL.ix0, DL.ix1, DL.ix2, DL.okB_t, DL.finO_rt, DL.finO_nx, DL.finD_k, DL.blw_int, DL.blw_str, DL.blw_non, DL.blw_bl, DL.blw_tup, DL.blw_lst, DL.blwL_nil, DL.blwL_cons, Bool.and_true, Bool.true_and, List.length_cons, List.length_nil, DL.rngD_s, DL.p_nop, DL.p_int, DL.p_neg, DL.p_var, DL.p_glob, DL.p_bin, DL.p_blt, DL.s_rls, DL.s_lst, DL.s_tup, DL.q_lst, DL.q_rls, DL.q_tup, DL.q_str, DL.b_p9, DL.b_p18, DL.bind_nm, DL.sizeD_l, Nat.reduceAdd, Nat.reduceLeDiff, Option.bind_some, Option.map_some, List.getElem?_cons_zero, List.getElem?_cons_succ, List.set_cons_zero, List.set_cons_succ])
local macro_rules | `(tactic| walk_at "dls") => `(tactic| simp only [DL.x_var, DL.x_int, DL.x_str, DL.x_bl, DL.x_non, DL.x_glob, DL.x_fr, DL.x_mu, DL.x_bin, DL.x_neg, DL.negD_i, DL.x_cmp, DL.x_chain, DL.x_and, DL.x_or, DL.x_not, DL.x_ite, DL.x_tval, DL.x_tnot, DL.x_tand, DL.x_tor, DL.x_nil, DL.x_cons, DL.x_star, DL.x_lst, DL.x_tup, DL.x_dnil, DL.x_idx, DL.x_slc, DL.x_attr, DL.x_meth, DL.x_call, DL.x_make, DL.x_blt, DL.x_isi, DL.x_isc, DL.x_sm, DL.x_split, DL.x_lof, DL.x_fmt, DL.x_js, DL.x_iseq, DL.x_irng, DL.x_ienum, DL.x_comp, DL.x_dcomp, DL.y_nil, DL.y_pass, DL.y_seq, DL.y_asg, DL.y_unp, DL.y_par, DL.y_ex, DL.y_iff, DL.y_for, DL.y_ret, DL.y_retN, DL.y_seti, DL.y_app, DL.y_setf, DL.onB_t, DL.onB_f, DL.onO_nx, DL.onO_rt, DL.onO_bk, DL.onO_ct, DL.varD_s, DL.lstArgs_s, DL.b_add, DL.b_sub, DL.m_lt, DL.m_le, DL.m_gt, DL.m_ge, DL.m_isN, DL.m_isNN, DL.i_lst, DL.i_rls, DL.i_tup, DL.atI0, DL.atI1, DL.atI2, DL.f_int, DL.f_abs, DL.f_max, DL.f_min, DL.f_lenR, DL.f_lenL, DL.f_lenT, DL.f_tupL, DL.par2_s, DL.enmD_t, DL.enmD_l, DL.lstO_s, DL.lstW_s, DL.i_cell', DL.setiD_c, DL.appD_c, DL.f_tupC', DL.ix0, DL.ix1, DL.ix2, DL.okB_t, DL.finO_rt, DL.finO_nx, DL.finD_k, DL.blw_int, DL.blw_str, DL.blw_non, DL.blw_bl, DL.blw_tup, DL.blw_lst, DL.blwL_nil, DL.blwL_cons, Bool.and_true, Bool.true_and, List.length_cons, List.length_nil, DL.rngD_s, DL.p_nop, DL.p_int, DL.p_neg, DL.p_var, DL.p_glob, DL.p_bin, DL.p_blt, DL.s_rls, DL.s_lst, DL.s_tup, DL.q_lst, DL.q_rls, DL.q_tup, DL.q_str, DL.b_p9, DL.b_p18, DL.bind_nm, DL.sizeD_l, Nat.reduceAdd, Nat.reduceLeDiff, Option.bind_some, Option.map_some, List.getElem?_cons_zero, List.getElem?_cons_succ, List.set_cons_zero, List.set_cons_succ, List.set_set, List.length_set, DL.b_mod, DL.b_fdiv, DL.b_m16807, DL.b_m6469, DL.b_m577, DL.b_m41, DL.finD_e, DL.onB_d, if_true, if_false, Int.reduceLT, Int.reduceLE, Int.reduceNeg, Nat.reduceLT, Nat.reduceLeDiff, *])
namespace K06
open PySem L2 DL
theorem dip_pos (n : Nat) (w : Nat) (cs : List D) (a b c s : Int) (hw : cs[w]? = some (.lst [.int a, .int b, .int c])) (hs : 0 < s) (hs2 : s < 1073741824) (ha : 0 < a) :
    evCall tab wf (n + 1) 37 [.cell w, .int s] cs = some (.int (a % s), cs.set w (.lst [.int (a / s), .int b, .int (c + 1)])) := by
  have hl : w < cs.length := (List.getElem?_eq_some_iff.mp hw).1
  have e1 : ∀ v : D, (cs.set w v)[w]? = some v := fun v => List.getElem?_set_self hl
  rw [c_law_dip]
  unfold b_law_dip
  walk_at "dls"
theorem dip_neg (n : Nat) (w : Nat) (cs : List D) (a b c s : Int) (hw : cs[w]? = some (.lst [.int a, .int b, .int c])) (hs : 0 < s) (hs2 : s < 1073741824) (ha : ¬ 0 < a) :
    evCall tab wf (n + 1) 37 [.cell w, .int s] cs = some (.int ((b * 16807 + 6469 * (c + 1) + 7) % 2147483647 / 512 % s), cs.set w (.lst [.int a, .int ((b * 16807 + 6469 * (c + 1) + 7) % 2147483647), .int (c + 1)])) := by
  have hl : w < cs.length := (List.getElem?_eq_some_iff.mp hw).1
  have e1 : ∀ v : D, (cs.set w v)[w]? = some v := fun v => List.getElem?_set_self hl
  rw [c_law_dip]
  unfold b_law_dip
  walk_at "dls"

/-- a well stands in cell w -/
def Well (cs : List D) (w : Nat) : Prop := ∃ a b c : Int, cs[w]? = some (.lst [.int a, .int b, .int c])
/-- cs with another well in cell w -/
def Dipped (cs : List D) (w : Nat) (cs' : List D) : Prop := ∃ a b c : Int, cs' = cs.set w (.lst [.int a, .int b, .int c])
theorem Dipped.well {cs cs' : List D} {w : Nat} (hw : Well cs w) (d : Dipped cs w cs') : Well cs' w := by
  obtain ⟨a, b, c, h⟩ := hw
  obtain ⟨a', b', c', rfl⟩ := d
  exact ⟨a', b', c', List.getElem?_set_self (List.getElem?_eq_some_iff.mp h).1⟩
theorem Dipped.trans {cs c1 c2 : List D} {w : Nat} (d : Dipped cs w c1) (e : Dipped c1 w c2) : Dipped cs w c2 := by
  obtain ⟨a', b', c', rfl⟩ := d
  obtain ⟨a, b, c, rfl⟩ := e
  exact ⟨a, b, c, by rw [List.set_set]⟩
theorem dip_ex (n : Nat) {w : Nat} {cs : List D} {s : Int} (hw : Well cs w) (hs : 0 < s) (hs2 : s < 1073741824) :
    ∃ r cs', evCall tab wf (n + 1) 37 [.cell w, .int s] cs = some (.int r, cs') ∧ Dipped cs w cs' ∧ 0 ≤ r ∧ r < s := by
  obtain ⟨a, b, c, h⟩ := hw
  by_cases ha : 0 < a
  · exact ⟨_, _, dip_pos n w cs a b c s h hs hs2 ha, ⟨_, _, _, rfl⟩, Int.emod_nonneg _ (by omega), Int.emod_lt_of_pos _ hs⟩
  · exact ⟨_, _, dip_neg n w cs a b c s h hs hs2 ha, ⟨_, _, _, rfl⟩, Int.emod_nonneg _ (by omega), Int.emod_lt_of_pos _ hs⟩
theorem atI_in {α : Type} {xs : List α} {r : Int} (h0 : 0 ≤ r) (h1 : r < xs.length) : ∃ x, atI xs r = some x ∧ x ∈ xs := by
  obtain ⟨k, rfl⟩ := Int.eq_ofNat_of_zero_le h0
  have hk : k < xs.length := by omega
  refine ⟨xs[k], ?_, List.getElem_mem hk⟩
  unfold atI
  rw [Evl.ixN_nat hk]
  simp [hk]
theorem one_ex (n : Nat) {w : Nat} {cs : List D} {items : List D} (hw : Well cs w) (h0 : items ≠ []) (h1 : items.length < 1000) :
    ∃ d cs', evCall tab wf (n + 2) 38 [.cell w, .lst items] cs = some (d, cs') ∧ Dipped cs w cs' ∧ d ∈ items := by
  have hl : 0 < items.length := List.length_pos_iff.mpr h0
  obtain ⟨r, cs', e, dd, r0, r1⟩ := dip_ex n (s := items.length) hw (by omega) (by omega)
  obtain ⟨x, ex, mx⟩ := atI_in r0 r1
  refine ⟨x, cs', ?_, dd, mx⟩
  have hlen : cs'.length = cs.length := by obtain ⟨_, _, _, rfl⟩ := dd; simp
  rw [c_law_one]
  unfold b_law_one
  walk_at "dls"
theorem slice_map {α : Type} (f : α → D) (l : List α) (lo hi : Option Int) : ∃ ms : List α, sliceL (l.map f) lo hi = ms.map f ∧ ∀ m ∈ ms, m ∈ l := by
  refine ⟨(l.drop (HT.sIx l.length 0 lo)).take (HT.sIx l.length l.length hi - HT.sIx l.length 0 lo), ?_, fun m h => List.mem_of_mem_drop (List.mem_of_mem_take h)⟩
  unfold sliceL
  rw [List.length_map, List.map_take, List.map_drop]
theorem well_loop (n : Nat) (cs : List D) (d0 d2 : Option D) (t : Int) : ∀ (ms : List Int) (s : Int) (o : Option D), ∃ (s' : Int) (o' : Option D),
    forL (evS tab (evCall tab wf n) wf b_law_well_L1) (.nm 4) (ms.map .int) [d0, some (.int t), d2, some (.int s), o] cs = some (.nx [d0, some (.int t), d2, some (.int s'), o'], cs)
  | [], s, o => ⟨s, o, rfl⟩
  | m :: ms, s, o => by
    obtain ⟨s', o', e⟩ := well_loop n cs d0 d2 t ms ((s * 16807 + m % 999983 + t) % 2147483647) (some (.int m))
    refine ⟨s', o', ?_⟩
    rw [List.map_cons, forL_cons]
    unfold b_law_well_L1 at e ⊢
    walk_at "dls"
    simp only [onL_nx, e]
theorem well_ex (n : Nat) {cs : List D} {ns : List Int} {t : Int} (ht : 0 ≤ t) :
    ∃ a b : Int, evCall tab wf (n + 1) 36 [.rls (ns.map .int), .int t] cs = some (.cell cs.length, cs ++ [.lst [.int a, .int b, .int 0]]) := by
  rw [c_law_well]
  unfold b_law_well
  obtain ⟨ms, ems, _⟩ := slice_map D.int ns none (some 8)
  have key : ∃ i : Int, (if t < (ns.map D.int).length then (atI (ns.map D.int) t) else some (.int (41 * t + 3))) = some (.int i) := by
    by_cases h : t < (ns.map D.int).length
    · obtain ⟨x, ex, mx⟩ := atI_in ht h
      obtain ⟨i, hi, rfl⟩ := List.mem_map.mp mx
      exact ⟨i, by rw [if_pos h, ex]⟩
    · exact ⟨_, by rw [if_neg h]⟩
  obtain ⟨i, hi⟩ := key
  obtain ⟨s', o', el⟩ := well_loop n cs (some (.rls (ns.map .int))) (some (.int i)) t ms (9973 + 577 * t) none
  have fin : ∀ j : Int, ∃ a : Int, (if 1000000000000000000 ≤ j then some (.int j, cs) else some (.int 0, cs) : Option (D × List D)) = some (.int a, cs) := fun j => by
    by_cases h : 1000000000000000000 ≤ j
    · exact ⟨j, if_pos h⟩
    · exact ⟨0, if_neg h⟩
  obtain ⟨a, ha⟩ := fin (if i < 0 then -i else i)
  refine ⟨a, (s' * 16807 + i % 999983) % 2147483647, ?_⟩
  by_cases h : t < (ns.map D.int).length
  · rw [if_pos h] at hi
    walk_at "dls"
  · rw [if_neg h] at hi
    cases hi
    walk_at "dls"

def s (x : String) : Str := PySem.Str.ofString x
def rowD (mood wish place answer later : D) (puts : List D) : D := .obj 0 [s "mood", s "wish", s "place", s "answer", s "later", s "puts"] [mood, wish, place, answer, later, .tup puts]
def shapeD (ws as ms : List D) (p : Int) : D := .obj 1 [s "wish_words", s "answer_words", s "mood_words", s "spots"] [.tup ws, .tup as, .tup ms, .int p]
def bookD (text : Str) (shape : D) (rows : List D) : D := .obj 2 [s "wording", s "shape", s "parts", s "noted"] [.str text, shape, .lst rows, .dct [] []]
def ws : List D := [.str (s "comes"), .str (s "goes")]
def as : List D := [.str (s "in"), .str (s "no"), .str (s "bye")]
def ms : List D := [.str (s "calm")]
def txtOf : Option (D × List D) → Str
  | some (.obj _ _ (.str t :: _), _) => t
  | _ => Str.empty
def text2 : Str := txtOf (evCall tab wf 8 22 [] [])
def text1 : Str := txtOf (evCall tab wf 8 23 [] [])
def book2 : D := bookD text2 (shapeD ws as ms 2) [rowD (.str (s "calm")) (.str (s "goes")) .non (.str (s "no")) .non [.int 0, .int 1], rowD (.str (s "calm")) (.str (s "goes")) (.int (-1)) (.str (s "bye")) .non [.int 0, .int 1],
  rowD .non (.str (s "comes")) .non (.str (s "in")) .non [.str (s "him"), .int 0], rowD .non (.str (s "comes")) (.int 1) (.str (s "in")) .non [.int 1, .int 0]]
def book1 : D := bookD text1 (shapeD ws as ms 1) [rowD .non (.str (s "comes")) .non (.str (s "in")) .non [.str (s "him")], rowD .non (.str (s "goes")) (.int (-1)) (.str (s "bye")) .non [.int 0], rowD .non (.str (s "goes")) .non (.str (s "no")) .non [.int 0]]
theorem smp0 : evCall tab wf 8 22 [] [] = some (book2, []) := by kernel_rfl
theorem smp2 (a b : D) : evCall tab wf 8 22 [] [a, b] = some (book2, [a, b]) := by kernel_rfl
theorem lst0 : evCall tab wf 8 23 [] [] = some (book1, []) := by kernel_rfl
end K06

end

section
set_option Elab.async false
set_option linter.all false
set_option maxRecDepth 100000
set_option maxHeartbeats 4000000
namespace K06
open PySem L2 DL
theorem tp2 {i j : Nat} {cs : List D} {x y : D} {δ : Env'} : bindT (.tp [i, j]) cs (.tup [x, y]) δ = some ((δ.set i (some x)).set j (some y)) := rfl
theorem wipe1 {i : Nat} {δ : Env'} : wipeD δ (Tg.nm i).slots = δ.set i none := rfl
theorem nonI {i : Int} : isNonD (.int i) = false := rfl
theorem nonN : isNonD .non = true := rfl
theorem nonO {c : Nat} {ks : List Str} {xs : List D} : isNonD (.obj c ks xs) = false := rfl
section
variable {C : CallF} {cs : List D}
theorem a_later {a b c d e : D} {p : List D} : attrD tab C (rowD a b c d e p) (PySem.Str.ofString "later") cs = some (e, cs) := rfl
theorem a_answer {a b c d e : D} {p : List D} : attrD tab C (rowD a b c d e p) (PySem.Str.ofString "answer") cs = some (d, cs) := rfl
theorem a_puts {a b c d e : D} {p : List D} : attrD tab C (rowD a b c d e p) (PySem.Str.ofString "puts") cs = some (.tup p, cs) := rfl
theorem a_wishes {t : Str} {s : D} {r : List D} : attrD tab C (bookD t s r) (PySem.Str.ofString "wishes") cs = C 16 [bookD t s r] cs := rfl
theorem a_answers {t : Str} {s : D} {r : List D} : attrD tab C (bookD t s r) (PySem.Str.ofString "answers") cs = C 17 [bookD t s r] cs := rfl
theorem a_moods {t : Str} {s : D} {r : List D} : attrD tab C (bookD t s r) (PySem.Str.ofString "moods") cs = C 18 [bookD t s r] cs := rfl
theorem a_places {t : Str} {s : D} {r : List D} : attrD tab C (bookD t s r) (PySem.Str.ofString "places") cs = C 19 [bookD t s r] cs := rfl
theorem eqi {ok : Nat → Bool} {i j : Int} : cmpD ok .Eq cs (.int i) (.int j) = some (decide (i = j)) := by
  show (if SeqAt.shaped (.int i) = true ∧ SeqAt.shaped (.int j) = true then some (PyData.eqv (.int i) (.int j)) else none) = _
  rw [if_pos ⟨by rfl, by rfl⟩]
  show some (i == j) = _
  congr 1
end
theorem enum2 {x y : D} : enumL 0 [x, y] = [.tup [.int 0, x], .tup [.int 1, y]] := rfl
theorem enum1 {x : D} : enumL 0 [x] = [.tup [.int 0, x]] := rfl
local macro_rules | `(tactic| walk_at "dk") => `(tactic| simp only [DL.x_var, DL.x_int, DL.x_str, DL.x_bl, DL.x_non, DL.x_glob, DL.x_fr, DL.x_mu, DL.x_bin, DL.x_neg, DL.negD_i, DL.x_cmp, DL.x_chain, DL.x_and, DL.x_or, DL.x_not, DL.x_ite, DL.x_tval, DL.x_tnot, DL.x_tand, DL.x_tor, DL.x_nil, DL.x_cons, DL.x_star, DL.x_lst, DL.x_tup, DL.x_dnil, DL.x_idx, DL.x_slc, DL.x_attr, DL.x_meth, DL.x_call, DL.x_make, DL.x_blt, DL.x_isi, DL.x_isc, DL.x_sm, DL.x_split, DL.x_lof, DL.x_fmt, DL.x_js, DL.x_iseq, DL.x_irng, DL.x_ienum, DL.x_comp, DL.x_dcomp, DL.y_nil, DL.y_pass, DL.y_seq, DL.y_asg, DL.y_unp, DL.y_par, DL.y_ex, DL.y_iff, DL.y_for, DL.y_ret, DL.y_retN, DL.y_seti, DL.y_app, DL.y_setf, DL.onB_t, DL.onB_f, DL.onO_nx, DL.onO_rt, DL.onO_bk, DL.onO_ct, DL.varD_s, DL.lstArgs_s, DL.b_add, DL.b_sub, DL.m_lt, DL.m_le, DL.m_gt, DL.m_ge, DL.m_isN, DL.m_isNN, DL.i_lst, DL.i_rls, DL.i_tup, DL.atI0, DL.atI1, DL.atI2, DL.f_int, DL.f_abs, DL.f_max, DL.f_min, DL.f_lenR, DL.f_lenL, DL.f_lenT, DL.f_tupL, DL.par2_s, DL.enmD_t, DL.enmD_l, DL.lstO_s, DL.lstW_s, DL.i_cell', DL.setiD_c, DL.appD_c, DL.f_tupC', DL.ix0, DL.ix1, DL.ix2, DL.okB_t, DL.finO_rt, DL.finO_nx, DL.finD_k, DL.blw_int, DL.blw_str, DL.blw_non, DL.blw_bl, DL.blw_tup, DL.blw_lst, DL.blwL_nil, DL.blwL_cons, Bool.and_true, Bool.true_and, List.length_cons, List.length_nil, DL.rngD_s, DL.p_nop, DL.p_int, DL.p_neg, DL.p_var, DL.p_glob, DL.p_bin, DL.p_blt, DL.s_rls, DL.s_lst, DL.s_tup, DL.q_lst, DL.q_rls, DL.q_tup, DL.q_str, DL.b_p9, DL.b_p18, DL.bind_nm, DL.sizeD_l, Nat.reduceAdd, Nat.reduceLeDiff, Option.bind_some, Option.map_some, List.getElem?_cons_zero, List.getElem?_cons_succ, List.set_cons_zero, List.set_cons_succ, List.set_set, List.length_set, DL.b_mod, DL.b_fdiv, DL.b_m16807, DL.b_m6469, DL.b_m577, DL.b_m41, DL.finD_e, DL.onB_d, if_true, if_false, Int.reduceLT, Int.reduceLE, Int.reduceNeg, Nat.reduceLT, Nat.reduceLeDiff, K06.tp2, K06.wipe1, K06.nonI, K06.nonN, K06.nonO, K06.a_later, K06.a_answer, K06.a_puts, K06.a_wishes, K06.a_answers, K06.a_moods, K06.a_places, DL.turnC, DL.compL_cons, DL.compL_nil, DL.forL_cons, DL.forL_nil, DL.onL_nx, DL.onL_rt, DL.onL_ct, Bool.not_true, Bool.not_false, K06.eqi, K06.enum2, K06.enum1, *])

def oD : Option Int → D
  | none => .non
  | some i => .int i
/-- where somebody stands -/
def plc : List (Option Int) → Int → Nat → D
  | [], _, _ => .non
  | p :: ps, g, i => if p = some g then .int i else plc ps g (i + 1)
theorem place2 (n : Nat) (cs : List D) (x y : Option Int) (g : Int) : evCall tab wf (n + 1) 29 [.tup [oD x, oD y], .int g] cs = some (plc [x, y] g 0, cs) := by
  rw [c_place_of]
  unfold b_place_of b_place_of_L1
  cases x with
  | none => cases y with
    | none => simp only [oD]; walk_at "dk"; simp [plc]
    | some y => by_cases h : y = g <;> simp only [oD] <;> walk_at "dk" <;> simp [plc, h]
  | some x => by_cases hx : x = g
              · simp only [oD]; walk_at "dk"; simp [plc, hx]
              · cases y with
                | none => simp only [oD]; walk_at "dk"; simp [plc, hx]
                | some y => by_cases h : y = g <;> simp only [oD] <;> walk_at "dk" <;> simp [plc, h, hx]
theorem place1 (n : Nat) (cs : List D) (x : Option Int) (g : Int) : evCall tab wf (n + 1) 29 [.tup [oD x], .int g] cs = some (plc [x] g 0, cs) := by
  rw [c_place_of]
  unfold b_place_of b_place_of_L1
  cases x with
  | none => simp only [oD]; walk_at "dk"; simp [plc]
  | some x => by_cases hx : x = g <;> simp only [oD] <;> walk_at "dk" <;> simp [plc, hx]
theorem small {P : List D → Prop} (h0 : P []) (h1 : ∀ a, P [a]) (h2 : ∀ a b, P [a, b]) (h3 : ∀ a b c, P [a, b, c]) (h4 : ∀ a b c d, P [a, b, c, d])
    (h5 : ∀ a b c d e, P [a, b, c, d, e]) (h6 : ∀ a b c d e f, P [a, b, c, d, e, f]) (h7 : ∀ a b c d e f g, P [a, b, c, d, e, f, g]) (h8 : ∀ a b c d e f g h, P [a, b, c, d, e, f, g, h]) :
    ∀ cs : List D, cs.length ≤ 8 → P cs
  | [], _ => h0 | [a], _ => h1 a | [a, b], _ => h2 a b | [a, b, c], _ => h3 a b c | [a, b, c, d], _ => h4 a b c d | [a, b, c, d, e], _ => h5 a b c d e
  | [a, b, c, d, e, f], _ => h6 a b c d e f | [a, b, c, d, e, f, g], _ => h7 a b c d e f g | [a, b, c, d, e, f, g, h], _ => h8 a b c d e f g h
  | _ :: _ :: _ :: _ :: _ :: _ :: _ :: _ :: _ :: _, h => by simp only [List.length_cons] at h; omega
theorem smp (n : Nat) : ∀ cs : List D, cs.length ≤ 8 → evCall tab wf (n + 8) 22 [] cs = some (book2, cs) := small (by kernel_rfl) (by intros; kernel_rfl) (by intros; kernel_rfl) (by intros; kernel_rfl) (by intros; kernel_rfl) (by intros; kernel_rfl) (by intros; kernel_rfl) (by intros; kernel_rfl) (by intros; kernel_rfl)
theorem lstb (n : Nat) : ∀ cs : List D, cs.length ≤ 8 → evCall tab wf (n + 8) 23 [] cs = some (book1, cs) := small (by kernel_rfl) (by intros; kernel_rfl) (by intros; kernel_rfl) (by intros; kernel_rfl) (by intros; kernel_rfl) (by intros; kernel_rfl) (by intros; kernel_rfl) (by intros; kernel_rfl) (by intros; kernel_rfl)
end K06

end

section
set_option Elab.async false
set_option linter.all false
set_option maxRecDepth 100000
set_option maxHeartbeats 4000000
namespace K06
open PySem L2 DL
theorem nonR {a b c d e : D} {p : List D} : isNonD (rowD a b c d e p) = false := rfl
theorem isi_ii {cs : List D} {g : Int} : isiD cs (.int g) .int = some (.bl true) := rfl
theorem isi_ib {cs : List D} {g : Int} : isiD cs (.int g) .bool = some (.bl false) := rfl
theorem isi_tt {cs : List D} {g : List D} : isiD cs (.tup g) .tuple = some (.bl true) := rfl
theorem isi_ss {cs : List D} {g : Str} : isiD cs (.str g) .str = some (.bl true) := rfl
theorem tru_b {cs : List D} {b : Bool} : truD cs (.bl b) = some b := rfl
theorem tru_t0 {cs : List D} : truD cs (.tup []) = some false := rfl
theorem nei {cs : List D} {ok : Nat → Bool} {i j : Int} : cmpD ok .NotEq cs (.int i) (.int j) = some (!decide (i = j)) := by
  show (cmpD ok .Eq cs (.int i) (.int j)).map (!·) = _
  rw [eqi]; rfl
local macro_rules | `(tactic| walk_at "dr") => `(tactic| simp only [DL.x_var, DL.x_int, DL.x_str, DL.x_bl, DL.x_non, DL.x_glob, DL.x_fr, DL.x_mu, DL.x_bin, DL.x_neg, DL.negD_i, DL.x_cmp, DL.x_chain, DL.x_and, DL.x_or, DL.x_not, DL.x_ite, DL.x_tval, DL.x_tnot, DL.x_tand, DL.x_tor, DL.x_nil, DL.x_cons, DL.x_star, DL.x_lst, DL.x_tup, DL.x_dnil, DL.x_idx, DL.x_slc, DL.x_attr, DL.x_meth, DL.x_call, DL.x_make, DL.x_blt, DL.x_isi, DL.x_isc, DL.x_sm, DL.x_split, DL.x_lof, DL.x_fmt, DL.x_js, DL.x_iseq, DL.x_irng, DL.x_ienum, DL.x_comp, DL.x_dcomp, DL.y_nil, DL.y_pass, DL.y_seq, DL.y_asg, DL.y_unp, DL.y_par, DL.y_ex, DL.y_iff, DL.y_for, DL.y_ret, DL.y_retN, DL.y_seti, DL.y_app, DL.y_setf, DL.onB_t, DL.onB_f, DL.onO_nx, DL.onO_rt, DL.onO_bk, DL.onO_ct, DL.varD_s, DL.lstArgs_s, DL.b_add, DL.b_sub, DL.m_lt, DL.m_le, DL.m_gt, DL.m_ge, DL.m_isN, DL.m_isNN, DL.i_lst, DL.i_rls, DL.i_tup, DL.atI0, DL.atI1, DL.atI2, DL.f_int, DL.f_abs, DL.f_max, DL.f_min, DL.f_lenR, DL.f_lenL, DL.f_lenT, DL.f_tupL, DL.par2_s, DL.enmD_t, DL.enmD_l, DL.lstO_s, DL.lstW_s, DL.i_cell', DL.setiD_c, DL.appD_c, DL.f_tupC', DL.ix0, DL.ix1, DL.ix2, DL.okB_t, DL.finO_rt, DL.finO_nx, DL.finD_k, DL.blw_int, DL.blw_str, DL.blw_non, DL.blw_bl, DL.blw_tup, DL.blw_lst, DL.blwL_nil, DL.blwL_cons, Bool.and_true, Bool.true_and, List.length_cons, List.length_nil, DL.rngD_s, DL.p_nop, DL.p_int, DL.p_neg, DL.p_var, DL.p_glob, DL.p_bin, DL.p_blt, DL.s_rls, DL.s_lst, DL.s_tup, DL.q_lst, DL.q_rls, DL.q_tup, DL.q_str, DL.b_p9, DL.b_p18, DL.bind_nm, DL.sizeD_l, Nat.reduceAdd, Nat.reduceLeDiff, Option.bind_some, Option.map_some, List.getElem?_cons_zero, List.getElem?_cons_succ, List.set_cons_zero, List.set_cons_succ, List.set_set, List.length_set, DL.b_mod, DL.b_fdiv, DL.b_m16807, DL.b_m6469, DL.b_m577, DL.b_m41, DL.finD_e, DL.onB_d, if_true, if_false, Int.reduceLT, Int.reduceLE, Int.reduceNeg, Nat.reduceLT, Nat.reduceLeDiff, K06.tp2, K06.wipe1, K06.nonI, K06.nonN, K06.nonR, K06.a_later, K06.a_answer, K06.a_puts, DL.turnC, DL.compL_cons, DL.compL_nil, DL.forL_cons, DL.forL_nil, DL.onL_nx, DL.onL_rt, DL.onL_ct, Bool.not_true, Bool.not_false, K06.eqi, K06.isi_ii, K06.isi_ib, K06.isi_tt, K06.isi_ss, K06.tru_b, K06.nei, Option.bind_none, K06.tru_t0, *])

theorem isint (n : Nat) (cs : List D) (g : Int) : evCall tab wf (n + 1) 0 [.int g] cs = some (.bl true, cs) := by
  rw [c_is_integer]
  unfold b_is_integer
  walk_at "dr"
theorem isbet (n : Nat) (cs : List D) (g : Int) (h0 : 0 ≤ g) (h1 : g ≤ 1000000000) : evCall tab wf (n + 2) 1 [.int g, .int 0, .int 1000000000] cs = some (.bl true, cs) := by
  have e := isint n cs g
  rw [c_is_between]
  unfold b_is_between
  walk_at "dr"
  simp only [decide_true, h1]
theorem isper (n : Nat) (cs : List D) (g : Int) (h0 : 0 ≤ g) (h1 : g ≤ 1000000000) : evCall tab wf (n + 3) 24 [.int g] cs = some (.bl true, cs) := by
  have e := isbet n cs g h0 h1
  have e2 : tab.cons[6]? = some (PySem.Str.ofString "MOST_PERSON", .int 1000000000) := rfl
  rw [c_is_person]
  unfold b_is_person
  walk_at "dr"
def wishD (w : Bool) : D := if w then .str (PySem.Str.ofString "comes") else .str (PySem.Str.ofString "goes")
def visD (v : Bool × Int) : D := .tup [wishD v.1, .int v.2]
/-- what a book is to the checks -/
structure Bk (B : D) (a0 : D) (rest : List D) : Prop where
  h16 : ∀ C cs, attrD tab C B (PySem.Str.ofString "wishes") cs = C 16 [B] cs
  c16 : ∀ n cs, evCall tab wf (n + 1) 16 [B] cs = some (.tup ws, cs)
  h17 : ∀ C cs, attrD tab C B (PySem.Str.ofString "answers") cs = C 17 [B] cs
  c17 : ∀ n cs, evCall tab wf (n + 1) 17 [B] cs = some (.tup (a0 :: rest), cs)
  c21 : ∀ n cs, evCall tab wf (n + 1) 21 [B] cs = some (.non, cs)
theorem fin_rt {b : DL.S} {C : CallF} {δ : Env'} {cs : List D} {d : D} (h : evS tab C wf b δ cs = some (.rt d, cs)) : (evS tab C wf b δ cs).bind (finO false cs.length) = some (d, cs) := by
  rw [h, Option.bind_some, finO_rt]; exact finD_e rfl
theorem fin_nx {b : DL.S} {C : CallF} {δ δ' : Env'} {cs : List D} (h : evS tab C wf b δ cs = some (.nx δ', cs)) : (evS tab C wf b δ cs).bind (finO false cs.length) = some (.non, cs) := by
  rw [h, Option.bind_some, finO_nx]; exact finD_e rfl
theorem bk2 : Bk book2 (.str (PySem.Str.ofString "in")) [.str (PySem.Str.ofString "no"), .str (PySem.Str.ofString "bye")] := ⟨fun _ _ => rfl, fun n cs => by rw [c_Book_wishes]; exact fin_rt rfl, fun _ _ => rfl, fun n cs => by rw [c_Book_answers]; exact fin_rt rfl, fun n cs => by rw [c_check_book]; exact fin_nx rfl⟩
theorem bk1 : Bk book1 (.str (PySem.Str.ofString "in")) [.str (PySem.Str.ofString "no"), .str (PySem.Str.ofString "bye")] := ⟨fun _ _ => rfl, fun n cs => by rw [c_Book_wishes]; exact fin_rt rfl, fun _ _ => rfl, fun n cs => by rw [c_Book_answers]; exact fin_rt rfl, fun n cs => by rw [c_check_book]; exact fin_nx rfl⟩
theorem inw (cs : List D) (w : Bool) : cmpD (okC tab) .In cs (wishD w) (.tup ws) = some true := by cases w <;> rfl
theorem isi_w (cs : List D) (w : Bool) : isiD cs (wishD w) .str = some (.bl true) := by cases w <;> rfl
theorem isvis (n : Nat) (cs : List D) {B a0 : D} {rest : List D} (hB : Bk B a0 rest) (w : Bool) (g : Int) (h0 : 0 ≤ g) (h1 : g ≤ 1000000000) : evCall tab wf (n + 4) 25 [visD (w, g), B] cs = some (.bl true, cs) := by
  have e := isper n cs g h0 h1
  have a1 := hB.h16
  have a2 : ∀ cs, evCall tab wf (n + 3) 16 [B] cs = some (.tup ws, cs) := hB.c16 (n + 2)
  have e22 : (!decide (((2 : Nat) : Int) = 2)) = false := by decide
  have a3 := inw
  have a4 := isi_w
  rw [c_is_visit]
  unfold b_is_visit visD
  walk_at "dr"
theorem wrong_loop (n : Nat) (cs : List D) {B a0 : D} {rest : List D} (hB : Bk B a0 rest) (d0 : Option D) : ∀ (vs : List (Bool × Int)) (i : Nat) (o2 o3 : Option D), (∀ v ∈ vs, 0 ≤ v.2 ∧ v.2 ≤ 1000000000) → i + vs.length ≤ 200 →
    ∃ o2' o3', forL (evS tab (evCall tab wf (n + 4)) wf b_wrong_visit_L1) (.tp [2, 3]) (enumL i (vs.map visD)) [d0, some B, o2, o3] cs = some (.nx [d0, some B, o2', o3'], cs)
  | [], i, o2, o3, _, _ => ⟨o2, o3, rfl⟩
  | (w, g) :: vs, i, o2, o3, hv, hi => by
    obtain ⟨o2', o3', e⟩ := wrong_loop n cs hB d0 vs (i + 1) (some (.int i)) (some (visD (w, g))) (fun v m => hv v (List.mem_cons_of_mem _ m)) (by simp only [List.length_cons] at hi; omega)
    refine ⟨o2', o3', ?_⟩
    have hg := hv _ List.mem_cons_self
    have e1 := isvis n cs hB w g hg.1 hg.2
    have e2 : tab.cons[5]? = some (PySem.Str.ofString "MOST_VISITS", .int 200) := rfl
    have e3 : ¬ ((i : Int) = 200) := by simp only [List.length_cons] at hi; omega
    rw [List.map_cons, enumL, forL_cons]
    unfold b_wrong_visit_L1 at e ⊢
    walk_at "dr"
theorem chkvis (n : Nat) (cs : List D) {B a0 : D} {rest : List D} (hB : Bk B a0 rest) (vs : List (Bool × Int)) (hv : ∀ v ∈ vs, 0 ≤ v.2 ∧ v.2 ≤ 1000000000) (hl : vs.length ≤ 200) :
    evCall tab wf (n + 6) 27 [.tup (vs.map visD), B] cs = some (.non, cs) := by
  obtain ⟨o2', o3', e⟩ := wrong_loop n cs hB (some (.tup (vs.map visD))) vs 0 none none hv (by omega)
  have e1 : evCall tab wf (n + 5) 26 [.tup (vs.map visD), B] cs = some (.tup [], cs) := by
    rw [c_wrong_visit]
    unfold b_wrong_visit
    walk_at "dr"
  rw [c_check_visits]
  unfold b_check_visits
  walk_at "dr"
theorem stepN (n : Nat) (cs : List D) {B a0 : D} {rest : List D} (hB : Bk B a0 rest) (mood w g pl : D) (people : List D) (hp : evCall tab wf (n + 1) 29 [.tup people, g] cs = some (pl, cs))
    (hr : evCall tab wf (n + 1) 30 [B, mood, w, pl] cs = some (.non, cs)) : evCall tab wf (n + 2) 31 [B, .tup [mood, .tup people], w, g] cs = some (.tup [a0, .tup [mood, .tup people]], cs) := by
  have a1 := hB.h17
  have a2 := hB.c17
  rw [c_stepped]
  unfold b_stepped b_stepped_E1
  walk_at "dr"
theorem stepS2 (n : Nat) (cs : List D) (B mood w g pl : D) (people : List D) (m1 w1 p1 a x1 x2 q1 q2 : D) (hp : evCall tab wf (n + 1) 29 [.tup people, g] cs = some (pl, cs))
    (hr : evCall tab wf (n + 1) 30 [B, mood, w, pl] cs = some (rowD m1 w1 p1 a .non [x1, x2], cs)) (h1 : evCall tab wf (n + 1) 32 [.tup people, g, x1] cs = some (q1, cs)) (h2 : evCall tab wf (n + 1) 32 [.tup people, g, x2] cs = some (q2, cs)) :
    evCall tab wf (n + 2) 31 [B, .tup [mood, .tup people], w, g] cs = some (.tup [a, .tup [mood, .tup [q1, q2]]], cs) := by
  rw [c_stepped]
  unfold b_stepped b_stepped_E1
  walk_at "dr"
theorem stepS1 (n : Nat) (cs : List D) (B mood w g pl : D) (people : List D) (m1 w1 p1 a x1 q1 : D) (hp : evCall tab wf (n + 1) 29 [.tup people, g] cs = some (pl, cs))
    (hr : evCall tab wf (n + 1) 30 [B, mood, w, pl] cs = some (rowD m1 w1 p1 a .non [x1], cs)) (h1 : evCall tab wf (n + 1) 32 [.tup people, g, x1] cs = some (q1, cs)) :
    evCall tab wf (n + 2) 31 [B, .tup [mood, .tup people], w, g] cs = some (.tup [a, .tup [mood, .tup [q1]]], cs) := by
  rw [c_stepped]
  unfold b_stepped b_stepped_E1
  walk_at "dr"
end K06

end

section
set_option Elab.async false
set_option linter.all false
set_option maxRecDepth 100000
set_option maxHeartbeats 4000000
namespace K06
open PySem L2 DL
local macro_rules | `(tactic| walk_at "dr") => `(tactic| simp only [DL.x_var, DL.x_int, DL.x_str, DL.x_bl, DL.x_non, DL.x_glob, DL.x_fr, DL.x_mu, DL.x_bin, DL.x_neg, DL.negD_i, DL.x_cmp, DL.x_chain, DL.x_and, DL.x_or, DL.x_not, DL.x_ite, DL.x_tval, DL.x_tnot, DL.x_tand, DL.x_tor, DL.x_nil, DL.x_cons, DL.x_star, DL.x_lst, DL.x_tup, DL.x_dnil, DL.x_idx, DL.x_slc, DL.x_attr, DL.x_meth, DL.x_call, DL.x_make, DL.x_blt, DL.x_isi, DL.x_isc, DL.x_sm, DL.x_split, DL.x_lof, DL.x_fmt, DL.x_js, DL.x_iseq, DL.x_irng, DL.x_ienum, DL.x_comp, DL.x_dcomp, DL.y_nil, DL.y_pass, DL.y_seq, DL.y_asg, DL.y_unp, DL.y_par, DL.y_ex, DL.y_iff, DL.y_for, DL.y_ret, DL.y_retN, DL.y_seti, DL.y_app, DL.y_setf, DL.onB_t, DL.onB_f, DL.onO_nx, DL.onO_rt, DL.onO_bk, DL.onO_ct, DL.varD_s, DL.lstArgs_s, DL.b_add, DL.b_sub, DL.m_lt, DL.m_le, DL.m_gt, DL.m_ge, DL.m_isN, DL.m_isNN, DL.i_lst, DL.i_rls, DL.i_tup, DL.atI0, DL.atI1, DL.atI2, DL.f_int, DL.f_abs, DL.f_max, DL.f_min, DL.f_lenR, DL.f_lenL, DL.f_lenT, DL.f_tupL, DL.par2_s, DL.enmD_t, DL.enmD_l, DL.lstO_s, DL.lstW_s, DL.i_cell', DL.setiD_c, DL.appD_c, DL.f_tupC', DL.ix0, DL.ix1, DL.ix2, DL.okB_t, DL.finO_rt, DL.finO_nx, DL.finD_k, DL.blw_int, DL.blw_str, DL.blw_non, DL.blw_bl, DL.blw_tup, DL.blw_lst, DL.blwL_nil, DL.blwL_cons, Bool.and_true, Bool.true_and, List.length_cons, List.length_nil, DL.rngD_s, DL.p_nop, DL.p_int, DL.p_neg, DL.p_var, DL.p_glob, DL.p_bin, DL.p_blt, DL.s_rls, DL.s_lst, DL.s_tup, DL.q_lst, DL.q_rls, DL.q_tup, DL.q_str, DL.b_p9, DL.b_p18, DL.bind_nm, DL.sizeD_l, Nat.reduceAdd, Nat.reduceLeDiff, Option.bind_some, Option.map_some, List.getElem?_cons_zero, List.getElem?_cons_succ, List.set_cons_zero, List.set_cons_succ, List.set_set, List.length_set, DL.b_mod, DL.b_fdiv, DL.b_m16807, DL.b_m6469, DL.b_m577, DL.b_m41, DL.finD_e, DL.onB_d, if_true, if_false, Int.reduceLT, Int.reduceLE, Int.reduceNeg, Nat.reduceLT, Nat.reduceLeDiff, K06.tp2, K06.wipe1, K06.nonI, K06.nonN, K06.nonR, K06.a_later, K06.a_answer, K06.a_puts, DL.turnC, DL.compL_cons, DL.compL_nil, DL.forL_cons, DL.forL_nil, DL.onL_nx, DL.onL_rt, DL.onL_ct, Bool.not_true, Bool.not_false, K06.eqi, K06.isi_ii, K06.isi_ib, K06.isi_tt, K06.isi_ss, K06.tru_b, K06.nei, Option.bind_none, K06.tru_t0, *])

abbrev calm : D := .str (PySem.Str.ofString "calm")
theorem pt (n : Nat) (cs people : List D) (g put r : D) (h : evS tab (evCall tab wf n) wf b_put_there [some (.tup people), some g, some put] cs = some (.rt r, cs)) : evCall tab wf (n + 1) 32 [.tup people, g, put] cs = some (r, cs) := by
  rw [c_put_there]; exact fin_rt h
theorem pt20 (n : Nat) (cs : List D) (x y g : D) : evCall tab wf (n + 1) 32 [.tup [x, y], g, .int 0] cs = some (x, cs) := pt _ _ _ _ _ _ (by kernel_rfl)
theorem pt21 (n : Nat) (cs : List D) (x y g : D) : evCall tab wf (n + 1) 32 [.tup [x, y], g, .int 1] cs = some (y, cs) := pt _ _ _ _ _ _ (by kernel_rfl)
theorem pt2h (n : Nat) (cs : List D) (x y g : D) : evCall tab wf (n + 1) 32 [.tup [x, y], g, .str (PySem.Str.ofString "him")] cs = some (g, cs) := pt _ _ _ _ _ _ (by kernel_rfl)
theorem pt10 (n : Nat) (cs : List D) (x g : D) : evCall tab wf (n + 1) 32 [.tup [x], g, .int 0] cs = some (x, cs) := pt _ _ _ _ _ _ (by kernel_rfl)
theorem pt1h (n : Nat) (cs : List D) (x g : D) : evCall tab wf (n + 1) 32 [.tup [x], g, .str (PySem.Str.ofString "him")] cs = some (g, cs) := pt _ _ _ _ _ _ (by kernel_rfl)
def r21 : D := rowD calm (wishD false) .non (.str (PySem.Str.ofString "no")) .non [.int 0, .int 1]
def r22 : D := rowD calm (wishD false) (.int (-1)) (.str (PySem.Str.ofString "bye")) .non [.int 0, .int 1]
def r23 : D := rowD .non (wishD true) .non (.str (PySem.Str.ofString "in")) .non [.str (PySem.Str.ofString "him"), .int 0]
def r24 : D := rowD .non (wishD true) (.int 1) (.str (PySem.Str.ofString "in")) .non [.int 1, .int 0]
def r11 : D := rowD .non (wishD true) .non (.str (PySem.Str.ofString "in")) .non [.str (PySem.Str.ofString "him")]
def r12 : D := rowD .non (wishD false) (.int (-1)) (.str (PySem.Str.ofString "bye")) .non [.int 0]
def r13 : D := rowD .non (wishD false) .non (.str (PySem.Str.ofString "no")) .non [.int 0]
theorem rf2gn (n : Nat) : ∀ cs : List D, cs.length ≤ 8 → evCall tab wf (n + 2) 30 [book2, calm, wishD false, .non] cs = some (r21, cs) := small (by kernel_rfl) (by intros; kernel_rfl) (by intros; kernel_rfl) (by intros; kernel_rfl) (by intros; kernel_rfl) (by intros; kernel_rfl) (by intros; kernel_rfl) (by intros; kernel_rfl) (by intros; kernel_rfl)
theorem rf2g0 (n : Nat) : ∀ cs : List D, cs.length ≤ 8 → evCall tab wf (n + 2) 30 [book2, calm, wishD false, .int 0] cs = some (r22, cs) := small (by kernel_rfl) (by intros; kernel_rfl) (by intros; kernel_rfl) (by intros; kernel_rfl) (by intros; kernel_rfl) (by intros; kernel_rfl) (by intros; kernel_rfl) (by intros; kernel_rfl) (by intros; kernel_rfl)
theorem rf2g1 (n : Nat) : ∀ cs : List D, cs.length ≤ 8 → evCall tab wf (n + 2) 30 [book2, calm, wishD false, .int 1] cs = some (r22, cs) := small (by kernel_rfl) (by intros; kernel_rfl) (by intros; kernel_rfl) (by intros; kernel_rfl) (by intros; kernel_rfl) (by intros; kernel_rfl) (by intros; kernel_rfl) (by intros; kernel_rfl) (by intros; kernel_rfl)
theorem rf2cn (n : Nat) : ∀ cs : List D, cs.length ≤ 8 → evCall tab wf (n + 2) 30 [book2, calm, wishD true, .non] cs = some (r23, cs) := small (by kernel_rfl) (by intros; kernel_rfl) (by intros; kernel_rfl) (by intros; kernel_rfl) (by intros; kernel_rfl) (by intros; kernel_rfl) (by intros; kernel_rfl) (by intros; kernel_rfl) (by intros; kernel_rfl)
theorem rf2c0 (n : Nat) : ∀ cs : List D, cs.length ≤ 8 → evCall tab wf (n + 2) 30 [book2, calm, wishD true, .int 0] cs = some (.non, cs) := small (by kernel_rfl) (by intros; kernel_rfl) (by intros; kernel_rfl) (by intros; kernel_rfl) (by intros; kernel_rfl) (by intros; kernel_rfl) (by intros; kernel_rfl) (by intros; kernel_rfl) (by intros; kernel_rfl)
theorem rf2c1 (n : Nat) : ∀ cs : List D, cs.length ≤ 8 → evCall tab wf (n + 2) 30 [book2, calm, wishD true, .int 1] cs = some (r24, cs) := small (by kernel_rfl) (by intros; kernel_rfl) (by intros; kernel_rfl) (by intros; kernel_rfl) (by intros; kernel_rfl) (by intros; kernel_rfl) (by intros; kernel_rfl) (by intros; kernel_rfl) (by intros; kernel_rfl)
theorem rf1gn (n : Nat) : ∀ cs : List D, cs.length ≤ 8 → evCall tab wf (n + 2) 30 [book1, calm, wishD false, .non] cs = some (r13, cs) := small (by kernel_rfl) (by intros; kernel_rfl) (by intros; kernel_rfl) (by intros; kernel_rfl) (by intros; kernel_rfl) (by intros; kernel_rfl) (by intros; kernel_rfl) (by intros; kernel_rfl) (by intros; kernel_rfl)
theorem rf1g0 (n : Nat) : ∀ cs : List D, cs.length ≤ 8 → evCall tab wf (n + 2) 30 [book1, calm, wishD false, .int 0] cs = some (r12, cs) := small (by kernel_rfl) (by intros; kernel_rfl) (by intros; kernel_rfl) (by intros; kernel_rfl) (by intros; kernel_rfl) (by intros; kernel_rfl) (by intros; kernel_rfl) (by intros; kernel_rfl) (by intros; kernel_rfl)
theorem rf1cn (n : Nat) : ∀ cs : List D, cs.length ≤ 8 → evCall tab wf (n + 2) 30 [book1, calm, wishD true, .non] cs = some (r11, cs) := small (by kernel_rfl) (by intros; kernel_rfl) (by intros; kernel_rfl) (by intros; kernel_rfl) (by intros; kernel_rfl) (by intros; kernel_rfl) (by intros; kernel_rfl) (by intros; kernel_rfl) (by intros; kernel_rfl)
theorem rf1c0 (n : Nat) : ∀ cs : List D, cs.length ≤ 8 → evCall tab wf (n + 2) 30 [book1, calm, wishD true, .int 0] cs = some (.non, cs) := small (by kernel_rfl) (by intros; kernel_rfl) (by intros; kernel_rfl) (by intros; kernel_rfl) (by intros; kernel_rfl) (by intros; kernel_rfl) (by intros; kernel_rfl) (by intros; kernel_rfl) (by intros; kernel_rfl)
theorem fm2 (n : Nat) : ∀ cs : List D, cs.length ≤ 8 → evCall tab wf (n + 2) 28 [book2] cs = some (.tup [calm, .tup [.non, .non]], cs) := small (by kernel_rfl) (by intros; kernel_rfl) (by intros; kernel_rfl) (by intros; kernel_rfl) (by intros; kernel_rfl) (by intros; kernel_rfl) (by intros; kernel_rfl) (by intros; kernel_rfl) (by intros; kernel_rfl)
theorem fm1 (n : Nat) : ∀ cs : List D, cs.length ≤ 8 → evCall tab wf (n + 2) 28 [book1] cs = some (.tup [calm, .tup [.non]], cs) := small (by kernel_rfl) (by intros; kernel_rfl) (by intros; kernel_rfl) (by intros; kernel_rfl) (by intros; kernel_rfl) (by intros; kernel_rfl) (by intros; kernel_rfl) (by intros; kernel_rfl) (by intros; kernel_rfl)
/-- who came last -/
inductive Ls where
  | e | o (a : Int) | t (a b : Int) (h : a ≠ b)
def Ls.l : Ls → List Int
  | .e => [] | .o a => [a] | .t a b _ => [a, b]
def Ls.p2 : Ls → List D
  | .e => [.non, .non] | .o a => [.int a, .non] | .t a b _ => [.int a, .int b]
def Ls.p1 : Ls → List D
  | .e => [.non] | .o a => [.int a] | .t a _ _ => [.int a]
def Ls.nx (s : Ls) (v : Bool × Int) : Ls := if v.1 then match s with
    | .e => .o v.2
    | .o a => if h : a = v.2 then .o a else .t v.2 a (fun e => h e.symm)
    | .t a b _ => if h : a = v.2 then s else .t v.2 a (fun e => h e.symm)
  else s
def Ls.a2 (s : Ls) (v : Bool × Int) : Str := if v.1 then PySem.Str.ofString "in" else if v.2 ∈ s.l then PySem.Str.ofString "bye" else PySem.Str.ofString "no"
def Ls.a1 (s : Ls) (v : Bool × Int) : Str := if v.1 then PySem.Str.ofString "in" else if v.2 ∈ s.l.take 1 then PySem.Str.ofString "bye" else PySem.Str.ofString "no"
theorem step2 (n : Nat) (s : Ls) (v : Bool × Int) (cs : List D) (hl : cs.length ≤ 8) : evCall tab wf (n + 3) 31 [book2, .tup [calm, .tup s.p2], wishD v.1, .int v.2] cs = some (.tup [.str (s.a2 v), .tup [calm, .tup (s.nx v).p2]], cs) := by
  obtain ⟨w, g⟩ := v
  have K : ∀ (x y : Option Int) (w : Bool) (pl : D), plc [x, y] g 0 = pl → evCall tab wf (n + 2) 29 [.tup [oD x, oD y], .int g] cs = some (pl, cs) := fun x y w pl h => h ▸ place2 (n + 1) cs x y g
  cases w
  · have G0 : ∀ (x y : Option Int), plc [x, y] g 0 = .non → evCall tab wf (n + 3) 31 [book2, .tup [calm, .tup [oD x, oD y]], wishD false, .int g] cs = some (.tup [.str (PySem.Str.ofString "no"), .tup [calm, .tup [oD x, oD y]]], cs) := fun x y h =>
      stepS2 (n + 1) cs _ _ _ _ _ _ _ _ _ _ _ _ _ _ (K x y false _ h) (rf2gn n cs hl) (pt20 ..) (pt21 ..)
    have G1 : ∀ (x y : Option Int), plc [x, y] g 0 = .int 0 ∨ plc [x, y] g 0 = .int 1 → evCall tab wf (n + 3) 31 [book2, .tup [calm, .tup [oD x, oD y]], wishD false, .int g] cs = some (.tup [.str (PySem.Str.ofString "bye"), .tup [calm, .tup [oD x, oD y]]], cs) := fun x y h => by
      rcases h with h | h
      · exact stepS2 (n + 1) cs _ _ _ _ _ _ _ _ _ _ _ _ _ _ (K x y false _ h) (rf2g0 n cs hl) (pt20 ..) (pt21 ..)
      · exact stepS2 (n + 1) cs _ _ _ _ _ _ _ _ _ _ _ _ _ _ (K x y false _ h) (rf2g1 n cs hl) (pt20 ..) (pt21 ..)
    cases s with
    | e => exact G0 none none (by simp [plc])
    | o a =>
      by_cases h : a = g
      · have := G1 (some a) none (by simp [plc, h])
        simpa [Ls.a2, Ls.nx, Ls.l, Ls.p2, h, oD] using this
      · have := G0 (some a) none (by simp [plc, h])
        simpa [Ls.a2, Ls.nx, Ls.l, Ls.p2, h, oD, Ne.symm h, eq_comm] using this
    | t a b hab =>
      by_cases h : a = g
      · have := G1 (some a) (some b) (by simp [plc, h])
        simpa [Ls.a2, Ls.nx, Ls.l, Ls.p2, h, oD] using this
      · by_cases h2 : b = g
        · have := G1 (some a) (some b) (by simp [plc, h, h2])
          simpa [Ls.a2, Ls.nx, Ls.l, Ls.p2, h, h2, oD] using this
        · have := G0 (some a) (some b) (by simp [plc, h, h2])
          have h' : ¬ g = a := fun e => h e.symm
          have h2' : ¬ g = b := fun e => h2 e.symm
          simpa [Ls.a2, Ls.nx, Ls.l, Ls.p2, h', h2', oD] using this
  · have G0 : ∀ (x y : Option Int), plc [x, y] g 0 = .non → evCall tab wf (n + 3) 31 [book2, .tup [calm, .tup [oD x, oD y]], wishD true, .int g] cs = some (.tup [.str (PySem.Str.ofString "in"), .tup [calm, .tup [.int g, oD x]]], cs) := fun x y h =>
      stepS2 (n + 1) cs _ _ _ _ _ _ _ _ _ _ _ _ _ _ (K x y false _ h) (rf2cn n cs hl) (pt2h ..) (pt20 ..)
    have G1 : ∀ (x y : Option Int), plc [x, y] g 0 = .int 0 → evCall tab wf (n + 3) 31 [book2, .tup [calm, .tup [oD x, oD y]], wishD true, .int g] cs = some (.tup [.str (PySem.Str.ofString "in"), .tup [calm, .tup [oD x, oD y]]], cs) := fun x y h =>
      stepN (n + 1) cs bk2 _ _ _ _ _ (K x y false _ h) (rf2c0 n cs hl)
    have G2 : ∀ (x y : Option Int), plc [x, y] g 0 = .int 1 → evCall tab wf (n + 3) 31 [book2, .tup [calm, .tup [oD x, oD y]], wishD true, .int g] cs = some (.tup [.str (PySem.Str.ofString "in"), .tup [calm, .tup [oD y, oD x]]], cs) := fun x y h =>
      stepS2 (n + 1) cs _ _ _ _ _ _ _ _ _ _ _ _ _ _ (K x y false _ h) (rf2c1 n cs hl) (pt21 ..) (pt20 ..)
    cases s with
    | e => exact G0 none none (by simp [plc])
    | o a =>
      by_cases h : a = g
      · have := G1 (some a) none (by simp [plc, h])
        simpa [Ls.a2, Ls.nx, Ls.l, Ls.p2, h, oD] using this
      · have := G0 (some a) none (by simp [plc, h])
        simpa [Ls.a2, Ls.nx, Ls.l, Ls.p2, h, oD] using this
    | t a b hab =>
      by_cases h : a = g
      · have := G1 (some a) (some b) (by simp [plc, h])
        simpa [Ls.a2, Ls.nx, Ls.l, Ls.p2, h, oD] using this
      · by_cases h2 : b = g
        · have := G2 (some a) (some b) (by simp [plc, h, h2])
          simpa [Ls.a2, Ls.nx, Ls.l, Ls.p2, h, h2, oD] using this
        · have := G0 (some a) (some b) (by simp [plc, h, h2])
          simpa [Ls.a2, Ls.nx, Ls.l, Ls.p2, h, oD] using this
theorem step1 (n : Nat) (s : Ls) (v : Bool × Int) (cs : List D) (hl : cs.length ≤ 8) : evCall tab wf (n + 3) 31 [book1, .tup [calm, .tup s.p1], wishD v.1, .int v.2] cs = some (.tup [.str (s.a1 v), .tup [calm, .tup (s.nx v).p1]], cs) := by
  obtain ⟨w, g⟩ := v
  have K : ∀ (x : Option Int) (pl : D), plc [x] g 0 = pl → evCall tab wf (n + 2) 29 [.tup [oD x], .int g] cs = some (pl, cs) := fun x pl h => h ▸ place1 (n + 1) cs x g
  have R : ∀ x : Option Int, (s.p1 = [oD x]) → ((x = some g ∧ g ∈ s.l.take 1 ∧ (w = true → (s.nx (w, g)).p1 = s.p1)) ∨ (x ≠ some g ∧ ¬ g ∈ s.l.take 1 ∧ (w = true → (s.nx (w, g)).p1 = [.int g]))) → evCall tab wf (n + 3) 31 [book1, .tup [calm, .tup s.p1], wishD w, .int g] cs = some (.tup [.str (s.a1 (w, g)), .tup [calm, .tup (s.nx (w, g)).p1]], cs) := by
    intro x hx h
    cases w
    · have e : (s.nx (false, g)) = s := by simp [Ls.nx]
      rw [e]
      rcases h with ⟨h, m, _⟩ | ⟨h, m, _⟩
      · have := stepS1 (n + 1) cs _ _ _ _ _ _ _ _ _ _ _ _ (K x _ rfl) (by rw [show plc [x] g 0 = .int 0 by simp [plc, h]]; exact rf1g0 n cs hl) (pt10 ..)
        rw [hx, show s.a1 (false, g) = PySem.Str.ofString "bye" by unfold Ls.a1; rw [if_neg (by simp), if_pos m]]; exact this
      · have := stepS1 (n + 1) cs _ _ _ _ _ _ _ _ _ _ _ _ (K x _ rfl) (by rw [show plc [x] g 0 = .non by simp [plc, h]]; exact rf1gn n cs hl) (pt10 ..)
        rw [hx, show s.a1 (false, g) = PySem.Str.ofString "no" by unfold Ls.a1; rw [if_neg (by simp), if_neg m]]; exact this
    · rw [show s.a1 (true, g) = PySem.Str.ofString "in" by simp [Ls.a1]]
      rcases h with ⟨h, _, m⟩ | ⟨h, _, m⟩
      · rw [m rfl, hx]
        exact stepN (n + 1) cs bk1 _ _ _ _ _ (K x _ rfl) (by rw [show plc [x] g 0 = .int 0 by simp [plc, h]]; exact rf1c0 n cs hl)
      · rw [m rfl, hx]
        exact stepS1 (n + 1) cs _ _ _ _ _ _ _ _ _ _ _ _ (K x _ rfl) (by rw [show plc [x] g 0 = .non by simp [plc, h]]; exact rf1cn n cs hl) (pt1h ..)
  cases s with
  | e => exact R none rfl (.inr (by cases w <;> simp [Ls.l, Ls.nx, Ls.p1]))
  | o a =>
    by_cases h : a = g
    · exact R (some a) rfl (.inl (by simp [Ls.l, Ls.nx, Ls.p1, h]))
    · exact R (some a) rfl (.inr (by have h' : ¬ g = a := fun e => h e.symm
                                     cases w <;> simp [Ls.l, Ls.nx, Ls.p1, h, h']))
  | t a b hab =>
    by_cases h : a = g
    · exact R (some a) rfl (.inl (by simp [Ls.l, Ls.nx, Ls.p1, h]))
    · exact R (some a) rfl (.inr (by have h' : ¬ g = a := fun e => h e.symm
                                     cases w <;> simp [Ls.l, Ls.nx, Ls.p1, h, h']))
end K06

end

section
set_option Elab.async false
set_option linter.all false
set_option maxRecDepth 100000
set_option maxHeartbeats 4000000
namespace K06
open PySem L2 DL
local macro_rules | `(tactic| walk_at "dr") => `(tactic| simp only [DL.x_var, DL.x_int, DL.x_str, DL.x_bl, DL.x_non, DL.x_glob, DL.x_fr, DL.x_mu, DL.x_bin, DL.x_neg, DL.negD_i, DL.x_cmp, DL.x_chain, DL.x_and, DL.x_or, DL.x_not, DL.x_ite, DL.x_tval, DL.x_tnot, DL.x_tand, DL.x_tor, DL.x_nil, DL.x_cons, DL.x_star, DL.x_lst, DL.x_tup, DL.x_dnil, DL.x_idx, DL.x_slc, DL.x_attr, DL.x_meth, DL.x_call, DL.x_make, DL.x_blt, DL.x_isi, DL.x_isc, DL.x_sm, DL.x_split, DL.x_lof, DL.x_fmt, DL.x_js, DL.x_iseq, DL.x_irng, DL.x_ienum, DL.x_comp, DL.x_dcomp, DL.y_nil, DL.y_pass, DL.y_seq, DL.y_asg, DL.y_unp, DL.y_par, DL.y_ex, DL.y_iff, DL.y_for, DL.y_ret, DL.y_retN, DL.y_seti, DL.y_app, DL.y_setf, DL.onB_t, DL.onB_f, DL.onO_nx, DL.onO_rt, DL.onO_bk, DL.onO_ct, DL.varD_s, DL.lstArgs_s, DL.b_add, DL.b_sub, DL.m_lt, DL.m_le, DL.m_gt, DL.m_ge, DL.m_isN, DL.m_isNN, DL.i_lst, DL.i_rls, DL.i_tup, DL.atI0, DL.atI1, DL.atI2, DL.f_int, DL.f_abs, DL.f_max, DL.f_min, DL.f_lenR, DL.f_lenL, DL.f_lenT, DL.f_tupL, DL.par2_s, DL.enmD_t, DL.enmD_l, DL.lstO_s, DL.lstW_s, DL.i_cell', DL.setiD_c, DL.appD_c, DL.f_tupC', DL.ix0, DL.ix1, DL.ix2, DL.okB_t, DL.finO_rt, DL.finO_nx, DL.finD_k, DL.blw_int, DL.blw_str, DL.blw_non, DL.blw_bl, DL.blw_tup, DL.blw_lst, DL.blwL_nil, DL.blwL_cons, Bool.and_true, Bool.true_and, List.length_cons, List.length_nil, DL.rngD_s, DL.p_nop, DL.p_int, DL.p_neg, DL.p_var, DL.p_glob, DL.p_bin, DL.p_blt, DL.s_rls, DL.s_lst, DL.s_tup, DL.q_lst, DL.q_rls, DL.q_tup, DL.q_str, DL.b_p9, DL.b_p18, DL.bind_nm, DL.sizeD_l, Nat.reduceAdd, Nat.reduceLeDiff, Option.bind_some, Option.map_some, List.getElem?_cons_zero, List.getElem?_cons_succ, List.set_cons_zero, List.set_cons_succ, List.set_set, List.length_set, DL.b_mod, DL.b_fdiv, DL.b_m16807, DL.b_m6469, DL.b_m577, DL.b_m41, DL.finD_e, DL.onB_d, if_true, if_false, Int.reduceLT, Int.reduceLE, Int.reduceNeg, Nat.reduceLT, Nat.reduceLeDiff, K06.tp2, K06.wipe1, K06.nonI, K06.nonN, K06.nonR, K06.a_later, K06.a_answer, K06.a_puts, DL.turnC, DL.compL_cons, DL.compL_nil, DL.forL_cons, DL.forL_nil, DL.onL_nx, DL.onL_rt, DL.onL_ct, Bool.not_true, Bool.not_false, K06.eqi, K06.isi_ii, K06.isi_ib, K06.isi_tt, K06.isi_ss, K06.tru_b, K06.nei, Option.bind_none, K06.tru_t0, *])

def run (s : Ls) : List (Bool × Int) → Ls
  | [] => s
  | v :: vs => run (s.nx v) vs
def anss (a : Ls → Bool × Int → Str) (s : Ls) : List (Bool × Int) → List D
  | [] => []
  | v :: vs => .str (a s v) :: anss a (s.nx v) vs
theorem at_end (base : List D) (x : D) : (base ++ [x])[base.length]? = some x := by simp
theorem set_end (base : List D) (x y : D) : (base ++ [x]).set base.length y = base ++ [y] := by simp
theorem play_loop (n : Nat) (B : D) (now : Ls → D) (a : Ls → Bool × Int → Str) (base : List D) (hb : base.length ≤ 7)
    (hst : ∀ (s : Ls) (v : Bool × Int) (cs : List D), cs.length ≤ 8 → evCall tab wf n 31 [B, now s, wishD v.1, .int v.2] cs = some (.tup [.str (a s v), now (s.nx v)], cs)) (d1 d2 : Option D) :
    ∀ (vs : List (Bool × Int)) (s : Ls) (told : List D) (o5 o6 o7 : Option D), told.length + vs.length ≤ 1000 → ∃ p5 p6 p7,
      forL (evS tab (evCall tab wf n) wf b_played_L1) (.tp [5, 6]) (vs.map visD) [some B, d1, d2, some (.cell base.length), some (now s), o5, o6, o7] (base ++ [.lst told]) =
        some (.nx [some B, d1, d2, some (.cell base.length), some (now (run s vs)), p5, p6, p7], base ++ [.lst (told ++ anss a s vs)])
  | [], s, told, o5, o6, o7, _ => ⟨o5, o6, o7, by simp [forL, run, anss]⟩
  | (w, g) :: vs, s, told, o5, o6, o7, hl => by
    simp only [List.length_cons] at hl
    obtain ⟨p5, p6, p7, e⟩ := play_loop n B now a base hb hst d1 d2 vs (s.nx (w, g)) (told ++ [.str (a s (w, g))]) (some (wishD w)) (some (.int g)) (some (.str (a s (w, g)))) (by simp only [List.length_append, List.length_cons, List.length_nil]; omega)
    refine ⟨p5, p6, p7, ?_⟩
    have e1 := hst s (w, g) (base ++ [.lst told]) (by simp; omega)
    have e2 := fun x => at_end base x
    have e3 := fun x y => set_end base x y
    have e4 : decide (told.length < sizeLine) = true := by
      have : (1000 : Nat) < sizeLine := by decide
      simp; omega
    have e5 : visD (w, g) = .tup [wishD w, .int g] := rfl
    rw [List.append_assoc] at e
    dsimp only at e1
    rw [List.map_cons, forL_cons, run, anss]
    unfold b_played_L1 at e ⊢
    clear hst
    walk_at "dr"
    simp only [List.cons_append, List.nil_append]
theorem fz_str {n : Nat} {cs : List D} {x : Str} : fzD n cs (.str x) = some (.str x) := by simp [fzD]
theorem fz_anss {n : Nat} {cs : List D} {a : Ls → Bool × Int → Str} : ∀ (vs : List (Bool × Int)) (s : Ls), fzL n cs (anss a s vs) = some (anss a s vs)
  | [], s => by simp [anss, fzL]
  | v :: vs, s => by simp [anss, fzL, fz_str, fz_anss vs]
theorem fin_drop (base : List D) (x d : D) (h : fzD base.length (base ++ [x]) d = some d) : finD false base.length d (base ++ [x]) = some (d, base) := by
  unfold finD
  rw [if_neg (by simp), if_neg (by simp), h]
  simp
theorem played_ok (n : Nat) (B : D) (now : Ls → D) (a : Ls → Bool × Int → Str) (base : List D) (hb : base.length ≤ 7)
    (hst : ∀ (s : Ls) (v : Bool × Int) (cs : List D), cs.length ≤ 8 → evCall tab wf n 31 [B, now s, wishD v.1, .int v.2] cs = some (.tup [.str (a s v), now (s.nx v)], cs))
    (hn : ∀ s m cs, fzD m cs (now s) = some (now s)) (vs : List (Bool × Int)) (hl : vs.length ≤ 1000) :
    evCall tab wf (n + 1) 33 [B, now .e, .tup (vs.map visD)] base = some (.tup [.tup (anss a .e vs), now (run .e vs)], base) := by
  obtain ⟨p5, p6, p7, e⟩ := play_loop n B now a base hb hst (some (now .e)) (some (.tup (vs.map visD))) vs .e [] none none none (by simpa using hl)
  have e2 := fun x => at_end base x
  have e6 : finD false base.length (.tup [.tup (anss a .e vs), now (run .e vs)]) (base ++ [.lst (anss a .e vs)]) = some (.tup [.tup (anss a .e vs), now (run .e vs)], base) :=
    fin_drop _ _ _ (by simp [fzD, fzL, fz_anss, hn])
  rw [List.nil_append] at e
  rw [c_played]
  unfold b_played
  clear hst hn
  walk_at "dr"
def now2 (s : Ls) : D := .tup [calm, .tup s.p2]
def now1 (s : Ls) : D := .tup [calm, .tup s.p1]
theorem fz2 (s : Ls) (m : Nat) (cs : List D) : fzD m cs (now2 s) = some (now2 s) := by cases s <;> simp [now2, Ls.p2, fzD, fzL]
theorem fz1 (s : Ls) (m : Nat) (cs : List D) : fzD m cs (now1 s) = some (now1 s) := by cases s <;> simp [now1, Ls.p1, fzD, fzL]
theorem tup_fst {x y : D} : atI [x, y] 0 = some x := atI0
structure Plays (B : D) (now : Ls → D) (a : Ls → Bool × Int → Str) : Prop where
  ans : ∀ (n : Nat) (base : List D) (vs : List (Bool × Int)), base.length ≤ 7 → (∀ v ∈ vs, 0 ≤ v.2 ∧ v.2 ≤ 1000000000) → vs.length ≤ 200 → evCall tab wf (n + 7) 34 [B, .tup (vs.map visD)] base = some (.tup (anss a .e vs), base)
  mom : ∀ (n : Nat) (base : List D) (vs : List (Bool × Int)), base.length ≤ 7 → (∀ v ∈ vs, 0 ≤ v.2 ∧ v.2 ≤ 1000000000) → vs.length ≤ 200 → evCall tab wf (n + 7) 35 [B, .tup (vs.map visD)] base = some (now (run .e vs), base)
theorem plays {B a0 : D} {rest : List D} {now : Ls → D} {a : Ls → Bool × Int → Str} (hB : Bk B a0 rest)
    (hst : ∀ (n : Nat) (s : Ls) (v : Bool × Int) (cs : List D), cs.length ≤ 8 → evCall tab wf (n + 3) 31 [B, now s, wishD v.1, .int v.2] cs = some (.tup [.str (a s v), now (s.nx v)], cs))
    (hn : ∀ s m cs, fzD m cs (now s) = some (now s)) (hf : ∀ n cs, cs.length ≤ 8 → evCall tab wf (n + 2) 28 [B] cs = some (now .e, cs)) : Plays B now a := by
  constructor
  · intro n base vs hb hv hl
    have e1 : evCall tab wf (n + 6) 21 [B] base = some (.non, base) := hB.c21 (n + 5) base
    have e2 := chkvis n base hB vs hv hl
    have e3 : evCall tab wf (n + 6) 28 [B] base = some (now .e, base) := hf (n + 4) base (by omega)
    have e4 : evCall tab wf (n + 6) 33 [B, now .e, .tup (vs.map visD)] base = some (.tup [.tup (anss a .e vs), now (run .e vs)], base) := played_ok (n + 5) B now a base hb (hst (n + 2)) hn vs (by omega)
    clear hst hn hf
    rw [c_answered]
    unfold b_answered
    walk_at "dr"
  · intro n base vs hb hv hl
    have e1 : evCall tab wf (n + 6) 21 [B] base = some (.non, base) := hB.c21 (n + 5) base
    have e2 := chkvis n base hB vs hv hl
    have e3 : evCall tab wf (n + 6) 28 [B] base = some (now .e, base) := hf (n + 4) base (by omega)
    have e4 : evCall tab wf (n + 6) 33 [B, now .e, .tup (vs.map visD)] base = some (.tup [.tup (anss a .e vs), now (run .e vs)], base) := played_ok (n + 5) B now a base hb (hst (n + 2)) hn vs (by omega)
    clear hst hn hf
    rw [c_moment]
    unfold b_moment
    walk_at "dr"
theorem plays2 : Plays book2 now2 Ls.a2 := plays bk2 (fun n s v cs hl => step2 n s v cs hl) fz2 (fun n cs h => fm2 n cs h)
theorem plays1 : Plays book1 now1 Ls.a1 := plays bk1 (fun n s v cs hl => step1 n s v cs hl) fz1 (fun n cs h => fm1 n cs h)
end K06

end

section
set_option Elab.async false
set_option linter.all false
set_option maxRecDepth 100000
set_option maxHeartbeats 4000000
namespace K06
open PySem L2 DL
theorem b_cat' {cs a b : List D} (h : a.length + b.length ≤ 16777216) : binA .Add cs (.lst a) (.lst b) = some (.lst (a ++ b)) := b_cat h
local macro_rules | `(tactic| walk_at "dr") => `(tactic| simp only [DL.x_var, DL.x_int, DL.x_str, DL.x_bl, DL.x_non, DL.x_glob, DL.x_fr, DL.x_mu, DL.x_bin, DL.x_neg, DL.negD_i, DL.x_cmp, DL.x_chain, DL.x_and, DL.x_or, DL.x_not, DL.x_ite, DL.x_tval, DL.x_tnot, DL.x_tand, DL.x_tor, DL.x_nil, DL.x_cons, DL.x_star, DL.x_lst, DL.x_tup, DL.x_dnil, DL.x_idx, DL.x_slc, DL.x_attr, DL.x_meth, DL.x_call, DL.x_make, DL.x_blt, DL.x_isi, DL.x_isc, DL.x_sm, DL.x_split, DL.x_lof, DL.x_fmt, DL.x_js, DL.x_iseq, DL.x_irng, DL.x_ienum, DL.x_comp, DL.x_dcomp, DL.y_nil, DL.y_pass, DL.y_seq, DL.y_asg, DL.y_unp, DL.y_par, DL.y_ex, DL.y_iff, DL.y_for, DL.y_ret, DL.y_retN, DL.y_seti, DL.y_app, DL.y_setf, DL.onB_t, DL.onB_f, DL.onO_nx, DL.onO_rt, DL.onO_bk, DL.onO_ct, DL.varD_s, DL.lstArgs_s, DL.b_add, DL.b_sub, DL.m_lt, DL.m_le, DL.m_gt, DL.m_ge, DL.m_isN, DL.m_isNN, DL.i_lst, DL.i_rls, DL.i_tup, DL.atI0, DL.atI1, DL.atI2, DL.f_int, DL.f_abs, DL.f_max, DL.f_min, DL.f_lenR, DL.f_lenL, DL.f_lenT, DL.f_tupL, DL.par2_s, DL.enmD_t, DL.enmD_l, DL.lstO_s, DL.lstW_s, DL.i_cell', DL.setiD_c, DL.appD_c, DL.f_tupC', DL.ix0, DL.ix1, DL.ix2, DL.okB_t, DL.finO_rt, DL.finO_nx, DL.finD_k, DL.blw_int, DL.blw_str, DL.blw_non, DL.blw_bl, DL.blw_tup, DL.blw_lst, DL.blwL_nil, DL.blwL_cons, Bool.and_true, Bool.true_and, List.length_cons, List.length_nil, DL.rngD_s, DL.p_nop, DL.p_int, DL.p_neg, DL.p_var, DL.p_glob, DL.p_bin, DL.p_blt, DL.s_rls, DL.s_lst, DL.s_tup, DL.q_lst, DL.q_rls, DL.q_tup, DL.q_str, DL.b_p9, DL.b_p18, DL.bind_nm, DL.sizeD_l, Nat.reduceAdd, Nat.reduceLeDiff, Option.bind_some, Option.map_some, List.getElem?_cons_zero, List.getElem?_cons_succ, List.set_cons_zero, List.set_cons_succ, List.set_set, List.length_set, DL.b_mod, DL.b_fdiv, DL.b_m16807, DL.b_m6469, DL.b_m577, DL.b_m41, DL.finD_e, DL.onB_d, if_true, if_false, Int.reduceLT, Int.reduceLE, Int.reduceNeg, Nat.reduceLT, Nat.reduceLeDiff, K06.tp2, K06.wipe1, K06.nonI, K06.nonN, K06.nonR, K06.a_later, K06.a_answer, K06.a_puts, DL.turnC, DL.compL_cons, DL.compL_nil, DL.forL_cons, DL.forL_nil, DL.onL_nx, DL.onL_rt, DL.onL_ct, Bool.not_true, Bool.not_false, K06.eqi, K06.isi_ii, K06.isi_ib, K06.isi_tt, K06.isi_ss, K06.tru_b, K06.nei, Option.bind_none, K06.tru_t0, eq_self, decide_true, decide_false, *])

theorem eq_refl {cs : List D} {d : D} {p : PyData} (h : toPyC cs d = some p) (hs : SeqAt.shaped p = true) : eqD cs d d = some true := by
  simp only [eqD, h, Option.bind_some]
  rw [if_pos ⟨hs, hs⟩, SeqAt.eqv_refl p (SeqAt.canLay_of_shaped hs)]
def Good (a : Ls → Bool × Int → Str) : Prop := ∀ s v, a s v = PySem.Str.ofString "in" ∨ a s v = PySem.Str.ofString "bye" ∨ a s v = PySem.Str.ofString "no"
theorem good2 : Good Ls.a2 := fun s v => by unfold Ls.a2; split; · exact .inl rfl
                                            split; · exact .inr (.inl rfl)
                                            exact .inr (.inr rfl)
theorem good1 : Good Ls.a1 := fun s v => by unfold Ls.a1; split; · exact .inl rfl
                                            split; · exact .inr (.inl rfl)
                                            exact .inr (.inr rfl)
theorem py_anss {a : Ls → Bool × Int → Str} (ha : Good a) (cs : List D) : ∀ (vs : List (Bool × Int)) (s : Ls), ∃ ps, toPys cs (anss a s vs) = some ps ∧ PyData.canLayAll0 ps = true ∧ PyData.depthAll ps ≤ 1
  | [], s => ⟨[], by simp [anss, toPys], rfl, by decide⟩
  | v :: vs, s => by
    obtain ⟨ps, h1, h2, h3⟩ := py_anss ha cs vs (s.nx v)
    refine ⟨.str (a s v) :: ps, by simp [anss, toPys, toPy, h1], ?_, ?_⟩
    · have : PyData.strOk (a s v) = true := by rcases ha s v with e | e | e <;> rw [e] <;> kernel_rfl
      simp [PyData.canLayAll0, PyData.canLay0, this, h2]
    · simp only [PyData.depthAll, PyData.depth]; omega
theorem eq_anss {a : Ls → Bool × Int → Str} (ha : Good a) (cs : List D) (vs : List (Bool × Int)) (s : Ls) : eqD cs (.tup (anss a s vs)) (.tup (anss a s vs)) = some true := by
  obtain ⟨ps, h1, h2, h3⟩ := py_anss ha cs vs s
  refine eq_refl (p := .tuple ps) (by simp [toPyC, cont, toPy, h1]) ?_
  unfold SeqAt.shaped
  rw [Bool.and_eq_true]
  exact ⟨by simpa [PyData.canLay0] using h2, decide_eq_true (by simp only [PyData.depth]; omega)⟩
theorem eq_now2 (cs : List D) (s : Ls) : eqD cs (now2 s) (now2 s) = some true := by
  cases s <;> exact eq_refl rfl (by kernel_rfl)
theorem eq_now1 (cs : List D) (s : Ls) : eqD cs (now1 s) (now1 s) = some true := by
  cases s <;> exact eq_refl rfl (by kernel_rfl)
theorem anss_snoc {a : Ls → Bool × Int → Str} (v : Bool × Int) : ∀ (vs : List (Bool × Int)) (s : Ls), anss a s (vs ++ [v]) = anss a s vs ++ [.str (a (run s vs) v)]
  | [], s => rfl
  | x :: vs, s => by simp only [List.cons_append, anss, run, anss_snoc v vs]
theorem run_snoc (v : Bool × Int) : ∀ (vs : List (Bool × Int)) (s : Ls), run s (vs ++ [v]) = (run s vs).nx v
  | [], s => rfl
  | x :: vs, s => by simp only [List.cons_append, run, run_snoc v vs]
theorem anss_len {a : Ls → Bool × Int → Str} : ∀ (vs : List (Bool × Int)) (s : Ls), (anss a s vs).length = vs.length
  | [], s => rfl
  | x :: vs, s => by simp only [List.length_cons, anss, anss_len vs]
theorem blw_w (w : Bool) (n : Nat) : (wishD w).blw n = true := by cases w <;> rfl
theorem eq_w (cs : List D) (w : Bool) : cmpD (okC tab) .Eq cs (wishD w) (.str (PySem.Str.ofString "comes")) = some w := by cases w <;> kernel_rfl
theorem any_mem (g : Int) : ∀ l : List Int, ((l.map D.int).any fun z => eqF z (.int g)) = decide (g ∈ l)
  | [] => by simp
  | x :: l => by
    rw [List.map_cons, List.any_cons, any_mem g l]
    by_cases h : x = g
    · simp [eqF, h]
    · have h' : ¬ g = x := fun e => h e.symm
      simp [eqF, h, h']
theorem all_flat : ∀ l : List Int, (l.map D.int).all flatD = true
  | [] => rfl
  | x :: l => by rw [List.map_cons, List.all_cons, all_flat l]; rfl
theorem in_l (cs : List D) (g : Int) (l : List Int) : cmpD (okC tab) .In cs (.int g) (.lst (l.map .int)) = some (decide (g ∈ l)) := by
  show inD (okC tab) cs (.int g) (.lst (l.map .int)) = _
  simp only [inD, seqD, lstD, cont, all_flat, any_mem, Option.some_or]
  rfl
theorem sl1 (s : Ls) : sliceL (s.l.map D.int) none (some 1) = (s.l.take 1).map .int := by cases s <;> rfl
def E5 : E := (.slc (.bin .Add (.fr (.lst (.cons (.var 9) .nil))) (.fr (.comp (.nm 11) (.iseq (.var 5)) b_law_right_C1 b_law_right_E1))) .nop (.int 2))
theorem slA {x : D} : sliceL [x] none (some 2) = [x] := rfl
theorem slB {x y : D} : sliceL [x, y] none (some 2) = [x, y] := rfl
theorem slC {x y z : D} : sliceL [x, y, z] none (some 2) = [x, y] := rfl
theorem lastE (C : CallF) (cs : List D) (o0 o1 o2 o3 o4 o6 o7 o8 o10 o11 : Option D) (g : Int) (s : Ls) : ev tab C E5 [o0, o1, o2, o3, o4, some (.lst (s.l.map .int)), o6, o7, o8, some (.int g), o10, o11] cs = some (.lst ((s.nx (true, g)).l.map .int), cs) := by
  have k := fun (a b : List D) (h : a.length + b.length ≤ 16777216) => b_cat' (cs := cs) (a := a) (b := b) h
  unfold E5 b_law_right_C1 b_law_right_E1
  cases s with
  | e => simp only [Ls.l, List.map_nil, List.map_cons]; walk_at "dr"; simp [Ls.nx, Ls.l, slA]
  | o a =>
    by_cases h : a = g <;> simp only [Ls.l, List.map_nil, List.map_cons] <;> walk_at "dr" <;> simp [Ls.nx, Ls.l, slA, slB, h]
  | t a b hab =>
    by_cases h : a = g
    · have h2 : ¬ b = g := fun e => hab (h.trans e.symm)
      simp only [Ls.l, List.map_nil, List.map_cons]; walk_at "dr"; simp [Ls.nx, Ls.l, slA, slB, h]
    · by_cases h2 : b = g <;> simp only [Ls.l, List.map_nil, List.map_cons] <;> walk_at "dr" <;> simp [Ls.nx, Ls.l, slA, slB, slC, h, h2]
theorem dipped_app {c t cs' : List D} {w : Nat} (hw : w < c.length) (d : Dipped (c ++ t) w cs') : ∃ c', cs' = c' ++ t ∧ Dipped c w c' := by
  obtain ⟨x, y, z, rfl⟩ := d
  exact ⟨c.set w (.lst [.int x, .int y, .int z]), by rw [List.set_append_left _ _ hw], ⟨x, y, z, rfl⟩⟩
theorem well_app {c t : List D} {w : Nat} (hw : Well c w) : Well (c ++ t) w := by
  obtain ⟨x, y, z, h⟩ := hw
  exact ⟨x, y, z, by rw [List.getElem?_append_left (List.getElem?_eq_some_iff.mp h).1, h]⟩
theorem well_lt {c : List D} {w : Nat} (hw : Well c w) : w < c.length := by
  obtain ⟨x, y, z, h⟩ := hw
  exact (List.getElem?_eq_some_iff.mp h).1
theorem dip_len {c c' : List D} {w : Nat} (d : Dipped c w c') : c'.length = c.length := by
  obtain ⟨x, y, z, rfl⟩ := d
  simp
end K06

end

section
set_option Elab.async false
set_option linter.all false
set_option maxRecDepth 100000
set_option maxHeartbeats 4000000
namespace K06
open PySem L2 DL
local macro_rules | `(tactic| walk_at "dr") => `(tactic| simp only [DL.x_var, DL.x_int, DL.x_str, DL.x_bl, DL.x_non, DL.x_glob, DL.x_fr, DL.x_mu, DL.x_bin, DL.x_neg, DL.negD_i, DL.x_cmp, DL.x_chain, DL.x_and, DL.x_or, DL.x_not, DL.x_ite, DL.x_tval, DL.x_tnot, DL.x_tand, DL.x_tor, DL.x_nil, DL.x_cons, DL.x_star, DL.x_lst, DL.x_tup, DL.x_dnil, DL.x_idx, DL.x_slc, DL.x_attr, DL.x_meth, DL.x_call, DL.x_make, DL.x_blt, DL.x_isi, DL.x_isc, DL.x_sm, DL.x_split, DL.x_lof, DL.x_fmt, DL.x_js, DL.x_iseq, DL.x_irng, DL.x_ienum, DL.x_comp, DL.x_dcomp, DL.y_nil, DL.y_pass, DL.y_seq, DL.y_asg, DL.y_unp, DL.y_par, DL.y_ex, DL.y_iff, DL.y_for, DL.y_ret, DL.y_retN, DL.y_seti, DL.y_app, DL.y_setf, DL.onB_t, DL.onB_f, DL.onO_nx, DL.onO_rt, DL.onO_bk, DL.onO_ct, DL.varD_s, DL.lstArgs_s, DL.b_add, DL.b_sub, DL.m_lt, DL.m_le, DL.m_gt, DL.m_ge, DL.m_isN, DL.m_isNN, DL.i_lst, DL.i_rls, DL.i_tup, DL.atI0, DL.atI1, DL.atI2, DL.f_int, DL.f_abs, DL.f_max, DL.f_min, DL.f_lenR, DL.f_lenL, DL.f_lenT, DL.f_tupL, DL.par2_s, DL.enmD_t, DL.enmD_l, DL.lstO_s, DL.lstW_s, DL.i_cell', DL.setiD_c, DL.appD_c, DL.f_tupC', DL.ix0, DL.ix1, DL.ix2, DL.okB_t, DL.finO_rt, DL.finO_nx, DL.finD_k, DL.blw_int, DL.blw_str, DL.blw_non, DL.blw_bl, DL.blw_tup, DL.blw_lst, DL.blwL_nil, DL.blwL_cons, Bool.and_true, Bool.true_and, List.length_cons, List.length_nil, DL.rngD_s, DL.p_nop, DL.p_int, DL.p_neg, DL.p_var, DL.p_glob, DL.p_bin, DL.p_blt, DL.s_rls, DL.s_lst, DL.s_tup, DL.q_lst, DL.q_rls, DL.q_tup, DL.q_str, DL.b_p9, DL.b_p18, DL.bind_nm, DL.sizeD_l, Nat.reduceAdd, Nat.reduceLeDiff, Option.bind_some, Option.map_some, List.getElem?_cons_zero, List.getElem?_cons_succ, List.set_cons_zero, List.set_cons_succ, List.set_set, List.length_set, DL.b_mod, DL.b_fdiv, DL.b_m16807, DL.b_m6469, DL.b_m577, DL.b_m41, DL.finD_e, DL.onB_d, if_true, if_false, Int.reduceLT, Int.reduceLE, Int.reduceNeg, Nat.reduceLT, Nat.reduceLeDiff, K06.tp2, K06.wipe1, K06.nonI, K06.nonN, K06.nonR, K06.a_later, K06.a_answer, K06.a_puts, DL.turnC, DL.compL_cons, DL.compL_nil, DL.forL_cons, DL.forL_nil, DL.onL_nx, DL.onL_rt, DL.onL_ct, Bool.not_true, Bool.not_false, K06.eqi, K06.isi_ii, K06.isi_ib, K06.isi_tt, K06.isi_ss, K06.tru_b, K06.nei, Option.bind_none, K06.tru_t0, eq_self, decide_true, decide_false, *])

theorem at3_0 {c : List D} {x y z : D} {m : Nat} (h : c.length = m) : (c ++ [x, y, z])[m]? = some x := by subst h; simp
theorem at3_1 {c : List D} {x y z : D} {m : Nat} (h : c.length = m) : (c ++ [x, y, z])[m + 1]? = some y := by subst h; simp [List.getElem?_append_right]
theorem at3_2 {c : List D} {x y z : D} {m : Nat} (h : c.length = m) : (c ++ [x, y, z])[m + 2]? = some z := by subst h; simp [List.getElem?_append_right]
theorem st3_0 {c : List D} {x y z v : D} {m : Nat} (h : c.length = m) : (c ++ [x, y, z]).set m v = c ++ [v, y, z] := by subst h; simp
theorem st3_1 {c : List D} {x y z v : D} {m : Nat} (h : c.length = m) : (c ++ [x, y, z]).set (m + 1) v = c ++ [x, v, z] := by subst h; simp [List.set_append_right]
theorem st3_2 {c : List D} {x y z v : D} {m : Nat} (h : c.length = m) : (c ++ [x, y, z]).set (m + 2) v = c ++ [x, y, v] := by subst h; simp [List.set_append_right]
def tail (vs : List (Bool × Int)) : List D := [.lst (vs.map visD), .lst (anss Ls.a2 .e vs), .lst (anss Ls.a1 .e vs)]
def P (g : Int) : Prop := 0 ≤ g ∧ g ≤ 1000000000
theorem right_loop (n w m : Nat) (folk : List Int) (hf : ∀ g ∈ folk, P g) (hf0 : folk ≠ []) (hf1 : folk.length < 1000) (o3 : Option D) :
    ∀ (items : List D) (vs : List (Bool × Int)) (c : List D) (o2 o8 o9 o10 o11 : Option D), Well c w → c.length = m → (∀ v ∈ vs, P v.2) → vs.length + items.length ≤ 200 →
      ∃ (vs' : List (Bool × Int)) (c' : List D) (q2 q8 q9 q10 q11 : Option D), (∀ v ∈ vs', P v.2) ∧ vs'.length ≤ 200 ∧ Dipped c w c' ∧
        forL (evS tab (evCall tab wf (n + 2)) wf b_law_right_L1) (.nm 2) items [some (.cell w), some (.lst (folk.map .int)), o2, o3, some (.cell m), some (.lst ((run .e vs).l.map .int)), some (.cell (m + 1)), some (.cell (m + 2)), o8, o9, o10, o11] (c ++ tail vs) =
          some (.nx [some (.cell w), some (.lst (folk.map .int)), q2, o3, some (.cell m), some (.lst ((run .e vs').l.map .int)), some (.cell (m + 1)), some (.cell (m + 2)), q8, q9, q10, q11], c' ++ tail vs')
  | [], vs, c, o2, o8, o9, o10, o11, hw, hm, hv, hl => by
    refine ⟨vs, c, o2, o8, o9, o10, o11, hv, by simpa using hl, ?_, rfl⟩
    obtain ⟨x, y, z, h⟩ := hw
    refine ⟨x, y, z, ?_⟩
    obtain ⟨hlt, he⟩ := List.getElem?_eq_some_iff.mp h
    rw [← he, List.set_getElem_self]
  | it :: items, vs, c, o2, o8, o9, o10, o11, hw, hm, hv, hl => by
    simp only [List.length_cons] at hl
    obtain ⟨dw, cs1, e1, d1, m1⟩ := one_ex n (items := [.str (PySem.Str.ofString "comes"), .str (PySem.Str.ofString "goes"), .str (PySem.Str.ofString "comes")]) (well_app (t := tail vs) hw) (by simp) (by simp)
    obtain ⟨c1, rfl, f1⟩ := dipped_app (well_lt hw) d1
    have hw1 : Well c1 w := Dipped.well hw f1
    obtain ⟨dg, cs2, e2, d2, m2⟩ := one_ex n (items := folk.map .int) (well_app (t := tail vs) hw1) (by simpa using hf0) (by simpa using hf1)
    obtain ⟨c2, rfl, f2⟩ := dipped_app (well_lt hw1) d2
    have hw2 : Well c2 w := Dipped.well hw1 f2
    have hm2 : c2.length = m := by rw [dip_len f2, dip_len f1, hm]
    obtain ⟨b, rfl⟩ : ∃ b, dw = wishD b := by
      simp only [List.mem_cons, List.not_mem_nil, or_false] at m1
      rcases m1 with rfl | rfl | rfl
      · exact ⟨true, rfl⟩
      · exact ⟨false, rfl⟩
      · exact ⟨true, rfl⟩
    obtain ⟨g, mg, rfl⟩ := List.mem_map.mp m2
    have hv' : ∀ v ∈ vs ++ [(b, g)], P v.2 := by
      intro v hh
      rcases List.mem_append.mp hh with hh | hh
      · exact hv v hh
      · simp only [List.mem_singleton] at hh; subst hh; exact hf g mg
    obtain ⟨vs', c', q2, q8, q9, q10, q11, k1, k2, k3, k4⟩ := right_loop n w m folk hf hf0 hf1 o3 items (vs ++ [(b, g)]) c2 (some it) (some (wishD b)) (some (.int g)) o10 o11 hw2 hm2 hv' (by simp only [List.length_append, List.length_cons, List.length_nil]; omega)
    refine ⟨vs', c', q2, q8, q9, q10, q11, k1, k2, (f1.trans f2).trans k3, ?_⟩
    rw [← k4, forL_cons, bind_nm, Option.bind_some]
    have key : evS tab (evCall tab wf (n + 2)) wf b_law_right_L1 ([some (.cell w), some (.lst (folk.map .int)), some it, o3, some (.cell m), some (.lst ((run .e vs).l.map .int)), some (.cell (m + 1)), some (.cell (m + 2)), o8, o9, o10, o11]) (c ++ tail vs) =
        some (.nx [some (.cell w), some (.lst (folk.map .int)), some it, o3, some (.cell m), some (.lst ((run .e (vs ++ [(b, g)])).l.map .int)), some (.cell (m + 1)), some (.cell (m + 2)), some (wishD b), some (.int g), o10, o11], c2 ++ tail (vs ++ [(b, g)])) := by
      have z0 := fun x y z => at3_0 (x := x) (y := y) (z := z) hm2
      have z1 := fun x y z => at3_1 (x := x) (y := y) (z := z) hm2
      have z2 := fun x y z => at3_2 (x := x) (y := y) (z := z) hm2
      have y0 := fun x y z v => st3_0 (x := x) (y := y) (z := z) (v := v) hm2
      have y1 := fun x y z v => st3_1 (x := x) (y := y) (z := z) (v := v) hm2
      have y2 := fun x y z v => st3_2 (x := x) (y := y) (z := z) (v := v) hm2
      have l0 : decide ((vs.map visD).length < sizeLine) = true := by
        have : (1000 : Nat) < sizeLine := by decide
        simp; omega
      have l1 : decide ((anss Ls.a2 .e vs).length < sizeLine) = true := by
        have : (1000 : Nat) < sizeLine := by decide
        rw [anss_len]; simp; omega
      have l2 : decide ((anss Ls.a1 .e vs).length < sizeLine) = true := by
        have : (1000 : Nat) < sizeLine := by decide
        rw [anss_len]; simp; omega
      have w1 := blw_w
      have w2 := eq_w
      have w3 := in_l
      have w4 := sl1
      have w5 := lastE
      rw [run_snoc]
      unfold tail at e1 e2 ⊢
      rw [anss_snoc, anss_snoc, List.map_append, List.map_cons, List.map_nil]
      generalize run .e vs = s at *
      have E : E5 = (.slc (.bin .Add (.fr (.lst (.cons (.var 9) .nil))) (.fr (.comp (.nm 11) (.iseq (.var 5)) b_law_right_C1 b_law_right_E1))) .nop (.int 2)) := rfl
      unfold b_law_right_L1
      rw [← E]
      generalize E5 = e5 at *
      clear E k4 right_loop hf hv hv' k1 k3 d1 d2 f1 f2 hw hw1 hw2 m1 m2
      cases b
      · have h1 : s.nx (false, g) = s := by simp [Ls.nx]
        rw [h1]
        by_cases q1 : g ∈ s.l <;> by_cases q2 : g ∈ s.l.take 1 <;> walk_at "dr" <;> simp [Ls.a2, Ls.a1, q1, q2, visD]
      · walk_at "dr"
        simp [Ls.a2, Ls.a1, visD]
    rw [show ([some (.cell w), some (.lst (folk.map .int)), o2, o3, some (.cell m), some (.lst ((run .e vs).l.map .int)), some (.cell (m + 1)), some (.cell (m + 2)), o8, o9, o10, o11] : Env').set 2 (some it) = [some (.cell w), some (.lst (folk.map .int)), some it, o3, some (.cell m), some (.lst ((run .e vs).l.map .int)), some (.cell (m + 1)), some (.cell (m + 2)), o8, o9, o10, o11] from rfl, key]
    rfl
end K06

end

section
set_option Elab.async false
set_option linter.all false
set_option maxRecDepth 100000
set_option maxHeartbeats 4000000
namespace K06
open PySem L2 DL
theorem ne_e {cs : List D} {ok : Nat → Bool} {x y : D} : cmpD ok .NotEq cs x y = (eqD cs x y).map (!·) := by cases x <;> cases y <;> rfl
theorem eq_e {cs : List D} {ok : Nat → Bool} {x y : D} : cmpD ok .Eq cs x y = eqD cs x y := by cases x <;> cases y <;> rfl
local macro_rules | `(tactic| walk_at "dr") => `(tactic| simp only [DL.x_var, DL.x_int, DL.x_str, DL.x_bl, DL.x_non, DL.x_glob, DL.x_fr, DL.x_mu, DL.x_bin, DL.x_neg, DL.negD_i, DL.x_cmp, DL.x_chain, DL.x_and, DL.x_or, DL.x_not, DL.x_ite, DL.x_tval, DL.x_tnot, DL.x_tand, DL.x_tor, DL.x_nil, DL.x_cons, DL.x_star, DL.x_lst, DL.x_tup, DL.x_dnil, DL.x_idx, DL.x_slc, DL.x_attr, DL.x_meth, DL.x_call, DL.x_make, DL.x_blt, DL.x_isi, DL.x_isc, DL.x_sm, DL.x_split, DL.x_lof, DL.x_fmt, DL.x_js, DL.x_iseq, DL.x_irng, DL.x_ienum, DL.x_comp, DL.x_dcomp, DL.y_nil, DL.y_pass, DL.y_seq, DL.y_asg, DL.y_unp, DL.y_par, DL.y_ex, DL.y_iff, DL.y_for, DL.y_ret, DL.y_retN, DL.y_seti, DL.y_app, DL.y_setf, DL.onB_t, DL.onB_f, DL.onO_nx, DL.onO_rt, DL.onO_bk, DL.onO_ct, DL.varD_s, DL.lstArgs_s, DL.b_add, DL.b_sub, DL.m_lt, DL.m_le, DL.m_gt, DL.m_ge, DL.m_isN, DL.m_isNN, DL.i_lst, DL.i_rls, DL.i_tup, DL.atI0, DL.atI1, DL.atI2, DL.f_int, DL.f_abs, DL.f_max, DL.f_min, DL.f_lenR, DL.f_lenL, DL.f_lenT, DL.f_tupL, DL.par2_s, DL.enmD_t, DL.enmD_l, DL.lstO_s, DL.lstW_s, DL.i_cell', DL.setiD_c, DL.appD_c, DL.f_tupC', DL.ix0, DL.ix1, DL.ix2, DL.okB_t, DL.finO_rt, DL.finO_nx, DL.finD_k, DL.blw_int, DL.blw_str, DL.blw_non, DL.blw_bl, DL.blw_tup, DL.blw_lst, DL.blwL_nil, DL.blwL_cons, Bool.and_true, Bool.true_and, List.length_cons, List.length_nil, DL.rngD_s, DL.p_nop, DL.p_int, DL.p_neg, DL.p_var, DL.p_glob, DL.p_bin, DL.p_blt, DL.s_rls, DL.s_lst, DL.s_tup, DL.q_lst, DL.q_rls, DL.q_tup, DL.q_str, DL.b_p9, DL.b_p18, DL.bind_nm, DL.sizeD_l, Nat.reduceAdd, Nat.reduceLeDiff, Option.bind_some, Option.map_some, List.getElem?_cons_zero, List.getElem?_cons_succ, List.set_cons_zero, List.set_cons_succ, List.set_set, List.length_set, DL.b_mod, DL.b_fdiv, DL.b_m16807, DL.b_m6469, DL.b_m577, DL.b_m41, DL.finD_e, DL.onB_d, if_true, if_false, Int.reduceLT, Int.reduceLE, Int.reduceNeg, Nat.reduceLT, Nat.reduceLeDiff, K06.tp2, K06.wipe1, K06.nonI, K06.nonN, K06.nonR, K06.a_later, K06.a_answer, K06.a_puts, DL.turnC, DL.compL_cons, DL.compL_nil, DL.forL_cons, DL.forL_nil, DL.onL_nx, DL.onL_rt, DL.onL_ct, Bool.not_true, Bool.not_false, K06.eqi, K06.isi_ii, K06.isi_ib, K06.isi_tt, K06.isi_ss, K06.tru_b, K06.nei, Option.bind_none, K06.tru_t0, eq_self, decide_true, decide_false, List.length_append, List.append_assoc, List.cons_append, List.nil_append, K06.ne_e, K06.eq_e, *])

theorem fin_drop3 {c c' : List D} {x y z : D} {b : Bool} (h : c'.length = c.length) : finD false c.length (.bl b) (c' ++ [x, y, z]) = some (.bl b, c') := by
  unfold finD
  rw [if_neg (by simp), if_neg (by simp; omega)]
  simp [fzD, ← h]
theorem sl2p (s : Ls) : sliceL (s.l.map D.int ++ [.non, .non]) none (some 2) = s.p2 := by cases s <;> rfl
theorem sl1p (s : Ls) : sliceL s.p2 none (some 1) = s.p1 := by cases s <;> rfl
theorem cat2 (cs : List D) (s : Ls) : binA .Add cs (.lst (s.l.map .int)) (.lst [.non, .non]) = some (.lst (s.l.map .int ++ [.non, .non])) := by
  apply b_cat
  have : (1000 : Nat) < sizeLine := by decide
  cases s <;> simp [Ls.l] <;> omega
theorem rE : (run .e []).l = [] := rfl
theorem an0 {a : Ls → Bool × Int → Str} {s : Ls} : anss a s [] = [] := rfl
theorem menuP {d : D} (h : d ∈ [D.int 0, D.int 7, D.int 1000000000, D.int 5]) : ∃ g, d = .int g ∧ P g := by
  simp only [List.mem_cons, List.not_mem_nil, or_false] at h
  rcases h with rfl | rfl | rfl | rfl <;> exact ⟨_, rfl, by unfold P; omega⟩
def rS1 : DL.S := (.asg 1 (.bin .Add (.fr (.comp (.nm 10) (.irng (.int 2)) (.bl true) b_law_right_E2)) (.fr (.lst (.cons (.int 11) (.cons (.int 12) (.cons (.int 13) .nil)))))))
def rS2 : DL.S := (.par 4 5 (.cons (.mu (.lst .nil)) (.cons (.fr (.lst .nil)) .nil)))
def rS3 : DL.S := (.par 6 7 (.cons (.mu (.lst .nil)) (.cons (.mu (.lst .nil)) .nil)))
def rS4 : DL.S := (.for_ (.nm 2) (.irng (.bin .Add (.int 3) (.call 37 (.cons (.var 0) (.cons (.int 20) .nil))))) b_law_right_L1)
def rSr : DL.S := (.seq (.iff (.tor (.cmp .NotEq (.call 34 (.cons (.call 22 .nil) (.cons (.blt .tuple (.cons (.var 4) .nil)) .nil))) (.blt .tuple (.cons (.var 6) .nil))) (.cmp .NotEq (.call 34 (.cons (.call 23 .nil) (.cons (.blt .tuple (.cons (.var 4) .nil)) .nil))) (.blt .tuple (.cons (.var 7) .nil)))) (.seq (.ret (.bl false)) .nil) .nil) (.seq (.asg 3 (.blt .tuple (.cons (.slc (.bin .Add (.var 5) (.fr (.lst (.cons .non (.cons .non .nil))))) .nop (.int 2)) .nil))) (.seq (.iff (.cmp .NotEq (.call 35 (.cons (.call 22 .nil) (.cons (.blt .tuple (.cons (.var 4) .nil)) .nil))) (.tup (.cons (.str (PySem.Str.ofString "calm")) (.cons (.var 3) .nil)))) (.seq (.ret (.bl false)) .nil) .nil) (.seq (.ret (.cmp .Eq (.call 35 (.cons (.call 23 .nil) (.cons (.blt .tuple (.cons (.var 4) .nil)) .nil))) (.tup (.cons (.str (PySem.Str.ofString "calm")) (.cons (.slc (.var 3) .nop (.int 1)) .nil))))) .nil))))
theorem rS_eq : b_law_right = .seq rS1 (.seq rS2 (.seq rS3 (.seq rS4 rSr))) := rfl
theorem right_ok (n : Nat) {w : Nat} {c : List D} (hw : Well c w) (hc : c.length ≤ 4) : ∃ c', Dipped c w c' ∧ evCall tab wf (n + 9) 39 [.cell w] c = some (.bl true, c') := by
  obtain ⟨d1, c1, e1, f1, m1⟩ := one_ex (n + 6) (items := [D.int 0, D.int 7, D.int 1000000000, D.int 5]) hw (by simp) (by simp)
  have hw1 := Dipped.well hw f1
  obtain ⟨d2, c2, e2, f2, m2⟩ := one_ex (n + 6) (items := [D.int 0, D.int 7, D.int 1000000000, D.int 5]) hw1 (by simp) (by simp)
  have hw2 := Dipped.well hw1 f2
  obtain ⟨g1, rfl, p1⟩ := menuP m1
  obtain ⟨g2, rfl, p2⟩ := menuP m2
  obtain ⟨r, cs3, e3, f3, r0, r1⟩ := dip_ex (n + 7) (s := 20) (well_app (t := [.lst [], .lst [], .lst []]) hw2) (by omega) (by omega)
  obtain ⟨c3, rfl, f3'⟩ := dipped_app (well_lt hw2) f3
  have hw3 := Dipped.well hw2 f3'
  have hm : c3.length = c2.length := dip_len f3'
  have hc2 : c2.length = c.length := by rw [dip_len f2, dip_len f1]
  obtain ⟨vs, c4, q2, q8, q9, q10, q11, k1, k2, k3, k4⟩ := right_loop (n + 6) w c2.length [g1, g2, 11, 12, 13] (by
      intro g hg
      simp only [List.mem_cons, List.not_mem_nil, or_false] at hg
      rcases hg with rfl | rfl | rfl | rfl | rfl
      · exact p1
      · exact p2
      all_goals (unfold P; omega)) (by simp) (by simp) none (rangeL 0 (3 + r).toNat) [] c3 none none none none none hw3 hm (by simp) (by simp [rangeL]; omega)
  have hm4 : c4.length = c2.length := by rw [dip_len k3, hm]
  refine ⟨c4, ((f1.trans f2).trans f3').trans k3, ?_⟩
  have b0 : (c4 ++ tail vs).length ≤ 7 := by simp [tail]; omega
  have b1 : (c4 ++ tail vs).length ≤ 8 := by omega
  have t1 := smp n (c4 ++ tail vs) b1
  have t2 := lstb n (c4 ++ tail vs) b1
  have t3 : evCall tab wf (n + 8) 34 [book2, .tup (vs.map visD)] (c4 ++ tail vs) = some (.tup (anss Ls.a2 .e vs), c4 ++ tail vs) := plays2.ans (n + 1) (c4 ++ tail vs) vs b0 k1 k2
  have t4 : evCall tab wf (n + 8) 34 [book1, .tup (vs.map visD)] (c4 ++ tail vs) = some (.tup (anss Ls.a1 .e vs), c4 ++ tail vs) := plays1.ans (n + 1) (c4 ++ tail vs) vs b0 k1 k2
  have t5 : evCall tab wf (n + 8) 35 [book2, .tup (vs.map visD)] (c4 ++ tail vs) = some (now2 (run .e vs), c4 ++ tail vs) := plays2.mom (n + 1) (c4 ++ tail vs) vs b0 k1 k2
  have t6 : evCall tab wf (n + 8) 35 [book1, .tup (vs.map visD)] (c4 ++ tail vs) = some (now1 (run .e vs), c4 ++ tail vs) := plays1.mom (n + 1) (c4 ++ tail vs) vs b0 k1 k2
  have u1 := eq_anss good2 (c4 ++ tail vs) vs .e
  have u2 := eq_anss good1 (c4 ++ tail vs) vs .e
  have u3 := eq_now2 (c4 ++ tail vs) (run .e vs)
  have u4 := eq_now1 (c4 ++ tail vs) (run .e vs)
  unfold now2 at t5 u3
  unfold now1 at t6 u4
  have z0 := fun x y z => at3_0 (x := x) (y := y) (z := z) hm4
  have z1 := fun x y z => at3_1 (x := x) (y := y) (z := z) hm4
  have z2 := fun x y z => at3_2 (x := x) (y := y) (z := z) hm4
  have v1 := sl2p (run .e vs)
  have v2 := sl1p (run .e vs)
  have v3 := fun cs => cat2 cs (run .e vs)
  have hr2 : rngD (.int 2) = some [.int 0, .int 1] := rfl
  have hr3 : rngD (.int (3 + r)) = some (rangeL 0 (3 + r).toNat) := rngD_s (by omega) (by omega)
  have hcat := fun (cs a b : List D) (h : a.length + b.length ≤ 16777216) => b_cat' (cs := cs) (a := a) (b := b) h
  have hfin := fun (x y z : D) (b : Bool) => fin_drop3 (c := c) (c' := c4) (x := x) (y := y) (z := z) (b := b) (by rw [hm4, hc2])
  unfold tail at *
  simp only [rE, List.map_nil, List.map_cons, an0] at k4
  clear k1 k2 k3 b0 b1 hw hw1 hw2 hw3 f1 f2 f3 f3' m1 m2 p1 p2 hm hm4 hc hc2 r0 r1
  generalize run .e vs = s at *
  rw [show n + 9 = (n + 8) + 1 from rfl, c_law_right, rS_eq]
  rw [show n + 6 + 2 = n + 8 from rfl] at e1 e2 k4
  rw [show n + 7 + 1 = n + 8 from rfl] at e3
  generalize evCall tab wf (n + 8) = C at *
  generalize book2 = B2 at *
  generalize book1 = B1 at *
  generalize Ls.a2 = A2 at *
  generalize Ls.a1 = A1 at *
  have p1 : evS tab C wf rS1 [some (.cell w), none, none, none, none, none, none, none, none, none, none, none] c = some (.nx [some (.cell w), some (.lst [.int g1, .int g2, .int 11, .int 12, .int 13]), none, none, none, none, none, none, none, none, none, none], c2) := by
    clear t1 t2 t3 t4 t5 t6 u1 u2 u3 u4 k4 e3 z0 z1 z2 hfin v1 v2 v3
    unfold rS1 b_law_right_E2
    walk_at "dr"
  have p2 : evS tab C wf rS2 [some (.cell w), some (.lst [.int g1, .int g2, .int 11, .int 12, .int 13]), none, none, none, none, none, none, none, none, none, none] c2 = some (.nx [some (.cell w), some (.lst [.int g1, .int g2, .int 11, .int 12, .int 13]), none, none, some (.cell c2.length), some (.lst []), none, none, none, none, none, none], c2 ++ [.lst []]) := by
    clear t1 t2 t3 t4 t5 t6 u1 u2 u3 u4 k4 e3 z0 z1 z2 hfin v1 v2 v3 e1 e2 hcat
    unfold rS2
    walk_at "dr"
  have p3 : evS tab C wf rS3 [some (.cell w), some (.lst [.int g1, .int g2, .int 11, .int 12, .int 13]), none, none, some (.cell c2.length), some (.lst []), none, none, none, none, none, none] (c2 ++ [.lst []]) = some (.nx [some (.cell w), some (.lst [.int g1, .int g2, .int 11, .int 12, .int 13]), none, none, some (.cell c2.length), some (.lst []), some (.cell (c2.length + 1)), some (.cell (c2.length + 2)), none, none, none, none], c2 ++ [.lst [], .lst [], .lst []]) := by
    clear t1 t2 t3 t4 t5 t6 u1 u2 u3 u4 k4 e3 z0 z1 z2 hfin v1 v2 v3 e1 e2 hcat p1 p2
    unfold rS3
    walk_at "dr"
  have p4 := k4
  rw [show forL (evS tab C wf b_law_right_L1) (.nm 2) (rangeL 0 (3 + r).toNat) [some (.cell w), some (.lst [.int g1, .int g2, .int 11, .int 12, .int 13]), none, none, some (.cell c2.length), some (.lst []), some (.cell (c2.length + 1)), some (.cell (c2.length + 2)), none, none, none, none] (c3 ++ [.lst [], .lst [], .lst []]) = evS tab C wf rS4 [some (.cell w), some (.lst [.int g1, .int g2, .int 11, .int 12, .int 13]), none, none, some (.cell c2.length), some (.lst []), some (.cell (c2.length + 1)), some (.cell (c2.length + 2)), none, none, none, none] (c2 ++ [.lst [], .lst [], .lst []]) by
    clear t1 t2 t3 t4 t5 t6 u1 u2 u3 u4 z0 z1 z2 hfin v1 v2 v3 e1 e2 hcat p1 p2 p3 k4 p4
    unfold rS4
    walk_at "dr"] at p4
  have p5 : evS tab C wf rSr [some (.cell w), some (.lst [.int g1, .int g2, .int 11, .int 12, .int 13]), q2, none, some (.cell c2.length), some (.lst (s.l.map .int)), some (.cell (c2.length + 1)), some (.cell (c2.length + 2)), q8, q9, q10, q11] (c4 ++ [.lst (vs.map visD), .lst (anss A2 .e vs), .lst (anss A1 .e vs)]) = some (.rt (.bl true), c4 ++ [.lst (vs.map visD), .lst (anss A2 .e vs), .lst (anss A1 .e vs)]) := by
    have z0' := z0 (.lst (vs.map visD)) (.lst (anss A2 .e vs)) (.lst (anss A1 .e vs))
    have z1' := z1 (.lst (vs.map visD)) (.lst (anss A2 .e vs)) (.lst (anss A1 .e vs))
    have z2' := z2 (.lst (vs.map visD)) (.lst (anss A2 .e vs)) (.lst (anss A1 .e vs))
    clear p1 p2 p3 p4 k4 e1 e2 e3 z0 z1 z2 hfin hcat
    generalize c4 ++ [.lst (vs.map visD), .lst (anss A2 .e vs), .lst (anss A1 .e vs)] = F at *
    generalize vs.map visD = V at *
    generalize anss A2 .e vs = X2 at *
    generalize anss A1 .e vs = X1 at *
    generalize c2.length = m at *
    generalize [D.int g1, .int g2, .int 11, .int 12, .int 13] = folk at *
    unfold rSr
    walk_at "dr"
  rw [y_seq, p1, Option.bind_some, onO_nx, y_seq, p2, Option.bind_some, onO_nx, y_seq, p3, Option.bind_some, onO_nx, y_seq, p4, Option.bind_some, onO_nx, p5]
  exact hfin _ _ _ _
end K06

end

section
set_option Elab.async false
set_option linter.all false
set_option maxRecDepth 100000
set_option maxHeartbeats 4000000
namespace K06
open PySem L2 DL
local macro_rules | `(tactic| walk_at "dr") => `(tactic| simp only [DL.x_var, DL.x_int, DL.x_str, DL.x_bl, DL.x_non, DL.x_glob, DL.x_fr, DL.x_mu, DL.x_bin, DL.x_neg, DL.negD_i, DL.x_cmp, DL.x_chain, DL.x_and, DL.x_or, DL.x_not, DL.x_ite, DL.x_tval, DL.x_tnot, DL.x_tand, DL.x_tor, DL.x_nil, DL.x_cons, DL.x_star, DL.x_lst, DL.x_tup, DL.x_dnil, DL.x_idx, DL.x_slc, DL.x_attr, DL.x_meth, DL.x_call, DL.x_make, DL.x_blt, DL.x_isi, DL.x_isc, DL.x_sm, DL.x_split, DL.x_lof, DL.x_fmt, DL.x_js, DL.x_iseq, DL.x_irng, DL.x_ienum, DL.x_comp, DL.x_dcomp, DL.y_nil, DL.y_pass, DL.y_seq, DL.y_asg, DL.y_unp, DL.y_par, DL.y_ex, DL.y_iff, DL.y_for, DL.y_ret, DL.y_retN, DL.y_seti, DL.y_app, DL.y_setf, DL.onB_t, DL.onB_f, DL.onO_nx, DL.onO_rt, DL.onO_bk, DL.onO_ct, DL.varD_s, DL.lstArgs_s, DL.b_add, DL.b_sub, DL.m_lt, DL.m_le, DL.m_gt, DL.m_ge, DL.m_isN, DL.m_isNN, DL.i_lst, DL.i_rls, DL.i_tup, DL.atI0, DL.atI1, DL.atI2, DL.f_int, DL.f_abs, DL.f_max, DL.f_min, DL.f_lenR, DL.f_lenL, DL.f_lenT, DL.f_tupL, DL.par2_s, DL.enmD_t, DL.enmD_l, DL.lstO_s, DL.lstW_s, DL.i_cell', DL.setiD_c, DL.appD_c, DL.f_tupC', DL.ix0, DL.ix1, DL.ix2, DL.okB_t, DL.finO_rt, DL.finO_nx, DL.finD_k, DL.blw_int, DL.blw_str, DL.blw_non, DL.blw_bl, DL.blw_tup, DL.blw_lst, DL.blwL_nil, DL.blwL_cons, Bool.and_true, Bool.true_and, List.length_cons, List.length_nil, DL.rngD_s, DL.p_nop, DL.p_int, DL.p_neg, DL.p_var, DL.p_glob, DL.p_bin, DL.p_blt, DL.s_rls, DL.s_lst, DL.s_tup, DL.q_lst, DL.q_rls, DL.q_tup, DL.q_str, DL.b_p9, DL.b_p18, DL.bind_nm, DL.sizeD_l, Nat.reduceAdd, Nat.reduceLeDiff, Option.bind_some, Option.map_some, List.getElem?_cons_zero, List.getElem?_cons_succ, List.set_cons_zero, List.set_cons_succ, List.set_set, List.length_set, DL.b_mod, DL.b_fdiv, DL.b_m16807, DL.b_m6469, DL.b_m577, DL.b_m41, DL.finD_e, DL.onB_d, if_true, if_false, Int.reduceLT, Int.reduceLE, Int.reduceNeg, Nat.reduceLT, Nat.reduceLeDiff, K06.tp2, K06.wipe1, K06.nonI, K06.nonN, K06.nonR, K06.a_later, K06.a_answer, K06.a_puts, DL.turnC, DL.compL_cons, DL.compL_nil, DL.forL_cons, DL.forL_nil, DL.onL_nx, DL.onL_rt, DL.onL_ct, Bool.not_true, Bool.not_false, K06.eqi, K06.isi_ii, K06.isi_ib, K06.isi_tt, K06.isi_ss, K06.tru_b, K06.nei, Option.bind_none, K06.tru_t0, eq_self, decide_true, decide_false, List.length_append, List.append_assoc, List.cons_append, List.nil_append, K06.ne_e, K06.eq_e, *])

theorem law_comp (n : Nat) (ns : List Int) (o1 o2 o3 o4 : Option D) : ∀ (k : Nat) (lo : Int) (cs : List D), 0 ≤ lo → cs.length + k ≤ 4 →
    ∃ cs', compL (turnC tab (evCall tab wf (n + 9)) (.nm 4) (.bl true) b_law_E1 [some (.rls (ns.map .int)), o1, o2, o3, o4]) (rangeL lo k) cs = some (List.replicate k (.bl true), cs')
  | 0, lo, cs, _, _ => ⟨cs, rfl⟩
  | k + 1, lo, cs, h0, hl => by
    obtain ⟨a, b, e1⟩ := well_ex (n + 8) (cs := cs) (ns := ns) h0
    have hw : Well (cs ++ [.lst [.int a, .int b, .int 0]]) cs.length := ⟨a, b, 0, at_end cs _⟩
    obtain ⟨c', d, e2⟩ := right_ok n hw (by simp; omega)
    have hl' : c'.length + k ≤ 4 := by rw [dip_len d]; simp; omega
    obtain ⟨cs', e3⟩ := law_comp n ns o1 o2 o3 o4 k (lo + 1) c' (by omega) hl'
    refine ⟨cs', ?_⟩
    have e4 : rangeL lo (k + 1) = .int lo :: rangeL (lo + 1) k := by
      unfold rangeL
      rw [List.range_succ_eq_map, List.map_cons, List.map_map]
      refine List.cons_eq_cons.mpr ⟨by simp, List.map_congr_left fun i _ => ?_⟩
      simp; omega
    rw [e4, compL_cons, List.replicate_succ]
    have e5 : turnC tab (evCall tab wf (n + 9)) (.nm 4) (.bl true) b_law_E1 [some (.rls (ns.map .int)), o1, o2, o3, o4] (.int lo) cs = some (some (.bl true), c') := by
      clear e3 law_comp
      unfold b_law_E1
      walk_at "dr"
    rw [e5, Option.bind_some, e3]
    rfl
theorem all_t (cs : List D) : ∀ k : Nat, bltD .all cs [.lst (List.replicate k (.bl true))] = some (.bl true) := by
  intro k
  have : ∀ k, bools (List.replicate k (.bl true)) = some (List.replicate k true) := by
    intro k
    induction k with
    | zero => rfl
    | succ k ih => rw [List.replicate_succ, bools, ih]; rfl
  simp [bltD, lstD, cont, this]
def sA : Str := t_6
def sB : Str := t_5 ++ t_4
def sC : Str := t_3 ++ PySem.Str.ofString "any goes stranger: no same 0"
def condE : E := (.cmp .NotEq (.fr (.lst (.cons (.stro (.call 22 .nil)) (.cons (.stro (.call 23 .nil)) .nil)))) (.fr (.lst (.cons (.bin .Add (.bin .Add (.var 1) (.var 2)) (.str (PySem.Str.ofString "any comes 1: in same 1 0"))) (.cons (.bin .Add (.var 1) (.var 3)) .nil)))))
theorem cond_f (n : Nat) (xs : List D) : ev tab (evCall tab wf (n + 9)) condE [some (.rls xs), some (.str sA), some (.str sB), some (.str sC), none] [] = some (.bl false, []) := by kernel_rfl
theorem catB : binA .Add [] (.str t_5) (.str t_4) = some (.str sB) := by kernel_rfl
theorem catC : binA .Add [] (.str t_3) (.str (PySem.Str.ofString "any goes stranger: no same 0")) = some (.str sC) := by kernel_rfl
theorem mainN (n : Nat) (ns : List Int) (h : ns.length ≤ 63) : ∃ cs', evCall tab wf (n + 10) 40 [.rls (ns.map .int)] [] = some (.bl true, cs') := by
  have fin : ∀ cs : List D, ∃ cs', finD false 0 (.bl true) cs = some (.bl true, cs') := by
    intro cs
    unfold finD
    by_cases h : cs.length = 0
    · exact ⟨cs, by simp [h]⟩
    · exact ⟨cs.take 0, by simp [h, fzD]⟩
  have K : ∃ k : Int, 0 ≤ k ∧ k ≤ 4 ∧ (if (if (4 : Int) < ((ns.map D.int).length : Int) then (4 : Int) else ((ns.map D.int).length : Int)) > 2 then (if (4 : Int) < ((ns.map D.int).length : Int) then (4 : Int) else ((ns.map D.int).length : Int)) else 2) = k := by
    refine ⟨_, ?_, ?_, rfl⟩ <;> (repeat' split) <;> omega
  obtain ⟨k, k0, k1, ek⟩ := K
  obtain ⟨cs', e⟩ := law_comp n ns (some (.str sA)) (some (.str sB)) (some (.str sC)) none k.toNat 0 [] (by omega) (by simp; omega)
  obtain ⟨cs2, e2⟩ := fin cs'
  have hr : rngD (.int k) = some (rangeL 0 k.toNat) := rngD_s (by omega) (by omega)
  have ha := fun cs => all_t cs k.toNat
  have hl : (List.replicate k.toNat (D.bl true)).length ≤ 16777216 := by simp; omega
  have c1 := cond_f n (ns.map .int)
  have c2 := catB
  have c3 := catC
  refine ⟨cs2, ?_⟩
  rw [show n + 10 = (n + 9) + 1 from rfl, c_law]
  unfold b_law
  have E : condE = (.cmp .NotEq (.fr (.lst (.cons (.stro (.call 22 .nil)) (.cons (.stro (.call 23 .nil)) .nil)))) (.fr (.lst (.cons (.bin .Add (.bin .Add (.var 1) (.var 2)) (.str (PySem.Str.ofString "any comes 1: in same 1 0"))) (.cons (.bin .Add (.var 1) (.var 3)) .nil))))) := rfl
  rw [← E, show t_6 = sA from rfl]
  clear E
  generalize condE = cE at *
  clear fin
  generalize evCall tab wf (n + 9) = C at *
  generalize sA = A at *
  generalize sB = B at *
  generalize sC = CC at *
  generalize t_3 = T3 at *
  generalize t_4 = T4 at *
  generalize t_5 = T5 at *
  generalize PySem.Str.ofString "any goes stranger: no same 0" = T2 at *
  have q1 : evS tab C wf (.asg 2 (.bin .Add (.var 2) (.str T4))) [some (.rls (ns.map .int)), some (.str A), some (.str T5), none, none] [] = some (.nx [some (.rls (ns.map .int)), some (.str A), some (.str B), none, none], []) := by
    clear e e2 hr ha hl c1 c3 ek k0 k1
    walk_at "dr"
  have q2 : evS tab C wf (.iff cE (.seq (.ret (.bl false)) .nil) .nil) [some (.rls (ns.map .int)), some (.str A), some (.str B), some (.str CC), none] [] = some (.nx [some (.rls (ns.map .int)), some (.str A), some (.str B), some (.str CC), none], []) := by
    clear e e2 hr ha hl c2 c3 ek k0 k1
    walk_at "dr"
  have q3 : ev tab C (.irng (.blt .max (.cons (.int 2) (.cons (.blt .min (.cons (.blt .len (.cons (.var 0) .nil)) (.cons (.int 4) .nil))) .nil)))) [some (.rls (ns.map .int)), some (.str A), some (.str B), some (.str CC), none] [] = some (.lst (rangeL 0 k.toNat), []) := by
    clear e e2 ha hl c1 c2 c3 k0 k1
    walk_at "dr"
  have q4 : ev tab C (.fr (.comp (.nm 4) (.irng (.blt .max (.cons (.int 2) (.cons (.blt .min (.cons (.blt .len (.cons (.var 0) .nil)) (.cons (.int 4) .nil))) .nil)))) (.bl true) b_law_E1)) [some (.rls (ns.map .int)), some (.str A), some (.str B), some (.str CC), none] [] = some (.lst (List.replicate k.toNat (.bl true)), cs') := by
    clear e2 ha c1 c2 c3 k0 k1 q1 q2
    rw [x_fr, x_comp, q3, Option.bind_some, lstArgs_s, Option.bind_some, e, Option.bind_some]
    exact sizeD_l hl
  generalize (E.fr (.comp (.nm 4) (.irng (.blt .max (.cons (.int 2) (.cons (.blt .min (.cons (.blt .len (.cons (.var 0) .nil)) (.cons (.int 4) .nil))) .nil)))) (.bl true) b_law_E1)) = cC at *
  clear e hr hl k0 k1 ek q3 h
  generalize List.replicate k.toNat (D.bl true) = rr at *
  have q0 : evS tab C wf (.asg 3 (.bin .Add (.var 3) (.str T2))) [some (.rls (ns.map .int)), some (.str A), some (.str B), some (.str T3), none] [] = some (.nx [some (.rls (ns.map .int)), some (.str A), some (.str B), some (.str CC), none], []) := by
    clear e2 ha c1 c2 q1 q2 q4
    walk_at "dr"
  have q5 : evS tab C wf (.seq (.ret (.blt .all (.cons cC .nil))) .nil) [some (.rls (ns.map .int)), some (.str A), some (.str B), some (.str CC), none] [] = some (.rt (.bl true), cs') := by
    clear e2 c1 c2 c3 q1 q2 q0
    walk_at "dr"
  have r1 : ∀ (x : Str) (d1 d2 d3 d4 : Option D), evS tab C wf (.asg 1 (.str x)) [some (.rls (ns.map .int)), d1, d2, d3, d4] [] = some (.nx [some (.rls (ns.map .int)), some (.str x), d2, d3, d4], []) := fun _ _ _ _ _ => rfl
  have r2 : ∀ (x : Str) (d1 d2 d3 d4 : Option D), evS tab C wf (.asg 2 (.str x)) [some (.rls (ns.map .int)), d1, d2, d3, d4] [] = some (.nx [some (.rls (ns.map .int)), d1, some (.str x), d3, d4], []) := fun _ _ _ _ _ => rfl
  have r3 : ∀ (x : Str) (d1 d2 d3 d4 : Option D), evS tab C wf (.asg 3 (.str x)) [some (.rls (ns.map .int)), d1, d2, d3, d4] [] = some (.nx [some (.rls (ns.map .int)), d1, d2, some (.str x), d4], []) := fun _ _ _ _ _ => rfl
  rw [y_seq, r1, Option.bind_some, onO_nx, y_seq, r2, Option.bind_some, onO_nx, y_seq, q1, Option.bind_some, onO_nx, y_seq, r3, Option.bind_some, onO_nx, y_seq, q0, Option.bind_some, onO_nx, y_seq, q2, Option.bind_some, onO_nx, q5]
  exact e2
theorem main (ns : List Int) (h : ns.length ≤ 63) : ∃ cs', evCall tab wf 10 lawIx [.rls (ns.map .int)] [] = some (.bl true, cs') := mainN 0 ns h
end K06

end

section
open PySem PySem.W PyProof.Rows
set_option Elab.async false
set_option maxRecDepth 100000
set_option maxHeartbeats 0
theorem PySem.Challenge.cw_fewfaces_k06_sample_books_holds : PySem.Challenge.rw_fewfaces_k06_sample_books.Holds := by
  w_on; o_law; k_head; (case hw => w_witness2)
  k_fill
  refine L2.walk_ofK (l := PySem.Challenge.rw_fewfaces_k06_sample_books) (n := 63) (k := 30) (x := "_law_script") (CX := L2.CX0) (sp := DL.spL K06.tab K06.wf 10 K06.lawIx) rfl (by decide) rfl ⟨rfl, by decide, by decide⟩ (fun w h Y => PySem.W.kIn_of Y) ?F ?S (fun _ _ _ _ z => z)
  case S =>
    intro K H a ns hl hO hS
    obtain ⟨cs', e⟩ := K06.main ns hl
    exact DL.law_start hS e
  case F =>
    intro w mg fa h KX G hmg
    refine' K06.fin_mk KX G hmg ?aC0 ?aC1 ?aC2 ?a0 ?l0 ?c0 ?k0 ?a1 ?l1 ?c1 ?k1 ?a2 ?l2 ?c2 ?k2 ?a3 ?l3 ?c3 ?k3 ?a4 ?i4 ?l4 ?c4 ?k4 ?a5 ?i5 ?l5 ?c5 ?k5 ?a6 ?i6 ?l6 ?c6 ?k6 ?a7 ?l7 ?c7 ?k7 ?a8 ?l8 ?c8 ?k8 ?a9 ?l9 ?c9 ?k9 ?a10 ?l10 ?c10 ?k10 ?a11 ?l11 ?c11 ?k11 ?a12 ?l12 ?c12 ?k12 ?a13 ?l13 ?c13 ?k13 ?a14 ?l14 ?c14 ?k14 ?a15 ?i15 ?l15 ?c15 ?k15 ?a16 ?g16 ?t16 ?r16_ ?l16 ?c16 ?k16 ?a17 ?g17 ?t17 ?r17_ ?l17 ?c17 ?k17 ?a18 ?g18 ?t18 ?r18_ ?l18 ?c18 ?k18 ?a19 ?g19 ?t19 ?r19_ ?l19 ?c19 ?k19 ?a20 ?i20 ?l20 ?c20 ?k20 ?a21 ?l21 ?c21 ?k21 ?a22 ?l22 ?c22 ?k22 ?a23 ?l23 ?c23 ?k23 ?a24 ?l24 ?c24 ?k24 ?a25 ?l25 ?c25 ?k25 ?a26 ?l26 ?c26 ?k26 ?a27 ?l27 ?c27 ?k27 ?a28 ?l28 ?c28 ?k28 ?a29 ?l29 ?c29 ?k29 ?a30 ?l30 ?c30 ?k30 ?a31 ?l31 ?c31 ?k31 ?a32 ?l32 ?c32 ?k32 ?a33 ?l33 ?c33 ?k33 ?a34 ?l34 ?c34 ?k34 ?a35 ?l35 ?c35 ?k35 ?a36 ?l36 ?c36 ?k36 ?a37 ?l37 ?c37 ?k37 ?a38 ?l38 ?c38 ?k38 ?a39 ?l39 ?c39 ?k39 ?a40 ?l40 ?c40 ?k40 ?pgC0 ?hdC0 ?poC0 ?saC0 ?mkC0 ?kcC0 ?haC0 ?hmC0 ?eqC0 ?icC0 ?tyC0 ?sNoneTypeC0 ?sboolC0 ?sintC0 ?sstrC0 ?slistC0 ?stupleC0 ?sdictC0 ?nC0_mood ?nC0_wish ?nC0_place ?nC0_answer ?nC0_later ?nC0_puts ?pgC1 ?hdC1 ?poC1 ?saC1 ?mkC1 ?kcC1 ?haC1 ?hmC1 ?eqC1 ?icC1 ?tyC1 ?sNoneTypeC1 ?sboolC1 ?sintC1 ?sstrC1 ?slistC1 ?stupleC1 ?sdictC1 ?nC1_wish_words ?nC1_answer_words ?nC1_mood_words ?nC1_spots ?pgC2 ?hdC2 ?poC2 ?saC2 ?mkC2 ?kcC2 ?haC2 ?hmC2 ?icC2 ?tyC2 ?sNoneTypeC2 ?sboolC2 ?sintC2 ?sstrC2 ?slistC2 ?stupleC2 ?sdictC2 ?nC2_wording ?nC2_shape ?nC2_parts ?nC2_noted ?z_abs ?z_all ?z_any ?z_int ?z_len ?z_max ?z_min ?z_str ?z_tuple ?z_range ?z_enumerate ?z_isinstance ?z_list ?z_bool ?z_dict ?v0 ?v1 ?v2 ?v3 ?v4 ?v5 ?v6 ?v7 ?v8 ?v9 ?w9 ?v10 ?v11 ?oc1 ?oc2
    (case aC0 => first | k_is | rfl)
    (case aC1 => first | k_is | rfl)
    (case aC2 => first | k_is | rfl)
    (case a0 => first | k_is | rfl)
    (case l0 => first | k_is | rfl)
    (case c0 => first | k_is | rfl)
    (case k0 => first | k_is | rfl)
    (case a1 => first | k_is | rfl)
    (case l1 => first | k_is | rfl)
    (case c1 => first | k_is | rfl)
    (case k1 => first | k_is | rfl)
    (case a2 => first | k_is | rfl)
    (case l2 => first | k_is | rfl)
    (case c2 => first | k_is | rfl)
    (case k2 => first | k_is | rfl)
    (case a3 => first | k_is | rfl)
    (case l3 => first | k_is | rfl)
    (case c3 => first | k_is | rfl)
    (case k3 => first | k_is | rfl)
    (case a4 => first | k_is | rfl)
    (case i4 => first | k_is | rfl)
    (case l4 => first | k_is | rfl)
    (case c4 => first | k_is | rfl)
    (case k4 => first | k_is | rfl)
    (case a5 => first | k_is | rfl)
    (case i5 => first | k_is | rfl)
    (case l5 => first | k_is | rfl)
    (case c5 => first | k_is | rfl)
    (case k5 => first | k_is | rfl)
    (case a6 => first | k_is | rfl)
    (case i6 => first | k_is | rfl)
    (case l6 => first | k_is | rfl)
    (case c6 => first | k_is | rfl)
    (case k6 => first | k_is | rfl)
    (case a7 => first | k_is | rfl)
    (case l7 => first | k_is | rfl)
    (case c7 => first | k_is | rfl)
    (case k7 => first | k_is | rfl)
    (case a8 => first | k_is | rfl)
    (case l8 => first | k_is | rfl)
    (case c8 => first | k_is | rfl)
    (case k8 => first | k_is | rfl)
    (case a9 => first | k_is | rfl)
    (case l9 => first | k_is | rfl)
    (case c9 => first | k_is | rfl)
    (case k9 => first | k_is | rfl)
    (case a10 => first | k_is | rfl)
    (case l10 => first | k_is | rfl)
    (case c10 => first | k_is | rfl)
    (case k10 => first | k_is | rfl)
    (case a11 => first | k_is | rfl)
    (case l11 => first | k_is | rfl)
    (case c11 => first | k_is | rfl)
    (case k11 => first | k_is | rfl)
    (case a12 => first | k_is | rfl)
    (case l12 => first | k_is | rfl)
    (case c12 => first | k_is | rfl)
    (case k12 => first | k_is | rfl)
    (case a13 => first | k_is | rfl)
    (case l13 => first | k_is | rfl)
    (case c13 => first | k_is | rfl)
    (case k13 => first | k_is | rfl)
    (case a14 => first | k_is | rfl)
    (case l14 => first | k_is | rfl)
    (case c14 => first | k_is | rfl)
    (case k14 => first | k_is | rfl)
    (case a15 => first | k_is | rfl)
    (case i15 => first | k_is | rfl)
    (case l15 => first | k_is | rfl)
    (case c15 => first | k_is | rfl)
    (case k15 => first | k_is | rfl)
    (case a16 => first | k_is | rfl)
    (case g16 => first | k_is | rfl)
    (case t16 => first | k_is | rfl)
    (case r16_ => first | k_is | rfl)
    (case l16 => first | k_is | rfl)
    (case c16 => first | k_is | rfl)
    (case k16 => first | k_is | rfl)
    (case a17 => first | k_is | rfl)
    (case g17 => first | k_is | rfl)
    (case t17 => first | k_is | rfl)
    (case r17_ => first | k_is | rfl)
    (case l17 => first | k_is | rfl)
    (case c17 => first | k_is | rfl)
    (case k17 => first | k_is | rfl)
    (case a18 => first | k_is | rfl)
    (case g18 => first | k_is | rfl)
    (case t18 => first | k_is | rfl)
    (case r18_ => first | k_is | rfl)
    (case l18 => first | k_is | rfl)
    (case c18 => first | k_is | rfl)
    (case k18 => first | k_is | rfl)
    (case a19 => first | k_is | rfl)
    (case g19 => first | k_is | rfl)
    (case t19 => first | k_is | rfl)
    (case r19_ => first | k_is | rfl)
    (case l19 => first | k_is | rfl)
    (case c19 => first | k_is | rfl)
    (case k19 => first | k_is | rfl)
    (case a20 => first | k_is | rfl)
    (case i20 => first | k_is | rfl)
    (case l20 => first | k_is | rfl)
    (case c20 => first | k_is | rfl)
    (case k20 => first | k_is | rfl)
    (case a21 => first | k_is | rfl)
    (case l21 => first | k_is | rfl)
    (case c21 => first | k_is | rfl)
    (case k21 => first | k_is | rfl)
    (case a22 => first | k_is | rfl)
    (case l22 => first | k_is | rfl)
    (case c22 => first | k_is | rfl)
    (case k22 => first | k_is | rfl)
    (case a23 => first | k_is | rfl)
    (case l23 => first | k_is | rfl)
    (case c23 => first | k_is | rfl)
    (case k23 => first | k_is | rfl)
    (case a24 => first | k_is | rfl)
    (case l24 => first | k_is | rfl)
    (case c24 => first | k_is | rfl)
    (case k24 => first | k_is | rfl)
    (case a25 => first | k_is | rfl)
    (case l25 => first | k_is | rfl)
    (case c25 => first | k_is | rfl)
    (case k25 => first | k_is | rfl)
    (case a26 => first | k_is | rfl)
    (case l26 => first | k_is | rfl)
    (case c26 => first | k_is | rfl)
    (case k26 => first | k_is | rfl)
    (case a27 => first | k_is | rfl)
    (case l27 => first | k_is | rfl)
    (case c27 => first | k_is | rfl)
    (case k27 => first | k_is | rfl)
    (case a28 => first | k_is | rfl)
    (case l28 => first | k_is | rfl)
    (case c28 => first | k_is | rfl)
    (case k28 => first | k_is | rfl)
    (case a29 => first | k_is | rfl)
    (case l29 => first | k_is | rfl)
    (case c29 => first | k_is | rfl)
    (case k29 => first | k_is | rfl)
    (case a30 => first | k_is | rfl)
    (case l30 => first | k_is | rfl)
    (case c30 => first | k_is | rfl)
    (case k30 => first | k_is | rfl)
    (case a31 => first | k_is | rfl)
    (case l31 => first | k_is | rfl)
    (case c31 => first | k_is | rfl)
    (case k31 => first | k_is | rfl)
    (case a32 => first | k_is | rfl)
    (case l32 => first | k_is | rfl)
    (case c32 => first | k_is | rfl)
    (case k32 => first | k_is | rfl)
    (case a33 => first | k_is | rfl)
    (case l33 => first | k_is | rfl)
    (case c33 => first | k_is | rfl)
    (case k33 => first | k_is | rfl)
    (case a34 => first | k_is | rfl)
    (case l34 => first | k_is | rfl)
    (case c34 => first | k_is | rfl)
    (case k34 => first | k_is | rfl)
    (case a35 => first | k_is | rfl)
    (case l35 => first | k_is | rfl)
    (case c35 => first | k_is | rfl)
    (case k35 => first | k_is | rfl)
    (case a36 => first | k_is | rfl)
    (case l36 => first | k_is | rfl)
    (case c36 => first | k_is | rfl)
    (case k36 => first | k_is | rfl)
    (case a37 => first | k_is | rfl)
    (case l37 => first | k_is | rfl)
    (case c37 => first | k_is | rfl)
    (case k37 => first | k_is | rfl)
    (case a38 => first | k_is | rfl)
    (case l38 => first | k_is | rfl)
    (case c38 => first | k_is | rfl)
    (case k38 => first | k_is | rfl)
    (case a39 => first | k_is | rfl)
    (case l39 => first | k_is | rfl)
    (case c39 => first | k_is | rfl)
    (case k39 => first | k_is | rfl)
    (case a40 => first | k_is | rfl)
    (case l40 => first | k_is | rfl)
    (case c40 => first | k_is | rfl)
    (case k40 => first | k_is | rfl)
    (case pgC0 => first | k_is | rfl)
    (case hdC0 => first | k_is | rfl)
    (case poC0 => first | k_is | rfl)
    (case saC0 => first | k_is | rfl)
    (case mkC0 => first | k_is | rfl)
    (case kcC0 => first | k_is | rfl)
    (case haC0 => first | k_is | rfl)
    (case hmC0 => first | k_is | rfl)
    (case eqC0 => first | k_is | rfl)
    (case icC0 => first | k_is | rfl)
    (case tyC0 => first | k_is | rfl)
    (case sNoneTypeC0 => first | k_is | rfl)
    (case sboolC0 => first | k_is | rfl)
    (case sintC0 => first | k_is | rfl)
    (case sstrC0 => first | k_is | rfl)
    (case slistC0 => first | k_is | rfl)
    (case stupleC0 => first | k_is | rfl)
    (case sdictC0 => first | k_is | rfl)
    (case nC0_mood => first | k_is | rfl)
    (case nC0_wish => first | k_is | rfl)
    (case nC0_place => first | k_is | rfl)
    (case nC0_answer => first | k_is | rfl)
    (case nC0_later => first | k_is | rfl)
    (case nC0_puts => first | k_is | rfl)
    (case pgC1 => first | k_is | rfl)
    (case hdC1 => first | k_is | rfl)
    (case poC1 => first | k_is | rfl)
    (case saC1 => first | k_is | rfl)
    (case mkC1 => first | k_is | rfl)
    (case kcC1 => first | k_is | rfl)
    (case haC1 => first | k_is | rfl)
    (case hmC1 => first | k_is | rfl)
    (case eqC1 => first | k_is | rfl)
    (case icC1 => first | k_is | rfl)
    (case tyC1 => first | k_is | rfl)
    (case sNoneTypeC1 => first | k_is | rfl)
    (case sboolC1 => first | k_is | rfl)
    (case sintC1 => first | k_is | rfl)
    (case sstrC1 => first | k_is | rfl)
    (case slistC1 => first | k_is | rfl)
    (case stupleC1 => first | k_is | rfl)
    (case sdictC1 => first | k_is | rfl)
    (case nC1_wish_words => first | k_is | rfl)
    (case nC1_answer_words => first | k_is | rfl)
    (case nC1_mood_words => first | k_is | rfl)
    (case nC1_spots => first | k_is | rfl)
    (case pgC2 => first | k_is | rfl)
    (case hdC2 => first | k_is | rfl)
    (case poC2 => first | k_is | rfl)
    (case saC2 => first | k_is | rfl)
    (case mkC2 => first | k_is | rfl)
    (case kcC2 => first | k_is | rfl)
    (case haC2 => first | k_is | rfl)
    (case hmC2 => first | k_is | rfl)
    (case icC2 => first | k_is | rfl)
    (case tyC2 => first | k_is | rfl)
    (case sNoneTypeC2 => first | k_is | rfl)
    (case sboolC2 => first | k_is | rfl)
    (case sintC2 => first | k_is | rfl)
    (case sstrC2 => first | k_is | rfl)
    (case slistC2 => first | k_is | rfl)
    (case stupleC2 => first | k_is | rfl)
    (case sdictC2 => first | k_is | rfl)
    (case nC2_wording => first | k_is | rfl)
    (case nC2_shape => first | k_is | rfl)
    (case nC2_parts => first | k_is | rfl)
    (case nC2_noted => first | k_is | rfl)
    (case z_abs => first | k_is | rfl)
    (case z_all => first | k_is | rfl)
    (case z_any => first | k_is | rfl)
    (case z_int => first | k_is | rfl)
    (case z_len => first | k_is | rfl)
    (case z_max => first | k_is | rfl)
    (case z_min => first | k_is | rfl)
    (case z_str => first | k_is | rfl)
    (case z_tuple => first | k_is | rfl)
    (case z_range => first | k_is | rfl)
    (case z_enumerate => first | k_is | rfl)
    (case z_isinstance => first | k_is | rfl)
    (case z_list => first | k_is | rfl)
    (case z_bool => first | k_is | rfl)
    (case z_dict => first | k_is | rfl)
    (case v0 => first | k_is | rfl)
    (case v1 => first | k_is | rfl)
    (case v2 => first | k_is | rfl)
    (case v3 => first | k_is | rfl)
    (case v4 => first | k_is | rfl)
    (case v5 => first | k_is | rfl)
    (case v6 => first | k_is | rfl)
    (case v7 => first | k_is | rfl)
    (case v8 => first | k_is | rfl)
    (case v9 => first | k_is | rfl)
    (case w9 => first | k_is | rfl)
    (case v10 => first | k_is | rfl)
    (case v11 => first | k_is | rfl)
    (case oc1 => first | k_is | rfl)
    (case oc2 => first | k_is | rfl)

end
