import PyProof.Rows.All
import Wide.All
import OpenK.AllK
import Wide.FinOn
import HandS.ForMost
import HandS.Flow
import HandS.Conv
import HandS.DictComp
import HandS.TupAny
import HandS.IsInst
import HandS.SortInts
import HandS.SetFor
import HandS.Strs
import PySem.Challenge.RW_sayingsdown_k28_whole_least_and_greatest
set_option Elab.async false
set_option linter.all false
set_option maxRecDepth 100000
/-! SD1: values as trees, objects in a store; what stands for what. -/
namespace SD
open PySem PySem.Spec PyProof.Rows L2

/-- values: tuples are trees, what can change is a number of the store -/
inductive D where
  | non | bl (b : Bool) | int (i : Int) | str (s : Str) | tup (xs : List D) | frz (xs : List D) | ref (n : Nat)

mutual
def D.beq : D → D → Bool
  | .non, .non => true
  | .bl a, .bl b => a == b
  | .int a, .int b => a == b
  | .str a, .str b => decide (a = b)
  | .tup a, .tup b => D.beqs a b
  | .frz a, .frz b => D.beqs a b
  | .ref a, .ref b => a == b
  | _, _ => false
def D.beqs : List D → List D → Bool
  | [], [] => true
  | a :: as, b :: bs => D.beq a b && D.beqs as bs
  | _, _ => false
end
mutual
theorem D.beq_self : ∀ a : D, D.beq a a = true
  | .non => rfl
  | .bl a => by simp [D.beq]
  | .int a => by simp [D.beq]
  | .str a => by simp [D.beq]
  | .tup a => by rw [D.beq]; exact D.beqs_self a
  | .frz a => by rw [D.beq]; exact D.beqs_self a
  | .ref a => by simp [D.beq]
theorem D.beqs_self : ∀ a : List D, D.beqs a a = true
  | [] => rfl
  | a :: as => by rw [D.beqs, D.beq_self a, D.beqs_self as]; rfl
end
mutual
theorem D.eq_of_beq : ∀ a b : D, D.beq a b = true → a = b
  | .non, b, h => by cases b <;> first | rfl | (simp [D.beq] at h)
  | .bl a, b, h => by cases b <;> first | (simp [D.beq] at h; done) | (simp only [D.beq, beq_iff_eq] at h; rw [h])
  | .int a, b, h => by cases b <;> first | (simp [D.beq] at h; done) | (simp only [D.beq, beq_iff_eq] at h; rw [h])
  | .str a, b, h => by cases b <;> first | (simp [D.beq] at h; done) | (simp only [D.beq, decide_eq_true_eq] at h; rw [h])
  | .ref a, b, h => by cases b <;> first | (simp [D.beq] at h; done) | (simp only [D.beq, beq_iff_eq] at h; rw [h])
  | .tup a, b, h => by
    cases b <;> first | (simp [D.beq] at h; done) | skip
    rename_i b
    simp only [D.beq] at h
    rw [D.eqs_of_beqs a b h]
  | .frz a, b, h => by
    cases b <;> first | (simp [D.beq] at h; done) | skip
    rename_i b
    simp only [D.beq] at h
    rw [D.eqs_of_beqs a b h]
theorem D.eqs_of_beqs : ∀ a b : List D, D.beqs a b = true → a = b
  | [], b, h => by cases b <;> first | rfl | (simp [D.beqs] at h)
  | a :: as, b, h => by
    cases b with
    | nil => simp [D.beqs] at h
    | cons b bs =>
      simp only [D.beqs, Bool.and_eq_true] at h
      rw [D.eq_of_beq a b h.1, D.eqs_of_beqs as bs h.2]
end
instance : DecidableEq D := fun a b => if h : D.beq a b = true then .isTrue (D.eq_of_beq a b h) else .isFalse fun e => h (by rw [e]; exact D.beq_self b)

inductive Cell where
  | lst (xs : List D) | dct (kvs : List (D × D)) | lck (kvs : List (D × D))
abbrev Slots := List (Option D)
abbrev Store := List Cell
def keyD : Key → D
  | .inl i => .int i
  | .inr s => .str s
theorem keyD_inj {a b : Key} (h : keyD a = keyD b) : a = b := by
  cases a <;> cases b <;> simp_all [keyD]

/-- a list that is never written: the script, a list of the written part -/
def FzL (K : PySem.W.Frag) (H : Hp) (a : Addr) (xs : List V) : Prop :=
  (∃ o, H a = some (.frz o (.lst xs))) ∨ ((∀ H' : Hp, SqL K H' a xs))
theorem FzL.sq {K : PySem.W.Frag} {H : Hp} {a : Addr} {xs : List V} (h : FzL K H a xs) : SqL K H a xs := by
  rcases h with ⟨o, h⟩ | h
  · exact .inl (.inr ⟨o, h⟩)
  · exact h H

mutual
inductive RD (K : PySem.W.Frag) (m : List Addr) (H : Hp) : D → V → Prop
  | non : RD K m H .non .non
  | bl (b : Bool) : RD K m H (.bl b) (.bl b)
  | int (i : Int) : RD K m H (.int i) (.int i)
  | str (x : Str) : RD K m H (.str x) (.str x)
  | tup {p : Addr} {xs : List D} {vs : List V} : SqT K H p vs → vs.length ≤ sizeLine → RDs K m H xs vs → RD K m H (.tup xs) (.ref p)
  | frz {p : Addr} {xs : List D} {vs : List V} : FzL K H p vs → vs.length ≤ sizeLine → RDs K m H xs vs → RD K m H (.frz xs) (.ref p)
  | ref {n : Nat} {p : Addr} : m[n]? = some p → RD K m H (.ref n) (.ref p)
inductive RDs (K : PySem.W.Frag) (m : List Addr) (H : Hp) : List D → List V → Prop
  | nil : RDs K m H [] []
  | cons {d : D} {v : V} {ds : List D} {vs : List V} : RD K m H d v → RDs K m H ds vs → RDs K m H (d :: ds) (v :: vs)
end

/-- from one state to a later one -/
structure Grow (m : List Addr) (H : Hp) (m' : List Addr) (H' : Hp) : Prop where
  pre : m <+: m'
  tups : ∀ a xs, H a = some (.tup xs) → H' a = some (.tup xs)
  frzs : ∀ a o u, H a = some (.frz o u) → H' a = some (.frz o u)
theorem Grow.refl (m : List Addr) (H : Hp) : Grow m H m H := ⟨List.prefix_refl m, fun _ _ h => h, fun _ _ _ h => h⟩
theorem Grow.trans {m1 m2 m3 : List Addr} {H1 H2 H3 : Hp} (a : Grow m1 H1 m2 H2) (b : Grow m2 H2 m3 H3) : Grow m1 H1 m3 H3 :=
  ⟨a.pre.trans b.pre, fun c xs h => b.tups c xs (a.tups c xs h), fun c o u h => b.frzs c o u (a.frzs c o u h)⟩
theorem Grow.sqT {K : PySem.W.Frag} {m m' : List Addr} {H H' : Hp} (g : Grow m H m' H') {a : Addr} {xs : List V} (h : SqT K H a xs) : SqT K H' a xs := by
  rcases h with (h | ⟨o, h⟩) | h
  · exact .inl (.inl (g.tups _ _ h))
  · exact .inl (.inr ⟨o, g.frzs _ _ _ h⟩)
  · exact .inr h
theorem Grow.fzL {K : PySem.W.Frag} {m m' : List Addr} {H H' : Hp} (g : Grow m H m' H') {a : Addr} {xs : List V} (h : FzL K H a xs) : FzL K H' a xs := by
  rcases h with ⟨o, h⟩ | h
  · exact .inl ⟨o, g.frzs _ _ _ h⟩
  · exact .inr h
theorem Grow.at {m m' : List Addr} {H H' : Hp} (g : Grow m H m' H') {n : Nat} {p : Addr} (h : m[n]? = some p) : m'[n]? = some p := by
  obtain ⟨t, rfl⟩ := g.pre
  rw [List.getElem?_append_left (List.getElem?_eq_some_iff.mp h).1]
  exact h
/-- .. but for dicts that were locked -/
structure Grow0 (m : List Addr) (H : Hp) (m' : List Addr) (H' : Hp) : Prop where
  pre : m <+: m'
  tups : ∀ a xs, H a = some (.tup xs) → H' a = some (.tup xs)
  frzs : ∀ a o u, (∀ kw, u ≠ .dK kw) → H a = some (.frz o u) → H' a = some (.frz o u)
theorem Grow.weak {m m' : List Addr} {H H' : Hp} (g : Grow m H m' H') : Grow0 m H m' H' := ⟨g.pre, g.tups, fun a o u _ h => g.frzs a o u h⟩
theorem Grow0.sqT {K : PySem.W.Frag} {m m' : List Addr} {H H' : Hp} (g : Grow0 m H m' H') {a : Addr} {xs : List V} (h : SqT K H a xs) : SqT K H' a xs := by
  rcases h with (h | ⟨o, h⟩) | h
  · exact .inl (.inl (g.tups _ _ h))
  · exact .inl (.inr ⟨o, g.frzs _ _ _ (fun _ z => by cases z) h⟩)
  · exact .inr h
theorem Grow0.fzL {K : PySem.W.Frag} {m m' : List Addr} {H H' : Hp} (g : Grow0 m H m' H') {a : Addr} {xs : List V} (h : FzL K H a xs) : FzL K H' a xs := by
  rcases h with ⟨o, h⟩ | h
  · exact .inl ⟨o, g.frzs _ _ _ (fun _ z => by cases z) h⟩
  · exact .inr h
theorem Grow0.at {m m' : List Addr} {H H' : Hp} (g : Grow0 m H m' H') {n : Nat} {p : Addr} (h : m[n]? = some p) : m'[n]? = some p := by
  obtain ⟨t, rfl⟩ := g.pre
  rw [List.getElem?_append_left (List.getElem?_eq_some_iff.mp h).1]
  exact h
section
variable {K : PySem.W.Frag} {m m' : List Addr} {H H' : Hp}
mutual
theorem RD.mono (g : Grow0 m H m' H') : ∀ (d : D) (v : V), RD K m H d v → RD K m' H' d v
  | .non, _, h => by cases h; exact .non
  | .bl b, _, h => by cases h; exact .bl b
  | .int b, _, h => by cases h; exact .int b
  | .str b, _, h => by cases h; exact .str b
  | .tup xs, _, h => by
    cases h with
    | tup a z b => exact .tup (g.sqT a) z (RDs.mono g xs _ b)
  | .frz xs, _, h => by
    cases h with
    | frz a z b => exact .frz (g.fzL a) z (RDs.mono g xs _ b)
  | .ref n, _, h => by
    cases h with
    | ref a => exact .ref (g.at a)
theorem RDs.mono (g : Grow0 m H m' H') : ∀ (d : List D) (v : List V), RDs K m H d v → RDs K m' H' d v
  | [], _, h => by cases h; exact .nil
  | d :: ds, _, h => by
    cases h with
    | cons a b => exact .cons (RD.mono g d _ a) (RDs.mono g ds _ b)
end
theorem RD.up {d : D} {v : V} (r : RD K m H d v) (g : Grow m H m' H') : RD K m' H' d v := RD.mono g.weak d v r
theorem RDs.up {d : List D} {v : List V} (r : RDs K m H d v) (g : Grow m H m' H') : RDs K m' H' d v := RDs.mono g.weak d v r
theorem RDs.length : ∀ {xs : List D} {vs : List V}, RDs K m H xs vs → xs.length = vs.length
  | _, _, .nil => rfl
  | _, _, .cons _ t => congrArg (· + 1) (RDs.length t)
theorem RDs.get : ∀ {xs : List D} {vs : List V} {i : Nat} {d : D}, RDs K m H xs vs → xs[i]? = some d → ∃ v, vs[i]? = some v ∧ RD K m H d v
  | _, _, _, _, .nil, e => by simp at e
  | _, _, 0, _, .cons r _, e => by simp at e; subst e; exact ⟨_, rfl, r⟩
  | _, _, i + 1, d, .cons _ t, e => by
    obtain ⟨v, h1, h2⟩ := RDs.get (i := i) (d := d) t (by simpa using e)
    exact ⟨v, by simpa using h1, h2⟩
theorem RDs.get' : ∀ {xs : List D} {vs : List V} {i : Nat} {v : V}, RDs K m H xs vs → vs[i]? = some v → ∃ d, xs[i]? = some d ∧ RD K m H d v
  | _, _, _, _, .nil, e => by simp at e
  | _, _, 0, _, .cons r _, e => by simp at e; subst e; exact ⟨_, rfl, r⟩
  | _, _, i + 1, d, .cons _ t, e => by
    obtain ⟨v, h1, h2⟩ := RDs.get' (i := i) (v := d) t (by simpa using e)
    exact ⟨v, by simpa using h1, h2⟩
theorem RDs.append : ∀ {xs ys : List D} {vs ws : List V}, RDs K m H xs vs → RDs K m H ys ws → RDs K m H (xs ++ ys) (vs ++ ws)
  | _, _, _, _, .nil, s => s
  | _, _, _, _, .cons r t, s => .cons r (RDs.append t s)
theorem RDs.take : ∀ {xs : List D} {vs : List V} (n : Nat), RDs K m H xs vs → RDs K m H (xs.take n) (vs.take n)
  | _, _, 0, _ => by simpa using RDs.nil
  | _, _, n + 1, .nil => .nil
  | _, _, n + 1, .cons r t => .cons r (RDs.take n t)
theorem RDs.drop : ∀ {xs : List D} {vs : List V} (n : Nat), RDs K m H xs vs → RDs K m H (xs.drop n) (vs.drop n)
  | _, _, 0, r => r
  | _, _, n + 1, .nil => .nil
  | _, _, n + 1, .cons r t => RDs.drop n t
theorem RDs.set {d : D} {v : V} (r : RD K m H d v) : ∀ {xs : List D} {vs : List V} (n : Nat), RDs K m H xs vs → RDs K m H (xs.set n d) (vs.set n v)
  | _, _, _, .nil => .nil
  | _, _, 0, .cons _ t => .cons r t
  | _, _, n + 1, .cons q t => .cons q (RDs.set r n t)
theorem RDs.ints : ∀ {ns : List Int} {vs : List V}, RDs K m H (ns.map D.int) vs → vs = ns.map V.int
  | [], _, h => by cases h; rfl
  | n :: ns, _, h => by
    cases h with
    | cons a b => cases a; rw [RDs.ints b]; rfl
theorem RDs.of_ints : ∀ (ns : List Int), RDs K m H (ns.map D.int) (ns.map V.int)
  | [] => .nil
  | n :: ns => .cons (.int n) (RDs.of_ints ns)
theorem RDs.of_get : ∀ {xs : List D} {vs : List V}, xs.length = vs.length → (∀ (i : Nat) d v, xs[i]? = some d → vs[i]? = some v → RD K m H d v) → RDs K m H xs vs
  | [], [], _, _ => .nil
  | [], _ :: _, h, _ => by simp at h
  | _ :: _, [], h, _ => by simp at h
  | x :: xs, v :: vs, h, f => .cons (f 0 x v rfl rfl) (RDs.of_get (by simpa using h) fun i d w a b => f (i + 1) d w (by simpa using a) (by simpa using b))
end

/-- the pairs of a dict -/
abbrev RKV (K : PySem.W.Frag) (m : List Addr) (H : Hp) : List (D × D) → List (Key × V) → Prop := Paired fun p q => p.1 = keyD q.1 ∧ RD K m H p.2 q.2
inductive RCell (K : PySem.W.Frag) (m : List Addr) (H : Hp) : Cell → Option HO → Prop
  | lst {xs : List D} {vs : List V} : xs.length ≤ sizeLine → RDs K m H xs vs → RCell K m H (.lst xs) (some (.lst vs))
  | dct {kvs : List (D × D)} {kw : List (Key × V)} : kvs.length ≤ sizeLine → RKV K m H kvs kw → RCell K m H (.dct kvs) (some (.dK kw))
  | lck {kvs : List (D × D)} {kw : List (Key × V)} {o : Obj} : kvs.length ≤ sizeLine → RKV K m H kvs kw → RCell K m H (.lck kvs) (some (.frz o (.dK kw)))
theorem RKV.up {K : PySem.W.Frag} {m m' : List Addr} {H H' : Hp} {a : List (D × D)} {b : List (Key × V)} (r : RKV K m H a b) (g : Grow m H m' H') : RKV K m' H' a b :=
  Paired.mapP r fun _ _ h => ⟨h.1, h.2.up g⟩
theorem RCell.up {K : PySem.W.Frag} {m m' : List Addr} {H H' : Hp} {c : Cell} {o : Option HO} (r : RCell K m H c o) (g : Grow m H m' H') : RCell K m' H' c o := by
  cases r with
  | lst z a => exact .lst z (a.up g)
  | dct z a => exact .dct z (a.up g)
  | lck z a => exact .lck z (a.up g)

theorem RCell.up0 {K : PySem.W.Frag} {m m' : List Addr} {H H' : Hp} {c : Cell} {o : Option HO} (r : RCell K m H c o) (g : Grow0 m H m' H') : RCell K m' H' c o := by
  cases r with
  | lst z a => exact .lst z (RDs.mono g _ _ a)
  | dct z a => exact .dct z (Paired.mapP a fun _ _ h => ⟨h.1, RD.mono g _ _ h.2⟩)
  | lck z a => exact .lck z (Paired.mapP a fun _ _ h => ⟨h.1, RD.mono g _ _ h.2⟩)
structure Sim (K : PySem.W.Frag) (m : List Addr) (S : Store) (H : Hp) : Prop where
  len : m.length = S.length
  nd : m.Nodup
  cell : ∀ (i : Nat) p c, m[i]? = some p → S[i]? = some c → RCell K m H c (H p)
section
variable {K : PySem.W.Frag} {m m' : List Addr} {H H' : Hp} {S : Store}
theorem RCell.some {c : Cell} {o : Option HO} (r : RCell K m H c o) : ∃ u, o = Option.some u ∧ (∀ xs, u ≠ .tup xs) := by
  cases r <;> exact ⟨_, rfl, fun _ h => by cases h⟩
theorem Sim.at (s : Sim K m S H) {n : Nat} {c : Cell} (h : S[n]? = some c) : ∃ p, m[n]? = some p ∧ RCell K m H c (H p) := by
  have hl : n < m.length := by rw [s.len]; exact (List.getElem?_eq_some_iff.mp h).1
  exact ⟨m[n], by simp [hl], s.cell n m[n] c (by simp [hl]) h⟩
theorem Sim.has (s : Sim K m S H) {p : Addr} (h : p ∈ m) : ∃ u, H p = some u := by
  obtain ⟨i, hi⟩ := List.getElem?_of_mem h
  have hl : i < S.length := by rw [← s.len]; exact (List.getElem?_eq_some_iff.mp hi).1
  obtain ⟨u, e, _⟩ := (s.cell i p S[i] hi (by simp [hl])).some
  exact ⟨u, e⟩
theorem Grow.new {p : Addr} (h : H p = none) (o : HO) (hm : m <+: m') : Grow m H m' (upd H p o) :=
  ⟨hm, fun a xs e => by rw [upd_ne (ne_of_none e h)]; exact e, fun a q u e => by rw [upd_ne (ne_of_none e h)]; exact e⟩
/-- a new object that is not in the store (a tuple) -/
theorem Sim.plus (s : Sim K m S H) {p : Addr} (h : H p = none) (o : HO) : Sim K m S (upd H p o) := by
  refine ⟨s.len, s.nd, fun i q c a b => ?_⟩
  obtain ⟨u, e⟩ := s.has (List.mem_of_getElem? a)
  rw [upd_ne (ne_of_none e h)]
  exact (s.cell i q c a b).up (Grow.new h o (List.prefix_refl m))
/-- a new cell -/
theorem Sim.alloc (s : Sim K m S H) {p : Addr} (h : H p = none) {o : HO} {c : Cell} (r : RCell K (m ++ [p]) (upd H p o) c (some o)) : Sim K (m ++ [p]) (S ++ [c]) (upd H p o) := by
  have g : Grow m H (m ++ [p]) (upd H p o) := Grow.new h o (List.prefix_append _ _)
  have nin : p ∉ m := fun hm => by
    obtain ⟨u, e⟩ := s.has hm
    rw [h] at e; cases e
  refine ⟨by simp [s.len], ?_, fun i q d a b => ?_⟩
  · rw [List.nodup_append]
    exact ⟨s.nd, by simp, fun x hx y hy => by rw [List.mem_singleton] at hy; rw [hy]; exact fun e => nin (e ▸ hx)⟩
  · by_cases hi : i < m.length
    · rw [List.getElem?_append_left hi] at a
      rw [List.getElem?_append_left (by rw [← s.len]; exact hi)] at b
      obtain ⟨u, e⟩ := s.has (List.mem_of_getElem? a)
      rw [upd_ne (ne_of_none e h)]
      exact (s.cell i q d a b).up g
    · have hi' : i = m.length := by
        have := (List.getElem?_eq_some_iff.mp a).1
        simp at this
        omega
      subst hi'
      rw [List.getElem?_append_right (Nat.le_refl _)] at a
      rw [List.getElem?_append_right (by rw [s.len]; exact Nat.le_refl _)] at b
      simp [s.len] at a b
      subst a b
      rw [upd_same]
      exact r
theorem Grow.write {n : Nat} {p : Addr} {c : Cell} (s : Sim K m S H) (hp : m[n]? = some p) (hc : S[n]? = some c) (hl : ∀ kvs, c ≠ .lck kvs) (o : HO) : Grow m H m (upd H p o) := by
  have r := s.cell n p c hp hc
  refine ⟨List.prefix_refl m, fun a xs e => ?_, fun a q u e => ?_⟩
  · have ne : a ≠ p := fun z => by
      subst z
      rw [e] at r; cases r
    rw [upd_ne ne]; exact e
  · have ne : a ≠ p := fun z => by
      subst z
      rw [e] at r
      cases r with
      | lck _ _ => exact hl _ rfl
    rw [upd_ne ne]; exact e
theorem Sim.write {n : Nat} {p : Addr} {c c' : Cell} {o : HO} (s : Sim K m S H) (hp : m[n]? = some p) (hc : S[n]? = some c) (hl : ∀ kvs, c ≠ .lck kvs) (r : RCell K m (upd H p o) c' (some o)) : Sim K m (S.set n c') (upd H p o) := by
  have g := Grow.write s hp hc hl o
  refine ⟨by simp [s.len], s.nd, fun i q d a b => ?_⟩
  by_cases hi : i = n
  · subst hi
    rw [hp] at a; cases a
    have : i < S.length := (List.getElem?_eq_some_iff.mp hc).1
    rw [List.getElem?_set_self this] at b
    cases b
    rw [upd_same]
    exact r
  · rw [List.getElem?_set_ne (Ne.symm hi)] at b
    have ne : q ≠ p := fun e => hi (nd_ix s.nd a (e ▸ hp))
    rw [upd_ne ne]
    exact (s.cell i q d a b).up g
end

/-- the slots -/
structure RSl (K : PySem.W.Frag) (m : List Addr) (H : Hp) (σ : L2.St) (σd : Slots) : Prop where
  len : σ.length = σd.length
  val : ∀ (i : Nat) d, σd[i]? = some (some d) → ∃ v, σ[i]? = some (some v) ∧ RD K m H d v
section
variable {K : PySem.W.Frag} {m m' : List Addr} {H H' : Hp} {σ : L2.St} {σd : Slots}
theorem RSl.up (r : RSl K m H σ σd) (g : Grow m H m' H') : RSl K m' H' σ σd := ⟨r.len, fun i d h => let ⟨v, a, b⟩ := r.val i d h; ⟨v, a, b.up g⟩⟩
theorem RSl.set (r : RSl K m H σ σd) {d : D} {v : V} (q : RD K m H d v) (i : Nat) : RSl K m H (σ.set i (some v)) (σd.set i (some d)) := by
  refine ⟨by simp [r.len], fun j e h => ?_⟩
  by_cases hj : i = j
  · subst hj
    have hl : i < σd.length := by
      have := (List.getElem?_eq_some_iff.mp h).1
      simpa using this
    rw [List.getElem?_set_self hl] at h
    cases h
    exact ⟨v, List.getElem?_set_self (by rw [r.len]; exact hl), q⟩
  · rw [List.getElem?_set_ne hj] at h ⊢
    exact r.val j e h
theorem RSl.unset (r : RSl K m H σ σd) (i : Nat) : RSl K m H (σ.set i none) (σd.set i none) := by
  refine ⟨by simp [r.len], fun j e h => ?_⟩
  by_cases hj : i = j
  · subst hj
    have hl : i < σd.length := by
      have := (List.getElem?_eq_some_iff.mp h).1
      simpa using this
    rw [List.getElem?_set_self hl] at h
    cases h
  · rw [List.getElem?_set_ne hj] at h ⊢
    exact r.val j e h
end
def wipeD (σ : Slots) : List Nat → Slots
  | [] => σ
  | v :: vs => (wipeD σ vs).set v none
theorem RSl.wipe {K : PySem.W.Frag} {m : List Addr} {H : Hp} {σ : L2.St} {σd : Slots} (r : RSl K m H σ σd) : ∀ vs : List Nat, RSl K m H (wipe σ vs) (wipeD σd vs)
  | [] => r
  | v :: vs => (RSl.wipe r vs).unset v

/-! ### readings over D -/
abbrev PD := D → Store → Prop
abbrev FE := Slots → Store → PD → Prop
abbrev FT := Slots → Store → (Bool → Store → Prop) → Prop
abbrev FA := Slots → Store → (List D → Store → Prop) → Prop
structure EndsD where
  nx : Slots → Store → Prop
  rt : PD
  bk : Slots → Store → Prop := fun _ _ => False
  ct : Slots → Store → Prop := fun _ _ => False
abbrev FS := EndsD → Slots → Store → Prop

/-- from here on a wish over D is as good as one over V -/
def WD (K : PySem.W.Frag) (m : List Addr) (H : Hp) (P : PD) (Q : VK) : Prop := ∀ d S' m' v H', P d S' → Grow m H m' H' → Sim K m' S' H' → RD K m' H' d v → Q v H'
def WL (K : PySem.W.Frag) (m : List Addr) (H : Hp) (P : List D → Store → Prop) (Q : List V → Hp → Prop) : Prop := ∀ d S' m' v H', P d S' → Grow m H m' H' → Sim K m' S' H' → RDs K m' H' d v → Q v H'
def WB (K : PySem.W.Frag) (m : List Addr) (H : Hp) (P : Bool → Store → Prop) (Q : Bool → Hp → Prop) : Prop := ∀ b S' m' H', P b S' → Grow m H m' H' → Sim K m' S' H' → Q b H'
def WS (K : PySem.W.Frag) (m : List Addr) (H : Hp) (P : Slots → Store → Prop) (Q : L2.St → Hp → Prop) : Prop := ∀ σd S' m' σ H', P σd S' → Grow m H m' H' → Sim K m' S' H' → RSl K m' H' σ σd → Q σ H'
structure WE (K : PySem.W.Frag) (m : List Addr) (H : Hp) (E : EndsD) (D : Ends) : Prop where
  nx : WS K m H E.nx D.nx
  rt : WD K m H E.rt D.rt
  bk : WS K m H E.bk D.bk
  ct : WS K m H E.ct D.ct
section
variable {K : PySem.W.Frag} {m m' : List Addr} {H H' : Hp}
theorem WD.up {P : PD} {Q : VK} (w : WD K m H P Q) (g : Grow m H m' H') : WD K m' H' P Q := fun d S' m2 v H2 h g2 s r => w d S' m2 v H2 h (g.trans g2) s r
theorem WL.up {P : List D → Store → Prop} {Q : List V → Hp → Prop} (w : WL K m H P Q) (g : Grow m H m' H') : WL K m' H' P Q := fun d S' m2 v H2 h g2 s r => w d S' m2 v H2 h (g.trans g2) s r
theorem WB.up {P : Bool → Store → Prop} {Q : Bool → Hp → Prop} (w : WB K m H P Q) (g : Grow m H m' H') : WB K m' H' P Q := fun b S' m2 H2 h g2 s => w b S' m2 H2 h (g.trans g2) s
theorem WS.up {P : Slots → Store → Prop} {Q : L2.St → Hp → Prop} (w : WS K m H P Q) (g : Grow m H m' H') : WS K m' H' P Q := fun d S' m2 v H2 h g2 s r => w d S' m2 v H2 h (g.trans g2) s r
theorem WE.up {E : EndsD} {D : Ends} (w : WE K m H E D) (g : Grow m H m' H') : WE K m' H' E D := ⟨w.nx.up g, w.rt.up g, w.bk.up g, w.ct.up g⟩
end
section
variable (K : PySem.W.Frag)
def tOf (f : FE) : TE := fun σ H Q => ∃ m σd S P, Sim K m S H ∧ RSl K m H σ σd ∧ f σd S P ∧ WD K m H P Q
def tOfT (f : FT) : TT := fun σ H Q => ∃ m σd S P, Sim K m S H ∧ RSl K m H σ σd ∧ f σd S P ∧ WB K m H P Q
def tOfA (f : FA) : TA := fun σ H Q => ∃ m σd S P, Sim K m S H ∧ RSl K m H σ σd ∧ f σd S P ∧ WL K m H P Q
def tOfS (f : FS) : TS := fun D σ H => ∃ m σd S E, Sim K m S H ∧ RSl K m H σ σd ∧ f E σd S ∧ WE K m H E D
end
abbrev RE (X : Cx) (e : Expr) (f : FE) : Prop := PE X e (tOf X.K f)
abbrev RT (X : Cx) (e : Expr) (f : FT) : Prop := PT X e (tOfT X.K f)
abbrev RW (X : Cx) (e : Expr) (f : FT) : Prop := PW X e (tOfT X.K f)
abbrev RA (X : Cx) (es : List Expr) (f : FA) : Prop := PA X es (tOfA X.K f)
abbrev RS (X : Cx) (st : Stmt) (f : FS) : Prop := PS X st (tOfS X.K f)
abbrev RSs (X : Cx) (st : List Stmt) (f : FS) : Prop := PSs X st (tOfS X.K f)
section
variable {X : Cx}
theorem pe_w {e : Expr} {t t' : TE} (h : PE X e t) (w : ∀ σ H Q, t' σ H Q → t σ H Q) : PE X e t' := ⟨fun pins s σ H Q I q => h.run pins s σ H Q I (w σ H Q q)⟩
theorem pt_w {e : Expr} {t t' : TT} (h : PT X e t) (w : ∀ σ H Q, t' σ H Q → t σ H Q) : PT X e t' := ⟨fun pins s σ H Q I q => h.run pins s σ H Q I (w σ H Q q)⟩
theorem pw_w {e : Expr} {t t' : TT} (h : PW X e t) (w : ∀ σ H Q, t' σ H Q → t σ H Q) : PW X e t' := ⟨fun wh pins s σ H Q I q => h.run wh pins s σ H Q I (w σ H Q q)⟩
theorem pa_w {e : List Expr} {t t' : TA} (h : PA X e t) (w : ∀ σ H Q, t' σ H Q → t σ H Q) : PA X e t' := ⟨fun pos pins s σ H Q I q => h.run pos pins s σ H Q I (w σ H Q q)⟩
theorem ps_w {e : Stmt} {t t' : TS} (h : PS X e t) (w : ∀ D σ H, t' D σ H → t D σ H) : PS X e t' := ⟨fun pins s σ H D I q => h.run pins s σ H D I (w D σ H q)⟩
theorem pss_w {e : List Stmt} {t t' : TS} (h : PSs X e t) (w : ∀ D σ H, t' D σ H → t D σ H) : PSs X e t' := ⟨fun pins s σ H D I q => h.run pins s σ H D I (w D σ H q)⟩
end
end SD
/-! SD2: the rules of expressions over D. -/
namespace SD
open PySem PySem.Spec PyProof.Rows L2

/-! ### names, constants, displays -/
def eVar (i : Nat) : FE := fun σ S Q => ∃ d, σ[i]? = some (some d) ∧ Q d S
def eC (d : D) : FE := fun _ S Q => Q d S
def aNil : FA := fun _ S Q => Q [] S
def aCons (f : FE) (g : FA) : FA := fun σ S Q => f σ S fun d S1 => g σ S1 fun ds S2 => Q (d :: ds) S2
def eTup (f : FA) : FE := fun σ S Q => f σ S fun ds S1 => ds.length ≤ sizeLine ∧ Q (.tup ds) S1
def eLst (f : FA) : FE := fun σ S Q => f σ S fun ds S1 => ds.length ≤ sizeLine ∧ Q (.ref S1.length) (S1 ++ [.lst ds])
section
variable {X : Cx}
theorem re_var (i : Nat) {x : Str} {pos : Pos} (hN : X.N[i]? = some x := by rfl) (hv : Vis X.env.scope x := by first | exact Or.inl rfl | exact Or.inr (Or.inl rfl) | exact Or.inr (Or.inr rfl)) (hd : (x == ("__debug__" : Str)) = false := by decide)
    (hcd : (x == ("__classdict__" : Str)) = false := by decide) : RE X (.Name x pos) (eVar i) := by
  refine pe_w (pe_var hN hv hd hcd) fun σ H Q h => ?_
  obtain ⟨m, σd, S, P, s, r, ⟨d, e, p⟩, w⟩ := h
  obtain ⟨v, e1, r1⟩ := r.val i d e
  exact ⟨v, e1, w d S m v H p (.refl _ _) s r1⟩
theorem re_const {e : Expr} {v : V} {d : D} (h : PE X e (tC v)) (hd : ∀ m H, RD X.K m H d v) : RE X e (eC d) := by
  refine pe_w h fun σ H Q q => ?_
  obtain ⟨m, σd, S, P, s, r, p, w⟩ := q
  exact w d S m v H p (.refl _ _) s (hd m H)
theorem re_int {i j pos} : RE X (.Constant (.int i) j pos) (eC (.int i)) := re_const pe_int fun _ _ => .int i
theorem re_bl {b j pos} : RE X (.Constant (.bool b) j pos) (eC (.bl b)) := re_const pe_bl fun _ _ => .bl b
theorem re_non {j pos} : RE X (.Constant .none j pos) (eC .non) := re_const pe_non fun _ _ => .non
theorem re_str {x j pos} : RE X (.Constant (.str x) j pos) (eC (.str x)) := re_const pe_str fun _ _ => .str x
theorem ra_nil : RA X [] aNil := by
  refine pa_w pa_nil fun σ H Q q => ?_
  obtain ⟨m, σd, S, P, s, r, p, w⟩ := q
  exact w [] S m [] H p (.refl _ _) s .nil
theorem ra_cons {e : Expr} {es : List Expr} {f : FE} {g : FA} (ha : RE X e f) (hr : RA X es g) (hs : starEach (e :: es) X.env = (false, eval e X.env) :: starEach es X.env := by rfl) : RA X (e :: es) (aCons f g) := by
  refine pa_w (pa_cons ha hr hs) fun σ H Q q => ?_
  obtain ⟨m, σd, S, P, s, r, p, w⟩ := q
  refine ⟨m, σd, S, _, s, r, p, fun d S1 m1 v H1 p1 g1 s1 r1 => ?_⟩
  exact ⟨m1, σd, S1, _, s1, r.up g1, p1, fun ds S2 m2 vs H2 p2 g2 s2 r2 => w (d :: ds) S2 m2 (v :: vs) H2 p2 (g1.trans g2) s2 (.cons (r1.up g2) r2)⟩
theorem re_tup {es : List Expr} {pos : Pos} {x1} {f : FA} (h : RA X es f) : RE X (.Tuple es x1 pos) (eTup f) := by
  refine pe_w (pe_tup h) fun σ H Q q => ?_
  obtain ⟨m, σd, S, P, s, r, p, w⟩ := q
  refine ⟨m, σd, S, _, s, r, p, fun ds S1 m1 vs H1 ⟨z, p1⟩ g1 s1 r1 => ⟨by rw [← r1.length]; exact z, fun a ha => ?_⟩⟩
  have g2 : Grow m1 H1 m1 (upd H1 a (.tup vs)) := Grow.new ha _ (List.prefix_refl _)
  exact w (.tup ds) S1 m1 (.ref a) _ p1 (g1.trans g2) (s1.plus ha _) (.tup (SqT.of upd_same) (by rw [← r1.length]; exact z) (r1.up g2))
/-- a new list -/
theorem new_lst {K : PySem.W.Frag} {m : List Addr} {S : Store} {H : Hp} {ds : List D} {vs : List V} {a : Addr} (s : Sim K m S H) (ha : H a = none) (r : RDs K m H ds vs) (z : ds.length ≤ sizeLine) :
    Grow m H (m ++ [a]) (upd H a (.lst vs)) ∧ Sim K (m ++ [a]) (S ++ [.lst ds]) (upd H a (.lst vs)) ∧ RD K (m ++ [a]) (upd H a (.lst vs)) (.ref S.length) (.ref a) := by
  have g2 : Grow m H (m ++ [a]) (upd H a (.lst vs)) := Grow.new ha _ (List.prefix_append _ _)
  exact ⟨g2, s.alloc ha (.lst z (r.up g2)), .ref (by rw [← s.len]; simp)⟩
theorem re_lst {es : List Expr} {pos : Pos} {f : FA} (h : RA X es f) : RE X (.List es pos) (eLst f) := by
  refine pe_w (pe_lst h) fun σ H Q q => ?_
  obtain ⟨m, σd, S, P, s, r, p, w⟩ := q
  refine ⟨m, σd, S, _, s, r, p, fun ds S1 m1 vs H1 ⟨z, p1⟩ g1 s1 r1 => ⟨by rw [← r1.length]; exact z, fun a ha => ?_⟩⟩
  obtain ⟨g2, s2, r2⟩ := new_lst s1 ha r1 z
  exact w _ _ _ _ _ p1 (g1.trans g2) s2 r2
end

/-! ### two values -/
abbrev F2 := D → D → Store → PD → Prop
abbrev FN := List D → Store → PD → Prop
def eOp (r : F2) (f g : FE) : FE := fun σ S Q => f σ S fun x S1 => g σ S1 fun y S2 => r x y S2 Q
def eCB (r : FN) (f : FA) : FE := fun σ S Q => f σ S fun xs S1 => r xs S1 Q
def R2R (K : PySem.W.Frag) (fr : F2) (r : R2) : Prop := ∀ m S H x y v u P Q, Sim K m S H → RD K m H x v → RD K m H y u → fr x y S P → WD K m H P Q → r v u H Q
def RNR (K : PySem.W.Frag) (fr : FN) (r : List V → Hp → VK → Prop) : Prop := ∀ m S H xs vs P Q, Sim K m S H → RDs K m H xs vs → fr xs S P → WD K m H P Q → r vs H Q
def OpD (X : Cx) (f : Value → Value → Sem Value) (fr : F2) : Prop := ∃ r, OpR X f r ∧ R2R X.K fr r
def IxD (X : Cx) (fr : F2) : Prop := ∃ r, IxR X r ∧ R2R X.K fr r
def CallD (X : Cx) (f : Value) (fr : FN) : Prop := ∃ r, CallR X f r ∧ RNR X.K fr r
theorem tOf_op {K : PySem.W.Frag} {fr : F2} {r : R2} {f g : FE} (hr : R2R K fr r) {σ : L2.St} {H : Hp} {Q : VK} (h : tOf K (eOp fr f g) σ H Q) : tOp r (tOf K f) (tOf K g) σ H Q := by
  obtain ⟨m, σd, S, P, s, rs, p, w⟩ := h
  refine ⟨m, σd, S, _, s, rs, p, fun d S1 m1 v H1 p1 g1 s1 r1 => ?_⟩
  exact ⟨m1, σd, S1, _, s1, rs.up g1, p1, fun e S2 m2 u H2 p2 g2 s2 r2 => hr m2 S2 H2 d e v u P Q s2 (r1.up g2) r2 p2 (w.up (g1.trans g2))⟩
section
variable {X : Cx} {a b : Expr} {f g : FE} {pos : Pos}
theorem re_op {op : Operator} {fr : F2} (h : OpD X (binaryOp op) fr) (ha : RE X a f) (hb : RE X b g) : RE X (.BinOp a op b pos) (eOp fr f g) := by
  obtain ⟨r, h1, h2⟩ := h
  exact pe_w (pe_op h1 ha hb) fun _ _ _ q => tOf_op h2 q
theorem re_cmp {op : CmpOp} {fr : F2} (h : OpD X (compareOp op) fr) (ha : RE X a f) (hb : RE X b g) (hm : behindInMarks op b = false) : RE X (.Compare a [op] [b] pos) (eOp fr f g) := by
  obtain ⟨r, h1, h2⟩ := h
  exact pe_w (pe_cmpR h1 ha hb hm) fun _ _ _ q => tOf_op h2 q
theorem re_ix {fr : F2} (h : IxD X fr) (ha : RE X a f) (hb : RE X b g) (hs : PlainIx b := by intro _ _; rfl) : RE X (.Subscript a b pos) (eOp fr f g) := by
  obtain ⟨r, h1, h2⟩ := h
  exact pe_w (pe_ix h1 ha hb hs) fun _ _ _ q => tOf_op h2 q
theorem tOf_cb {K : PySem.W.Frag} {fr : FN} {r : List V → Hp → VK → Prop} {f : FA} (hr : RNR K fr r) {σ : L2.St} {H : Hp} {Q : VK} (h : tOf K (eCB fr f) σ H Q) : tCB r (tOfA K f) σ H Q := by
  obtain ⟨m, σd, S, P, s, rs, p, w⟩ := h
  exact ⟨m, σd, S, _, s, rs, p, fun d S1 m1 v H1 p1 g1 s1 r1 => hr m1 S1 H1 d v P Q s1 r1 p1 (w.up g1)⟩
theorem re_callB {x : Str} {p : Pos} {e : Expr} {es : List Expr} {fa : FA} {id : String} {fr : FN} (h : CallD X (.builtin id) fr) (hg : Gl X x) (hm : X.mg x = none) (hv : bootBuiltins x = some (.builtin id)) (ha : RA X (e :: es) fa) (hn : x ≠ "__name__" := by decide) (hdb : (x == ("__debug__" : Str)) = false := by decide)
    (he : starEach (e :: es) X.env = (false, eval e X.env) :: starEach es X.env := by rfl) (hpl : (backTo pos (starEach es X.env)).any (·.1) = false := by rfl) : RE X (.Call (.Name x p) (e :: es) [] pos) (eCB fr fa) := by
  obtain ⟨r, h1, h2⟩ := h
  exact pe_w (pe_callB h1 hg hm hv ha hn hdb he hpl) fun _ _ _ q => tOf_cb h2 q
theorem re_callTy {x : Str} {p : Pos} {e : Expr} {es : List Expr} {fa : FA} {T : String} {fr : FN} (h : CallD X (.type T) fr) (hg : Gl X x) (hm : X.mg x = none) (hv : bootBuiltins x = some (.type T)) (ha : RA X (e :: es) fa) (hn : x ≠ "__name__" := by decide) (hdb : (x == ("__debug__" : Str)) = false := by decide)
    (he : starEach (e :: es) X.env = (false, eval e X.env) :: starEach es X.env := by rfl) (hpl : (backTo pos (starEach es X.env)).any (·.1) = false := by rfl) : RE X (.Call (.Name x p) (e :: es) [] pos) (eCB fr fa) := by
  obtain ⟨r, h1, h2⟩ := h
  exact pe_w (pe_callTy h1 hg hm hv ha hn hdb he hpl) fun _ _ _ q => tOf_cb h2 q
end
/-- a type's name as a value -/
def eTy : FE := fun _ S Q => Q .non S

/-! ### defs -/
abbrev FnD := List D → Store → PD → Prop
def spD (K : PySem.W.Frag) (F : FnD) : Sp := fun vs H Q _ => ∃ m ds S P, Sim K m S H ∧ RDs K m H ds vs ∧ F ds S P ∧ WD K m H P Q
/-- a def of n parameters and l slots, by its body -/
def fnD (n l : Nat) (b : FS) : FnD := fun ds S P => ds.length = n ∧ b { nx := fun _ S' => P .non S', rt := P } (ds.map some ++ List.replicate (l - n) none) S
structure DefOk (P : Program) (w : World) (K : PySem.W.Frag) (mg : Str → Option Value) (base : Heap) (k : Nat) (x : Str) (F : FnD) : Prop where
  ex : ∃ f fd ps, FnOk P w K mg base CX0 k f fd ps (spD K F) ∧ mg x = some (.ref f) ∧ PySem.W.keepIn K (.ref f) = true ∧ Binds K fd ps []
def eCall (F : FnD) (f : FA) : FE := fun σ S Q => f σ S fun ds S1 => F ds S1 Q
section
variable {X : Cx} {pos : Pos}
theorem re_call {x : Str} {p : Pos} {e : Expr} {es : List Expr} {fa : FA} {F : FnD} {k k' : Nat} (h : DefOk X.prog X.w X.K X.mg X.base k x F) (hr : Room k' X.A) (ha : RA X (e :: es) fa) (hg : Gl X x := by rfl) (hk : k ≤ k' := by first | exact Nat.le_refl _ | decide | omega) (hdb : (x == ("__debug__" : Str)) = false := by decide)
    (he : starEach (e :: es) X.env = (false, eval e X.env) :: starEach es X.env := by rfl) (hpl : (backTo pos (starEach es X.env)).any (·.1) = false := by rfl) : RE X (.Call (.Name x p) (e :: es) [] pos) (eCall F fa) := by
  obtain ⟨f, fd, ps, h1, h2, h3, h4⟩ := h.ex
  refine pe_w (pe_call h1 (hr.mono hk) hg h2 h3 h4 .nil pass0 ha hdb he hpl) fun σ H Q q => ?_
  obtain ⟨m, σd, S, P, s, rs, p, w⟩ := q
  refine ⟨m, σd, S, _, s, rs, p, fun ds S1 m1 vs H1 p1 g1 s1 r1 => ?_⟩
  exact ⟨m1, ds, S1, P, s1, by rw [List.append_nil]; exact r1, p1, w.up g1⟩
end
theorem RSl.start {K : PySem.W.Frag} {m : List Addr} {H : Hp} {ds : List D} {vs : List V} (r : RDs K m H ds vs) (N : List Str) : RSl K m H (L2.start N vs) (ds.map some ++ List.replicate (N.length - ds.length) none) := by
  refine ⟨by simp [L2.start, r.length], fun i d e => ?_⟩
  unfold L2.start
  by_cases hi : i < ds.length
  · rw [List.getElem?_append_left (by simpa using hi), List.getElem?_map] at e
    rw [List.getElem?_append_left (by simp [← r.length]; exact hi), List.getElem?_map]
    cases q : ds[i]? with
    | none => rw [q] at e; cases e
    | some d' =>
      rw [q] at e
      cases e
      obtain ⟨v, e1, r1⟩ := r.get q
      exact ⟨v, by rw [e1]; rfl, r1⟩
  · rw [List.getElem?_append_right (by simpa using hi), List.getElem?_replicate] at e
    split at e <;> cases e
theorem fn_ok {P : Program} {w : World} {K : PySem.W.Frag} {mg : Str → Option Value} {base : Heap} {x qual : Str} {st : Stmt} {f : Addr} {fd : FuncData} {N ps : List Str} {k : Nat} {b : FS} (F : Fun K x qual st f fd) (S : FnScope N ps (defScope st))
    (hb : ∀ (cdv : Value) (A : Around) (outer : List Env) (s : Shared) (H : Hp) (E : XK), Room k (A.deeper (envOfC qual (defScope st) s.heap.objs.size f cdv)) → RSs (cxOf CX0 P w K mg base N qual (defScope st) f cdv A outer s H E).nox (defBody st) b) :
    FnOk P w K mg base CX0 (k + 1) f fd ps (spD K (fnD ps.length N.length b)) := by
  refine F.ok S (fun vs H Q E h => ?_) (fun cdv A outer s H vs Q E hr h => ?_)
  · obtain ⟨m, ds, T, p, _, r, ⟨e, _⟩, _⟩ := h
    rw [← r.length]; exact e
  · obtain ⟨m, ds, T, p, s1, r, ⟨e, hf⟩, wd⟩ := h
    rw [← e] at hf
    exact ⟨_, hb cdv A outer s H E hr, m, _, T, _, s1, RSl.start r N, hf, ⟨fun σd S' m' σ H' h g s r => wd _ _ _ _ _ h g s .non, wd, fun _ _ _ _ _ h => False.elim h, fun _ _ _ _ _ h => False.elim h⟩⟩
theorem fn_none {P : Program} {w : World} {K : PySem.W.Frag} {mg : Str → Option Value} {base : Heap} {f : Addr} {fd : FuncData} {ps : List Str} {k : Nat} : FnOk P w K mg base CX0 k f fd ps (spD K fun _ _ _ => False) := by
  have no : ∀ vs H Q E, ¬ spD K (fun _ _ _ => False) vs H Q E := fun vs H Q E h => by
    obtain ⟨m, ds, T, p, _, r, z, _⟩ := h
    exact z
  exact ⟨fun vs H Q E h => absurd h (no vs H Q E), fun A outer s H args us vs Q E _ _ _ _ h => absurd h (no vs H Q E)⟩

/-! ### tests -/
def tVal (f : FE) : FT := fun σ S Q => f σ S fun d S1 => ∃ b, d = .bl b ∧ Q b S1
def tAndD (t u : FT) : FT := fun σ S Q => t σ S fun c S1 => if c = true then u σ S1 Q else Q false S1
def tOrD (t u : FT) : FT := fun σ S Q => t σ S fun c S1 => if c = true then Q true S1 else u σ S1 Q
def tNotD (t : FT) : FT := fun σ S Q => t σ S fun c S1 => Q (!c) S1
section
variable {X : Cx} {a b : Expr} {f g : FE} {t u : FT} {rest : List Expr} {pos : Pos}
theorem WB.of {K : PySem.W.Frag} {m : List Addr} {H : Hp} {P : Bool → Store → Prop} {Q : Bool → Hp → Prop} (w : WB K m H P Q) : WD K m H (fun d S => ∃ b, d = .bl b ∧ P b S) (fun x H' => ∃ k, x = .bl k ∧ Q k H') := by
  intro d S' m' v H' ⟨b, e, p⟩ g s r
  subst e
  cases r
  exact ⟨b, rfl, w b S' m' H' p g s⟩
theorem rt_cmp {op : CmpOp} {fr : F2} (h : OpD X (compareOp op) fr) (ha : RE X a f) (hb : RE X b g) (hm : behindInMarks op b = false) : RT X (.Compare a [op] [b] pos) (tVal (eOp fr f g)) := by
  obtain ⟨r, h1, h2⟩ := h
  refine pt_w (pt_cmpR h1 ha hb hm) fun σ H Q q => ?_
  obtain ⟨m, σd, S, P, s, rs, p, w⟩ := q
  exact tOf_op h2 ⟨m, σd, S, _, s, rs, p, w.of⟩
theorem rt_val {e : Expr} (h : RE X e f) (he : ∀ whole, isTrue e X.env whole = (do let v ← whole; standAt e.pos; holding [v] (truthy v)) := by intro _; rfl) : RT X e (tVal f) := by
  refine pt_w (pt_val h he) fun σ H Q q => ?_
  obtain ⟨m, σd, S, P, s, rs, p, w⟩ := q
  exact ⟨m, σd, S, _, s, rs, p, w.of⟩
theorem rw_and1 (ha : RT X a t) : RW X (.BoolOp .And [a] pos) t := pw_and1 ha
theorem rw_or1 (ha : RT X a t) : RW X (.BoolOp .Or [a] pos) t := pw_or1 ha
theorem rw_and (ha : RT X a t) (hb : RW X (.BoolOp .And (b :: rest) pos) u) : RW X (.BoolOp .And (a :: b :: rest) pos) (tAndD t u) := by
  refine pw_w (pw_and ha hb) fun σ H Q q => ?_
  obtain ⟨m, σd, S, P, s, rs, p, w⟩ := q
  refine ⟨m, σd, S, _, s, rs, p, fun c S1 m1 H1 p1 g1 s1 => ?_⟩
  cases c with
  | true => exact iteT ⟨m1, σd, S1, P, s1, rs.up g1, by rw [if_pos rfl] at p1; exact p1, w.up g1⟩
  | false => exact iteF (w _ _ _ _ (by rw [if_neg (by decide)] at p1; exact p1) g1 s1)
theorem rw_or (ha : RT X a t) (hb : RW X (.BoolOp .Or (b :: rest) pos) u) : RW X (.BoolOp .Or (a :: b :: rest) pos) (tOrD t u) := by
  refine pw_w (pw_or ha hb) fun σ H Q q => ?_
  obtain ⟨m, σd, S, P, s, rs, p, w⟩ := q
  refine ⟨m, σd, S, _, s, rs, p, fun c S1 m1 H1 p1 g1 s1 => ?_⟩
  cases c with
  | false => exact iteF ⟨m1, σd, S1, P, s1, rs.up g1, by rw [if_neg (by decide)] at p1; exact p1, w.up g1⟩
  | true => exact iteT (w _ _ _ _ (by rw [if_pos rfl] at p1; exact p1) g1 s1)
theorem rt_w (h : RW X a t) : RT X a t := h.pt
theorem rt_not (ha : RT X a t) : RT X (.UnaryOp .Not a pos) (tNotD t) := by
  refine pt_w (pt_not ha) fun σ H Q q => ?_
  obtain ⟨m, σd, S, P, s, rs, p, w⟩ := q
  exact ⟨m, σd, S, _, s, rs, p, fun c S1 m1 H1 p1 g1 s1 => w _ _ _ _ p1 g1 s1⟩
/-- .. as values -/
def eAnd (f g : FE) : FE := fun σ S Q => f σ S fun d S1 => ∃ c, d = .bl c ∧ if c = true then g σ S1 Q else Q (.bl false) S1
def eOr (f g : FE) : FE := fun σ S Q => f σ S fun d S1 => ∃ c, d = .bl c ∧ if c = true then Q (.bl true) S1 else g σ S1 Q
def eNot (f : FE) : FE := fun σ S Q => f σ S fun d S1 => ∃ c, d = .bl c ∧ Q (.bl (!c)) S1
def eIf (t : FT) (f g : FE) : FE := fun σ S Q => t σ S fun c S1 => if c = true then f σ S1 Q else g σ S1 Q
theorem re_one {op} (h : RE X a f) : RE X (.BoolOp op [a] pos) f := pe_one h
theorem re_and (ha : RE X a f) (hb : RE X (.BoolOp .And (b :: rest) pos) g) : RE X (.BoolOp .And (a :: b :: rest) pos) (eAnd f g) := by
  refine pe_w (pe_and ha hb) fun σ H Q q => ?_
  obtain ⟨m, σd, S, P, s, rs, p, w⟩ := q
  refine ⟨m, σd, S, _, s, rs, p, fun d S1 m1 v H1 ⟨c, e, p1⟩ g1 s1 r1 => ?_⟩
  subst e
  cases r1
  refine ⟨c, rfl, ?_⟩
  cases c with
  | true => exact iteT ⟨m1, σd, S1, P, s1, rs.up g1, by rw [if_pos rfl] at p1; exact p1, w.up g1⟩
  | false => exact iteF (w _ _ _ _ _ (by rw [if_neg (by decide)] at p1; exact p1) g1 s1 (.bl _))
theorem re_or (ha : RE X a f) (hb : RE X (.BoolOp .Or (b :: rest) pos) g) : RE X (.BoolOp .Or (a :: b :: rest) pos) (eOr f g) := by
  refine pe_w (pe_or ha hb) fun σ H Q q => ?_
  obtain ⟨m, σd, S, P, s, rs, p, w⟩ := q
  refine ⟨m, σd, S, _, s, rs, p, fun d S1 m1 v H1 ⟨c, e, p1⟩ g1 s1 r1 => ?_⟩
  subst e
  cases r1
  refine ⟨c, rfl, ?_⟩
  cases c with
  | false => exact iteF ⟨m1, σd, S1, P, s1, rs.up g1, by rw [if_neg (by decide)] at p1; exact p1, w.up g1⟩
  | true => exact iteT (w _ _ _ _ _ (by rw [if_pos rfl] at p1; exact p1) g1 s1 (.bl _))
theorem re_not (ha : RE X a f) : RE X (.UnaryOp .Not a pos) (eNot f) := by
  refine pe_w (pe_not ha) fun σ H Q q => ?_
  obtain ⟨m, σd, S, P, s, rs, p, w⟩ := q
  refine ⟨m, σd, S, _, s, rs, p, fun d S1 m1 v H1 ⟨c, e, p1⟩ g1 s1 r1 => ?_⟩
  subst e
  cases r1
  exact ⟨c, rfl, w _ _ _ _ _ p1 g1 s1 (.bl _)⟩
theorem re_if {c : Expr} (hc : RT X c t) (ha : RE X a f) (hb : RE X b g) : RE X (.IfExp c a b pos) (eIf t f g) := by
  refine pe_w (pe_ifExp hc ha hb) fun σ H Q q => ?_
  obtain ⟨m, σd, S, P, s, rs, p, w⟩ := q
  refine ⟨m, σd, S, _, s, rs, p, fun c S1 m1 H1 p1 g1 s1 => ?_⟩
  cases c with
  | true => exact iteT ⟨m1, σd, S1, P, s1, rs.up g1, by rw [if_pos rfl] at p1; exact p1, w.up g1⟩
  | false => exact iteF ⟨m1, σd, S1, P, s1, rs.up g1, by rw [if_neg (by decide)] at p1; exact p1, w.up g1⟩
/-- is None -/
def eIsN (f : FE) : FE := fun σ S Q => f σ S fun d S1 => Q (.bl (decide (d = .non))) S1
def eNotN (f : FE) : FE := fun σ S Q => f σ S fun d S1 => Q (.bl (!decide (d = .non))) S1
theorem RD.non_iff {K : PySem.W.Frag} {m : List Addr} {H : Hp} {d : D} {v : V} (r : RD K m H d v) : decide (v = V.non) = decide (d = D.non) := by
  cases r <;> simp
theorem re_isN {j pos'} (ha : RE X a f) : RE X (.Compare a [.Is] [.Constant .none j pos'] pos) (eIsN f) := by
  refine pe_w (pe_cmp (pc_isN ha) rfl) fun σ H Q q => ?_
  obtain ⟨m, σd, S, P, s, rs, p, w⟩ := q
  exact ⟨m, σd, S, _, s, rs, p, fun d S1 m1 v H1 p1 g1 s1 r1 => by show Q (V.bl (decide (v = V.non))) H1; rw [r1.non_iff]; exact w _ _ _ _ _ p1 g1 s1 (.bl _)⟩
theorem re_notN {j pos'} (ha : RE X a f) : RE X (.Compare a [.IsNot] [.Constant .none j pos'] pos) (eNotN f) := by
  refine pe_w (pe_cmp (pc_notN ha) rfl) fun σ H Q q => ?_
  obtain ⟨m, σd, S, P, s, rs, p, w⟩ := q
  exact ⟨m, σd, S, _, s, rs, p, fun d S1 m1 v H1 p1 g1 s1 r1 => by show Q (V.bl (!decide (v = V.non))) H1; rw [r1.non_iff]; exact w _ _ _ _ _ p1 g1 s1 (.bl _)⟩
end

/-! ### statements -/
def sNext : FS := fun E σ S => E.nx σ S
def sSeq (f g : FS) : FS := fun E σ S => f { E with nx := g E } σ S
def sDrop (f : FE) : FS := fun E σ S => f σ S fun _ S1 => E.nx σ S1
def sRet (f : FE) : FS := fun E σ S => f σ S E.rt
def sRetN : FS := fun E _ S => E.rt .non S
def sIf (t : FT) (f g : FS) : FS := fun E σ S => t σ S fun b S1 => if b = true then f E σ S1 else g E σ S1
def sBreak : FS := fun E σ S => E.bk σ S
def sCont : FS := fun E σ S => E.ct σ S
def sNever : FS := fun _ _ _ => False
section
variable {X : Cx} {st : Stmt} {rest : List Stmt} {f g : FS} {e : Expr} {fe : FE} {pos : Pos}
theorem rs_nil : RSs X [] sNext := by
  refine pss_w pss_nil fun D σ H q => ?_
  obtain ⟨m, σd, S, E, s, r, p, w⟩ := q
  exact w.nx _ _ _ _ _ p (.refl _ _) s r
theorem rs_cons (h1 : RS X st f) (h2 : RSs X rest g) : RSs X (st :: rest) (sSeq f g) := by
  refine pss_w (pss_cons h1 h2) fun D σ H q => ?_
  obtain ⟨m, σd, S, E, s, r, p, w⟩ := q
  exact ⟨m, σd, S, _, s, r, p, ⟨fun σd' S' m' σ' H' q g1 s1 r1 => ⟨m', σd', S', E, s1, r1, q, w.up g1⟩, w.rt, w.bk, w.ct⟩⟩
theorem rs_one (h1 : RS X st f) : RSs X [st] f := pss_one h1
theorem rs_pass : RS X (.Pass pos) sNext := by
  refine ps_w ps_pass fun D σ H q => ?_
  obtain ⟨m, σd, S, E, s, r, p, w⟩ := q
  exact w.nx _ _ _ _ _ p (.refl _ _) s r
theorem rs_break : RS X (.Break pos) sBreak := by
  refine ps_w ps_break fun D σ H q => ?_
  obtain ⟨m, σd, S, E, s, r, p, w⟩ := q
  exact w.bk _ _ _ _ _ p (.refl _ _) s r
theorem rs_continue : RS X (.Continue pos) sCont := by
  refine ps_w ps_continue fun D σ H q => ?_
  obtain ⟨m, σd, S, E, s, r, p, w⟩ := q
  exact w.ct _ _ _ _ _ p (.refl _ _) s r
theorem rs_expr (he : RE X e fe) (hs : swapsWith e none pos.line X.env = pure false := by rfl) : RS X (.Expr e pos) (sDrop fe) := by
  refine ps_w (ps_expr he hs) fun D σ H q => ?_
  obtain ⟨m, σd, S, E, s, r, p, w⟩ := q
  exact ⟨m, σd, S, _, s, r, p, fun d S1 m1 v H1 p1 g1 s1 r1 => w.nx _ _ _ _ _ p1 g1 s1 (r.up g1)⟩
theorem rs_ret (he : RE X e fe) : RS X (.Return (some e) pos) (sRet fe) := by
  refine ps_w (ps_ret he) fun D σ H q => ?_
  obtain ⟨m, σd, S, E, s, r, p, w⟩ := q
  exact ⟨m, σd, S, _, s, r, p, w.rt⟩
theorem rs_retN : RS X (.Return none pos) sRetN := by
  refine ps_w ps_retN fun D σ H q => ?_
  obtain ⟨m, σd, S, E, s, r, p, w⟩ := q
  exact w.rt _ _ _ _ _ p (.refl _ _) s .non
theorem rs_if {c : Expr} {a b : List Stmt} {t : FT} (hc : RT X c t) (ha : RSs X a f) (hb : RSs X b g) : RS X (.If c a b pos) (sIf t f g) := by
  refine ps_w (ps_if hc ha hb) fun D σ H q => ?_
  obtain ⟨m, σd, S, E, s, r, p, w⟩ := q
  refine ⟨m, σd, S, _, s, r, p, fun c S1 m1 H1 p1 g1 s1 => ?_⟩
  cases c with
  | true => exact iteT ⟨m1, σd, S1, E, s1, r.up g1, by rw [if_pos rfl] at p1; exact p1, w.up g1⟩
  | false => exact iteF ⟨m1, σd, S1, E, s1, r.up g1, by rw [if_neg (by decide)] at p1; exact p1, w.up g1⟩
theorem rs_never : RS X st sNever := by
  refine ps_w ps_never fun D σ H q => ?_
  obtain ⟨m, σd, S, E, s, r, p, w⟩ := q
  exact p
theorem rss_never {sts : List Stmt} : RSs X sts sNever := by
  refine pss_w pss_never fun D σ H q => ?_
  obtain ⟨m, σd, S, E, s, r, p, w⟩ := q
  exact p
end

/-! ### targets, assignments -/
abbrev FG := D → Slots → Store → (Slots → Store → Prop) → Prop
abbrev FGs := List D → Slots → Store → (Slots → Store → Prop) → Prop
def tOfG (K : PySem.W.Frag) (g : FG) : TG := fun v σ H Q => ∃ m σd S d P, Sim K m S H ∧ RSl K m H σ σd ∧ RD K m H d v ∧ g d σd S P ∧ WS K m H P Q
def tOfGs (K : PySem.W.Frag) (g : FGs) : TGs := fun v σ H Q => ∃ m σd S d P, Sim K m S H ∧ RSl K m H σ σd ∧ RDs K m H d v ∧ g d σd S P ∧ WS K m H P Q
abbrev RG (X : Cx) (e : Expr) (g : FG) : Prop := PG X e (tOfG X.K g)
abbrev RGs (X : Cx) (e : List Expr) (g : FGs) : Prop := PGs X e (tOfGs X.K g)
def gNm (i : Nat) : FG := fun d σ S Q => Q (σ.set i (some d)) S
def gsNil : FGs := fun ds σ S Q => ds = [] ∧ Q σ S
def gsCons (g : FG) (h : FGs) : FGs := fun ds σ S Q => ∃ d r, ds = d :: r ∧ g d σ S fun σ1 S1 => h r σ1 S1 Q
def gTp (n : Nat) (g : FGs) : FG := fun d σ S Q => ∃ xs, d = .tup xs ∧ xs.length = n ∧ g xs σ S Q
def sAsg (f : FE) (g : FG) : FS := fun E σ S => f σ S fun d S1 => g d σ S1 E.nx
def sPar (i j : Nat) (f : FA) : FS := fun E σ S => f σ S fun ds S1 => ∃ a b, ds = [a, b] ∧ E.nx ((σ.set i (some a)).set j (some b)) S1
section
variable {X : Cx} {pos : Pos}
theorem pg_w {e : Expr} {t t' : TG} (h : PG X e t) (w : ∀ v σ H Q, t' v σ H Q → t v σ H Q) : PG X e t' := ⟨fun pins s σ H v u Q I r q => h.run pins s σ H v u Q I r (w v σ H Q q)⟩
theorem pgs_w {e : List Expr} {t t' : TGs} (h : PGs X e t) (w : ∀ v σ H Q, t' v σ H Q → t v σ H Q) : PGs X e t' := ⟨fun pins s σ H v u Q I r q => h.run pins s σ H v u Q I r (w v σ H Q q)⟩
theorem rg_name {i : Nat} {x : Str} (hN : X.N.Nodup) (hi : X.N[i]? = some x := by rfl) (hx : Loc X.env.scope x := by first | exact Or.inl rfl | exact Or.inr rfl) (hf : X.fn x = true ∨ X.env.scope.names.lookup x = some .local := by first | exact .inl rfl | exact .inr rfl | assumption) : RG X (.Name x pos) (gNm i) := by
  refine pg_w (pg_name (pos := pos) hN hi hx hf) fun v σ H Q q => ?_
  obtain ⟨m, σd, S, d, P, s, r, rd, p, w⟩ := q
  exact w _ _ _ _ _ p (.refl _ _) s (r.set rd i)
theorem rgs_nil : RGs X [] gsNil := by
  refine pgs_w pgs_nil fun v σ H Q q => ?_
  obtain ⟨m, σd, S, d, P, s, r, rd, ⟨e, p⟩, w⟩ := q
  subst e
  cases rd
  exact ⟨rfl, w _ _ _ _ _ p (.refl _ _) s r⟩
theorem rgs_cons {e : Expr} {es : List Expr} {g : FG} {h : FGs} (h1 : RG X e g) (h2 : RGs X es h)
    (hs : (assignEach (e :: es) X.env).map (·.2) = assign e X.env :: (assignEach es X.env).map (·.2) := by rfl) : RGs X (e :: es) (gsCons g h) := by
  refine pgs_w (pgs_cons h1 h2 hs) fun v σ H Q q => ?_
  obtain ⟨m, σd, S, ds, P, s, r, rd, ⟨d, dr, e, p⟩, w⟩ := q
  subst e
  cases rd with
  | cons ra rb =>
    exact ⟨_, _, rfl, m, σd, S, d, _, s, r, ra, p, fun σd1 S1 m1 σ1 H1 p1 g1 s1 r1 => ⟨m1, σd1, S1, dr, P, s1, r1, rb.up g1, p1, w.up g1⟩⟩
theorem rg_tup {es : List Expr} {k : Nat} {g : FGs} {n : Nat} (hc : X.calm = true) (h : RGs X es g)
    (hn : (assignEach es X.env).length = n := by rfl) (hst : (assignEach es X.env).findIdx? (·.1) = none := by rfl) : RG X (.Tuple es k pos) (gTp n g) := by
  refine pg_w (pg_tup (pos := pos) hc h hn hst) fun v σ H Q q => ?_
  obtain ⟨m, σd, S, d, P, s, r, rd, ⟨xs, e, hl, p⟩, w⟩ := q
  subst e
  cases rd with
  | tup a z b => exact ⟨_, _, rfl, a, by rw [← b.length]; exact hl, m, σd, S, xs, P, s, r, b, p, w⟩
theorem rs_asg {tg e : Expr} {f : FE} {g : FG} (he : RE X e f) (hg : RG X tg g) (hs : swapsWithSole [tg] e pos.line X.env = pure false := by rfl) (hw : swappedStores [tg] e X.env = pure none := by rfl)
    (h1 : (assignEach [tg] X.env).map (·.2) = [assign tg X.env] := by rfl) : RS X (.Assign [tg] e pos) (sAsg f g) := by
  refine ps_w (ps_asg he hg hs hw h1) fun D σ H q => ?_
  obtain ⟨m, σd, S, E, s, r, p, w⟩ := q
  exact ⟨m, σd, S, _, s, r, p, fun d S1 m1 v H1 p1 g1 s1 r1 => ⟨m1, σd, S1, d, _, s1, r.up g1, r1, p1, w.nx.up g1⟩⟩
theorem rs_set {i : Nat} {x : Str} {e : Expr} {f : FE} {pos' : Pos} (hN : X.N.Nodup) (he : RE X e f) (hi : X.N[i]? = some x := by rfl) (hx : Loc X.env.scope x := by first | exact Or.inl rfl | exact Or.inr rfl) (hs : swapsWith e (some (.Name x pos')) pos.line X.env = pure false := by rfl)
    (hf : X.fn x = true ∨ X.env.scope.names.lookup x = some .local := by first | exact .inl rfl | exact .inr rfl | assumption) : RS X (.Assign [.Name x pos'] e pos) (sAsg f (gNm i)) := by
  refine ps_w (ps_set hN hi hx he hs hf) fun D σ H q => ?_
  obtain ⟨m, σd, S, E, s, r, p, w⟩ := q
  exact ⟨m, σd, S, _, s, r, p, fun d S1 m1 v H1 p1 g1 s1 r1 => w.nx _ _ _ _ _ p1 g1 s1 ((r.up g1).set r1 i)⟩
theorem rs_par {i j : Nat} {x y : Str} {a b : Expr} {f : FA} {px py pt : Pos} {kt k2 pt2} (hc : X.calm = true) (hN : X.N.Nodup) (ha : RA X [a, b] f) (hi : X.N[i]? = some x := by rfl) (hj : X.N[j]? = some y := by rfl) (hij : i ≠ j := by decide)
    (hx : X.env.scope.names.lookup x = some .local := by rfl) (hy : X.env.scope.names.lookup y = some .local := by rfl)
    (hw : swappedStores [.Tuple [.Name x px, .Name y py] kt pt] (.Tuple [a, b] k2 pt2) X.env = pure (some [x, y]) := by rfl)
    (hs : swapsWithSole [.Tuple [.Name x px, .Name y py] kt pt] (.Tuple [a, b] k2 pt2) pos.line X.env = pure false := by rfl) :
    RS X (.Assign [.Tuple [.Name x px, .Name y py] kt pt] (.Tuple [a, b] k2 pt2) pos) (sPar i j f) := by
  refine ps_w (ps_par hc hN hi hj hij hx hy ha hw hs) fun D σ H q => ?_
  obtain ⟨m, σd, S, E, s, r, p, w⟩ := q
  refine ⟨m, σd, S, _, s, r, p, fun d S1 m1 v H1 ⟨a, b, e, p1⟩ g1 s1 r1 => ?_⟩
  subst e
  cases r1 with
  | cons ra rb =>
    cases rb with
    | cons rb rn =>
      cases rn
      exact ⟨_, _, rfl, w.nx _ _ _ _ _ p1 g1 s1 (((r.up g1).set ra i).set rb j)⟩
end
end SD
/-! SD3: operators and built-ins over D. -/
namespace SD
open PySem PySem.Spec PyProof.Rows L2

/-! ### dicts by value keys -/
def toKey : D → Option Key
  | .int i => some (.inl i)
  | .str s => some (.inr s)
  | _ => none
theorem toKey_eq {d : D} {k : Key} (h : toKey d = some k) : d = keyD k := by
  cases d <;> simp [toKey] at h <;> subst h <;> rfl
theorem toKey_keyD (k : Key) : toKey (keyD k) = some k := by cases k <;> rfl
def valD (kvs : List (D × D)) (k : D) : Option D := (kvs.find? fun p => decide (p.1 = k)).map (·.2)
def putD (kvs : List (D × D)) (k v : D) : List (D × D) := if kvs.any (fun p => decide (p.1 = k)) then kvs.map fun p => if p.1 = k then (p.1, v) else p else kvs ++ [(k, v)]
theorem RD.key {K : PySem.W.Frag} {m : List Addr} {H : Hp} {k : Key} {v : V} (r : RD K m H (keyD k) v) : v = kV k := by
  cases k <;> cases r <;> rfl
theorem RD.ofKey {K : PySem.W.Frag} {m : List Addr} {H : Hp} (k : Key) : RD K m H (keyD k) (kV k) := by
  cases k
  · exact .int _
  · exact .str _
section
variable {K : PySem.W.Frag} {m : List Addr} {H : Hp}
theorem RKV.val : ∀ {kvs : List (D × D)} {kw : List (Key × V)} (r : RKV K m H kvs kw) (k : Key), (∃ d v, valD kvs (keyD k) = some d ∧ valV kw k = some v ∧ RD K m H d v) ∨ (valD kvs (keyD k) = none ∧ valV kw k = none)
  | _, _, .nil, k => .inr ⟨rfl, rfl⟩
  | (p :: kvs), (q :: kw), .cons h t, k => by
    by_cases e : q.1 = k
    · refine .inl ⟨p.2, q.2, ?_, valV_pos e, h.2⟩
      unfold valD
      rw [List.find?_cons_of_pos (by rw [h.1, e]; exact decide_eq_true rfl)]
      rfl
    · have e' : ¬ p.1 = keyD k := fun z => e (keyD_inj (h.1.symm.trans z))
      have := RKV.val t k
      rw [valV_neg e]
      unfold valD at this ⊢
      rw [List.find?_cons_of_neg (by simpa using e')]
      exact this
theorem RKV.length {kvs : List (D × D)} {kw : List (Key × V)} (r : RKV K m H kvs kw) : kvs.length = kw.length := Paired.length r
theorem RKV.any {kvs : List (D × D)} {kw : List (Key × V)} (r : RKV K m H kvs kw) (k : Key) : (kvs.any fun p => decide (p.1 = keyD k)) = kw.any fun p => decide (p.1 = k) := by
  induction r with
  | nil => rfl
  | @cons p q _ _ h t ih =>
    rw [List.any_cons, List.any_cons, ih, h.1]
    by_cases e : q.1 = k
    · rw [e]; simp
    · rw [decide_eq_false e, decide_eq_false fun z => e (keyD_inj z)]
theorem RKV.repl (k : Key) {d : D} {v : V} (rd : RD K m H d v) : ∀ {kvs : List (D × D)} {kw : List (Key × V)}, RKV K m H kvs kw → RKV K m H (kvs.map fun p => if p.1 = keyD k then (p.1, d) else p) (kw.map fun kv => if kv.1 = k then (kv.1, v) else kv)
  | _, _, .nil => .nil
  | (p :: _), (q :: _), .cons h t => by
    rw [List.map_cons, List.map_cons]
    refine .cons ?_ (RKV.repl k rd t)
    by_cases e : q.1 = k
    · rw [if_pos e, if_pos (by rw [h.1, e])]
      exact ⟨h.1, rd⟩
    · rw [if_neg e, if_neg (by rw [h.1]; exact fun z => e (keyD_inj z))]
      exact h
theorem RKV.snoc (k : Key) {d : D} {v : V} (rd : RD K m H d v) : ∀ {kvs : List (D × D)} {kw : List (Key × V)}, RKV K m H kvs kw → RKV K m H (kvs ++ [(keyD k, d)]) (kw ++ [(k, v)])
  | _, _, .nil => .cons ⟨rfl, rd⟩ .nil
  | _, _, .cons h t => .cons h (RKV.snoc k rd t)
theorem RKV.put {kvs : List (D × D)} {kw : List (Key × V)} (r : RKV K m H kvs kw) (k : Key) {d : D} {v : V} (rd : RD K m H d v) : RKV K m H (putD kvs (keyD k) d) (putK kw k v) := by
  unfold putD putK
  rw [r.any k]
  split
  · exact RKV.repl k rd r
  · exact RKV.snoc k rd r
theorem length_putD (kvs : List (D × D)) (k v : D) : (putD kvs k v).length ≤ kvs.length + 1 := by
  unfold putD
  split <;> simp
end

/-! ### reading -/
def ixF : F2 := fun o i S Q => match o, i with
  | .tup xs, .int k => ∃ v, atI xs k = some v ∧ Q v S
  | .frz xs, .int k => ∃ v, atI xs k = some v ∧ Q v S
  | .ref n, i => (match S[n]? with
    | some (.lst xs) => ∃ k v, i = .int k ∧ atI xs k = some v ∧ Q v S
    | some (.dct kvs) => ∃ k v, toKey i = some k ∧ valD kvs i = some v ∧ Q v S
    | some (.lck kvs) => ∃ k v, toKey i = some k ∧ valD kvs i = some v ∧ Q v S
    | none => False)
  | _, _ => False
section
variable {K : PySem.W.Frag} {m : List Addr} {H : Hp}
theorem RDs.atI {xs : List D} {vs : List V} (r : RDs K m H xs vs) {k : Int} {d : D} (h : L2.atI xs k = some d) : ∃ v, L2.atI vs k = some v ∧ RD K m H d v := by
  unfold L2.atI at h ⊢
  rw [← r.length]
  cases e : ixN xs.length k with
  | none => rw [e] at h; cases h
  | some j =>
    rw [e] at h
    exact r.get h
theorem dget_of {kvs : List (D × D)} {kw : List (Key × V)} {p : Addr} {d dk : D} {k : Key} {y : V} (r : RKV K m H kvs kw) (hp : Rd H p (.dK kw)) (hk : toKey dk = some k) (ry : RD K m H dk y) (h : valD kvs dk = some d) : ∃ v, DGet H p y (some v) ∧ RD K m H d v := by
  have e := toKey_eq hk
  subst e
  have ey := ry.key
  subst ey
  rcases r.val k with ⟨d', v, h1, h2, h3⟩ | ⟨h1, _⟩
  · rw [h] at h1; cases h1
    exact ⟨v, .inl ⟨kw, k, hp, rfl, by rw [h2]⟩, h3⟩
  · rw [h] at h1; cases h1
end
section
variable {X : Cx}
def rIxD : R2 := fun x y H Q => ∃ a v, x = .ref a ∧ DGet H a y (some v) ∧ Q v H
theorem ix_dict (hu : X.A.units + 1 < cLine) : IxR X rIxD := by
  intro value slice pins s σ H x y v u Q I rx ry h hs
  obtain ⟨a, w, rfl, g, q⟩ := h
  cases rx
  have hT := dict_typeIs I g
  unfold subscriptTail
  refine wpAny_bind ?_
  rw [getitemInPython_of_ne hT.not_modules]
  refine wpAny_bind (wpAny_specialOf hT PySem.F.slot_dict_getitem.lookup ?_)
  have fin : wpAny (model X.prog X.w) X.A (subscripted slice false (.ref a) u) (fun r s₃ => wpAny (model X.prog X.w) X.A (letTemporaryGo value (.ref a) r >>= fun _ => pure r) (EP X pins σ Q) X.xe s₃) X.xe s := by
    rw [hs]
    exact wpAny_operating (d_getItem hu I g ry fun w' s' I' r' => wpAny_bind (wpAny_letTemporaryGo (wpAny_pure ⟨w, H, I', r', q⟩)))
  first
    | exact wpAny_pure (wpAny_bind fin)
    | exact wpAny_bind (wpAny_pure (wpAny_bind fin))
    | exact wpAny_bind fin
theorem id_ix (hu : X.A.units + 1 < cLine) : IxD X ixF := by
  refine ⟨_, ix_list.or (ix_tup.or (ix_dict hu)), fun m S H x y v u P Q s rx ry h w => ?_⟩
  cases rx with
  | @tup p xs vs a z b =>
    cases ry <;> try exact False.elim h
    obtain ⟨d, h1, h2⟩ := h
    obtain ⟨v, e1, e2⟩ := b.atI h1
    exact .inr (.inl ⟨p, vs, _, v, rfl, rfl, a, e1, w _ _ _ _ _ h2 (.refl _ _) s e2⟩)
  | @frz p xs vs a z b =>
    cases ry <;> try exact False.elim h
    obtain ⟨d, h1, h2⟩ := h
    obtain ⟨v, e1, e2⟩ := b.atI h1
    exact .inl ⟨p, vs, _, v, rfl, rfl, a.sq, e1, w _ _ _ _ _ h2 (.refl _ _) s e2⟩
  | @ref n p a =>
    have h : (match S[n]? with
      | some (.lst xs) => ∃ k v, y = .int k ∧ L2.atI xs k = some v ∧ P v S
      | some (.dct kvs) => ∃ k v, toKey y = some k ∧ valD kvs y = some v ∧ P v S
      | some (.lck kvs) => ∃ k v, toKey y = some k ∧ valD kvs y = some v ∧ P v S
      | none => False) := h
    cases e : S[n]? with
    | none => rw [e] at h; exact h.elim
    | some c =>
      rw [e] at h
      have r := s.cell n p c a e
      cases c with
      | lst xs =>
        obtain ⟨k, d, rfl, h1, h2⟩ := h
        cases ry
        generalize eo : H p = o at r
        cases r with
        | lst z b =>
          obtain ⟨v, e1, e2⟩ := b.atI h1
          exact .inl ⟨p, _, _, v, rfl, rfl, SqL.of eo, e1, w _ _ _ _ _ h2 (.refl _ _) s e2⟩
      | dct kvs =>
        obtain ⟨k, d, h0, h1, h2⟩ := h
        generalize eo : H p = o at r
        cases r with
        | dct z b =>
          obtain ⟨v, e1, e2⟩ := dget_of b (.inl eo) h0 ry h1
          exact .inr (.inr ⟨p, v, rfl, e1, w _ _ _ _ _ h2 (.refl _ _) s e2⟩)
      | lck kvs =>
        obtain ⟨k, d, h0, h1, h2⟩ := h
        generalize eo : H p = o at r
        cases r with
        | lck z b =>
          obtain ⟨v, e1, e2⟩ := dget_of b (.inr ⟨_, eo⟩) h0 ry h1
          exact .inr (.inr ⟨p, v, rfl, e1, w _ _ _ _ _ h2 (.refl _ _) s e2⟩)
  | _ => exact False.elim h
end

/-! ### arithmetic -/
def addF : F2 := fun x y S Q => match x, y with
  | .int i, .int j => Q (.int (i + j)) S
  | .tup xs, .tup ys => xs.length + ys.length ≤ sizeLine ∧ Q (.tup (xs ++ ys)) S
  | .ref n, .ref k => ∃ xs ys, S[n]? = some (.lst xs) ∧ S[k]? = some (.lst ys) ∧ xs.length + ys.length ≤ sizeLine ∧ Q (.ref S.length) (S ++ [.lst (xs ++ ys)])
  | .str a, .str b => a.length + b.length ≤ sizeLine ∧ Q (.str (a ++ b)) S
  | _, _ => False
def intF (f : Int → Int → D) : F2 := fun x y S Q => match x, y with
  | .int i, .int j => Q (f i j) S
  | _, _ => False
def intCF (C : Int → Int → Prop) (f : Int → Int → D) : F2 := fun x y S Q => match x, y with
  | .int i, .int j => C i j ∧ Q (f i j) S
  | _, _ => False
section
variable {X : Cx}
theorem R2R.I0 {K : PySem.W.Frag} {g : Int → Int → V} {f : Int → Int → D} (h : ∀ m H i j, RD K m H (f i j) (g i j)) : R2R K (intF f) (rI0 g) := by
  intro m S H x y v u P Q s rx ry p w
  cases rx <;> cases ry <;> first | exact False.elim p | skip
  exact ⟨_, _, rfl, rfl, w _ _ _ _ _ p (.refl _ _) s (h _ _ _ _)⟩
theorem R2R.I {K : PySem.W.Frag} {C : Int → Int → Prop} {g : Int → Int → V} {f : Int → Int → D} (h : ∀ m H i j, RD K m H (f i j) (g i j)) : R2R K (intCF C f) (rI C g) := by
  intro m S H x y v u P Q s rx ry p w
  cases rx <;> cases ry <;> first | exact False.elim p | skip
  exact ⟨_, _, rfl, rfl, p.1, w _ _ _ _ _ p.2 (.refl _ _) s (h _ _ _ _)⟩
theorem od_sub : OpD X (binaryOp .Sub) (intF fun i j => .int (i - j)) := ⟨_, op_sub, R2R.I0 fun _ _ _ _ => .int _⟩
theorem od_mul : OpD X (binaryOp .Mult) (intCF CMul fun i j => .int (i * j)) := ⟨_, op_mul, R2R.I fun _ _ _ _ => .int _⟩
theorem od_mod : OpD X (binaryOp .Mod) (intCF (fun _ j => 0 < j) fun i j => .int (i % j)) := ⟨_, op_mod, R2R.I fun _ _ _ _ => .int _⟩
theorem od_fdiv : OpD X (binaryOp .FloorDiv) (intCF CDiv fun i j => .int (i / j)) := ⟨_, op_fdiv, R2R.I fun _ _ _ _ => .int _⟩
theorem od_lt : OpD X (compareOp .Lt) (intF fun i j => .bl (decide (i < j))) := ⟨_, op_lt, R2R.I0 fun _ _ _ _ => .bl _⟩
theorem od_le : OpD X (compareOp .LtE) (intF fun i j => .bl (decide (i ≤ j))) := ⟨_, op_le, R2R.I0 fun _ _ _ _ => .bl _⟩
theorem od_gt : OpD X (compareOp .Gt) (intF fun i j => .bl (decide (j < i))) := ⟨_, op_gt, R2R.I0 fun _ _ _ _ => .bl _⟩
theorem od_ge : OpD X (compareOp .GtE) (intF fun i j => .bl (decide (j ≤ i))) := ⟨_, op_ge, R2R.I0 fun _ _ _ _ => .bl _⟩
theorem RDs.nil_iff {K : PySem.W.Frag} {m : List Addr} {H : Hp} {xs : List D} {vs : List V} (r : RDs K m H xs vs) : vs = [] ↔ xs = [] := by
  cases r <;> simp
theorem od_add : OpD X (binaryOp .Add) addF := by
  refine ⟨_, op_add.or (op_catA.or (op_cat.or op_add_str)), fun m S H x y v u P Q s rx ry p w => ?_⟩
  cases rx <;> cases ry <;> first | exact False.elim p | skip
  case int.int i j => exact .inl ⟨_, _, rfl, rfl, w _ _ _ _ _ p (.refl _ _) s (.int _)⟩
  case str.str a b => exact .inr (.inr (.inr ⟨_, _, rfl, rfl, p.1, w _ _ _ _ _ p.2 (.refl _ _) s (.str _)⟩))
  case tup.tup p1 xs vs h1 z1 r1 p2 ys us h2 z2 r2 =>
    obtain ⟨hz, hp⟩ := p
    refine .inr (.inl ⟨p1, p2, vs, us, rfl, rfl, h1, h2, by rw [← r1.length, ← r2.length]; exact hz, fun e => ?_, fun e1 e2 => ?_, fun e1 e2 a ha => ?_⟩)
    · rw [r1.nil_iff.mp e] at hp
      exact w _ _ _ _ _ hp (.refl _ _) s (.tup h2 z2 r2)
    · rw [r2.nil_iff.mp e2, List.append_nil] at hp
      exact w _ _ _ _ _ hp (.refl _ _) s (.tup h1 z1 r1)
    · have g2 : Grow m H m (upd H a (.tup (vs ++ us))) := Grow.new ha _ (List.prefix_refl _)
      refine w _ _ _ _ _ hp g2 (s.plus ha _) (.tup (SqT.of upd_same) ?_ ((r1.up g2).append (r2.up g2)))
      rw [List.length_append, ← r1.length, ← r2.length]; exact hz
  case ref.ref n p1 h1 k p2 h2 =>
    obtain ⟨xs, ys, e1, e2, hz, hp⟩ := p
    have c1 := s.cell n p1 _ h1 e1
    have c2 := s.cell k p2 _ h2 e2
    generalize q1 : H p1 = o1 at c1
    generalize q2 : H p2 = o2 at c2
    cases c1 with
    | lst z1 r1 =>
      cases c2 with
      | lst z2 r2 =>
        refine .inr (.inr (.inl ⟨p1, p2, _, _, rfl, rfl, q1, q2, by rw [← r1.length, ← r2.length]; exact hz, fun a ha => ?_⟩))
        obtain ⟨g2, s2, r⟩ := new_lst s ha (r1.append r2) (by rw [List.length_append]; exact hz)
        exact w _ _ _ _ _ hp g2 s2 r
end

/-! ### == of plain data -/
mutual
def okD : D → Bool
  | .non | .int _ => true
  | .str x => PyData.canLay0 (.str x)
  | .tup xs => okDs xs
  | _ => false
def okDs : List D → Bool
  | [] => true
  | x :: xs => okD x && okDs xs
end
mutual
def toPy : D → PyData
  | .non => .none
  | .bl b => .bool b
  | .int i => .int i
  | .str s => .str s
  | .tup xs => .tuple (toPys xs)
  | .frz xs => .list (toPys xs)
  | .ref _ => .none
def toPys : List D → List PyData
  | [] => []
  | x :: xs => toPy x :: toPys xs
end
def plainD (d : D) : Bool := okD d && decide ((toPy d).depth ≤ 64)
def plainDs (ds : List D) : Bool := okDs ds && decide ((PyData.list (toPys ds)).depth ≤ 64)
mutual
theorem canLay_toPy : ∀ d : D, okD d = true → (toPy d).canLay0 = true
  | .non, _ => rfl
  | .int _, _ => rfl
  | .str x, h => h
  | .tup xs, h => by
    rw [okD] at h
    rw [toPy, PyData.canLay0]
    exact canLay_toPys xs h
  | .bl _, h => by simp [okD] at h
  | .frz _, h => by simp [okD] at h
  | .ref _, h => by simp [okD] at h
theorem canLay_toPys : ∀ ds : List D, okDs ds = true → PyData.canLayAll0 (toPys ds) = true
  | [], _ => rfl
  | x :: xs, h => by
    rw [okDs, Bool.and_eq_true] at h
    rw [toPys, PyData.canLayAll0, canLay_toPy x h.1, canLay_toPys xs h.2]
    rfl
end
theorem shaped_of {d : D} (h : plainD d = true) : SeqAt.shaped (toPy d) = true := by
  unfold plainD at h
  rw [Bool.and_eq_true] at h
  unfold SeqAt.shaped
  rw [canLay_toPy d h.1]
  simpa using h.2
mutual
theorem eqv_toPy : ∀ a b : D, okD a = true → okD b = true → PyData.eqv (toPy a) (toPy b) = decide (a = b)
  | .non, b, _, h => by cases b <;> simp [okD] at h <;> simp [toPy, PyData.eqv]
  | .int a, b, _, h => by
    cases b <;> simp [okD] at h <;> simp [toPy, PyData.eqv]
    rename_i b
    by_cases e : a = b <;> simp [e]
  | .str a, b, _, h => by
    cases b <;> simp [okD] at h <;> simp [toPy, PyData.eqv]
    rename_i b
    by_cases e : a = b <;> simp [e]
  | .tup a, b, ha, h => by
    cases b with
    | tup b =>
      rw [okD] at ha h
      simp only [toPy, PyData.eqv]
      rw [eqv_toPys a b ha h]
      by_cases e : a = b <;> simp [e]
    | non => simp [toPy, PyData.eqv]
    | int _ => simp [toPy, PyData.eqv]
    | str _ => simp [toPy, PyData.eqv]
    | _ => simp [okD] at h
  | .bl _, _, h, _ => by simp [okD] at h
  | .frz _, _, h, _ => by simp [okD] at h
  | .ref _, _, h, _ => by simp [okD] at h
theorem eqv_toPys : ∀ a b : List D, okDs a = true → okDs b = true → PyData.eqvAll (toPys a) (toPys b) = decide (a = b)
  | [], [], _, _ => by simp [toPys, PyData.eqvAll]
  | [], _ :: _, _, _ => by simp [toPys, PyData.eqvAll]
  | _ :: _, [], _, _ => by simp [toPys, PyData.eqvAll]
  | a :: as, b :: bs, ha, hb => by
    rw [okDs, Bool.and_eq_true] at ha hb
    simp only [toPys, PyData.eqvAll]
    rw [eqv_toPy a b ha.1 hb.1, eqv_toPys as bs ha.2 hb.2]
    by_cases e1 : a = b <;> by_cases e2 : as = bs <;> simp [e1, e2]
end
section
variable {K : PySem.W.Frag} {m : List Addr} {H : Hp}
mutual
theorem dp_of : ∀ (d : D) (v : V), okD d = true → RD K m H d v → Dp K H v (toPy d)
  | .non, _, _, h => by cases h; exact .non
  | .int i, _, _, h => by cases h; exact .int i
  | .str i, _, _, h => by cases h; exact .str i
  | .tup xs, _, ok, h => by
    rw [okD] at ok
    cases h with
    | tup a z b => exact .tup a (dps_of xs _ ok b)
  | .bl _, _, h, _ => by simp [okD] at h
  | .frz _, _, h, _ => by simp [okD] at h
  | .ref _, _, h, _ => by simp [okD] at h
theorem dps_of : ∀ (d : List D) (v : List V), okDs d = true → RDs K m H d v → DpAll K H v (toPys d)
  | [], _, _, h => by cases h; exact .nil
  | d :: ds, _, ok, h => by
    rw [okDs, Bool.and_eq_true] at ok
    cases h with
    | cons a b => exact .cons (dp_of d _ ok.1 a) (dps_of ds _ ok.2 b)
end
end
/-- dicts alike -/
def sameD (ks ls : List (D × D)) : Bool := ks.length == ls.length && ks.all fun p => decide (valD ls p.1 = some p.2)
def flatI : D → Bool
  | .int _ => true
  | _ => false
def homD (kvs : List (D × D)) : Prop := (∀ p ∈ kvs, p.2 = .bl true) ∨ (∀ p ∈ kvs, flatI p.2 = true)
def eqF (neg : Bool) : F2 := fun x y S Q => match x, y with
  | .int i, .int j => Q (.bl (decide (i = j) ^^ neg)) S
  | .str i, .str j => Q (.bl (decide (i = j) ^^ neg)) S
  | .bl i, .bl j => Q (.bl (decide (i = j) ^^ neg)) S
  | .ref n, .non => neg = true ∧ (∃ kvs, S[n]? = some (.dct kvs)) ∧ Q (.bl true) S
  | .ref n, .ref k => (∃ ks ls, S[n]? = some (.dct ks) ∧ S[k]? = some (.dct ls) ∧ homD (ks ++ ls) ∧ Q (.bl (sameD ks ls ^^ neg)) S) ∨
      (∃ xs ys, S[n]? = some (.lst xs) ∧ S[k]? = some (.lst ys) ∧ plainDs xs = true ∧ plainDs ys = true ∧ Q (.bl (decide (xs = ys) ^^ neg)) S)
  | x, y => plainD x = true ∧ plainD y = true ∧ Q (.bl (decide (x = y) ^^ neg)) S
def rDN (k : Bool) : R2 := fun x y H Q => ∃ a kvs, x = .ref a ∧ y = .non ∧ H a = some (.dK kvs) ∧ Q (.bl k) H
section
variable {X : Cx}
theorem dict_ne_none {d : Addr} {s : Shared} {Q : Value → Shared → Prop} (hT : s.TypeIs (.ref d) "dict") (h : Q .notImplemented s) : wpAny (model X.prog X.w) X.A (call (.builtin "dict.__ne__") [.ref d, .none]) Q X.xe s := by
  refine wpAny_call_entry PySem.F.slot_dict_ne hT PySem.F.entry_dict_ne ?_ (PySem.F.args_dict_ne_2 _ _)
  show wpAny _ _ (Builtin.Dict.dictSlotArgs "__ne__" ⟨[.ref d, .none], []⟩ >>= _) _ _ s
  refine wpAny_bind ?_
  unfold Builtin.Dict.dictSlotArgs
  refine wpAny_bind (wpAny_notOrdered_dict hT ?_)
  show wpAny _ _ (pure (Value.ref d, Value.none)) _ _ s
  refine wpAny_pure ?_
  refine wpAny_bind (wpAny_isInstance (T := "NoneType") (s := s) rfl PySem.F.sub_NoneType_dict ?_)
  simp only [Bool.not_false, if_true]
  exact wpAny_bind (wpAny_rule (wpAny_pure ⟨_, rfl, h⟩))
theorem op_ne_none (hu : X.A.units < cLine) : OpR X (compareOp .NotEq) (rDN true) := by
  intro pins s σ H x y v u Q I rx ry h
  obtain ⟨a, kvs, rfl, rfl, ea, q⟩ := h
  cases rx
  cases ry
  obtain ⟨_, ya, va, ra, da⟩ := (show ObjOk X.prog X.w H s.heap a (.dK kvs) from I.hok a _ ea)
  exact SeqAt.rc_ne_decline_or (k := false) da.typeIs rfl (by decide) PySem.F.sub_NoneType_dict PySem.F.slot_dict_ne PySem.F.slot_NoneType_ne_refl
    (fun _ hq => dict_ne_none da.typeIs hq)
    (fun _ hq => _root_.PySem.call_gives PySem.F.slot_NoneType_ne_refl rfl PySem.F.entry_NoneType_ne (PySem.F.args_NoneType_ne_2 _ _) (SeqAt.NoneType___ne___none_ref_0 a) hq)
    (fun _ hq => wpAny_of_eq (rfl : isSame (.ref a) .none = pure false) hq) (.inr hu) (fin_bl I q rfl)
end
end SD
/-! SD4: ==, in, len, list, tuple, sorted, any, all, isinstance over D. -/
namespace SD
open PySem PySem.Spec PyProof.Rows L2

/-! ### dicts compared -/
section
variable {X : Cx}
def sameV (ks ls : List (Key × V)) : Bool := ks.length == ls.length && ks.all fun p => match valV ls p.1 with
  | none => false
  | some y => eqV p.2 y
def rDD (neg : Bool) : R2 := fun x y H Q => ∃ a b ks ls, x = .ref a ∧ y = .ref b ∧ H a = some (.dK ks) ∧ H b = some (.dK ls) ∧ (∀ p ∈ ks, flatV p.2 = true) ∧ (∀ p ∈ ls, flatV p.2 = true) ∧ Q (.bl (sameV ks ls ^^ neg)) H
theorem valV_mem {ls : List (Key × V)} {k : Key} {v : V} (h : valV ls k = some v) : ∃ p ∈ ls, p.2 = v := by
  unfold valV at h
  cases e : ls.find? fun kv => decide (kv.1 = k) with
  | none => rw [e] at h; cases h
  | some p =>
    rw [e] at h
    cases h
    exact ⟨p, List.mem_of_find?_eq_some e, rfl⟩
theorem hits_of {A : Around} {s : Shared} {ls : List (Key × V)} {vl : List (Key × Value)} (rl : KV ls vl) (fl : ∀ p ∈ ls, flatV p.2 = true) :
    ∀ {ks : List (Key × V)} {vk : List (Key × Value)}, KV ks vk → (∀ p ∈ ks, flatV p.2 = true) → PySem.W.KeqHits A s vl vk (ks.all fun p => match valV ls p.1 with
      | none => false
      | some y => eqV p.2 y)
  | _, _, .nil, _ => .nil
  | (p :: ks), (q :: vk), .cons h t, f => by
    rw [List.all_cons]
    obtain ⟨k, v⟩ := q
    have ek : p.1 = k := h.1
    have rv : RelV p.2 v := h.2
    have rr := rl.val p.1
    rw [ek] at rr ⊢
    cases e : valV ls k with
    | none =>
      rw [e] at rr
      cases e2 : valueAt vl k with
      | none => exact .miss e2
      | some _ => rw [e2] at rr; exact rr.elim
    | some y =>
      rw [e] at rr
      cases e2 : valueAt vl k with
      | none => rw [e2] at rr; exact rr.elim
      | some u =>
        rw [e2] at rr
        obtain ⟨z, hz, ez⟩ := valV_mem e
        exact .hit e2 (eqAt_V rv rr (f p List.mem_cons_self) (by rw [← ez]; exact fl z hz)) (hits_of rl fl t fun p hp => f p (List.mem_cons_of_mem _ hp))
theorem op_dd_eq (hu : X.A.units < cLine) : OpR X (compareOp .Eq) (rDD false) := by
  intro pins s σ H x y v u Q I rx ry h
  obtain ⟨a, b, ks, ls, rfl, rfl, ea, eb, fk, fl, q⟩ := h
  cases rx
  cases ry
  obtain ⟨_, ya, va, ra, da⟩ := (show ObjOk X.prog X.w H s.heap a (.dK ks) from I.hok a _ ea)
  obtain ⟨_, yb, vb, rb, db⟩ := (show ObjOk X.prog X.w H s.heap b (.dK ls) from I.hok b _ eb)
  exact PySem.W.keq_eq (knd := mixKind X.prog X.w) ya yb da db hu (fun _ => hits_of rb fl ra fk) (fin_bl I q (by unfold sameV; rw [Bool.xor_false, ra.length, rb.length]))
theorem op_dd_ne (hu : X.A.units < cLine) : OpR X (compareOp .NotEq) (rDD true) := by
  intro pins s σ H x y v u Q I rx ry h
  obtain ⟨a, b, ks, ls, rfl, rfl, ea, eb, fk, fl, q⟩ := h
  cases rx
  cases ry
  obtain ⟨_, ya, va, ra, da⟩ := (show ObjOk X.prog X.w H s.heap a (.dK ks) from I.hok a _ ea)
  obtain ⟨_, yb, vb, rb, db⟩ := (show ObjOk X.prog X.w H s.heap b (.dK ls) from I.hok b _ eb)
  exact PySem.W.keq_ne (knd := mixKind X.prog X.w) ya yb da db hu (fun _ => hits_of rb fl ra fk) (fin_bl I q (by unfold sameV; rw [Bool.xor_true, ra.length, rb.length]))
end
section
variable {K : PySem.W.Frag} {m : List Addr} {H : Hp}
theorem flat_of {d : D} {v : V} (r : RD K m H d v) (h : d = .bl true ∨ flatI d = true) : flatV v = true := by
  rcases h with h | h
  · subst h; cases r; rfl
  · cases r <;> first | rfl | (simp [flatI] at h)
theorem RKV.mem_r : ∀ {kvs : List (D × D)} {kw : List (Key × V)}, RKV K m H kvs kw → ∀ q ∈ kw, ∃ p ∈ kvs, p.1 = keyD q.1 ∧ RD K m H p.2 q.2
  | _, _, .nil, _, h => by cases h
  | _, _, .cons h t, q, hq => by
    rcases List.mem_cons.mp hq with rfl | hq
    · exact ⟨_, List.mem_cons_self, h⟩
    · obtain ⟨p, a, b⟩ := RKV.mem_r t q hq
      exact ⟨p, List.mem_cons_of_mem _ a, b⟩
theorem hom_flat {ks : List (D × D)} {kw : List (Key × V)} (r : RKV K m H ks kw) (h : homD ks) : ∀ p ∈ kw, flatV p.2 = true := by
  intro q hq
  obtain ⟨p, hp, _, rd⟩ := r.mem_r q hq
  rcases h with h | h
  · exact flat_of rd (.inl (h p hp))
  · exact flat_of rd (.inr (h p hp))
theorem homD.left {a b : List (D × D)} (h : homD (a ++ b)) : homD a := h.imp (fun h p hp => h p (List.mem_append_left _ hp)) fun h p hp => h p (List.mem_append_left _ hp)
theorem homD.right {a b : List (D × D)} (h : homD (a ++ b)) : homD b := h.imp (fun h p hp => h p (List.mem_append_right _ hp)) fun h p hp => h p (List.mem_append_right _ hp)
theorem eqV_hom {d e : D} {v w : V} (rd : RD K m H d v) (re : RD K m H e w) (h : (d = .bl true ∧ e = .bl true) ∨ (flatI d = true ∧ flatI e = true)) : eqV v w = decide (e = d) := by
  rcases h with ⟨rfl, rfl⟩ | ⟨h1, h2⟩
  · cases rd; cases re; rfl
  · cases rd <;> first | (simp [flatI] at h1; done) | skip
    cases re <;> first | (simp [flatI] at h2; done) | skip
    rename_i i j
    simp only [eqV, D.int.injEq]
    by_cases q : i = j
    · subst q; simp
    · rw [decide_eq_false (fun z => q z.symm)]
      simpa using q
theorem sameV_eq {ks ls : List (D × D)} {kw lw : List (Key × V)} (rk : RKV K m H ks kw) (rl : RKV K m H ls lw) (h : homD (ks ++ ls)) : sameV kw lw = sameD ks ls := by
  unfold sameV sameD
  rw [rk.length, rl.length]
  congr 1
  have hm : ∀ p ∈ ks, ∀ q ∈ ls, (p.2 = .bl true ∧ q.2 = .bl true) ∨ (flatI p.2 = true ∧ flatI q.2 = true) := fun p hp q hq =>
    h.imp (fun h => ⟨h p (List.mem_append_left _ hp), h q (List.mem_append_right _ hq)⟩) fun h => ⟨h p (List.mem_append_left _ hp), h q (List.mem_append_right _ hq)⟩
  clear h
  induction rk with
  | nil => rfl
  | @cons p q ks kw hd t ih =>
    rw [List.all_cons, List.all_cons, ih fun p hp => hm p (List.mem_cons_of_mem _ hp)]
    congr 1
    rw [hd.1]
    rcases rl.val q.1 with ⟨d, v, e1, e2, r⟩ | ⟨e1, e2⟩
    · rw [e1, e2]
      have hmem : ∃ z ∈ ls, z.2 = d := by
        unfold valD at e1
        cases e : ls.find? fun kv => decide (kv.1 = keyD q.1) with
        | none => rw [e] at e1; cases e1
        | some z =>
          rw [e] at e1
          cases e1
          exact ⟨z, List.mem_of_find?_eq_some e, rfl⟩
      obtain ⟨z, hz, rfl⟩ := hmem
      show eqV q.2 v = _
      rw [eqV_hom hd.2 r (hm p List.mem_cons_self z hz)]
      simp
    · rw [e1, e2]
      simp
end

/-! ### == and != -/
section
variable {X : Cx}
theorem eq_dp {K : PySem.W.Frag} {m : List Addr} {H : Hp} {x y : D} {v u : V} (rx : RD K m H x v) (ry : RD K m H y u) (hx : plainD x = true) (hy : plainD y = true) :
    ∃ d e, Dp K H v d ∧ Dp K H u e ∧ SeqAt.shaped d = true ∧ SeqAt.shaped e = true ∧ PyData.eqv d e = decide (x = y) := by
  have ox : okD x = true := (Bool.and_eq_true_iff.mp hx).1
  have oy : okD y = true := (Bool.and_eq_true_iff.mp hy).1
  exact ⟨_, _, dp_of x v ox rx, dp_of y u oy ry, shaped_of hx, shaped_of hy, eqv_toPy x y ox oy⟩
theorem eq_dps {K : PySem.W.Frag} {m : List Addr} {H : Hp} {xs ys : List D} {vs us : List V} {a b : Addr} (rx : RDs K m H xs vs) (ry : RDs K m H ys us) (ha : H a = some (.lst vs)) (hb : H b = some (.lst us)) (hx : plainDs xs = true) (hy : plainDs ys = true) :
    ∃ d e, Dp K H (.ref a) d ∧ Dp K H (.ref b) e ∧ SeqAt.shaped d = true ∧ SeqAt.shaped e = true ∧ PyData.eqv d e = decide (xs = ys) := by
  have ox : okDs xs = true := (Bool.and_eq_true_iff.mp hx).1
  have oy : okDs ys = true := (Bool.and_eq_true_iff.mp hy).1
  refine ⟨.list (toPys xs), .list (toPys ys), .lst (SqL.of ha) (dps_of xs vs ox rx), .lst (SqL.of hb) (dps_of ys us oy ry), ?_, ?_, by rw [PyData.eqv]; exact eqv_toPys xs ys ox oy⟩
  · unfold SeqAt.shaped
    rw [PyData.canLay0, canLay_toPys xs ox]
    simpa using (Bool.and_eq_true_iff.mp hx).2
  · unfold SeqAt.shaped
    rw [PyData.canLay0, canLay_toPys ys oy]
    simpa using (Bool.and_eq_true_iff.mp hy).2
theorem eqF_plain {x y : D} {S : Store} {P : PD} {neg : Bool} (h : eqF neg x y S P) (hx : ∀ n, x ≠ .ref n) : (∃ i j, x = .int i ∧ y = .int j ∧ P (.bl (decide (i = j) ^^ neg)) S) ∨ (∃ i j, x = .str i ∧ y = .str j ∧ P (.bl (decide (i = j) ^^ neg)) S) ∨
    (∃ i j, x = .bl i ∧ y = .bl j ∧ P (.bl (decide (i = j) ^^ neg)) S) ∨ (plainD x = true ∧ plainD y = true ∧ P (.bl (decide (x = y) ^^ neg)) S) := by
  cases x with
  | ref n => exact absurd rfl (hx n)
  | int i => cases y <;> first | exact .inl ⟨_, _, rfl, rfl, h⟩ | exact .inr (.inr (.inr h))
  | str i => cases y <;> first | exact .inr (.inl ⟨_, _, rfl, rfl, h⟩) | exact .inr (.inr (.inr h))
  | bl i => cases y <;> first | exact .inr (.inr (.inl ⟨_, _, rfl, rfl, h⟩)) | exact .inr (.inr (.inr h))
  | _ => exact .inr (.inr (.inr h))
theorem eqF_ref {n : Nat} {y : D} {S : Store} {P : PD} {neg : Bool} (h : eqF neg (.ref n) y S P) : (y = .non ∧ neg = true ∧ (∃ kvs, S[n]? = some (.dct kvs)) ∧ P (.bl true) S) ∨
    (∃ k ks ls, y = .ref k ∧ S[n]? = some (.dct ks) ∧ S[k]? = some (.dct ls) ∧ homD (ks ++ ls) ∧ P (.bl (sameD ks ls ^^ neg)) S) ∨
    (∃ k xs ys, y = .ref k ∧ S[n]? = some (.lst xs) ∧ S[k]? = some (.lst ys) ∧ plainDs xs = true ∧ plainDs ys = true ∧ P (.bl (decide (xs = ys) ^^ neg)) S) := by
  have no : ¬ plainD (.ref n) = true := by simp [plainD, okD]
  cases y with
  | non => exact .inl ⟨rfl, h.1, h.2.1, h.2.2⟩
  | ref k =>
    rcases h with ⟨ks, ls, a⟩ | ⟨xs, ys, a⟩
    · exact .inr (.inl ⟨k, ks, ls, rfl, a⟩)
    · exact .inr (.inr ⟨k, xs, ys, rfl, a⟩)
  | _ => exact absurd h.1 no
theorem od_eq (hu : X.A.units + 64 < cLine) : OpD X (compareOp .Eq) (eqF false) := by
  refine ⟨_, op_eq.or ((op_eqD hu).or (op_dd_eq (by omega))), fun m S H x y v u P Q s rx ry p w => ?_⟩
  by_cases hx : ∃ n, x = .ref n
  · obtain ⟨n, rfl⟩ := hx
    cases rx with
    | @ref _ pa ha =>
      rcases eqF_ref p with ⟨_, z, _⟩ | ⟨k, ks, ls, rfl, e1, e2, hh, p⟩ | ⟨k, xs, ys, rfl, e1, e2, h1, h2, p⟩
      · cases z
      · cases ry with
        | @ref _ pb hb =>
        have r1 := s.cell _ _ _ ha e1
        have r2 := s.cell _ _ _ hb e2
        generalize q1 : H pa = o1 at r1
        generalize q2 : H pb = o2 at r2
        cases r1 with
        | dct z1 r1 =>
          cases r2 with
          | dct z2 r2 =>
            refine .inr (.inr ⟨pa, pb, _, _, rfl, rfl, q1, q2, hom_flat r1 hh.left, hom_flat r2 hh.right, ?_⟩)
            rw [sameV_eq r1 r2 hh]
            exact w _ _ _ _ _ p (.refl _ _) s (.bl _)
      · cases ry with
        | @ref _ pb hb =>
        have r1 := s.cell _ _ _ ha e1
        have r2 := s.cell _ _ _ hb e2
        generalize q1 : H pa = o1 at r1
        generalize q2 : H pb = o2 at r2
        cases r1 with
        | lst z1 r1 =>
          cases r2 with
          | lst z2 r2 =>
            obtain ⟨d, e, a1, a2, a3, a4, a5⟩ := eq_dps r1 r2 q1 q2 h1 h2
            refine .inr (.inl ⟨d, e, a1, a2, a3, a4, ?_⟩)
            rw [a5]
            rw [Bool.xor_false] at p
            exact w _ _ _ _ _ p (.refl _ _) s (.bl _)
  · rcases eqF_plain p fun n e => hx ⟨n, e⟩ with ⟨i, j, rfl, rfl, p'⟩ | ⟨i, j, rfl, rfl, p'⟩ | ⟨i, j, rfl, rfl, p'⟩ | ⟨h1, h2, p'⟩
    · cases rx; cases ry
      rw [Bool.xor_false] at p'
      exact .inl ⟨rfl, w _ _ _ _ _ p' (.refl _ _) s (by rw [dec_int, Bool.beq_eq_decide_eq]; exact .bl _)⟩
    · cases rx; cases ry
      rw [Bool.xor_false] at p'
      exact .inl ⟨rfl, w _ _ _ _ _ p' (.refl _ _) s (by rw [dec_str, Bool.beq_eq_decide_eq]; exact .bl _)⟩
    · cases rx; cases ry
      rw [Bool.xor_false] at p'
      exact .inl ⟨rfl, w _ _ _ _ _ p' (.refl _ _) s (by rw [dec_bl, Bool.beq_eq_decide_eq]; exact .bl _)⟩
    · obtain ⟨d, e, a1, a2, a3, a4, a5⟩ := eq_dp rx ry h1 h2
      refine .inr (.inl ⟨d, e, a1, a2, a3, a4, ?_⟩)
      rw [a5]
      rw [Bool.xor_false] at p'
      exact w _ _ _ _ _ p' (.refl _ _) s (.bl _)
theorem od_ne (hu : X.A.units + 64 < cLine) : OpD X (compareOp .NotEq) (eqF true) := by
  refine ⟨_, op_ne.or ((op_neD hu).or ((op_dd_ne (by omega)).or (op_ne_none (by omega)))), fun m S H x y v u P Q s rx ry p w => ?_⟩
  by_cases hx : ∃ n, x = .ref n
  · obtain ⟨n, rfl⟩ := hx
    cases rx with
    | @ref _ pa ha =>
      rcases eqF_ref p with ⟨rfl, z, ⟨kvs, e1⟩, p⟩ | ⟨k, ks, ls, rfl, e1, e2, hh, p⟩ | ⟨k, xs, ys, rfl, e1, e2, h1, h2, p⟩
      · cases ry
        have r1 := s.cell _ _ _ ha e1
        generalize q1 : H pa = o1 at r1
        cases r1 with
        | dct z1 r1 => exact .inr (.inr (.inr ⟨pa, _, rfl, rfl, q1, w _ _ _ _ _ p (.refl _ _) s (.bl _)⟩))
      · cases ry with
        | @ref _ pb hb =>
        have r1 := s.cell _ _ _ ha e1
        have r2 := s.cell _ _ _ hb e2
        generalize q1 : H pa = o1 at r1
        generalize q2 : H pb = o2 at r2
        cases r1 with
        | dct z1 r1 =>
          cases r2 with
          | dct z2 r2 =>
            refine .inr (.inr (.inl ⟨pa, pb, _, _, rfl, rfl, q1, q2, hom_flat r1 hh.left, hom_flat r2 hh.right, ?_⟩))
            rw [sameV_eq r1 r2 hh]
            exact w _ _ _ _ _ p (.refl _ _) s (.bl _)
      · cases ry with
        | @ref _ pb hb =>
        have r1 := s.cell _ _ _ ha e1
        have r2 := s.cell _ _ _ hb e2
        generalize q1 : H pa = o1 at r1
        generalize q2 : H pb = o2 at r2
        cases r1 with
        | lst z1 r1 =>
          cases r2 with
          | lst z2 r2 =>
            obtain ⟨d, e, a1, a2, a3, a4, a5⟩ := eq_dps r1 r2 q1 q2 h1 h2
            refine .inr (.inl ⟨d, e, a1, a2, a3, a4, ?_⟩)
            rw [a5]
            rw [Bool.xor_true] at p
            exact w _ _ _ _ _ p (.refl _ _) s (.bl _)
  · rcases eqF_plain p fun n e => hx ⟨n, e⟩ with ⟨i, j, rfl, rfl, p'⟩ | ⟨i, j, rfl, rfl, p'⟩ | ⟨i, j, rfl, rfl, p'⟩ | ⟨h1, h2, p'⟩
    · cases rx; cases ry
      rw [Bool.xor_true] at p'
      exact .inl ⟨rfl, w _ _ _ _ _ p' (.refl _ _) s (by rw [dec_int, Bool.beq_eq_decide_eq]; exact .bl _)⟩
    · cases rx; cases ry
      rw [Bool.xor_true] at p'
      exact .inl ⟨rfl, w _ _ _ _ _ p' (.refl _ _) s (by rw [dec_str, Bool.beq_eq_decide_eq]; exact .bl _)⟩
    · cases rx; cases ry
      rw [Bool.xor_true] at p'
      exact .inl ⟨rfl, w _ _ _ _ _ p' (.refl _ _) s (by rw [dec_bl, Bool.beq_eq_decide_eq]; exact .bl _)⟩
    · obtain ⟨d, e, a1, a2, a3, a4, a5⟩ := eq_dp rx ry h1 h2
      refine .inr (.inl ⟨d, e, a1, a2, a3, a4, ?_⟩)
      rw [a5]
      rw [Bool.xor_true] at p'
      exact w _ _ _ _ _ p' (.refl _ _) s (.bl _)
end
end SD
/-! SD5: in, len, list, tuple, sorted, any, all, isinstance, slices, stores, methods over D. -/
namespace SD
open PySem PySem.Spec PyProof.Rows L2

/-! ### what a sequence is -/
def seqC : Option Cell → Option (List D)
  | some (.lst xs) => some xs
  | _ => none
def dicC : Option Cell → Option (List (D × D))
  | some (.dct kvs) => some kvs
  | some (.lck kvs) => some kvs
  | _ => none
/-- the items of a list or tuple -/
def seqD (S : Store) : D → Option (List D)
  | .tup xs => some xs
  | .frz xs => some xs
  | .ref n => seqC S[n]?
  | _ => none
def dictD (S : Store) : D → Option (List (D × D))
  | .ref n => dicC S[n]?
  | _ => none
section
variable {K : PySem.W.Frag} {m : List Addr} {H : Hp} {S : Store}
theorem seq_at (s : Sim K m S H) {d : D} {v : V} {xs : List D} (r : RD K m H d v) (h : seqD S d = some xs) : ∃ p vs, v = .ref p ∧ (SqL K H p vs ∨ SqT K H p vs) ∧ RDs K m H xs vs ∧ vs.length ≤ sizeLine := by
  cases r with
  | @tup p ys vs a z b => cases h; exact ⟨p, vs, rfl, .inr a, b, z⟩
  | @frz p ys vs a z b => cases h; exact ⟨p, vs, rfl, .inl a.sq, b, z⟩
  | @ref n p a =>
    have h : seqC S[n]? = some xs := h
    cases e : S[n]? with
    | none => rw [e] at h; cases h
    | some c =>
      rw [e] at h
      have rc := s.cell n p c a e
      cases c with
      | lst ys =>
        cases h
        generalize eo : H p = o at rc
        cases rc with
        | lst z b => exact ⟨p, _, rfl, .inl (SqL.of eo), b, by rw [← b.length]; exact z⟩
      | dct _ => cases h
      | lck _ => cases h
  | _ => cases h
theorem dict_at (s : Sim K m S H) {d : D} {v : V} {kvs : List (D × D)} (r : RD K m H d v) (h : dictD S d = some kvs) : ∃ p kw, v = .ref p ∧ Rd H p (.dK kw) ∧ RKV K m H kvs kw ∧ kvs.length ≤ sizeLine := by
  cases r with
  | @ref n p a =>
    have h : dicC S[n]? = some kvs := h
    cases e : S[n]? with
    | none => rw [e] at h; cases h
    | some c =>
      rw [e] at h
      have rc := s.cell n p c a e
      cases c with
      | lst ys => cases h
      | dct ks =>
        cases h
        generalize eo : H p = o at rc
        cases rc with
        | dct z b => exact ⟨p, _, rfl, .inl eo, b, z⟩
      | lck ks =>
        cases h
        generalize eo : H p = o at rc
        cases rc with
        | lck z b => exact ⟨p, _, rfl, .inr ⟨_, eo⟩, b, z⟩
  | _ => cases h
theorem lst_at (s : Sim K m S H) {n : Nat} {v : V} {xs : List D} (r : RD K m H (.ref n) v) (h : S[n]? = some (.lst xs)) : ∃ p vs, v = .ref p ∧ m[n]? = some p ∧ H p = some (.lst vs) ∧ RDs K m H xs vs ∧ xs.length ≤ sizeLine := by
  cases r with
  | @ref n p a =>
    have rc := s.cell n p _ a h
    generalize eo : H p = o at rc
    cases rc with
    | lst z b => exact ⟨p, _, rfl, a, eo, b, z⟩
theorem dct_at (s : Sim K m S H) {n : Nat} {v : V} {kvs : List (D × D)} (r : RD K m H (.ref n) v) (h : S[n]? = some (.dct kvs)) : ∃ p kw, v = .ref p ∧ m[n]? = some p ∧ H p = some (.dK kw) ∧ RKV K m H kvs kw ∧ kvs.length ≤ sizeLine := by
  cases r with
  | @ref n p a =>
    have rc := s.cell n p _ a h
    generalize eo : H p = o at rc
    cases rc with
    | dct z b => exact ⟨p, _, rfl, a, eo, b, z⟩
end

/-! ### in -/
def flatD : D → Bool
  | .non => true
  | .int _ => true
  | .str _ => true
  | _ => false
def inF (neg : Bool) : F2 := fun x y S Q => match y with
  | .tup xs => flatD x = true ∧ xs.all flatD = true ∧ Q (.bl (decide (x ∈ xs) ^^ neg)) S
  | .ref n => (match S[n]? with
    | some (.lst xs) => flatD x = true ∧ xs.all flatD = true ∧ Q (.bl (decide (x ∈ xs) ^^ neg)) S
    | some (.dct kvs) => ∃ k, toKey x = some k ∧ Q (.bl ((valD kvs x).isSome ^^ neg)) S
    | some (.lck kvs) => ∃ k, toKey x = some k ∧ Q (.bl ((valD kvs x).isSome ^^ neg)) S
    | none => False)
  | _ => False
section
variable {K : PySem.W.Frag} {m : List Addr} {H : Hp}
theorem flatV_of {d : D} {v : V} (r : RD K m H d v) (h : flatD d = true) : flatV v = true := by
  cases r <;> first | rfl | (simp [flatD] at h)
theorem eqV_of {d e : D} {v w : V} (r : RD K m H d v) (q : RD K m H e w) (h : flatD d = true) (h' : flatD e = true) : eqV w v = decide (d = e) := by
  cases r <;> first | (simp [flatD] at h; done) | skip
  all_goals cases q <;> first | (simp [flatD] at h'; done) | skip
  all_goals first | rfl | skip
  · rename_i a b
    simp only [eqV, D.int.injEq]
    by_cases e : a = b
    · subst e; simp
    · rw [decide_eq_false e]
      simpa using fun z : b = a => e z.symm
  · rename_i a b
    simp only [eqV, D.str.injEq]
    by_cases e : a = b
    · subst e; simp
    · rw [decide_eq_false e]
      simpa using fun z : b = a => e z.symm
theorem flats_of : ∀ {ds : List D} {vs : List V}, RDs K m H ds vs → ds.all flatD = true → vs.all flatV = true
  | _, _, .nil, _ => rfl
  | _, _, .cons r t, h => by
    rw [List.all_cons, Bool.and_eq_true] at h ⊢
    exact ⟨flatV_of r h.1, flats_of t h.2⟩
theorem inV_of {d : D} {v : V} (rd : RD K m H d v) (hd : flatD d = true) : ∀ {ds : List D} {vs : List V}, RDs K m H ds vs → ds.all flatD = true → inV v vs = decide (d ∈ ds)
  | _, _, .nil, _ => by simp [inV]
  | _, _, .cons r t, h => by
    rw [List.all_cons, Bool.and_eq_true] at h
    unfold inV
    rw [List.any_cons, eqV_of rd r hd h.1]
    have := inV_of rd hd t h.2
    unfold inV at this
    rw [this]
    simp
end
section
variable {X : Cx}
def rInD (neg : Bool) : R2 := fun x y H Q => ∃ a o, y = .ref a ∧ DGet H a x o ∧ Q (.bl (o.isSome ^^ neg)) H
theorem op_in_d (hu : X.A.units + 1 < cLine) : OpR X (compareOp .In) (rInD false) := by
  intro pins s σ H x y v u Q I rx ry h
  obtain ⟨a, o, rfl, g, q⟩ := h
  cases ry
  exact d_in hu I g rx fun s' I' => ⟨.bl _, H, I', rfl, by rw [Bool.xor_false] at q; exact q⟩
theorem op_notin_d (hu : X.A.units + 1 < cLine) : OpR X (compareOp .NotIn) (rInD true) := by
  intro pins s σ H x y v u Q I rx ry h
  obtain ⟨a, o, rfl, g, q⟩ := h
  cases ry
  exact d_notIn hu I g rx fun s' I' => ⟨.bl _, H, I', rfl, by rw [Bool.xor_true] at q; exact q⟩
theorem dget_any {K : PySem.W.Frag} {m : List Addr} {H : Hp} {kvs : List (D × D)} {kw : List (Key × V)} {p : Addr} {dk : D} {k : Key} {y : V} (r : RKV K m H kvs kw) (hp : Rd H p (.dK kw)) (hk : toKey dk = some k) (ry : RD K m H dk y) :
    ∃ o, DGet H p y o ∧ o.isSome = (valD kvs dk).isSome := by
  have e := toKey_eq hk
  subst e
  have ey := ry.key
  subst ey
  refine ⟨_, .inl ⟨kw, k, hp, rfl, rfl⟩, ?_⟩
  rcases r.val k with ⟨d', v, h1, h2, h3⟩ | ⟨h1, h2⟩
  · rw [h1, h2]; rfl
  · rw [h1, h2]; rfl
theorem in_R2R {K : PySem.W.Frag} {neg : Bool} {r : R2} (hr : ∀ x y H Q, rIn K neg x y H Q ∨ rInD neg x y H Q → r x y H Q) : R2R K (inF neg) r := by
  intro m S H x y v u P Q s rx ry p w
  refine hr v u H Q ?_
  have seq : ∀ {q : Addr} {xs : List D} {vs : List V}, (SqL K H q vs ∨ SqT K H q vs) → RDs K m H xs vs → flatD x = true → xs.all flatD = true → P (.bl (decide (x ∈ xs) ^^ neg)) S → rIn K neg v (.ref q) H Q := fun {q xs vs} hq b f1 f2 p => by
    refine ⟨q, vs, rfl, hq, flatV_of rx f1, flats_of b f2, ?_⟩
    rw [inV_of rx f1 b f2]
    have e : (if neg = true then !decide (x ∈ xs) else decide (x ∈ xs)) = (decide (x ∈ xs) ^^ neg) := by cases neg <;> simp
    rw [e]
    exact w _ _ _ _ _ p (.refl _ _) s (.bl _)
  have dic : ∀ {q : Addr} {kvs : List (D × D)} {kw : List (Key × V)}, Rd H q (.dK kw) → RKV K m H kvs kw → (∃ k, toKey x = some k ∧ P (.bl ((valD kvs x).isSome ^^ neg)) S) → rInD neg v (.ref q) H Q := fun {q kvs kw} hq b ⟨k, hk, p⟩ => by
    obtain ⟨o, g, e⟩ := dget_any b hq hk rx
    exact ⟨q, o, rfl, g, by rw [e]; exact w _ _ _ _ _ p (.refl _ _) s (.bl _)⟩
  cases ry with
  | @tup q xs vs a z b => exact .inl (seq (.inr a) b p.1 p.2.1 p.2.2)
  | @ref n q a =>
    have p : (match S[n]? with
      | some (.lst xs) => flatD x = true ∧ xs.all flatD = true ∧ P (.bl (decide (x ∈ xs) ^^ neg)) S
      | some (.dct kvs) => ∃ k, toKey x = some k ∧ P (.bl ((valD kvs x).isSome ^^ neg)) S
      | some (.lck kvs) => ∃ k, toKey x = some k ∧ P (.bl ((valD kvs x).isSome ^^ neg)) S
      | none => False) := p
    cases e : S[n]? with
    | none => rw [e] at p; exact p.elim
    | some c =>
      rw [e] at p
      have rc := s.cell n q c a e
      generalize eo : H q = o at rc
      cases rc with
      | lst z b => exact .inl (seq (.inl (SqL.of eo)) b p.1 p.2.1 p.2.2)
      | dct z b => exact .inr (dic (.inl eo) b p)
      | lck z b => exact .inr (dic (.inr ⟨_, eo⟩) b p)
  | _ => exact False.elim p
theorem od_in (hu : X.A.units + 1 < cLine) : OpD X (compareOp .In) (inF false) := ⟨_, op_in_seq.or (op_in_d hu), in_R2R fun _ _ _ _ h => h⟩
theorem od_notin (hu : X.A.units + 1 < cLine) : OpD X (compareOp .NotIn) (inF true) := ⟨_, op_notIn_seq.or (op_notin_d hu), in_R2R fun _ _ _ _ h => h⟩
end

/-! ### len, list, tuple, sorted, any, all, int -/
def lenF : FN := fun xs S Q => match xs with
  | [d] => ∃ n : Nat, ((∃ ys, seqD S d = some ys ∧ n = ys.length) ∨ (∃ kvs, dictD S d = some kvs ∧ n = kvs.length) ∨ (∃ z, d = .str z ∧ z.length ≤ sizeLine ∧ n = z.length)) ∧ Q (.int n) S
  | _ => False
def listF : FN := fun xs S Q => match xs with
  | [d] => (∃ ys, seqD S d = some ys ∧ Q (.ref S.length) (S ++ [.lst ys])) ∨ (∃ n kvs, d = .ref n ∧ S[n]? = some (.dct kvs) ∧ Q (.ref S.length) (S ++ [.lst (kvs.map (·.1))]))
  | _ => False
def tupleF : FN := fun xs S Q => match xs with
  | [d] => ∃ ys, seqD S d = some ys ∧ Q (.tup ys) S
  | _ => False
/-- sorted of ints -/
def sortedF : FN := fun xs S Q => match xs with
  | [d] => ∃ ns : List Int, seqD S d = some (ns.map D.int) ∧ (∃ n, d = .ref n) ∧ ∀ ns' : List Int, ns'.Perm ns → ns'.Pairwise (· ≤ ·) → Q (.ref S.length) (S ++ [.lst (ns'.map D.int)])
  | _ => False
def boolsF (f : List Bool → Bool) : FN := fun xs S Q => match xs with
  | [d] => ∃ bs : List Bool, seqD S d = some (bs.map D.bl) ∧ (∃ n, d = .ref n) ∧ Q (.bl (f bs)) S
  | _ => False
section
variable {K : PySem.W.Frag} {m : List Addr} {H : Hp} {S : Store}
theorem RDs.one {xs : List D} {vs : List V} {d : D} (r : RDs K m H xs vs) (h : xs = [d]) : ∃ v, vs = [v] ∧ RD K m H d v := by
  subst h
  cases r with
  | cons a b => cases b; exact ⟨_, rfl, a⟩
theorem RDs.bls : ∀ {ns : List Bool} {vs : List V}, RDs K m H (ns.map D.bl) vs → vs = ns.map V.bl
  | [], _, h => by cases h; rfl
  | n :: ns, _, h => by
    cases h with
    | cons a b => cases a; rw [RDs.bls b]; rfl
theorem RKV.keysR {kvs : List (D × D)} {kw : List (Key × V)} (r : RKV K m H kvs kw) : RDs K m H (kvs.map (·.1)) (kw.map fun kv => kV kv.1) := by
  induction r with
  | nil => exact .nil
  | @cons p q _ _ h t ih =>
    refine .cons ?_ ih
    show RD K m H p.1 (kV q.1)
    rw [h.1]
    exact RD.ofKey _
end
section
variable {X : Cx}
theorem call_len_dict : CallR X (.builtin "len") (fun xs H Q => ∃ p kvs, xs = [.ref p] ∧ Rd H p (.dK kvs) ∧ Q (.int kvs.length) H) := by
  intro pins s σ H xs us Q I r h
  obtain ⟨p, kvs, rfl, hp, q⟩ := h
  obtain ⟨u, rfl, rx⟩ := vals1 r
  cases rx
  exact d_len I hp fun t s' I' => ⟨.int kvs.length, H, I', ⟨_, rfl⟩, q⟩
theorem cd_len : CallD X (.builtin "len") lenF := by
  refine ⟨_, call_len_seq.or (call_len_dict.or call_len_str), fun m S H xs vs P Q s r p w => ?_⟩
  match xs, p with
  | [d], p =>
    obtain ⟨v, rfl, rd⟩ := r.one rfl
    obtain ⟨n, h, p⟩ := p
    rcases h with ⟨ys, e, rfl⟩ | ⟨kvs, e, rfl⟩ | ⟨z, rfl, hz, rfl⟩
    · obtain ⟨q, ws, rfl, hq, b, hz⟩ := seq_at s rd e
      exact .inl ⟨q, ws, rfl, hq, by rw [← b.length]; exact w _ _ _ _ _ p (.refl _ _) s (.int _)⟩
    · obtain ⟨q, kw, rfl, hq, b, hz⟩ := dict_at s rd e
      exact .inr (.inl ⟨q, kw, rfl, hq, by rw [← b.length]; exact w _ _ _ _ _ p (.refl _ _) s (.int _)⟩)
    · cases rd
      exact .inr (.inr ⟨z, rfl, hz, w _ _ _ _ _ p (.refl _ _) s (.int _)⟩)
theorem cd_list (hc : X.calm = true) : CallD X (.type "list") listF := by
  refine ⟨_, call_list_of.or (call_list_dK hc), fun m S H xs vs P Q s r p w => ?_⟩
  match xs, p with
  | [d], p =>
    obtain ⟨v, rfl, rd⟩ := r.one rfl
    rcases p with ⟨ys, e, p⟩ | ⟨n, kvs, rfl, e, p⟩
    · obtain ⟨q, ws, rfl, hq, b, hz⟩ := seq_at s rd e
      refine .inl ⟨q, ws, rfl, hq, fun a ha => ?_⟩
      obtain ⟨g2, s2, r2⟩ := new_lst s ha b (by rw [b.length]; exact hz)
      exact w _ _ _ _ _ p g2 s2 r2
    · obtain ⟨q, kw, rfl, _, hq, b, hz⟩ := dct_at s rd e
      refine .inr ⟨q, kw, rfl, hq, fun a ha => ?_⟩
      obtain ⟨g2, s2, r2⟩ := new_lst s ha b.keysR (by rw [List.length_map]; exact hz)
      exact w _ _ _ _ _ p g2 s2 r2
theorem cd_tuple : CallD X (.type "tuple") tupleF := by
  refine ⟨_, call_tuple_of, fun m S H xs vs P Q s r p w => ?_⟩
  match xs, p with
  | [d], p =>
    obtain ⟨v, rfl, rd⟩ := r.one rfl
    obtain ⟨ys, e, p⟩ := p
    obtain ⟨q, ws, rfl, hq, b, hz⟩ := seq_at s rd e
    refine ⟨q, ws, rfl, ?_⟩
    rcases hq with hq | hq
    · refine .inl ⟨hq, fun a ha => ?_⟩
      have g2 : Grow m H m (upd H a (.tup ws)) := Grow.new ha _ (List.prefix_refl _)
      exact w _ _ _ _ _ p g2 (s.plus ha _) (.tup (SqT.of upd_same) hz (b.up g2))
    · exact .inr ⟨hq, w _ _ _ _ _ p (.refl _ _) s (.tup hq hz b)⟩
theorem seq_ref {K : PySem.W.Frag} {m : List Addr} {H : Hp} {S : Store} (s : Sim K m S H) {n : Nat} {v : V} {xs : List D} (r : RD K m H (.ref n) v) (h : seqD S (.ref n) = some xs) : ∃ p vs, v = .ref p ∧ H p = some (.lst vs) ∧ RDs K m H xs vs ∧ vs.length ≤ sizeLine := by
  have h : seqC S[n]? = some xs := h
  cases e : S[n]? with
  | none => rw [e] at h; cases h
  | some c =>
    rw [e] at h
    cases c with
    | lst ys =>
      cases h
      obtain ⟨p, vs, rfl, _, hp, b, z⟩ := lst_at s r e
      exact ⟨p, vs, rfl, hp, b, by rw [← b.length]; exact z⟩
    | dct _ => cases h
    | lck _ => cases h
theorem cd_sorted : CallD X (.builtin "sorted") sortedF := by
  refine ⟨_, cr_sortedI, fun m S H xs vs P Q s r p w => ?_⟩
  match xs, p with
  | [d], p =>
    obtain ⟨v, rfl, rd⟩ := r.one rfl
    obtain ⟨ns, e, ⟨n, rfl⟩, p⟩ := p
    obtain ⟨q, ws, rfl, hq, b, hz⟩ := seq_ref s rd e
    have e2 := b.ints
    subst e2
    refine ⟨q, ns, rfl, SqL.of hq, fun ns' a h1 h2 ha => ?_⟩
    obtain ⟨g2, s2, r2⟩ := new_lst s ha (RDs.of_ints ns') (by rw [List.length_map, h1.length_eq]; simpa using hz)
    exact w _ _ _ _ _ (p ns' h1 h2) g2 s2 r2
theorem cd_any (hc : X.calm = true) : CallD X (.builtin "any") (boolsF fun bs => bs.any id) := by
  refine ⟨_, cr_any hc, fun m S H xs vs P Q s r p w => ?_⟩
  match xs, p with
  | [d], p =>
    obtain ⟨v, rfl, rd⟩ := r.one rfl
    obtain ⟨bs, e, ⟨n, rfl⟩, p⟩ := p
    obtain ⟨q, ws, rfl, hq, b, hz⟩ := seq_ref s rd e
    have e2 := b.bls
    subst e2
    exact ⟨q, bs, rfl, SqL.of hq, w _ _ _ _ _ p (.refl _ _) s (.bl _)⟩
theorem cd_all (hc : X.calm = true) : CallD X (.builtin "all") (boolsF fun bs => bs.all id) := by
  refine ⟨_, cr_all hc, fun m S H xs vs P Q s r p w => ?_⟩
  match xs, p with
  | [d], p =>
    obtain ⟨v, rfl, rd⟩ := r.one rfl
    obtain ⟨bs, e, ⟨n, rfl⟩, p⟩ := p
    obtain ⟨q, ws, rfl, hq, b, hz⟩ := seq_ref s rd e
    have e2 := b.bls
    subst e2
    exact ⟨q, bs, rfl, SqL.of hq, w _ _ _ _ _ p (.refl _ _) s (.bl _)⟩
/-- int(n) -/
def intF1 : FN := fun xs S Q => match xs with
  | [.int i] => Q (.int i) S
  | _ => False
theorem cd_int : CallD X (.type "int") intF1 := by
  refine ⟨_, call_int1, fun m S H xs vs P Q s r p w => ?_⟩
  match xs, p with
  | [.int i], p =>
    obtain ⟨v, rfl, rd⟩ := r.one rfl
    cases rd
    exact .inl ⟨_, rfl, w _ _ _ _ _ p (.refl _ _) s (.int _)⟩
/-- dict(d) -/
def dictF : FN := fun xs S Q => match xs with
  | [d] => ∃ kvs, dictD S d = some kvs ∧ Q (.ref S.length) (S ++ [.dct kvs])
  | _ => False
theorem new_dct {K : PySem.W.Frag} {m : List Addr} {S : Store} {H : Hp} {kvs : List (D × D)} {kw : List (Key × V)} {a : Addr} (s : Sim K m S H) (ha : H a = none) (r : RKV K m H kvs kw) (z : kvs.length ≤ sizeLine) :
    Grow m H (m ++ [a]) (upd H a (.dK kw)) ∧ Sim K (m ++ [a]) (S ++ [.dct kvs]) (upd H a (.dK kw)) ∧ RD K (m ++ [a]) (upd H a (.dK kw)) (.ref S.length) (.ref a) := by
  have g2 : Grow m H (m ++ [a]) (upd H a (.dK kw)) := Grow.new ha _ (List.prefix_append _ _)
  exact ⟨g2, s.alloc ha (.dct z (r.up g2)), .ref (by rw [← s.len]; simp)⟩
theorem cd_dict : CallD X (.type "dict") dictF := by
  refine ⟨_, call_dictD, fun m S H xs vs P Q s r p w => ?_⟩
  match xs, p with
  | [d], p =>
    obtain ⟨v, rfl, rd⟩ := r.one rfl
    obtain ⟨kvs, e, p⟩ := p
    obtain ⟨q, kw, rfl, hq, b, hz⟩ := dict_at s rd e
    refine ⟨q, kw, rfl, hq, fun a ha => ?_⟩
    obtain ⟨g2, s2, r2⟩ := new_dct s ha b hz
    exact w _ _ _ _ _ p g2 s2 r2
/-- {} -/
def eDict0 : FE := fun _ S Q => Q (.ref S.length) (S ++ [.dct []])
theorem re_dict0 {pos : Pos} : RE X (.Dict [] [] pos) eDict0 := by
  refine pe_w pe_dnewK fun σ H Q q => ?_
  obtain ⟨m, σd, S, P, s, r, p, w⟩ := q
  intro a ha
  obtain ⟨g2, s2, r2⟩ := new_dct s ha .nil (Nat.zero_le _)
  exact w _ _ _ _ _ p g2 s2 r2
end
end SD
/-! SD6: stores, methods, displays, loops, comprehensions over D. -/
namespace SD
open PySem PySem.Spec PyProof.Rows L2

/-! ### o[i] = v -/
def setF (o i v : D) (S : Store) (Q : Store → Prop) : Prop := match o with
  | .ref n => (match S[n]? with
    | some (.lst xs) => ∃ k j, i = .int k ∧ ixN xs.length k = some j ∧ Q (S.set n (.lst (xs.set j v)))
    | some (.dct kvs) => (toKey i).isSome = true ∧ kvs.length < sizeLine ∧ Q (S.set n (.dct (putD kvs i v)))
    | _ => False)
  | _ => False
def gSubD (fo fi : FE) : FG := fun d σ S Q => fo σ S fun o S1 => fi σ S1 fun i S2 => setF o i d S2 fun S3 => Q σ S3
section
variable {X : Cx} {pos : Pos}
def rSetK : TSet := fun o i v H Q => ∃ a H', o = .ref a ∧ DPut H a i v H' ∧ Q H'
theorem set_dictK (hu : X.A.units + 1 < cLine) : PSet X rSetK := by
  intro pins s σ H o i v ov iv u Q I ro ri rv h
  obtain ⟨a, H', rfl, g, q⟩ := h
  cases ro
  exact d_setItem hu I g ri rv fun s' I' => ⟨H', I', q⟩
theorem PSet.or {r r' : TSet} (h : PSet X r) (h' : PSet X r') : PSet X (fun o i v H Q => r o i v H Q ∨ r' o i v H Q) := by
  intro pins s σ H o i v ov iv u Q I ro ri rv q
  rcases q with q | q
  · exact h pins s σ H o i v ov iv u Q I ro ri rv q
  · exact h' pins s σ H o i v ov iv u Q I ro ri rv q
theorem setF_R {K : PySem.W.Frag} {m : List Addr} {S : Store} {H : Hp} {o i d : D} {vo vi v : V} {P : Store → Prop} {Q : Hp → Prop} (s : Sim K m S H) (ro : RD K m H o vo) (ri : RD K m H i vi) (rd : RD K m H d v) (h : setF o i d S P)
    (w : ∀ S' H', P S' → Grow m H m H' → Sim K m S' H' → Q H') : rSetL vo vi v H Q ∨ rSetK vo vi v H Q := by
  cases ro with
  | @ref n p a =>
    have h : (match S[n]? with
      | some (.lst xs) => ∃ k j, i = .int k ∧ ixN xs.length k = some j ∧ P (S.set n (.lst (xs.set j d)))
      | some (.dct kvs) => (toKey i).isSome = true ∧ kvs.length < sizeLine ∧ P (S.set n (.dct (putD kvs i d)))
      | _ => False) := h
    cases e : S[n]? with
    | none => rw [e] at h; exact h.elim
    | some c =>
      rw [e] at h
      have rc := s.cell n p c a e
      generalize eo : H p = q at rc
      cases rc with
      | @lst xs vs z b =>
        obtain ⟨k, j, rfl, hj, hp⟩ := h
        cases ri
        have g := Grow.write s a e (fun _ z => by cases z) (.lst (vs.set j v))
        refine .inl ⟨p, vs, k, j, rfl, rfl, eo, by rw [← b.length]; exact hj, w _ _ hp g (s.write a e (fun _ z => by cases z) (.lst (by rw [List.length_set]; exact z) (RDs.set (rd.up g) j (b.up g))))⟩
      | @dct kvs kw z b =>
        obtain ⟨hk, hz, hp⟩ := h
        obtain ⟨k, hk⟩ := Option.isSome_iff_exists.mp hk
        have ek := toKey_eq hk
        subst ek
        have ev := ri.key
        subst ev
        have g := Grow.write s a e (fun _ z => by cases z) (.dK (putK kw k v))
        refine .inr ⟨p, _, rfl, DPut.k eo (by rw [← b.length]; exact hz), w _ _ hp g (s.write a e (fun _ z => by cases z) (.dct ?_ (RKV.put (b.up g) k (rd.up g))))⟩
        have := length_putD kvs (keyD k) d
        omega
      | lck z b => exact h.elim
  | _ => exact False.elim h
theorem rg_sub {o i : Expr} {fo fi : FE} (hu : X.A.units + 1 < cLine) (ho : RE X o fo) (hi : RE X i fi)
    (ha : ∀ v, assign (.Subscript o i pos) X.env v = (do
      let ov ← holding [v] (eval o X.env)
      let iv ← holding [v, ov] (eval i X.env)
      standAt pos
      holding [v, ov, iv] (setItem ov iv v)
      release [v, ov, iv] []) := by intro _; rfl) : RG X (.Subscript o i pos) (gSubD fo fi) := by
  refine pg_w (pg_sub (pos := pos) ho hi (PSet.or set_list (set_dictK hu)) ha) fun v σ H Q q => ?_
  obtain ⟨m, σd, S, d, P, s, r, rd, p, w⟩ := q
  refine ⟨m, σd, S, _, s, r, p, fun od S1 m1 vo H1 p1 g1 s1 r1 => ?_⟩
  refine ⟨m1, σd, S1, _, s1, r.up g1, p1, fun id S2 m2 vi H2 p2 g2 s2 r2 => ?_⟩
  exact setF_R s2 (r1.up g2) r2 (rd.up (g1.trans g2)) p2 fun S' H' hp g s' => w _ _ _ _ _ hp (g1.trans (g2.trans g)) s' (r.up (g1.trans (g2.trans g)))
end

/-! ### op= -/
def IpD (X : Cx) (op : Operator) (fr : F2) : Prop := ∃ r, PIp X op r ∧ R2R X.K fr r
def sAug (i : Nat) (f : FE) (fr : F2) : FS := fun E σ S => ∃ x, σ[i]? = some (some x) ∧ f σ S fun y S1 => fr x y S1 fun z S2 => E.nx (σ.set i (some z)) S2
def sAugS (fo fi f : FE) (fr : F2) : FS := fun E σ S => fo σ S fun o S1 => fi σ S1 fun i S2 => ixF o i S2 fun x S3 => f σ S3 fun y S4 => fr x y S4 fun z S5 => setF o i z S5 fun S6 => E.nx σ S6
section
variable {X : Cx} {pos : Pos}
theorem ipd_add : IpD X .Add (intF fun i j => .int (i + j)) := ⟨_, ip_add, R2R.I0 fun _ _ _ _ => .int _⟩
theorem ipd_sub : IpD X .Sub (intF fun i j => .int (i - j)) := ⟨_, ip_sub, R2R.I0 fun _ _ _ _ => .int _⟩
theorem rs_aug {i : Nat} {x : Str} {e : Expr} {f : FE} {op : Operator} {fr : F2} {pos' : Pos} (hN : X.N.Nodup) (ho : IpD X op fr) (he : RE X e f) (hi : X.N[i]? = some x := by rfl) (hx : Loc X.env.scope x := by first | exact Or.inl rfl | exact Or.inr rfl)
    (hf : X.fn x = true ∨ X.env.scope.names.lookup x = some .local := by first | exact .inl rfl | exact .inr rfl | assumption) : RS X (.AugAssign (.Name x pos') op e pos) (sAug i f fr) := by
  obtain ⟨r, h1, h2⟩ := ho
  refine ps_w (ps_aug hN hi hx he h1 hf) fun D σ H q => ?_
  obtain ⟨m, σd, S, E, s, rs, ⟨d, e1, p⟩, w⟩ := q
  obtain ⟨v, e2, rd⟩ := rs.val i d e1
  refine ⟨v, e2, m, σd, S, _, s, rs, p, fun y S1 m1 vy H1 p1 g1 s1 r1 => ?_⟩
  exact h2 m1 S1 H1 d y v vy _ _ s1 (rd.up g1) r1 p1 fun z S2 m2 vz H2 p2 g2 s2 r2 => w.nx _ _ _ _ _ p2 (g1.trans g2) s2 ((rs.up (g1.trans g2)).set r2 i)
def rGet (K : PySem.W.Frag) : V → V → Hp → VK → Prop := rIxD
theorem get_dict (hu : X.A.units + 1 < cLine) : PGet X rIxD := by
  intro pins s σ H o i ov iv Q I ro ri h
  obtain ⟨a, v, rfl, g, q⟩ := h
  cases ro
  exact d_getItem hu I g ri fun w' s' I' r' => ⟨v, H, I', r', q⟩
/-- d[k] op= e, d a dict -/
def sAugD (fo fi f : FE) (fr : F2) : FS := fun E σ S => fo σ S fun o S1 => fi σ S1 fun i S2 => ∃ kvs x, dictD S2 o = some kvs ∧ (toKey i).isSome = true ∧ valD kvs i = some x ∧ f σ S2 fun y S4 => fr x y S4 fun z S5 => setF o i z S5 fun S6 => E.nx σ S6
theorem rs_augD {o i e : Expr} {fo fi f : FE} {op : Operator} {fr : F2} {tpos : Pos} (hu : X.A.units + 1 < cLine) (ho : IpD X op fr) (h1 : RE X o fo) (h2 : RE X i fi) (he : RE X e f)
    (ha : ∀ ov iv new, augStore i ov iv new = (do holding [new, ov, iv] (setItem ov iv new); release [new, ov, iv] []; pure .next) := by intros; rfl) : RS X (.AugAssign (.Subscript o i tpos) op e pos) (sAugD fo fi f fr) := by
  obtain ⟨r, hr1, hr2⟩ := ho
  refine ps_w (ps_augS h1 h2 (get_dict hu) he hr1 (PSet.or set_list (set_dictK hu)) ha) fun D σ H q => ?_
  obtain ⟨m, σd, S, E, s, rs, p, w⟩ := q
  refine ⟨m, σd, S, _, s, rs, p, fun od S1 m1 vo H1 p1 g1 s1 r1 => ?_⟩
  refine ⟨m1, σd, S1, _, s1, rs.up g1, p1, fun id S2 m2 vi H2 ⟨kvs, x, d1, d2, d3, p2⟩ g2 s2 r2 => ?_⟩
  obtain ⟨q, kw, e, hq, b, hz⟩ := dict_at s2 (r1.up g2) d1
  obtain ⟨k, hk⟩ := Option.isSome_iff_exists.mp d2
  obtain ⟨v, g, rv⟩ := dget_of b hq hk r2 d3
  refine ⟨q, v, e, g, ?_⟩
  refine ⟨m2, σd, S2, _, s2, rs.up (g1.trans g2), p2, fun y S4 m4 vy H4 p4 g4 s4 r4 => ?_⟩
  refine hr2 m4 S4 H4 x y v vy _ _ s4 (rv.up g4) r4 p4 fun z S5 m5 vz H5 p5 g5 s5 r5 => ?_
  exact setF_R s5 (r1.up (g2.trans (g4.trans g5))) (r2.up (g4.trans g5)) r5 p5 fun S' H' hp g' s' => w.nx _ _ _ _ _ hp (g1.trans (g2.trans (g4.trans (g5.trans g')))) s' (rs.up (g1.trans (g2.trans (g4.trans (g5.trans g')))))
end

/-! ### methods -/
abbrev FM := D → List D → Store → PD → Prop
def tyD (T : String) (S : Store) (d : D) : Prop := (T = "list" ∧ ∃ n ys, d = .ref n ∧ S[n]? = some (.lst ys)) ∨ (T = "dict" ∧ ∃ n ys, d = .ref n ∧ S[n]? = some (.dct ys))
def eMt (T : String) (fr : FM) (fo : FE) (fa : FA) : FE := fun σ S Q => fo σ S fun x S1 => tyD T S1 x ∧ fa σ S1 fun xs S2 => fr x xs S2 Q
def RMR (K : PySem.W.Frag) (fr : FM) (r : V → List V → Hp → VK → Prop) : Prop := ∀ m S H x v xs vs P Q, Sim K m S H → RD K m H x v → RDs K m H xs vs → fr x xs S P → WD K m H P Q → r v vs H Q
def MtD (X : Cx) (id : String) (fr : FM) : Prop := ∃ r, MtR X id r ∧ RMR X.K fr r
section
variable {X : Cx} {o e : Expr} {es : List Expr} {fo : FE} {fa : FA} {name : Str} {apos cpos : Pos} {T id : String} {fr : FM}
theorem tyD_V {K : PySem.W.Frag} {m : List Addr} {S : Store} {H : Hp} {d : D} {v : V} (s : Sim K m S H) (r : RD K m H d v) (h : tyD T S d) : tyV K T v H := by
  rcases h with ⟨rfl, n, ys, rfl, e⟩ | ⟨rfl, n, ys, rfl, e⟩
  · obtain ⟨p, vs, rfl, _, hp, _, _⟩ := lst_at s r e
    exact .inl ⟨rfl, _, SqL.of hp⟩
  · obtain ⟨p, kw, rfl, _, hp, _, _⟩ := dct_at s r e
    exact .inr (.inr (.inl ⟨rfl, .inl ⟨_, hp⟩⟩))
theorem re_mt (pa : PlainAttrs T) (slot : Slot T name id) (hty : typeOf (.builtin id) = pure (.type "method_descriptor")) (hm : MtD X id fr) (ho : RE X o fo) (ha : RA X (e :: es) fa)
    (hbase : attributeBase o name X.env (eval o X.env) = eval o X.env := by rfl)
    (hfew : ((backTo cpos (starEach (e :: es) X.env)).all (fun x => !x.1) && (backToKw cpos (keywordEach [] X.env)).all (fun x => x.1.isSome)
      && decide ((e :: es).length + ([] : List Keyword).length + (if ([] : List Keyword).isEmpty then 0 else 1) < 30)) = true := by rfl)
    (hline : (apos.endLine == cpos.line) = true := by rfl) (hs : starEach (e :: es) X.env = (false, eval e X.env) :: starEach es X.env := by rfl) (hplain : (backTo cpos (starEach es X.env)).any (·.1) = false := by rfl) :
    RE X (.Call (.Attribute o name apos) (e :: es) [] cpos) (eMt T fr fo fa) := by
  obtain ⟨r, h1, h2⟩ := hm
  refine pe_w (pe_bm pa slot hty h1 ho ha hbase hfew hline hs hplain) fun σ H Q q => ?_
  obtain ⟨m, σd, S, P, s, rs, p, w⟩ := q
  refine ⟨m, σd, S, _, s, rs, p, fun d S1 m1 v H1 ⟨ty, p1⟩ g1 s1 r1 => ⟨tyD_V s1 r1 ty, ?_⟩⟩
  exact ⟨m1, σd, S1, _, s1, rs.up g1, p1, fun xs S2 m2 vs H2 p2 g2 s2 r2 => h2 m2 S2 H2 d v xs vs P Q s2 (r1.up g2) r2 p2 (w.up (g1.trans g2))⟩
theorem re_mt0 (pa : PlainAttrs T) (slot : Slot T name id) (hty : typeOf (.builtin id) = pure (.type "method_descriptor")) (hm : MtD X id fr) (ho : RE X o fo)
    (hbase : attributeBase o name X.env (eval o X.env) = eval o X.env := by rfl) (hline : (apos.endLine == cpos.line) = true := by rfl) : RE X (.Call (.Attribute o name apos) [] [] cpos) (eMt T fr fo aNil) := by
  obtain ⟨r, h1, h2⟩ := hm
  refine pe_w (pe_bm0 pa slot hty h1 ho hbase hline) fun σ H Q q => ?_
  obtain ⟨m, σd, S, P, s, rs, p, w⟩ := q
  exact ⟨m, σd, S, _, s, rs, p, fun d S1 m1 v H1 ⟨ty, p1⟩ g1 s1 r1 => ⟨tyD_V s1 r1 ty, h2 m1 S1 H1 d v [] [] P Q s1 r1 .nil p1 (w.up g1)⟩⟩
end
/-- xs.append(y) -/
def appF : FM := fun x xs S Q => ∃ n ys y, x = .ref n ∧ xs = [y] ∧ S[n]? = some (.lst ys) ∧ ys.length < sizeLine ∧ Q .non (S.set n (.lst (ys ++ [y])))
def popF : FM := fun x xs S Q => ∃ n ys y, x = .ref n ∧ xs = [] ∧ S[n]? = some (.lst ys) ∧ ys[ys.length - 1]? = some y ∧ Q y (S.set n (.lst ys.dropLast))
def pop0F : FM := fun x xs S Q => ∃ n y ys, x = .ref n ∧ xs = [.int 0] ∧ S[n]? = some (.lst (y :: ys)) ∧ Q y (S.set n (.lst ys))
def extF : FM := fun x xs S Q => ∃ n k ys zs, x = .ref n ∧ xs = [.ref k] ∧ S[n]? = some (.lst ys) ∧ S[k]? = some (.lst zs) ∧ ys.length + zs.length ≤ sizeLine ∧ Q .non (S.set n (.lst (ys ++ zs)))
def mergeD (kvs more : List (D × D)) : List (D × D) := more.foldl (fun acc p => putD acc p.1 p.2) kvs
def updF : FM := fun x xs S Q => ∃ n k ks ls, x = .ref n ∧ xs = [.ref k] ∧ n ≠ k ∧ S[n]? = some (.dct ks) ∧ dictD S (.ref k) = some ls ∧ ks.length + ls.length ≤ sizeLine ∧ Q .non (S.set n (.dct (mergeD ks ls)))
theorem RDs.dropLast {K : PySem.W.Frag} {m : List Addr} {H : Hp} {xs : List D} {vs : List V} (r : RDs K m H xs vs) : RDs K m H xs.dropLast vs.dropLast := by
  rw [List.dropLast_eq_take, List.dropLast_eq_take, r.length]
  exact r.take _
theorem RKV.merge {K : PySem.W.Frag} {m : List Addr} {H : Hp} : ∀ {more : List (D × D)} {mw : List (Key × V)}, RKV K m H more mw → ∀ {kvs : List (D × D)} {kw : List (Key × V)}, RKV K m H kvs kw → RKV K m H (mergeD kvs more) (mergeK kw mw)
  | _, _, .nil, _, _, r => r
  | (p :: _), (q :: _), .cons h t, kvs, kw, r => by
    have e : RKV K m H (putD kvs p.1 p.2) (putK kw q.1 q.2) := by rw [h.1]; exact r.put q.1 h.2
    exact RKV.merge t e
theorem length_mergeD : ∀ (more kvs : List (D × D)), (mergeD kvs more).length ≤ kvs.length + more.length
  | [], kvs => Nat.le_refl _
  | p :: r, kvs => by
    have h1 := length_mergeD r (putD kvs p.1 p.2)
    have h2 := length_putD kvs p.1 p.2
    show (mergeD (putD kvs p.1 p.2) r).length ≤ _
    rw [List.length_cons]; omega
section
variable {X : Cx}
theorem md_append : MtD X "list.append" appF := by
  refine ⟨_, mt_append, fun m S H x v xs vs P Q s rx rs p w => ?_⟩
  obtain ⟨n, ys, y, rfl, rfl, e, hz, p⟩ := p
  obtain ⟨vy, rfl, ry⟩ := rs.one rfl
  obtain ⟨q, ws, rfl, a, hq, b, _⟩ := lst_at s rx e
  have g := Grow.write s a e (fun _ z => by cases z) (.lst (ws ++ [vy]))
  refine ⟨q, ws, vy, rfl, rfl, hq, by rw [← b.length]; exact hz, w _ _ _ _ _ p g (s.write a e (fun _ z => by cases z) (.lst ?_ ((b.up g).append (.cons (ry.up g) .nil)))) .non⟩
  rw [List.length_append]; exact hz
theorem md_pop : MtD X "list.pop" popF := by
  refine ⟨_, mt_pop, fun m S H x v xs vs P Q s rx rs p w => ?_⟩
  obtain ⟨n, ys, y, rfl, rfl, e, hy, p⟩ := p
  cases rs
  obtain ⟨q, ws, rfl, a, hq, b, hz⟩ := lst_at s rx e
  obtain ⟨vy, e1, ry⟩ := b.get hy
  have g := Grow.write s a e (fun _ z => by cases z) (.lst ws.dropLast)
  refine ⟨q, ws, vy, rfl, rfl, hq, by rw [← b.length]; exact e1, w _ _ _ _ _ p g (s.write a e (fun _ z => by cases z) (.lst ?_ (b.up g).dropLast)) (ry.up g)⟩
  rw [List.length_dropLast]; omega
theorem md_pop0 : MtD X "list.pop" pop0F := by
  refine ⟨_, mt_popAt, fun m S H x v xs vs P Q s rx rs p w => ?_⟩
  obtain ⟨n, y, ys, rfl, rfl, e, p⟩ := p
  obtain ⟨vi, rfl, ri⟩ := rs.one rfl
  cases ri
  obtain ⟨q, ws, rfl, a, hq, b, hz⟩ := lst_at s rx e
  cases b with
  | @cons _ vy _ ws ry b =>
    have g := Grow.write s a e (fun _ z => by cases z) (.lst ws)
    refine ⟨q, vy :: ws, 0, 0, vy, rfl, rfl, hq, by decide, by decide, ?_, rfl, w _ _ _ _ _ p g (s.write a e (fun _ z => by cases z) (.lst ?_ (b.up g))) (ry.up g)⟩
    · unfold seqIndex?
      simp
    · rw [List.length_cons] at hz; omega
theorem md_extend : MtD X "list.extend" extF := by
  refine ⟨_, mt_extend, fun m S H x v xs vs P Q s rx rs p w => ?_⟩
  obtain ⟨n, k, ys, zs, rfl, rfl, e, e2, hz, p⟩ := p
  obtain ⟨vy, rfl, ry⟩ := rs.one rfl
  obtain ⟨q, ws, rfl, a, hq, b, _⟩ := lst_at s rx e
  obtain ⟨q2, ws2, rfl, a2, hq2, b2, _⟩ := lst_at s ry e2
  have g := Grow.write s a e (fun _ z => by cases z) (.lst (ws ++ ws2))
  refine ⟨q, q2, ws, ws2, rfl, rfl, hq, hq2, by rw [← b.length, ← b2.length]; exact hz, w _ _ _ _ _ p g (s.write a e (fun _ z => by cases z) (.lst ?_ ((b.up g).append (b2.up g)))) .non⟩
  rw [List.length_append]; exact hz
def rUpd : V → List V → Hp → VK → Prop := fun x xs H Q => ∃ a b ks ls, x = .ref a ∧ xs = [.ref b] ∧ a ≠ b ∧ H a = some (.dK ks) ∧ Rd H b (.dK ls) ∧ ks.length + ls.length ≤ sizeLine ∧ Q .non (upd H a (.dK (mergeK ks ls)))
theorem mt_update : MtR X "dict.update" rUpd := by
  intro pins s σ H x xs v us Q I rx rs h
  obtain ⟨a, b, ks, ls, rfl, rfl, ne, ha, hb, hz, q⟩ := h
  cases rx
  obtain ⟨u, rfl, ru⟩ := vals1 rs
  cases ru
  obtain ⟨z1, d1, va, ra, da⟩ := dk_of I.hok ha
  obtain ⟨z2, d2, vb, rb, db⟩ := dk_rd I.hok hb
  refine call_meetsIn PySem.F.slot_dict_update da.typeIs PySem.F.entry_dict_update (PySem.F.args_dict_update_2 _ _) (meets_dict_update (mixKind X.prog X.w) a b ne d2) ⟨va, vb, da, db, by rw [← ra.length, ← rb.length]; exact hz, fun h' dd' _ hs => ?_⟩
  have he : ∃ q, h'.get? a = some q := let ⟨q, _, _, hq, _⟩ := dd'; ⟨q, hq⟩
  have hl : (mergeK ks ls).length ≤ sizeLine := Nat.le_trans (length_mergeK ls ks) hz
  exact ⟨.non, _, d_write (t' := s.toks) I (by rw [ha]; exact True.intro) hs he (dk_new hl d1 (rb.merge ra) dd'), rfl, q⟩
theorem md_update : MtD X "dict.update" updF := by
  refine ⟨_, mt_update, fun m S H x v xs vs P Q s rx rs p w => ?_⟩
  obtain ⟨n, k, ks, ls, rfl, rfl, ne, e, e2, hz, p⟩ := p
  obtain ⟨vy, rfl, ry⟩ := rs.one rfl
  obtain ⟨q, kw, rfl, a, hq, b, _⟩ := dct_at s rx e
  obtain ⟨q2, lw, rfl, hq2, b2, _⟩ := dict_at s ry e2
  have a2 : m[k]? = some q2 := by cases ry; assumption
  have neq : q ≠ q2 := fun h => ne (nd_ix s.nd a (h ▸ a2))
  have g := Grow.write s a e (fun _ z => by cases z) (.dK (mergeK kw lw))
  refine ⟨q, q2, kw, lw, rfl, rfl, neq, hq, hq2, by rw [← b.length, ← b2.length]; exact hz, w _ _ _ _ _ p g (s.write a e (fun _ z => by cases z) (.dct ?_ (RKV.merge (b2.up g) (b.up g)))) .non⟩
  exact Nat.le_trans (length_mergeD ls ks) hz
end

/-! ### {k: v, ..} -/
def dispD : List (FE × FE) → Slots → Store → (List (D × D) → Store → Prop) → Prop
  | [], _, S, Q => Q [] S
  | (fk, fv) :: r, σ, S, Q => fk σ S fun k S1 => fv σ S1 fun v S2 => dispD r σ S2 fun ps S3 => Q ((k, v) :: ps) S3
section
variable {X : Cx} {pos : Pos}
structure RPs (X : Cx) (pos : Pos) (keys : List (Option Expr)) (values : List Expr) (prs : List (FE × FE)) : Prop where
  run : PPs X pos keys values (prs.map fun p => (tOf X.K p.1, tOf X.K p.2))
theorem rps_nil : RPs X pos [] [] [] := ⟨pps_nil⟩
theorem rps_cons {k v : Expr} {ks : List (Option Expr)} {vs : List Expr} {fk fv : FE} {prs : List (FE × FE)} (hk : RE X k fk) (hv : RE X v fv) (hr : RPs X pos ks vs prs) : RPs X pos (some k :: ks) (v :: vs) ((fk, fv) :: prs) := ⟨pps_cons hk hv hr.run⟩
abbrev RPr (K : PySem.W.Frag) (m : List Addr) (H : Hp) : List (D × D) → List (V × V) → Prop := Paired fun p q => RD K m H p.1 q.1 ∧ RD K m H p.2 q.2
theorem RPr.up {K : PySem.W.Frag} {m m' : List Addr} {H H' : Hp} {a : List (D × D)} {b : List (V × V)} (r : RPr K m H a b) (g : Grow m H m' H') : RPr K m' H' a b := Paired.mapP r fun _ _ h => ⟨h.1.up g, h.2.up g⟩
theorem disp_run {K : PySem.W.Frag} : ∀ (prs : List (FE × FE)) {m : List Addr} {σ : L2.St} {σd : Slots} {S : Store} {H : Hp} {P : List (D × D) → Store → Prop} {Q : List (V × V) → Hp → Prop}, Sim K m S H → RSl K m H σ σd → dispD prs σd S P →
    (∀ ps S' m' qs H', P ps S' → Grow m H m' H' → Sim K m' S' H' → RPr K m' H' ps qs → Q qs H') → tPairs (prs.map fun p => (tOf K p.1, tOf K p.2)) σ H Q
  | [], m, σ, σd, S, H, P, Q, s, r, h, w => w _ _ _ _ _ h (.refl _ _) s .nil
  | (fk, fv) :: prs, m, σ, σd, S, H, P, Q, s, r, h, w => by
    refine ⟨m, σd, S, _, s, r, h, fun k S1 m1 vk H1 p1 g1 s1 r1 => ?_⟩
    refine ⟨m1, σd, S1, _, s1, r.up g1, p1, fun v S2 m2 vv H2 p2 g2 s2 r2 => ?_⟩
    exact disp_run prs s2 (r.up (g1.trans g2)) p2 fun ps S3 m3 qs H3 p3 g3 s3 r3 => w _ _ _ _ _ p3 (g1.trans (g2.trans g3)) s3 (.cons ⟨r1.up (g2.trans g3), r2.up g3⟩ r3)
theorem RPr.kv {K : PySem.W.Frag} {m : List Addr} {H : Hp} : ∀ {ps : List (D × D)} {qs : List (V × V)}, RPr K m H ps qs → (∀ p ∈ ps, (toKey p.1).isSome = true) → ∃ kw : List (Key × V), qs = kw.map (fun kv => (kV kv.1, kv.2)) ∧ RKV K m H ps kw
  | _, _, .nil, _ => ⟨[], rfl, .nil⟩
  | (p :: ps), (q :: qs), .cons h t, hk => by
    obtain ⟨k, e⟩ := Option.isSome_iff_exists.mp (hk p List.mem_cons_self)
    obtain ⟨kw, e2, r⟩ := RPr.kv t fun p hp => hk p (List.mem_cons_of_mem _ hp)
    have e1 := toKey_eq e
    refine ⟨(k, q.2) :: kw, ?_, .cons ⟨e1, h.2⟩ r⟩
    have h1 := h.1
    rw [e1] at h1
    rw [List.map_cons, ← e2, ← h1.key]
def eDispD (prs : List (FE × FE)) : FE := fun σ S Q => dispD prs σ (S ++ [.dct []]) fun ps S2 => S2[S.length]? = some (.dct []) ∧ ps.length ≤ 15 ∧ (∀ p ∈ ps, (toKey p.1).isSome = true) ∧ Q (.ref S.length) (S2.set S.length (.dct (mergeD [] ps)))
theorem disp_len : ∀ (prs : List (FE × FE)) {σ : Slots} {S : Store} {P : List (D × D) → Store → Prop}, dispD prs σ S P → True := fun _ _ _ _ _ => trivial
theorem re_disp {keys : List (Option Expr)} {values : List Expr} {prs : List (FE × FE)} (h : RPs X pos keys values prs) (hall : keys.all (·.isSome) = true := by rfl) (hl : keys.length = values.length := by rfl) (h0 : keys ≠ [] := by intro h; cases h)
    (h15 : keys.length ≤ 15 := by decide) : RE X (.Dict keys values pos) (eDispD prs) := by
  refine pe_w (pe_disp h.run hall hl h0 h15) fun σ H Q q => ?_
  obtain ⟨m, σd, S, P, s, r, p, w⟩ := q
  intro a ha
  obtain ⟨g, s1, r1⟩ := new_dct s ha .nil (Nat.zero_le _)
  refine disp_run prs s1 (r.up g) p fun ps S2 m2 qs H2 ⟨e, hl, hk, p2⟩ g2 s2 r2 => ?_
  have hm : m2[S.length]? = some a := by
    cases r1 with
    | ref z => exact g2.at z
  have rc := s2.cell _ _ _ hm e
  generalize eo : H2 a = o at rc
  cases rc with
  | dct z b =>
    cases b
    obtain ⟨kw, ek, rk⟩ := RPr.kv r2 hk
    have g3 := Grow.write s2 hm e (fun _ z => by cases z) (.dK (mergeK [] kw))
    refine ⟨rfl, kw, ek, by rw [← rk.length]; exact hl, ?_⟩
    refine w _ _ _ _ _ p2 (g.trans (g2.trans g3)) (s2.write hm e (fun _ z => by cases z) (.dct ?_ (RKV.merge (rk.up g3) .nil))) (.ref hm)
    have := length_mergeD ps []
    rw [List.length_nil] at this
    rw [sizeLine_eq]; omega
end
end SD
/-! SD7: for, while, comprehensions over D. -/
namespace SD
open PySem PySem.Spec PyProof.Rows L2

/-! ### what is walked -/
abbrev FI := Slots → Store → ((Store → Prop) → List D → Store → Prop) → Prop
/-- J walks the items xs while ok -/
structure Wk (K : PySem.W.Frag) (J : It) (ok : Store → Prop) (xs : List D) (m : List Addr) (H : Hp) : Prop where
  few : xs.length ≤ sizeLine
  go : ∀ (i : Nat) m1 S1 H1 d, Grow m H m1 H1 → Sim K m1 S1 H1 → ok S1 → xs[i]? = some d → J.go i H1 ∧ ∀ x H2, J.yld i H1 x H2 → Grow m1 H1 m1 H2 ∧ Sim K m1 S1 H2 ∧ RD K m1 H2 d x
  stop : ∀ (i : Nat) m1 S1 H1, Grow m H m1 H1 → Sim K m1 S1 H1 → ok S1 → xs.length ≤ i → J.stop i H1
theorem Wk.up {K : PySem.W.Frag} {J : It} {ok : Store → Prop} {xs : List D} {m m' : List Addr} {H H' : Hp} (w : Wk K J ok xs m H) (g : Grow m H m' H') : Wk K J ok xs m' H' :=
  ⟨w.few, fun i m1 S1 H1 d g1 => w.go i m1 S1 H1 d (g.trans g1), fun i m1 S1 H1 g1 => w.stop i m1 S1 H1 (g.trans g1)⟩
def tOfI (K : PySem.W.Frag) (f : FI) : TI := fun σ H R => ∃ m σd S P, Sim K m S H ∧ RSl K m H σ σd ∧ f σd S P ∧ ∀ ok xs S' m' H' J, P ok xs S' → Grow m H m' H' → Sim K m' S' H' → Wk K J ok xs m' H' → R J H'
abbrev RI (X : Cx) (tg e : Expr) (f : FI) : Prop := PI X tg e (tOfI X.K f)
def Always : Store → Prop := fun _ => True
/-- a list, a tuple -/
def iSeq (f : FE) : FI := fun σ S R => f σ S fun d S1 => (∃ xs, d = .tup xs ∧ R Always xs S1) ∨ (∃ n xs, d = .ref n ∧ S1[n]? = some (.lst xs) ∧ R (fun S => S[n]? = some (.lst xs)) xs S1)
def iTupD (f : FE) : FI := fun σ S R => f σ S fun d S1 => ∃ xs, d = .tup xs ∧ R Always xs S1
def iLstD (f : FE) : FI := fun σ S R => f σ S fun d S1 => (∃ xs, d = .frz xs ∧ R Always xs S1) ∨ ∃ n xs, d = .ref n ∧ S1[n]? = some (.lst xs) ∧ R (fun S => S[n]? = some (.lst xs)) xs S1
def rngD (lo : Int) (n : Nat) : List D := (List.range n).map fun i => .int (lo + (i : Nat))
def iRg1 (f : FA) : FI := fun σ S R => f σ S fun ds S1 => ∃ j : Int, ds = [.int j] ∧ -1000 ≤ j ∧ j ≤ 16777216 ∧ R Always (rngD 0 j.toNat) S1
def iRg2 (f : FA) : FI := fun σ S R => f σ S fun ds S1 => ∃ i j : Int, ds = [.int i, .int j] ∧ -1000 ≤ i ∧ i ≤ 16777216 ∧ -1000 ≤ j ∧ j ≤ 16776000 ∧ R Always (rngD i (j - i).toNat) S1
section
variable {X : Cx} {tg : Expr}
theorem pi_w {e : Expr} {t t' : TI} (h : PI X tg e t) (w : ∀ σ H Q, t' σ H Q → t σ H Q) : PI X tg e t' := ⟨fun pins s σ H Q I q => h.run pins s σ H Q I (w σ H Q q)⟩
theorem ri_tup {e : Expr} {f : FE} (h : RE X e f) : RI X tg e (iTupD f) := by
  refine pi_w (pi_tup h) fun σ H R q => ?_
  obtain ⟨m, σd, S, P, s, r, p, w⟩ := q
  refine ⟨m, σd, S, _, s, r, p, fun d S1 m1 v H1 ⟨xs, e, p1⟩ g1 s1 r1 => ?_⟩
  subst e
  cases r1 with
  | @tup p xs vs a z b =>
    refine ⟨p, rfl, ⟨vs, a⟩, w _ _ _ _ _ _ p1 g1 s1 ⟨by rw [b.length]; exact z, fun i m2 S2 H2 d g s2 _ hd => ?_, fun i m2 S2 H2 g s2 _ hi => ⟨vs, g.sqT a, by rw [← b.length]; exact hi⟩⟩⟩
    obtain ⟨v, e1, rv⟩ := (b.up g).get hd
    refine ⟨⟨vs, v, g.sqT a, e1⟩, fun x H3 ⟨e2, y⟩ => ?_⟩
    subst e2
    have := y vs (g.sqT a)
    rw [e1] at this
    cases this
    exact ⟨.refl _ _, s2, rv⟩
theorem ri_list {e : Expr} {f : FE} (h : RE X e f) : RI X tg e (iLstD f) := by
  refine pi_w (pi_list h) fun σ H R q => ?_
  obtain ⟨m, σd, S, P, s, r, p, w⟩ := q
  refine ⟨m, σd, S, _, s, r, p, fun d S1 m1 v H1 q1 g1 s1 r1 => ?_⟩
  rcases q1 with ⟨xs, e, p1⟩ | ⟨n, xs, e, e1, p1⟩
  · subst e
    cases r1 with
    | @frz p xs vs a z b =>
      have un : ∀ {m2 : List Addr} {H2 : Hp}, Grow m1 H1 m2 H2 → ∀ ys, SqL X.K H2 p ys → FzL X.K H2 p vs → True := fun _ _ _ _ => trivial
      refine ⟨p, rfl, ⟨vs, a.sq⟩, w _ _ _ _ _ _ p1 g1 s1 ⟨by rw [b.length]; exact z, fun i m2 S2 H2 d g s2 _ hd => ?_, fun i m2 S2 H2 g s2 _ hi => ⟨vs, (g.fzL a).sq, by rw [← b.length]; exact hi⟩⟩⟩
      obtain ⟨v, e1, rv⟩ := (b.up g).get hd
      refine ⟨⟨vs, v, (g.fzL a).sq, e1⟩, fun x H3 ⟨e2, y⟩ => ?_⟩
      subst e2
      have := y vs (g.fzL a).sq
      rw [e1] at this
      cases this
      exact ⟨.refl _ _, s2, rv⟩
  · subst e
    obtain ⟨p, vs, rfl, a, hp, b, hz⟩ := lst_at s1 r1 e1
    refine ⟨p, rfl, ⟨vs, SqL.of hp⟩, w _ _ _ _ _ _ p1 g1 s1 ⟨hz, fun i m2 S2 H2 d g s2 ok hd => ?_, fun i m2 S2 H2 g s2 ok hi => ?_⟩⟩
    · obtain ⟨p', ws, e2, a2, hp2, b2, _⟩ := lst_at s2 (.ref (g.at a)) ok
      cases e2
      obtain ⟨v, e1, rv⟩ := b2.get hd
      refine ⟨⟨ws, v, SqL.of hp2, e1⟩, fun x H3 ⟨e2, y⟩ => ?_⟩
      subst e2
      have := y ws (SqL.of hp2)
      rw [e1] at this
      cases this
      exact ⟨.refl _ _, s2, rv⟩
    · obtain ⟨p', ws, e2, a2, hp2, b2, _⟩ := lst_at s2 (.ref (g.at a)) ok
      cases e2
      exact ⟨ws, SqL.of hp2, by rw [← b2.length]; exact hi⟩
theorem wk_range {K : PySem.W.Frag} {lo : Int} {n : Nat} {m : List Addr} {H : Hp} (hn : n ≤ sizeLine) : Wk K (Itr lo n) Always (rngD lo n) m H := by
  refine ⟨by unfold rngD; rw [List.length_map, List.length_range]; exact hn, fun i m2 S2 H2 d g s2 _ hd => ?_, fun i m2 S2 H2 g s2 _ hi => ?_⟩
  · unfold rngD at hd
    rw [List.getElem?_map] at hd
    cases e : (List.range n)[i]? with
    | none => rw [e] at hd; cases hd
    | some j =>
      rw [e] at hd
      cases hd
      obtain ⟨h1, h2⟩ := List.getElem?_eq_some_iff.mp e
      rw [List.length_range] at h1
      rw [List.getElem_range] at h2
      subst h2
      exact ⟨h1, fun x H3 ⟨e1, e2⟩ => by subst e1 e2; exact ⟨.refl _ _, s2, .int _⟩⟩
  · unfold rngD at hi
    rw [List.length_map, List.length_range] at hi
    exact hi
theorem ri_range1 {a : Expr} {fa : FA} {p pos : Pos} (hm : X.mg "range" = none) (ha : RA X [a] fa) (hg : Gl X "range" := by rfl) (hs : starEach [a] X.env = [(false, eval a X.env)] := by rfl) : RI X tg (.Call (.Name "range" p) [a] [] pos) (iRg1 fa) := by
  refine pi_w (pi_range1 hg hm ha hs) fun σ H R q => ?_
  obtain ⟨m, σd, S, P, s, r, p, w⟩ := q
  refine ⟨m, σd, S, _, s, r, p, fun ds S1 m1 vs H1 ⟨j, e, h0, h1, p1⟩ g1 s1 r1 => ?_⟩
  obtain ⟨v, rfl, rv⟩ := r1.one e
  cases rv
  exact ⟨j, rfl, by omega, by omega, w _ _ _ _ _ _ p1 g1 s1 (wk_range (by rw [sizeLine_eq]; omega))⟩
theorem ri_range2 {a b : Expr} {fa : FA} {p pos : Pos} (hm : X.mg "range" = none) (ha : RA X [a, b] fa) (hg : Gl X "range" := by rfl) (hs : starEach [a, b] X.env = [(false, eval a X.env), (false, eval b X.env)] := by rfl) (hs2 : starEach [b] X.env = [(false, eval b X.env)] := by rfl) :
    RI X tg (.Call (.Name "range" p) [a, b] [] pos) (iRg2 fa) := by
  refine pi_w (pi_range2 hg hm ha hs hs2) fun σ H R q => ?_
  obtain ⟨m, σd, S, P, s, r, p, w⟩ := q
  refine ⟨m, σd, S, _, s, r, p, fun ds S1 m1 vs H1 ⟨i, j, e, h0, h1, h2, h3, p1⟩ g1 s1 r1 => ?_⟩
  subst e
  cases r1 with
  | cons ra rb =>
    cases rb with
    | cons rb rn =>
      cases rn
      cases ra
      cases rb
      exact ⟨i, j, rfl, ⟨by omega, by omega, by omega, by omega⟩, w _ _ _ _ _ _ p1 g1 s1 (wk_range (by rw [sizeLine_eq]; omega))⟩
end

/-! ### for -/
def forD (ok : Store → Prop) (g : FG) (b : FS) (E : EndsD) : List D → Slots → Store → Prop
  | [], σ, S => ok S ∧ E.nx σ S
  | x :: xs, σ, S => ok S ∧ g x σ S fun σ1 S1 => b { E with nx := forD ok g b E xs, ct := forD ok g b E xs, bk := E.nx } σ1 S1
def sFor (f : FI) (g : FG) (b : FS) : FS := fun E σ S => f σ S fun ok xs S1 => forD ok g b E xs σ S1
theorem forD_ok {ok : Store → Prop} {g : FG} {b : FS} {E : EndsD} : ∀ {xs : List D} {σ : Slots} {S : Store}, forD ok g b E xs σ S → ok S
  | [], _, _, h => h.1
  | _ :: _, _, _, h => h.1
section
variable {X : Cx} {pos : Pos}
theorem rs_for {tg iter : Expr} {body : List Stmt} {f : FI} {g : FG} {b : FS} (hp : PassesOwn (model X.prog X.w) X.A X.env X.xe) (hc : X.calm = true) (hi : RI X tg iter f) (hg : RG X tg g) (hb : RSs X body b)
    (hs : ∀ x, foldedSetIterable iter X.env x = pure x := by intro _; rfl) : RS X (.For tg iter body [] pos) (sFor f g b) := by
  refine ps_w (ps_for hp hc hi hg hb hs) fun D σ H q => ?_
  obtain ⟨m, σd, S, E, s, r, p, w⟩ := q
  refine ⟨m, σd, S, _, s, r, p, fun ok xs S1 m1 H1 J p1 g1 s1 wk => ?_⟩
  refine ⟨fun i n σ2 H2 => n = xs.length - i ∧ i ≤ xs.length ∧ ∃ m2 σd2 S2, Sim X.K m2 S2 H2 ∧ RSl X.K m2 H2 σ2 σd2 ∧ Grow m1 H1 m2 H2 ∧ forD ok g b E (xs.drop i) σd2 S2, ⟨xs.length, by simp, Nat.zero_le _, m1, σd, S1, s1, r.up g1, .refl _ _, p1⟩, ?_⟩
  rintro i n σ2 H2 ⟨rfl, hi, m2, σd2, S2, s2, r2, g2, h2⟩
  by_cases hlt : i < xs.length
  · have e : xs.drop i = xs[i] :: xs.drop (i + 1) := List.drop_eq_getElem_cons hlt
    rw [e] at h2
    obtain ⟨hok, h2⟩ := h2
    obtain ⟨go, yl⟩ := wk.go i m2 S2 H2 xs[i] g2 s2 hok (by simp [hlt])
    refine .inr ⟨go, fun σ' H' => ∃ m3 σd3 S3, Sim X.K m3 S3 H' ∧ RSl X.K m3 H' σ' σd3 ∧ Grow m1 H1 m3 H' ∧ forD ok g b E (xs.drop (i + 1)) σd3 S3, fun σ' H' ⟨m3, σd3, S3, s3, r3, g3, h3⟩ => ⟨xs.length - (i + 1), by omega, rfl, hlt, m3, σd3, S3, s3, r3, g3, h3⟩, fun x H3 hy => ?_⟩
    obtain ⟨g3, s3, rx⟩ := yl x H3 hy
    refine ⟨m2, σd2, S2, xs[i], _, s3, r2.up g3, rx, h2, fun σd4 S4 m4 σ4 H4 p4 g4 s4 r4 => ?_⟩
    have gg := g2.trans (g3.trans g4)
    have ww := w.up (g1.trans gg)
    exact ⟨m4, σd4, S4, _, s4, r4, p4, ⟨fun σd5 S5 m5 σ5 H5 p5 g5 s5 r5 => ⟨m5, σd5, S5, s5, r5, gg.trans g5, p5⟩, ww.rt, ww.nx, fun σd5 S5 m5 σ5 H5 p5 g5 s5 r5 => ⟨m5, σd5, S5, s5, r5, gg.trans g5, p5⟩⟩⟩
  · have e : i = xs.length := by omega
    subst e
    rw [List.drop_length] at h2
    exact .inl ⟨wk.stop _ m2 S2 H2 g2 s2 h2.1 (Nat.le_refl _), w.nx _ _ _ _ _ h2.2 (g1.trans g2) s2 r2⟩
/-! ### while -/
end
def whileD (c : FT) (b : FS) (E : EndsD) : Nat → Slots → Store → Prop
  | 0, _, _ => False
  | n + 1, σ, S => c σ S fun t S1 => if t = true then b { E with nx := whileD c b E n, ct := whileD c b E n, bk := E.nx } σ S1 else E.nx σ S1
def sWhile (c : FT) (b : FS) : FS := fun E σ S => ∃ n, whileD c b E n σ S
section
variable {X : Cx} {pos : Pos}
theorem rs_while {c : Expr} {body : List Stmt} {t : FT} {b : FS} (hp : PassesOwn (model X.prog X.w) X.A X.env X.xe) (hc : RT X c t) (hb : RSs X body b) : RS X (.While c body [] pos) (sWhile t b) := by
  refine ps_w (ps_while hp hc hb) fun D σ H q => ?_
  obtain ⟨m, σd, S, E, s, r, ⟨n0, p⟩, w⟩ := q
  refine ⟨fun n σ2 H2 => ∃ m2 σd2 S2, Sim X.K m2 S2 H2 ∧ RSl X.K m2 H2 σ2 σd2 ∧ Grow m H m2 H2 ∧ whileD t b E n σd2 S2, ⟨n0, m, σd, S, s, r, .refl _ _, p⟩, ?_⟩
  rintro n σ2 H2 ⟨m2, σd2, S2, s2, r2, g2, h2⟩
  cases n with
  | zero => exact False.elim h2
  | succ n =>
    refine ⟨m2, σd2, S2, _, s2, r2, h2, fun k S3 m3 H3 p3 g3 s3 => ?_⟩
    have ww := w.up (g2.trans g3)
    cases k with
    | true =>
      rw [if_pos rfl] at p3
      refine iteT ⟨fun σ' H' => ∃ m4 σd4 S4, Sim X.K m4 S4 H' ∧ RSl X.K m4 H' σ' σd4 ∧ Grow m H m4 H' ∧ whileD t b E n σd4 S4, fun σ' H' h => ⟨n, Nat.lt_succ_self n, h⟩, ?_⟩
      exact ⟨m3, σd2, S3, _, s3, r2.up g3, p3, ⟨fun σd5 S5 m5 σ5 H5 p5 g5 s5 r5 => ⟨m5, σd5, S5, s5, r5, (g2.trans g3).trans g5, p5⟩, ww.rt, ww.nx, fun σd5 S5 m5 σ5 H5 p5 g5 s5 r5 => ⟨m5, σd5, S5, s5, r5, (g2.trans g3).trans g5, p5⟩⟩⟩
    | false =>
      rw [if_neg (by decide)] at p3
      exact iteF (ww.nx _ _ _ _ _ p3 (.refl _ _) s3 (r2.up g3))
end

/-! ### comprehensions -/
def tYesD : FT := fun _ S Q => Q true S
def PGD (K : PySem.W.Frag) (vs : List Nat) (g : TG) (gd : FG) : Prop := ∀ m S H σ σd d v P Q, Sim K m S H → RSl K m H (wipe σ vs) σd → RD K m H d v → gd d σd S P →
  (∀ σd2 S2 m2 σ2 H2, P σd2 S2 → Grow m H m2 H2 → Sim K m2 S2 H2 → RSl K m2 H2 σ2 σd2 → wipe σ2 vs = wipe σ vs → Q σ2 H2) → g v (wipe σ vs) H Q
theorem pgd_name {K : PySem.W.Frag} (i : Nat) : PGD K [i] (gName i) (gNm i) := by
  intro m S H σ σd d v P Q s r rd p w
  exact w _ _ _ _ _ p (.refl _ _) s (r.set rd i) (by simp [wipe, List.set_set])
theorem pgd_two {K : PySem.W.Frag} (i j : Nat) (hij : i ≠ j) : PGD K [i, j] (gTup K 2 (gCons (gName i) (gCons (gName j) gNil))) (gTp 2 (gsCons (gNm i) (gsCons (gNm j) gsNil))) := by
  intro m S H σ σd d v P Q s r rd p w
  obtain ⟨xs, rfl, hl, x, r1, rfl, y, r2, e2, e3, p⟩ := p
  subst e2
  subst e3
  cases rd with
  | tup a z b =>
    cases b with
    | cons ra b =>
      cases b with
      | cons rb b =>
        cases b
        refine ⟨_, _, rfl, a, rfl, _, _, rfl, _, _, rfl, rfl, ?_⟩
        refine w _ _ _ _ _ p (.refl _ _) s ((r.set ra i).set rb j) ?_
        simp only [wipe]
        rw [List.set_set]
        apply List.ext_getElem?
        intro n
        simp only [List.getElem?_set, List.length_set]
        split <;> split <;> simp_all
def lcD (ok : Store → Prop) (g : FG) (t : FT) (e : FE) (n0 : Nat) (Q : Store → Prop) (σ : Slots) : List D → Store → Prop
  | [], S => ok S ∧ Q S
  | x :: xs, S => ok S ∧ g x σ S fun σ2 S2 => t σ2 S2 fun b S3 => if b = true then e σ2 S3 fun y S4 => ∃ acc, S4[n0]? = some (.lst acc) ∧ acc.length < sizeLine ∧ lcD ok g t e n0 Q σ xs (S4.set n0 (.lst (acc ++ [y])))
      else lcD ok g t e n0 Q σ xs S3
def eLc (f : FI) (g : FG) (t : FT) (e : FE) (vs : List Nat) : FE := fun σ S Q => f σ S fun ok xs S1 => xs.length ≤ sizeLine → lcD ok g t e S1.length (fun S' => Q (.ref S1.length) S') (wipeD σ vs) xs (S1 ++ [.lst []])
def dcD (ok : Store → Prop) (g : FG) (t : FT) (fk fv : FE) (n0 : Nat) (Q : Store → Prop) (σ : Slots) : List D → Store → Prop
  | [], S => ok S ∧ Q S
  | x :: xs, S => ok S ∧ g x σ S fun σ2 S2 => t σ2 S2 fun b S3 => if b = true then fk σ2 S3 fun k S4 => fv σ2 S4 fun v S5 => ∃ acc, (toKey k).isSome = true ∧ S5[n0]? = some (.dct acc) ∧ acc.length < sizeLine ∧ dcD ok g t fk fv n0 Q σ xs (S5.set n0 (.dct (putD acc k v)))
      else dcD ok g t fk fv n0 Q σ xs S3
def eDc (f : FI) (g : FG) (t : FT) (fk fv : FE) (vs : List Nat) : FE := fun σ S Q => f σ S fun ok xs S1 => xs.length ≤ sizeLine → dcD ok g t fk fv S1.length (fun S' => Q (.ref S1.length) S') (wipeD σ vs) xs (S1 ++ [.dct []])
/-- a clause's tests -/
abbrev RTs (X : Cx) (ifs : List Expr) (f : FT) : Prop := PTs X ifs (tOfT X.K f)
theorem pts_w {X : Cx} {e : List Expr} {t t' : TT} (h : PTs X e t) (w : ∀ σ H Q, t' σ H Q → t σ H Q) : PTs X e t' := ⟨fun pins s σ H Q I q => h.run pins s σ H Q I (w σ H Q q)⟩
theorem rts_nil {X : Cx} : RTs X [] tYesD := by
  refine pts_w pts_nil fun σ H Q q => ?_
  obtain ⟨m, σd, S, P, s, r, p, w⟩ := q
  exact w _ _ _ _ p (.refl _ _) s
theorem rts_one {X : Cx} {c : Expr} {t : FT} (h : RT X c t) : RTs X [c] t := pts_one h
section
variable {K : PySem.W.Frag}
theorem wipe_len (σ : L2.St) (vs : List Nat) : (wipe σ vs).length = σ.length := wipe_length σ vs
theorem tOf_lc {g : TG} {gd : FG} {vs : List Nat} (hg : PGD K vs g gd) {f : FI} {t : FT} {e : FE} {σ : L2.St} {H : Hp} {Q : VK} (h : tOf K (eLc f gd t e vs) σ H Q) : tLc (tOfI K f) g (tOfT K t) (tOf K e) vs σ H Q := by
  obtain ⟨m, σd, S, P, s, r, p, w⟩ := h
  refine ⟨m, σd, S, _, s, r, p, fun ok xs S1 m1 H1 J p1 g1 s1 wk => fun D hD => ?_⟩
  have p1 := p1 wk.few
  obtain ⟨gN, sN, rN⟩ := new_lst s1 hD .nil (Nat.zero_le _)
  have hm : (m1 ++ [D])[S1.length]? = some D := by rw [← s1.len]; simp
  refine ⟨fun i n H2 => n = xs.length - i ∧ i ≤ xs.length ∧ ∃ m2 S2, Sim K m2 S2 H2 ∧ Grow (m1 ++ [D]) (upd H1 D (.lst [])) m2 H2 ∧ lcD ok gd t e S1.length (fun S' => P (.ref S1.length) S') (wipeD σd vs) (xs.drop i) S2, ⟨xs.length, by simp, Nat.zero_le _, _, _, sN, .refl _ _, p1⟩, ?_⟩
  rintro i n H2 ⟨rfl, hi, m2, S2, s2, g2, h2⟩
  by_cases hlt : i < xs.length
  · have ed : xs.drop i = xs[i] :: xs.drop (i + 1) := List.drop_eq_getElem_cons hlt
    rw [ed] at h2
    obtain ⟨hok, h2⟩ := h2
    obtain ⟨go, yl⟩ := wk.go i m2 S2 H2 xs[i] (gN.trans g2) s2 hok (by simp [hlt])
    refine .inr ⟨go, fun H' => ∃ m3 S3, Sim K m3 S3 H' ∧ Grow (m1 ++ [D]) (upd H1 D (.lst [])) m3 H' ∧ lcD ok gd t e S1.length (fun S' => P (.ref S1.length) S') (wipeD σd vs) (xs.drop (i + 1)) S3, fun H' ⟨m3, S3, s3, g3, h3⟩ => ⟨xs.length - (i + 1), by omega, rfl, hlt, m3, S3, s3, g3, h3⟩, fun x H3 hy => ?_⟩
    obtain ⟨g3, s3, rx⟩ := yl x H3 hy
    refine hg m2 S2 H3 σ (wipeD σd vs) xs[i] x _ _ s3 ((r.wipe vs).up (g1.trans (gN.trans (g2.trans g3)))) rx h2 fun σd4 S4 m4 σ4 H4 p4 g4 s4 r4 hw => ⟨hw, ?_⟩
    refine ⟨m4, σd4, S4, _, s4, r4, p4, fun b S5 m5 H5 p5 g5 s5 => ?_⟩
    cases b with
    | false =>
      rw [if_neg (by decide)] at p5
      exact iteF ⟨m5, S5, s5, g2.trans (g3.trans (g4.trans g5)), p5⟩
    | true =>
      rw [if_pos rfl] at p5
      refine iteT ⟨m5, σd4, S5, _, s5, r4.up g5, p5, fun y S6 m6 vy H6 ⟨acc, e6, hz, p6⟩ g6 s6 r6 => ?_⟩
      have gg := g2.trans (g3.trans (g4.trans (g5.trans g6)))
      have hm6 := gg.at hm
      have rc := s6.cell _ _ _ hm6 e6
      generalize eo : H6 D = o at rc
      cases rc with
      | @lst _ va z b =>
        have g7 := Grow.write s6 hm6 e6 (fun _ z => by cases z) (.lst (va ++ [vy]))
        refine ⟨va, eo, by rw [← b.length]; exact hz, m6, _, s6.write hm6 e6 (fun _ z => by cases z) (.lst ?_ ((b.up g7).append (.cons (r6.up g7) .nil))), gg.trans g7, p6⟩
        rw [List.length_append]; exact hz
  · have ei : i = xs.length := by omega
    subst ei
    rw [List.drop_length] at h2
    exact .inl ⟨wk.stop _ m2 S2 H2 (gN.trans g2) s2 h2.1 (Nat.le_refl _), w _ _ _ _ _ h2.2 (g1.trans (gN.trans g2)) s2 (.ref (g2.at hm))⟩
theorem tOf_dc {g : TG} {gd : FG} {vs : List Nat} (hg : PGD K vs g gd) {f : FI} {t : FT} {fk fv : FE} {σ : L2.St} {H : Hp} {Q : VK} (h : tOf K (eDc f gd t fk fv vs) σ H Q) : tDc (tOfI K f) g (tOfT K t) (tOf K fk) (tOf K fv) vs σ H Q := by
  obtain ⟨m, σd, S, P, s, r, p, w⟩ := h
  refine ⟨m, σd, S, _, s, r, p, fun ok xs S1 m1 H1 J p1 g1 s1 wk => fun D hD => ?_⟩
  have p1 := p1 wk.few
  obtain ⟨gN, sN, rN⟩ := new_dct s1 hD .nil (Nat.zero_le _)
  have hm : (m1 ++ [D])[S1.length]? = some D := by rw [← s1.len]; simp
  refine ⟨fun i n H2 => n = xs.length - i ∧ i ≤ xs.length ∧ ∃ m2 S2, Sim K m2 S2 H2 ∧ Grow (m1 ++ [D]) (upd H1 D (.dK [])) m2 H2 ∧ dcD ok gd t fk fv S1.length (fun S' => P (.ref S1.length) S') (wipeD σd vs) (xs.drop i) S2, ⟨xs.length, by simp, Nat.zero_le _, _, _, sN, .refl _ _, p1⟩, ?_⟩
  rintro i n H2 ⟨rfl, hi, m2, S2, s2, g2, h2⟩
  by_cases hlt : i < xs.length
  · have ed : xs.drop i = xs[i] :: xs.drop (i + 1) := List.drop_eq_getElem_cons hlt
    rw [ed] at h2
    obtain ⟨hok, h2⟩ := h2
    obtain ⟨go, yl⟩ := wk.go i m2 S2 H2 xs[i] (gN.trans g2) s2 hok (by simp [hlt])
    refine .inr ⟨go, fun H' => ∃ m3 S3, Sim K m3 S3 H' ∧ Grow (m1 ++ [D]) (upd H1 D (.dK [])) m3 H' ∧ dcD ok gd t fk fv S1.length (fun S' => P (.ref S1.length) S') (wipeD σd vs) (xs.drop (i + 1)) S3, fun H' ⟨m3, S3, s3, g3, h3⟩ => ⟨xs.length - (i + 1), by omega, rfl, hlt, m3, S3, s3, g3, h3⟩, fun x H3 hy => ?_⟩
    obtain ⟨g3, s3, rx⟩ := yl x H3 hy
    refine hg m2 S2 H3 σ (wipeD σd vs) xs[i] x _ _ s3 ((r.wipe vs).up (g1.trans (gN.trans (g2.trans g3)))) rx h2 fun σd4 S4 m4 σ4 H4 p4 g4 s4 r4 hw => ⟨hw, ?_⟩
    refine ⟨m4, σd4, S4, _, s4, r4, p4, fun b S5 m5 H5 p5 g5 s5 => ?_⟩
    cases b with
    | false =>
      rw [if_neg (by decide)] at p5
      exact iteF ⟨m5, S5, s5, g2.trans (g3.trans (g4.trans g5)), p5⟩
    | true =>
      rw [if_pos rfl] at p5
      refine iteT ⟨m5, σd4, S5, _, s5, r4.up g5, p5, fun y S6 m6 vy H6 p6 g6 s6 r6 => ?_⟩
      refine ⟨m6, σd4, S6, _, s6, r4.up (g5.trans g6), p6, fun z S7 m7 vz H7 ⟨acc, hk, e7, hz, p7⟩ g7 s7 r7 => ?_⟩
      have gg := g2.trans (g3.trans (g4.trans (g5.trans (g6.trans g7))))
      have hm7 := gg.at hm
      have rc := s7.cell _ _ _ hm7 e7
      obtain ⟨k, hk⟩ := Option.isSome_iff_exists.mp hk
      have ek := toKey_eq hk
      subst ek
      have ev := r6.key
      generalize eo : H7 D = o at rc
      cases rc with
      | @dct _ va z b =>
        have g8 := Grow.write s7 hm7 e7 (fun _ z => by cases z) (.dK (putK va k vz))
        refine ⟨va, k, ev, eo, by rw [← b.length]; exact hz, m7, _, s7.write hm7 e7 (fun _ z => by cases z) (.dct ?_ ((b.up g8).put k (r7.up g8))), gg.trans g8, p7⟩
        have := length_putD acc (keyD k) (by assumption)
        have hz2 := hz
        omega
  · have ei : i = xs.length := by omega
    subst ei
    rw [List.drop_length] at h2
    exact .inl ⟨wk.stop _ m2 S2 H2 (gN.trans g2) s2 h2.1 (Nat.le_refl _), w _ _ _ _ _ h2.2 (g1.trans (gN.trans g2)) s2 (.ref (g2.at hm))⟩
end
end SD
/-! SD8: comprehensions as expressions and stored, dicts walked, isinstance, tuple(range), slices, get. -/
namespace SD
open PySem PySem.Spec PyProof.Rows L2

section
variable {X : Cx}
theorem re_lc {elt tg iter : Expr} {ifs : List Expr} {scope : Scope} {own : List (Str × Nat)} {pos : Pos} {f : FI} {g : TG} {gd : FG} {t : FT} {e : FE} (hc : X.calm = true) (hN : X.N.Nodup) (hi : RI X tg iter f) (ok : BlkOk X.N X.env.scope scope own) (hgd : PGD X.K (own.map (·.2)) g gd)
    (hg : ∀ (s : Shared) (H : Hp) (C : Addr) (cl : List (Str × Addr)) (fp : List Addr), PG (X.blk s H scope (compEnvC scope cl C X.env) fp) tg g) (ht : ∀ (s : Shared) (H : Hp) (C : Addr) (cl : List (Str × Addr)) (fp : List Addr), RTs (X.blk s H scope (compEnvC scope cl C X.env) fp) ifs t)
    (he : ∀ (s : Shared) (H : Hp) (C : Addr) (cl : List (Str × Addr)) (fp : List Addr), RE (X.blk s H scope (compEnvC scope cl C X.env) fp) elt e) (hs : ∀ x, foldedSetIterable iter X.env x = pure x := by intro _; rfl) :
    RE X (.ListComp elt [⟨tg, iter, ifs, 0⟩] scope pos) (eLc f gd t e (own.map (·.2))) :=
  pe_w (pe_lc (tt := tOfT X.K t) (te := tOf X.K e) hc hN hi ok hg ht he hs) fun _ _ _ q => tOf_lc hgd q
theorem rs_setLc {i : Nat} {y : Str} {py : Pos} {elt tg iter : Expr} {ifs : List Expr} {scope : Scope} {own : List (Str × Nat)} {pos spos : Pos} {f : FI} {g : TG} {gd : FG} {t : FT} {e : FE} (hc : X.calm = true) (hN : X.N.Nodup) (hi : RI X tg iter f) (ok : BlkOk X.N X.env.scope scope own) (hgd : PGD X.K (own.map (·.2)) g gd)
    (hg : ∀ (s : Shared) (H : Hp) (C : Addr) (cl : List (Str × Addr)) (fp : List Addr), PG (X.blk s H scope (compEnvC scope cl C X.env) fp) tg g) (ht : ∀ (s : Shared) (H : Hp) (C : Addr) (cl : List (Str × Addr)) (fp : List Addr), RTs (X.blk s H scope (compEnvC scope cl C X.env) fp) ifs t)
    (he : ∀ (s : Shared) (H : Hp) (C : Addr) (cl : List (Str × Addr)) (fp : List Addr), RE (X.blk s H scope (compEnvC scope cl C X.env) fp) elt e)
    (hsw : swapsWith (.ListComp elt [⟨tg, iter, ifs, 0⟩] scope pos) (some (.Name y py)) spos.line X.env = pure true) (hy : X.N[i]? = some y := by rfl) (hyl : X.env.scope.names.lookup y = some .local := by rfl) (hs : ∀ x, foldedSetIterable iter X.env x = pure x := by intro _; rfl) :
    RS X (.Assign [.Name y py] (.ListComp elt [⟨tg, iter, ifs, 0⟩] scope pos) spos) (sAsg (eLc f gd t e (own.map (·.2))) (gNm i)) := by
  refine ps_w (ps_setLc (tt := tOfT X.K t) (te := tOf X.K e) hc hN hy hyl hsw hi ok hg ht he hs) fun D σ H q => ?_
  obtain ⟨m, σd, S, E, s, r, p, w⟩ := q
  exact tOf_lc hgd ⟨m, σd, S, _, s, r, p, fun d S1 m1 v H1 p1 g1 s1 r1 => w.nx _ _ _ _ _ p1 g1 s1 ((r.up g1).set r1 i)⟩
theorem re_dc {kx vx tg iter : Expr} {ifs : List Expr} {scope : Scope} {own : List (Str × Nat)} {pos : Pos} {f : FI} {g : TG} {gd : FG} {t : FT} {fk fv : FE} (hc : X.calm = true) (hN : X.N.Nodup) (hi : RI X tg iter f) (ok : BlkOk X.N X.env.scope scope own) (hgd : PGD X.K (own.map (·.2)) g gd)
    (hg : ∀ (s : Shared) (H : Hp) (C : Addr) (cl : List (Str × Addr)) (fp : List Addr), PG (X.blk s H scope (compEnvC scope cl C X.env) fp) tg g) (ht : ∀ (s : Shared) (H : Hp) (C : Addr) (cl : List (Str × Addr)) (fp : List Addr), RTs (X.blk s H scope (compEnvC scope cl C X.env) fp) ifs t)
    (hk : ∀ (s : Shared) (H : Hp) (C : Addr) (cl : List (Str × Addr)) (fp : List Addr), RE (X.blk s H scope (compEnvC scope cl C X.env) fp) kx fk)
    (he : ∀ (s : Shared) (H : Hp) (C : Addr) (cl : List (Str × Addr)) (fp : List Addr), RE (X.blk s H scope (compEnvC scope cl C X.env) fp) vx fv) (hs : ∀ x, foldedSetIterable iter X.env x = pure x := by intro _; rfl) :
    RE X (.DictComp kx vx [⟨tg, iter, ifs, 0⟩] scope pos) (eDc f gd t fk fv (own.map (·.2))) :=
  pe_w (pe_dc (tt := tOfT X.K t) (tk := tOf X.K fk) (tv := tOf X.K fv) hc hN hi ok hg ht hk he hs) fun _ _ _ q => tOf_dc hgd q

/-! ### a dict walked: locked meanwhile -/
/-- for k in d, d the name in slot i -/
def iKeysD (i : Nat) : FI := fun σ S R => ∃ n kvs, σ[i]? = some (some (.ref n)) ∧ S[n]? = some (.lck kvs) ∧ R (fun S => S[n]? = some (.lck kvs)) (kvs.map (·.1)) S
theorem ri_keys {tg : Expr} (i : Nat) {x : Str} {pos : Pos} (hN : X.N[i]? = some x := by rfl) (hv : Vis X.env.scope x := by first | exact Or.inl rfl | exact Or.inr (Or.inl rfl) | exact Or.inr (Or.inr rfl)) (hd : (x == ("__debug__" : Str)) = false := by decide)
    (hcd : (x == ("__classdict__" : Str)) = false := by decide) : RI X tg (.Name x pos) (iKeysD i) := by
  refine pi_w (pi_keys (pe_var hN hv hd hcd)) fun σ H R q => ?_
  obtain ⟨m, σd, S, P, s, r, ⟨n, kvs, e1, e2, p⟩, w⟩ := q
  obtain ⟨v, e3, rv⟩ := r.val i _ e1
  refine ⟨v, e3, ?_⟩
  cases rv with
  | @ref _ d a =>
    have rc := s.cell _ _ _ a e2
    generalize eo : H d = o at rc
    cases rc with
    | @lck _ kw od z b =>
      refine ⟨d, od, rfl, .inl ⟨kw, eo, w _ _ _ _ _ _ p (.refl _ _) s ⟨by rw [List.length_map]; exact z, fun i m2 S2 H2 d2 g s2 ok hd => ?_, fun i m2 S2 H2 g s2 ok hi => ?_⟩⟩⟩
      · have e4 := g.frzs _ _ _ eo
        rw [List.getElem?_map] at hd
        have hlt : i < kvs.length := by
          cases e5 : kvs[i]? with
          | none => rw [e5] at hd; cases hd
          | some q => exact (List.getElem?_eq_some_iff.mp e5).1
        refine ⟨⟨e4, by rw [← b.length]; exact hlt⟩, fun x H3 ⟨e5, k, v, e6, e7⟩ => ?_⟩
        subst e5
        refine ⟨.refl _ _, s2, ?_⟩
        have rk : RDs X.K m H (kvs.map (·.1)) (kw.map fun kv => kV kv.1) := b.keysR
        obtain ⟨v', e8, rv⟩ := (rk.up g).get (i := i) (d := d2) (by rw [List.getElem?_map]; exact hd)
        rw [List.getElem?_map, e6] at e8
        cases e8
        rw [e7]
        exact rv
      · exact ⟨g.frzs _ _ _ eo, by rw [← b.length]; rw [List.length_map] at hi; exact hi⟩
def eLock (i : Nat) (f : FE) : FE := fun σ S Q => ∃ n kvs, σ[i]? = some (some (.ref n)) ∧ S[n]? = some (.dct kvs) ∧ f σ (S.set n (.lck kvs)) fun d S' => S'[n]? = some (.lck kvs) ∧ Q d (S'.set n (.dct kvs))
def sLock (i : Nat) (f : FS) : FS := fun E σ S => ∃ n kvs, σ[i]? = some (some (.ref n)) ∧ S[n]? = some (.dct kvs) ∧
  f ⟨fun σ' S' => S'[n]? = some (.lck kvs) ∧ E.nx σ' (S'.set n (.dct kvs)), fun d S' => S'[n]? = some (.lck kvs) ∧ E.rt d (S'.set n (.dct kvs)), fun σ' S' => S'[n]? = some (.lck kvs) ∧ E.bk σ' (S'.set n (.dct kvs)), fun σ' S' => S'[n]? = some (.lck kvs) ∧ E.ct σ' (S'.set n (.dct kvs))⟩ σ (S.set n (.lck kvs))
end
section
variable {K : PySem.W.Frag} {m m' : List Addr} {H H' : Hp} {S S' : Store} {n : Nat} {p : Addr} {kvs : List (D × D)} {kw : List (Key × V)} {od : Obj}
theorem lock_sim (s : Sim K m S H) (hp : m[n]? = some p) (hS : S[n]? = some (.dct kvs)) (b : RKV K m H kvs kw) (hz : kvs.length ≤ sizeLine) : Sim K m (S.set n (.lck kvs)) (upd H p (.frz od (.dK kw))) ∧ Grow m H m (upd H p (.frz od (.dK kw))) := by
  have g := Grow.write s hp hS (fun _ z => by cases z) (.frz od (.dK kw))
  exact ⟨s.write hp hS (fun _ z => by cases z) (.lck hz (b.up g)), g⟩
theorem unlock0 (hp : H p = some (.frz od (.dK kw))) : Grow0 m H m (upd H p (.dK kw)) := by
  refine ⟨List.prefix_refl _, fun a xs e => ?_, fun a o u hu e => ?_⟩
  · rw [upd_ne (fun z => by subst z; rw [hp] at e; cases e)]
    exact e
  · rw [upd_ne (fun z => by subst z; rw [hp] at e; cases e; exact hu _ rfl)]
    exact e
/-- the lock is taken away -/
theorem unlock (s : Sim K m' S' H') (g : Grow m (upd H p (.frz od (.dK kw))) m' H') (hp : m[n]? = some p) (hH : H p = some (.dK kw)) (b : RKV K m H kvs kw) (hz : kvs.length ≤ sizeLine) (hS : S'[n]? = some (.lck kvs)) :
    H' p = some (.frz od (.dK kw)) ∧ Sim K m' (S'.set n (.dct kvs)) (upd H' p (.dK kw)) ∧ Grow m H m' (upd H' p (.dK kw)) ∧ Grow0 m' H' m' (upd H' p (.dK kw)) := by
  have e : H' p = some (.frz od (.dK kw)) := g.frzs _ _ _ upd_same
  have g0 : Grow0 m' H' m' (upd H' p (.dK kw)) := unlock0 e
  have gr : Grow m H m' (upd H' p (.dK kw)) := by
    refine ⟨g.pre, fun a xs q => ?_, fun a o u q => ?_⟩
    · have ne : a ≠ p := fun z => by subst z; rw [hH] at q; cases q
      rw [upd_ne ne]
      exact g.tups _ _ (by rw [upd_ne ne]; exact q)
    · have ne : a ≠ p := fun z => by subst z; rw [hH] at q; cases q
      rw [upd_ne ne]
      exact g.frzs _ _ _ (by rw [upd_ne ne]; exact q)
  have hp' : m'[n]? = some p := g.at hp
  refine ⟨e, ⟨by rw [List.length_set]; exact s.len, s.nd, fun i q c a h => ?_⟩, gr, g0⟩
  by_cases hi : i = n
  · subst hi
    rw [hp'] at a; cases a
    rw [List.getElem?_set_self (List.getElem?_eq_some_iff.mp hS).1] at h
    cases h
    rw [upd_same]
    exact .dct hz (b.up gr)
  · rw [List.getElem?_set_ne (Ne.symm hi)] at h
    have ne : q ≠ p := fun z => hi (nd_ix s.nd a (z ▸ hp'))
    rw [upd_ne ne]
    exact (s.cell i q c a h).up0 g0
end
section
variable {X : Cx}
theorem re_lock {e : Expr} {f : FE} (i : Nat) (h : RE X e f) : RE X e (eLock i f) := by
  refine pe_w (pe_lock h) fun σ H Q q => ?_
  obtain ⟨m, σd, S, P, s, r, ⟨n, kvs, e1, e2, p⟩, w⟩ := q
  obtain ⟨v, e3, rv⟩ := r.val i _ e1
  obtain ⟨d, kw, rfl, a, hd, b, hz⟩ := dct_at s rv e2
  refine ⟨d, .dK kw, hd, trivial, fun od => ?_⟩
  obtain ⟨s1, g1⟩ := lock_sim (od := od) s a e2 b hz
  refine ⟨m, σd, _, _, s1, r.up g1, p, fun x S' m' v H' ⟨h3, p3⟩ g3 s3 r3 => ?_⟩
  obtain ⟨u1, u2, u3, u4⟩ := unlock s3 g3 a hd b hz h3
  exact ⟨u1, w _ _ _ _ _ p3 u3 u2 (RD.mono u4 _ _ r3)⟩
theorem RSl.up0 {K : PySem.W.Frag} {m m' : List Addr} {H H' : Hp} {σ : L2.St} {σd : Slots} (r : RSl K m H σ σd) (g : Grow0 m H m' H') : RSl K m' H' σ σd := ⟨r.len, fun i d h => let ⟨v, a, b⟩ := r.val i d h; ⟨v, a, RD.mono g _ _ b⟩⟩
theorem rs_lock {st : Stmt} {f : FS} (i : Nat) (h : RS X st f) : RS X st (sLock i f) := by
  refine ps_w (ps_lock h) fun D σ H q => ?_
  obtain ⟨m, σd, S, E, s, r, ⟨n, kvs, e1, e2, p⟩, w⟩ := q
  obtain ⟨v, e3, rv⟩ := r.val i _ e1
  obtain ⟨d, kw, rfl, a, hd, b, hz⟩ := dct_at s rv e2
  refine ⟨d, .dK kw, hd, trivial, fun od => ?_⟩
  obtain ⟨s1, g1⟩ := lock_sim (od := od) s a e2 b hz
  refine ⟨m, σd, _, _, s1, r.up g1, p, ⟨fun σ' S' m' v H' ⟨h3, p3⟩ g3 s3 r3 => ?_, fun x S' m' v H' ⟨h3, p3⟩ g3 s3 r3 => ?_, fun σ' S' m' v H' ⟨h3, p3⟩ g3 s3 r3 => ?_, fun σ' S' m' v H' ⟨h3, p3⟩ g3 s3 r3 => ?_⟩⟩
  all_goals obtain ⟨u1, u2, u3, u4⟩ := unlock s3 g3 a hd b hz h3
  · exact ⟨u1, w.nx _ _ _ _ _ p3 u3 u2 (r3.up0 u4)⟩
  · exact ⟨u1, w.rt _ _ _ _ _ p3 u3 u2 (RD.mono u4 _ _ r3)⟩
  · exact ⟨u1, w.bk _ _ _ _ _ p3 u3 u2 (r3.up0 u4)⟩
  · exact ⟨u1, w.ct _ _ _ _ _ p3 u3 u2 (r3.up0 u4)⟩
end

/-! ### isinstance(x, T) -/
def tyName (S : Store) : D → Option String
  | .non => some "NoneType"
  | .bl _ => some "bool"
  | .int _ => some "int"
  | .str _ => some "str"
  | .tup _ => some "tuple"
  | .frz _ => some "list"
  | .ref n => match S[n]? with
    | some (.lst _) => some "list"
    | some (.dct _) => some "dict"
    | some (.lck _) => some "dict"
    | none => none
def isiB (t T : String) : Bool := t == T || (t == "bool" && T == "int")
def eIsi (T : String) (f : FE) : FE := fun σ S Q => f σ S fun d S1 => ∃ t, tyName S1 d = some t ∧ Q (.bl (isiB t T)) S1
theorem kit_isi {t T : String} (ht : t ∈ ["NoneType", "bool", "int", "str", "tuple", "list", "dict"]) (hT : T ∈ ["tuple", "list", "bool", "int", "str"]) : kitB t T = some (isiB t T) := by
  simp only [List.mem_cons, List.not_mem_nil, or_false] at ht hT
  rcases ht with rfl | rfl | rfl | rfl | rfl | rfl | rfl <;> rcases hT with rfl | rfl | rfl | rfl | rfl <;> decide +kernel
section
variable {X : Cx}
theorem ty_of {K : PySem.W.Frag} {m : List Addr} {S : Store} {H : Hp} {d : D} {v : V} {t : String} (s : Sim K m S H) (r : RD K m H d v) (h : tyName S d = some t) : TyX K H v (.type t) ∧ t ∈ ["NoneType", "bool", "int", "str", "tuple", "list", "dict"] := by
  cases r with
  | non => cases h; exact ⟨.base .non, by simp⟩
  | bl b => cases h; exact ⟨.base (.bl _), by simp⟩
  | int b => cases h; exact ⟨.base (.int _), by simp⟩
  | str b => cases h; exact ⟨.base (.str _), by simp⟩
  | tup a z b =>
    cases h
    rcases a with (a | ⟨o, a⟩) | ⟨o, its, n, k1, k2, _⟩
    · exact ⟨.base (.tup a), by simp⟩
    · exact ⟨.fTuple a, by simp⟩
    · exact ⟨.kTuple k1 k2, by simp⟩
  | frz a z b =>
    cases h
    rcases a with ⟨o, a⟩ | a
    · exact ⟨.base (.frz a), by simp⟩
    · rcases a (fun _ => none) with (a | ⟨o, a⟩) | ⟨o, its, n, k1, k2, _⟩
      · cases a
      · cases a
      · exact ⟨.kList k1 k2, by simp⟩
  | @ref n p a =>
    have h : (match S[n]? with
      | some (.lst _) => some "list"
      | some (.dct _) => some "dict"
      | some (.lck _) => some "dict"
      | none => none) = some t := h
    cases e : S[n]? with
    | none => rw [e] at h; cases h
    | some c =>
      rw [e] at h
      have rc := s.cell n p c a e
      generalize eo : H p = o at rc
      cases rc with
      | lst z b => cases h; exact ⟨.base (.lst eo), by simp⟩
      | dct z b => cases h; exact ⟨.base (.dK eo), by simp⟩
      | lck z b => cases h; exact ⟨.fDict eo, by simp⟩
theorem re_isi {T : String} {x : Str} {p p2 pos : Pos} {e : Expr} {f : FE} (hT : T ∈ ["tuple", "list", "bool", "int", "str"]) (hx : x = Str.ofString T) (hv2 : bootBuiltins x = some (.type T)) (hm : X.mg "isinstance" = none) (hm2 : X.mg x = none) (he : RE X e f) (hg : Gl X "isinstance" := by rfl) (hg2 : Gl X x := by rfl) (hn : x ≠ "__name__" := by decide) (hdb : (x == ("__debug__" : Str)) = false := by decide)
    (hs1 : starEach [.Name x p2] X.env = (false, eval (.Name x p2) X.env) :: starEach [] X.env := by rfl)
    (hs : starEach [e, .Name x p2] X.env = (false, eval e X.env) :: starEach [.Name x p2] X.env := by rfl) (hpl : (backTo pos (starEach [.Name x p2] X.env)).any (·.1) = false := by rfl) : RE X (.Call (.Name "isinstance" p) [e, .Name x p2] [] pos) (eIsi T f) := by
  refine pe_w (pe_callB call_isi hg hm (by decide +kernel) (pa_cons he (pa_cons (pe_bltn (v := .ty T) hg2 hm2 hv2 rfl hn hdb) pa_nil hs1) hs) (by decide) (by decide) hs hpl) fun σ H Q q => ?_
  obtain ⟨m, σd, S, P, s, r, p, w⟩ := q
  refine ⟨m, σd, S, _, s, r, p, fun d S1 m1 v H1 ⟨t, ht, p1⟩ g1 s1 r1 => ?_⟩
  obtain ⟨ty, hm⟩ := ty_of s1 r1 ht
  exact ⟨v, .ty T, .type t, .type T, isiB t T, rfl, .ty T, ty, kit_ty (kit_isi hm hT), w _ _ _ _ _ p1 g1 s1 (.bl _)⟩
end

/-! ### tuple(range(..)), list(range(..)) -/
def eTupRg1 (f : FE) : FE := fun σ S Q => f σ S fun d S1 => ∃ n : Int, d = .int n ∧ 0 ≤ n ∧ n ≤ 16777216 ∧ Q (.tup (rngD 0 n.toNat)) S1
theorem rg_vals {K : PySem.W.Frag} {m : List Addr} {H : Hp} (a : Int) (k : Nat) : RDs K m H (rngD a k) ((List.range k).map fun i => V.int (a + (i : Nat))) := by
  unfold rngD
  refine RDs.of_get (by simp) fun i d v h1 h2 => ?_
  rw [List.getElem?_map] at h1 h2
  cases e : (List.range k)[i]? with
  | none => rw [e] at h1; cases h1
  | some j =>
    rw [e] at h1 h2
    cases h1; cases h2
    exact .int _
section
variable {X : Cx}
theorem re_tupRg1 {e : Expr} {f : FE} {p p2 pos pos2 : Pos} (hc : X.calm = true) (hm : X.mg "tuple" = none) (hm2 : X.mg "range" = none) (he : RE X e f) (hg : Gl X "tuple" := by rfl) (hg2 : Gl X "range" := by rfl) (na2 : starEach [e] X.env = (false, eval e X.env) :: starEach [] X.env := by rfl)
    (na : starEach [.Call (.Name "range" p2) [e] [] pos2] X.env = (false, eval (.Call (.Name "range" p2) [e] [] pos2) X.env) :: starEach [] X.env := by rfl) : RE X (.Call (.Name "tuple" p) [.Call (.Name "range" p2) [e] [] pos2] [] pos) (eTupRg1 f) := by
  refine pe_w (pe_tupRg hc hg hm (prg_1 hg2 hm2 he na2) na) fun σ H Q q => ?_
  obtain ⟨m, σd, S, P, s, r, p, w⟩ := q
  refine ⟨m, σd, S, _, s, r, p, fun d S1 m1 v H1 ⟨n, e, h0, h1, p1⟩ g1 s1 r1 => ?_⟩
  subst e
  cases r1
  refine ⟨n, rfl, .of_le (by omega) h1 (by omega) h0, fun a ha => ?_⟩
  have g2 : Grow m1 H1 m1 (upd H1 a (.tup (rgV 0 n))) := Grow.new ha _ (List.prefix_refl _)
  refine w _ _ _ _ _ p1 (g1.trans g2) (s1.plus ha _) (.tup (SqT.of upd_same) (by rw [rgV_length, sizeLine_eq]; omega) ?_)
  unfold rgV
  rw [Int.sub_zero]
  exact rg_vals 0 n.toNat
end
end SD
/-! SD9: slices, dict.get, a walk of a tuple or list, names of built-ins. -/
namespace SD
open PySem PySem.Spec PyProof.Rows L2

theorem bt_len : bootBuiltins "len" = some (.builtin "len") := by decide +kernel
theorem bt_any : bootBuiltins "any" = some (.builtin "any") := by decide +kernel
theorem bt_all : bootBuiltins "all" = some (.builtin "all") := by decide +kernel
theorem bt_sorted : bootBuiltins "sorted" = some (.builtin "sorted") := by decide +kernel
theorem bt_list : bootBuiltins "list" = some (.type "list") := by decide +kernel
theorem bt_tuple : bootBuiltins "tuple" = some (.type "tuple") := by decide +kernel
theorem bt_dict : bootBuiltins "dict" = some (.type "dict") := by decide +kernel
theorem bt_int : bootBuiltins "int" = some (.type "int") := by decide +kernel
theorem bt_str : bootBuiltins "str" = some (.type "str") := by decide +kernel
theorem bt_bool : bootBuiltins "bool" = some (.type "bool") := by decide +kernel
theorem bt_set : bootBuiltins "set" = some (.type "set") := by decide +kernel

section
variable {X : Cx} {tg : Expr}
theorem PI.or {e : Expr} {t t' : TI} (h : PI X tg e t) (h' : PI X tg e t') : PI X tg e fun σ H R => t σ H R ∨ t' σ H R := ⟨fun pins s σ H R I q => q.elim (h.run pins s σ H R I) (h'.run pins s σ H R I)⟩
def iSeqD (f : FE) : FI := fun σ S R => iTupD f σ S R ∨ iLstD f σ S R
theorem ri_seq {e : Expr} {f : FE} (h : RE X e f) : RI X tg e (iSeqD f) := by
  refine pi_w (PI.or (ri_tup h) (ri_list h)) fun σ H R q => ?_
  obtain ⟨m, σd, S, P, s, r, p | p, w⟩ := q
  · exact .inl ⟨m, σd, S, P, s, r, p, w⟩
  · exact .inr ⟨m, σd, S, P, s, r, p, w⟩
end

/-! ### slices -/
abbrev FO := Slots → Store → (Option Int → Store → Prop) → Prop
def oNo : FO := fun _ S Q => Q none S
def oSome (f : FE) : FO := fun σ S Q => f σ S fun d S1 => ∃ i, d = .int i ∧ Q (some i) S1
def cutD (xs : List D) (lo hi : Option Int) : List D := (xs.drop (HT.sIx xs.length 0 lo)).take (HT.sIx xs.length xs.length hi - HT.sIx xs.length 0 lo)
def slF (d : D) (lo hi : Option Int) (S : Store) (Q : PD) : Prop := (∃ xs, d = .tup xs ∧ Q (.tup (cutD xs lo hi)) S) ∨ (∃ xs, d = .frz xs ∧ Q (.ref S.length) (S ++ [.lst (cutD xs lo hi)])) ∨ ∃ n xs, d = .ref n ∧ S[n]? = some (.lst xs) ∧ Q (.ref S.length) (S ++ [.lst (cutD xs lo hi)])
def eSl (f : FE) (l h : FO) : FE := fun σ S Q => f σ S fun d S1 => l σ S1 fun lo S2 => h σ S2 fun hi S3 => slF d lo hi S3 Q
def tOfO (K : PySem.W.Frag) (f : FO) : TO := fun σ H Q => ∃ m σd S P, Sim K m S H ∧ RSl K m H σ σd ∧ f σd S P ∧ ∀ o S' m' H', P o S' → Grow m H m' H' → Sim K m' S' H' → Q o H'
abbrev RO (X : Cx) (e : Option Expr) (f : FO) : Prop := PO X e (tOfO X.K f)
section
variable {X : Cx}
theorem po_w {e : Option Expr} {t t' : TO} (h : PO X e t) (w : ∀ σ H Q, t' σ H Q → t σ H Q) : PO X e t' := by
  obtain ⟨r⟩ := h
  exact ⟨fun pins s σ H Q I q => r pins s σ H Q I (w σ H Q q)⟩
theorem ro_none : RO X none oNo := by
  refine po_w po_none fun σ H Q q => ?_
  obtain ⟨m, σd, S, P, s, r, p, w⟩ := q
  exact w _ _ _ _ p (.refl _ _) s
theorem ro_some {e : Expr} {f : FE} (h : RE X e f) : RO X (some e) (oSome f) := by
  refine po_w (po_some h) fun σ H Q q => ?_
  obtain ⟨m, σd, S, P, s, r, p, w⟩ := q
  refine ⟨m, σd, S, _, s, r, p, fun d S1 m1 v H1 ⟨i, e, p1⟩ g1 s1 r1 => ?_⟩
  subst e
  cases r1
  exact ⟨i, rfl, w _ _ _ _ p1 g1 s1⟩
theorem RDs.cut {K : PySem.W.Frag} {m : List Addr} {H : Hp} {xs : List D} {vs : List V} (r : RDs K m H xs vs) (lo hi : Option Int) : RDs K m H (cutD xs lo hi) (cutV vs lo hi) := by
  unfold cutD cutV
  rw [r.length]
  exact (r.drop _).take _
theorem cutD_le (xs : List D) (lo hi : Option Int) : (cutD xs lo hi).length ≤ xs.length := by
  unfold cutD
  simp only [List.length_take, List.length_drop]
  omega
theorem cutD_all (xs : List D) (lo hi : Option Int) (h : HT.sIx xs.length 0 lo = 0 ∧ HT.sIx xs.length xs.length hi = xs.length) : cutD xs lo hi = xs := by
  unfold cutD
  rw [h.1, h.2]
  simp
theorem re_sl {a : Expr} {lo hi : Option Expr} {f : FE} {l h : FO} {p2 pos : Pos} (ha : RE X a f) (hl : RO X lo l) (hh : RO X hi h) : RE X (.Subscript a (.Slice lo hi none p2) pos) (eSl f l h) := by
  refine pe_w (pe_slice (SlR.or sl_tupA sl_list) ha hl hh) fun σ H Q q => ?_
  obtain ⟨m, σd, S, P, s, r, p, w⟩ := q
  refine ⟨m, σd, S, _, s, r, p, fun d S1 m1 v H1 p1 g1 s1 r1 => ?_⟩
  refine ⟨m1, σd, S1, _, s1, r.up g1, p1, fun o S2 m2 H2 p2 g2 s2 => ?_⟩
  refine ⟨m2, σd, S2, _, s2, r.up (g1.trans g2), p2, fun o2 S3 m3 H3 p3 g3 s3 => ?_⟩
  have ww := w.up (g1.trans (g2.trans g3))
  have r3 := r1.up (g2.trans g3)
  rcases p3 with ⟨xs, e, p3⟩ | ⟨xs, e, p3⟩ | ⟨n, xs, e, e2, p3⟩
  · subst e
    cases r3 with
    | @tup q _ vs a z b =>
      refine .inl ⟨q, vs, rfl, a, fun hw => ?_, fun hw t ht => ?_⟩
      · rw [cutD_all xs o o2 (by rw [b.length]; exact hw)] at p3
        exact ww _ _ _ _ _ p3 (.refl _ _) s3 (.tup a z b)
      · have g4 : Grow m3 H3 m3 (upd H3 t (.tup (cutV vs o o2))) := Grow.new ht _ (List.prefix_refl _)
        have hz := cutV_length vs o o2
        exact ww _ _ _ _ _ p3 g4 (s3.plus ht _) (.tup (SqT.of upd_same) (by omega) ((b.up g4).cut o o2))
  · subst e
    cases r3 with
    | @frz q _ vs a z b =>
      refine .inr ⟨q, vs, rfl, a.sq, fun t ht => ?_⟩
      obtain ⟨g4, s4, r4⟩ := new_lst s3 ht (b.cut o o2) (by have := cutD_le xs o o2; rw [b.length] at this; omega)
      exact ww _ _ _ _ _ p3 g4 s4 r4
  · subst e
    obtain ⟨q, vs, rfl, _, hq, b, hz⟩ := lst_at s3 r3 e2
    refine .inr ⟨q, vs, rfl, SqL.of hq, fun t ht => ?_⟩
    obtain ⟨g4, s4, r4⟩ := new_lst s3 ht (b.cut o o2) (by have := cutD_le xs o o2; omega)
    exact ww _ _ _ _ _ p3 g4 s4 r4
end
section
variable {X : Cx} {a : Expr} {f : FE} {pos : Pos}
theorem rt_isN {j pos'} (ha : RE X a f) : RT X (.Compare a [.Is] [.Constant .none j pos'] pos) (tVal (eIsN f)) := by
  refine pt_w (pt_cmp (pc_isN ha) rfl) fun σ H Q q => ?_
  obtain ⟨m, σd, S, P, s, rs, p, w⟩ := q
  refine ⟨m, σd, S, _, s, rs, p, fun d S1 m1 v H1 p1 g1 s1 r1 => ?_⟩
  obtain ⟨b, e, p1⟩ := p1
  cases e
  exact ⟨_, rfl, by rw [r1.non_iff]; exact w _ _ _ _ p1 g1 s1⟩
theorem rt_notN {j pos'} (ha : RE X a f) : RT X (.Compare a [.IsNot] [.Constant .none j pos'] pos) (tVal (eNotN f)) := by
  refine pt_w (pt_cmp (pc_notN ha) rfl) fun σ H Q q => ?_
  obtain ⟨m, σd, S, P, s, rs, p, w⟩ := q
  refine ⟨m, σd, S, _, s, rs, p, fun d S1 m1 v H1 p1 g1 s1 r1 => ?_⟩
  obtain ⟨b, e, p1⟩ := p1
  cases e
  exact ⟨_, rfl, by rw [r1.non_iff]; exact w _ _ _ _ p1 g1 s1⟩
end
end SD
/-! SDset: set(a list of ints), sorted of it. -/
namespace SD
open PySem PySem.Spec PyProof.Rows L2
open PySem.Calls
section
variable {P : Program} {w : World} {A : Around} {E : Value → Shared → Prop} {s : Shared}
/-- the set as set.__new__ lays it -/
abbrev newSet (w : World) : Obj := { cls := .type "set", dict := none, data := .set #[] 0 (.fresh 0 0 (!w.params.followText "set-order")) }
set_option maxHeartbeats 3200000 in
theorem set_of_list {l : Addr} {items : Array Value} (ns : List Int) {Q : Value → Shared → Prop} (hh : A.handled = none) (hl : s.heap.IsList l items) (hit : IntsAre items.toList ns) (hb : ns.length + 1 < scanBound)
    (h : ∀ (h' : Heap) (tk c : Nat), SetR w h' s.heap.objs.size (fun j => decide (j ∈ ns)) c → c ≤ ns.length → (∀ b o, s.heap.get? b = some o → h'.get? b = some o) → Q (.ref s.heap.objs.size) { s with heap := h', toks := tk }) :
    wpAny (model P w) A (call (.type "set") [.ref l]) Q E s := by
  have size : items.size = ns.length := by have q := IntsAre.length hit; rw [Array.length_toList] at q; exact q
  generalize hn : s.heap.objs.size = a at h
  obtain ⟨c, tl, hmro⟩ := F.called_set.mro
  have e1 := F.called_set.made; have e2 := F.called_set.sub
  refine wpAny_call (codeAny_of_tree ?_)
  show wpAny _ _ (callAny (.type "set") _) _ _ _
  refine wpAny_pure ⟨Code.quiet_builtin _ (by decide +kernel), codeAny_builtin F.entry_type_call ?_⟩; rw [Around.under_plain (weight_type_call_type "set" [.ref l] []) rfl]
  have e3 := F.called_set.notType; have e4 := F.called_set.canCreate; have e5 := F.typeCall_set_1 (.ref l)
  repeat (any_goals (first | assumption | wp_step))
  refine codeAny_mono (code_set_led1 (.ref l) (E := E) (Q₁ := fun o s1 => o = .ref a ∧ s1 = { s with heap := s.heap.push (newSet w) }) (by rw [← hn]; exact ⟨rfl, rfl⟩)) fun r s1 hr => ?_
  cases r with
  | error e => exact hr
  | ok fl =>
    cases fl with
    | ret o =>
      obtain ⟨rfl, rfl⟩ := hr
      have at0 : (s.heap.push (newSet w)).get? a = some (newSet w) := by rw [← hn]; exact Heap.get?_push_size _ rfl
      have ty : Shared.TypeIs { s with heap := s.heap.push (newSet w) } (.ref a) "set" := ⟨_, at0, rfl⟩
      have e6 := F.called_set.init.lookup; have e7 := F.called_set.init.bind (.ref a)
      repeat (any_goals (first | assumption | wp_step))
      refine codeAny_mono (codeAny_call_builtin (R := wants (fun r s2 => r = .none ∧ ∃ h' tk c, s2 = { s with heap := h', toks := tk } ∧ SetR w h' a (fun j => decide (j ∈ ns)) c ∧ c ≤ ns.length ∧ (∀ b o, s.heap.get? b = some o → h'.get? b = some o)) E)
        F.called_set.init.plain F.entry_set_init (check_set_init_1 ty ?_)) fun r2 s2 hr2 => ?_
      · obtain ⟨⟨oc, od, ot, os⟩, hol, hcl, nl, hdl⟩ := hl
        simp only at hcl hdl
        subst hcl; subst hdl
        have hol1 : (s.heap.push (newSet w)).get? l = some { cls := .type "list", dict := od, data := .seq items nl, slots := os } := Heap.get?_push_of_some _ hol
        have e8 := F.sub_list_set; have e9 := F.sub_list_frozenset
        have e10 : (Value.type "list" == Value.type "dict") = false := by decide
        have hl1 : (s.heap.push (newSet w)).IsList l items := ⟨_, hol1, rfl, nl, rfl⟩
        have la : l < a := by rw [← hn]; exact Heap.lt_size hol
        have z1 : (s.heap.push (newSet w)).objs.size = a + 1 := by rw [Heap.size_push, hn]
        unfold Builtin.«set.__init__» noKeywords Builtin.Frozenset.updateFrom
        generalize hPI : pyIter = PI
        wp_walk
        subst hPI
        refine wpAny_pyIter_list hl1 (wpAny_bind (wpAny_runValue ?_))
        have h3 : A.in1.in1.in1.handled = none := by simp [hh]
        have n1 : l ≠ (s.heap.push (newSet w)).objs.size := by rw [z1]; exact Nat.ne_of_lt (Nat.lt_succ_of_lt la)
        have n2 : a ∉ [(s.heap.push (newSet w)).objs.size, l] := by
          rw [z1]
          simp only [List.mem_cons, List.not_mem_nil, or_false, not_or]
          exact ⟨Nat.ne_of_lt (Nat.lt_succ_self _), Nat.ne_of_gt la⟩
        have vals : ∀ (i : Nat) (v : Value), items[i]? = some v → ∃ k t, ns[i]? = some k ∧ v = .int k t := fun i v hv => by
          have hi : i < ns.length := by rw [← size]; exact (Array.getElem?_eq_some_iff.mp hv).1
          obtain ⟨t, e⟩ := IntsAre.int_at hit i v (by rw [Array.getElem?_toList]; exact hv)
          exact ⟨ns[i], t, List.getElem?_eq_getElem hi, by rw [e, List.getD_eq_getElem?_getD, List.getElem?_eq_getElem hi]; rfl⟩
        refine set_update_ints ((Walks.list h3 _ l n1 items).toS) a n2 ns size hb vals (items.size - 0) 0 _ (by omega) (Nat.zero_le _) ⟨⟨_, Heap.get?_push_size _ rfl, rfl, rfl⟩, (hl1.push _)⟩
          ⟨0, Nat.le_refl 0, setR_new_at (Heap.get?_push_of_some _ at0)⟩ fun s' c' hm hc' hS' => ?_
        obtain ⟨h', g2, d', tk', os'⟩ := s'
        obtain rfl : g2 = s.gens := hm.gens
        obtain rfl : d' = s.drawn := hm.drawn
        obtain rfl : os' = s.os := hm.os
        show wpAny _ _ _ _ _ _
        refine wpAny_pure ?_
        show wpAny _ _ (ret Value.none) _ _ _
        rw [size] at hc'
        refine wpAny_pure ⟨rfl, h', tk', c', rfl, hS', hc', fun b o e => ?_⟩
        have hb0 : b < a := by rw [← hn]; exact Heap.lt_size e
        exact hm.heap b o (by rw [z1]; simp only [List.mem_cons, List.not_mem_nil, or_false, not_or]; exact ⟨Nat.ne_of_lt hb0, Nat.ne_of_lt (Nat.lt_succ_of_lt hb0)⟩) (Heap.get?_push_of_some _ (Heap.get?_push_of_some _ e))
      · cases r2 with
        | error e => exact hr2
        | ok fl =>
          cases fl with
          | ret r =>
            obtain ⟨rfl, h', tk, c, rfl, q1, q2, q3⟩ := hr2
            repeat (any_goals (first | assumption | wp_step))
            exact h _ _ _ q1 q2 q3
          | _ => exact hr2.elim
    | _ => exact hr.elim
end
section
variable {X : Cx}
/-- set(l), l a list of ints -/
def rSetL' (w : World) (K : PySem.W.Frag) : List V → Hp → VK → Prop := fun xs H Q => ∃ (l : Addr) (ns : List Int), xs = [.ref l] ∧ (SqL K H l (ns.map V.int) ∨ SqT K H l (ns.map V.int)) ∧ ns.length + 1 < scanBound ∧ ∀ a c, H a = none → c ≤ ns.length → Q (.ref a) (upd H a (SetO w a (fun j => decide (j ∈ ns)) c))
theorem cr_setL (hc : X.calm = true) : CallR X (.type "set") (rSetL' X.w X.K) := by
  intro pins s σ H xs us Q I r h
  obtain ⟨l, ns, rfl, hq, hb, q⟩ := h
  obtain ⟨u, rfl, rx⟩ := vals1 r
  cases rx
  have fin : ∀ (h' : Heap) (tk c : Nat), SetR X.w h' s.heap.objs.size (fun j => decide (j ∈ ns)) c → c ≤ ns.length → (∀ b o, s.heap.get? b = some o → h'.get? b = some o) → EP X pins σ Q (.ref s.heap.objs.size) { s with heap := h', toks := tk } := fun h' tk c R hc k =>
    ⟨.ref s.heap.objs.size, _, I.laid (t' := tk) k (Nat.le_refl _) (setO_new R), rfl, q _ c (I.hok.fresh (Nat.le_refl _)) hc⟩
  rcases hq with hq | hq
  · obtain ⟨its, rv, pl, _⟩ := I.list hq
    exact set_of_list ns (I.ok.hd hc) pl.isList (by simpa using rv.ints) hb fin
  · obtain ⟨its, rv, pl, _⟩ := I.tuple hq
    exact call_set_tupI ns (I.ok.hd hc) pl (by simpa using rv.ints) hb fin
def eSortSet (f : FE) : FE := fun σ S Q => f σ S fun d S1 => ∃ ns : List Int, seqD S1 d = some (ns.map D.int) ∧ ns.length < 64 ∧ ∀ ys : List Int, ys.Pairwise (· < ·) → (∀ k, k ∈ ys ↔ k ∈ ns) → ys.length ≤ ns.length → Q (.ref S1.length) (S1 ++ [.lst (ys.map D.int)])
/-- sorted(set(e)) -/
theorem re_sortSet {e : Expr} {f : FE} {p p2 pos pos2 : Pos} (hc : X.calm = true) (hm : X.mg "sorted" = none) (hm2 : X.mg "set" = none) (he : RE X e f) (hg : Gl X "sorted" := by rfl) (hg2 : Gl X "set" := by rfl) (n1 : starEach [e] X.env = (false, eval e X.env) :: starEach [] X.env := by rfl)
    (n2 : starEach [.Call (.Name "set" p2) [e] [] pos2] X.env = (false, eval (.Call (.Name "set" p2) [e] [] pos2) X.env) :: starEach [] X.env := by rfl) : RE X (.Call (.Name "sorted" p) [.Call (.Name "set" p2) [e] [] pos2] [] pos) (eSortSet f) := by
  refine pe_w (pe_callB (cr_sortedSet hc) hg hm (by decide +kernel) (pa_cons (pe_callTy (cr_setL hc) hg2 hm2 (by decide +kernel) (pa_cons he pa_nil n1) (by decide) (by decide) n1 (by rfl)) pa_nil n2) (by decide) (by decide) n2 (by rfl)) fun σ H Q q => ?_
  obtain ⟨m, σd, S, P, s, r, p, w⟩ := q
  refine ⟨m, σd, S, _, s, r, p, fun d S1 m1 v H1 ⟨ns, e1, h64, p1⟩ g1 s1 r1 => ?_⟩
  obtain ⟨l, vs, rfl, hq, b, hz⟩ := seq_at s1 r1 e1
  have e2 := b.ints
  subst e2
  refine ⟨l, ns, rfl, hq, by unfold scanBound; omega, fun a c ha hc2 => ?_⟩
  refine ⟨a, _, c, rfl, upd_same, by omega, fun ys p2 h1 h2 h3 hp => ?_⟩
  have s2 := s1.plus ha (SetO X.w a (fun j => decide (j ∈ ns)) c)
  have g2 : Grow m1 H1 m1 _ := Grow.new ha (SetO X.w a (fun j => decide (j ∈ ns)) c) (List.prefix_refl _)
  have hl : ys.length ≤ ns.length := by omega
  obtain ⟨g3, s3, r3⟩ := new_lst s2 hp (RDs.of_ints ys) (by rw [List.length_map, sizeLine_eq]; omega)
  exact w _ _ _ _ _ (p1 ys h1 (fun k => by rw [h2 k]; simp) hl) (g1.trans (g2.trans g3)) s3 r3
end
end SD
/-! SDw: tools for the meanings over D: stores that grow, comprehensions and loops by an invariant. -/
namespace SD
open PySem L2

/-- all that was stands as it was -/
def Ext (S S' : Store) : Prop := ∀ (i : Nat) (c : Cell), S[i]? = some c → S'[i]? = some c
theorem Ext.refl (S : Store) : Ext S S := fun _ _ h => h
theorem Ext.trans {S S1 S2 : Store} (a : Ext S S1) (b : Ext S1 S2) : Ext S S2 := fun i c h => b i c (a i c h)
theorem Ext.app (S T : Store) : Ext S (S ++ T) := fun i c h => by rw [List.getElem?_append_left (List.getElem?_eq_some_iff.mp h).1]; exact h
theorem Ext.le {S S' : Store} (e : Ext S S') : S.length ≤ S'.length := by
  rcases Nat.eq_zero_or_pos S.length with h | h
  · omega
  · have q := e (S.length - 1) S[S.length - 1] (by simp)
    have := (List.getElem?_eq_some_iff.mp q).1
    omega
theorem Ext.set {S : Store} {n : Nat} {c : Cell} (h : S[n]? = none) : Ext S (S.set n c) := fun i d e => by
  by_cases hi : n = i
  · subst hi; rw [h] at e; cases e
  · rw [List.getElem?_set_ne hi]; exact e
theorem Ext.put {S S' : Store} {n : Nat} {c : Cell} (e : Ext S S') (h : S.length ≤ n) : Ext S (S'.set n c) := fun i d q => by
  have := (List.getElem?_eq_some_iff.mp q).1
  rw [List.getElem?_set_ne (by omega)]
  exact e i d q
theorem new_at (S : Store) (c : Cell) : (S ++ [c])[S.length]? = some c := by simp
theorem set_at {S : Store} {n : Nat} {c d : Cell} (h : S[n]? = some c) : (S.set n d)[n]? = some d := List.getElem?_set_self (List.getElem?_eq_some_iff.mp h).1
theorem set_off {S : Store} {n k : Nat} {d : Cell} (h : n ≠ k) : (S.set n d)[k]? = S[k]? := List.getElem?_set_ne h
/-- all but the cells in l -/
def ExtB (l : List Nat) (S S' : Store) : Prop := S.length ≤ S'.length ∧ ∀ (i : Nat), i ∉ l → ∀ (c : Cell), S[i]? = some c → S'[i]? = some c
theorem ExtB.refl (l : List Nat) (S : Store) : ExtB l S S := ⟨Nat.le_refl _, fun _ _ _ h => h⟩
theorem ExtB.trans {l : List Nat} {S S1 S2 : Store} (a : ExtB l S S1) (b : ExtB l S1 S2) : ExtB l S S2 := ⟨Nat.le_trans a.1 b.1, fun i hi c h => b.2 i hi c (a.2 i hi c h)⟩
theorem Ext.b {S S' : Store} (e : Ext S S') (l : List Nat) : ExtB l S S' := ⟨e.le, fun i _ c h => e i c h⟩
theorem ExtB.mono {l l' : List Nat} {S S' : Store} (e : ExtB l S S') (h : ∀ i ∈ l, i ∈ l') : ExtB l' S S' := ⟨e.1, fun i hi c q => e.2 i (fun z => hi (h i z)) c q⟩
theorem ExtB.put {l : List Nat} {S S' : Store} {n : Nat} {c : Cell} (e : ExtB l S S') (h : n ∈ l ∨ S.length ≤ n) : ExtB l S (S'.set n c) := ⟨by rw [List.length_set]; exact e.1, fun i hi d q => by
  have := (List.getElem?_eq_some_iff.mp q).1
  rw [List.getElem?_set_ne (by rintro rfl; rcases h with h | h; exact hi h; omega)]
  exact e.2 i hi d q⟩

theorem ite_t' {A B : Prop} (a : A) : if true = true then A else B := by rw [if_pos rfl]; exact a
/-! ### comprehensions -/
/-- a list comprehension by an invariant; R is what is reached -/
theorem lc_inv {ok : Store → Prop} {g : FG} {t : FT} {e : FE} {n0 : Nat} {Q : Store → Prop} {σ : Slots} (I : Nat → List D → Store → Prop) {xs : List D} {S0 : Store} (few : xs.length ≤ sizeLine) (at0 : S0[n0]? = some (.lst [])) (h0 : I 0 [] S0)
    (step : ∀ i x acc S (R : Store → Prop), xs[i]? = some x → S[n0]? = some (.lst acc) → acc.length ≤ i → I i acc S → (∀ acc' S', S'[n0]? = some (.lst acc') → acc'.length ≤ i + 1 → I (i + 1) acc' S' → R S') →
      ok S ∧ g x σ S fun σ2 S2 => t σ2 S2 fun b S3 => if b = true then e σ2 S3 fun y S4 => ∃ acc, S4[n0]? = some (.lst acc) ∧ acc.length < sizeLine ∧ R (S4.set n0 (.lst (acc ++ [y]))) else R S3)
    (done : ∀ acc S, S[n0]? = some (.lst acc) → acc.length ≤ xs.length → I xs.length acc S → ok S ∧ Q S) : lcD ok g t e n0 Q σ xs S0 := by
  have go : ∀ (ys : List D) (i : Nat) (acc : List D) (S : Store), xs.drop i = ys → i ≤ xs.length → S[n0]? = some (.lst acc) → acc.length ≤ i → I i acc S → lcD ok g t e n0 Q σ ys S := by
    intro ys
    induction ys with
    | nil =>
      intro i acc S hd hi h1 h2 h3
      have : i = xs.length := by
        have := congrArg List.length hd
        simp at this
        omega
      subst this
      exact done acc S h1 h2 h3
    | cons y ys ih =>
      intro i acc S hd hi h1 h2 h3
      have hlt : i < xs.length := by
        have := congrArg List.length hd
        simp at this
        omega
      have hx : xs[i]? = some y := by
        rw [← List.head?_drop, hd]; rfl
      have hd' : xs.drop (i + 1) = ys := by
        rw [← List.tail_drop, hd]; rfl
      exact step i y acc S _ hx h1 h2 h3 fun acc' S' q1 q2 q3 => ih (i + 1) acc' S' hd' hlt q1 q2 q3
  exact go xs 0 [] S0 rfl (Nat.zero_le _) at0 (Nat.le_refl _) h0
/-- a pure one, without a test -/
theorem lc_map {ok : Store → Prop} {e : FE} {i : Nat} {Q : Store → Prop} {σ : Slots} {xs : List D} {S : Store} (f : D → D) (few : xs.length ≤ sizeLine) (hok : ∀ S1, Ext S S1 → ok S1)
    (he : ∀ x ∈ xs, ∀ S1 (P : PD), Ext S S1 → (∀ S2, Ext S1 S2 → P (f x) S2) → e (σ.set i (some x)) S1 P)
    (hQ : ∀ S1, Ext S S1 → S1[S.length]? = some (.lst (xs.map f)) → Q S1) : lcD ok (gNm i) tYesD e S.length Q σ xs (S ++ [.lst []]) := by
  refine lc_inv (fun k acc S1 => Ext S S1 ∧ acc = (xs.take k).map f) few (new_at S _) ⟨Ext.app S _, rfl⟩ (fun k x acc S1 R hx h1 h2 ⟨h3, h4⟩ hR => ⟨hok S1 h3, ?_⟩) (fun acc S1 h1 h2 ⟨h3, h4⟩ => ⟨hok S1 h3, hQ S1 h3 (by rw [h1, h4, List.take_length])⟩)
  have z : e (σ.set i (some x)) S1 fun y S4 => ∃ acc, S4[S.length]? = some (.lst acc) ∧ acc.length < sizeLine ∧ R (S4.set S.length (.lst (acc ++ [y]))) := ?_
  · show (if true = true then e (σ.set i (some x)) S1 fun y S4 => ∃ acc, S4[S.length]? = some (.lst acc) ∧ acc.length < sizeLine ∧ R (S4.set S.length (.lst (acc ++ [y]))) else R S1)
    exact ite_t' z
  refine he x (List.mem_of_getElem? hx) S1 _ h3 fun S2 h5 => ?_
  refine ⟨acc, h5 _ _ h1, ?_, ?_⟩
  · have := (List.getElem?_eq_some_iff.mp hx).1
    omega
  · refine hR (acc ++ [f x]) _ (set_at (h5 _ _ h1)) (by simp; omega) ⟨(h3.trans h5).put (Nat.le_refl _), ?_⟩
    rw [h4, List.take_add_one, hx]
    simp
/-- a pure one with a test -/
theorem lc_filter {ok : Store → Prop} {t : FT} {e : FE} {i : Nat} {Q : Store → Prop} {σ : Slots} {xs : List D} {S : Store} (p : D → Bool) (f : D → D) (few : xs.length ≤ sizeLine) (hok : ∀ S1, Ext S S1 → ok S1)
    (ht : ∀ x ∈ xs, ∀ S1 (P : Bool → Store → Prop), Ext S S1 → (∀ S2, Ext S1 S2 → P (p x) S2) → t (σ.set i (some x)) S1 P)
    (he : ∀ x ∈ xs, ∀ S1 (P : PD), Ext S S1 → (∀ S2, Ext S1 S2 → P (f x) S2) → e (σ.set i (some x)) S1 P)
    (hQ : ∀ S1, Ext S S1 → S1[S.length]? = some (.lst ((xs.filter p).map f)) → Q S1) : lcD ok (gNm i) t e S.length Q σ xs (S ++ [.lst []]) := by
  refine lc_inv (fun k acc S1 => Ext S S1 ∧ acc = ((xs.take k).filter p).map f) few (new_at S _) ⟨Ext.app S _, rfl⟩ (fun k x acc S1 R hx h1 h2 ⟨h3, h4⟩ hR => ⟨hok S1 h3, ?_⟩) (fun acc S1 h1 h2 ⟨h3, h4⟩ => ⟨hok S1 h3, hQ S1 h3 (by rw [h1, h4, List.take_length])⟩)
  refine ht x (List.mem_of_getElem? hx) S1 _ h3 fun S2 h5 => ?_
  have tk : xs.take (k + 1) = xs.take k ++ [x] := by rw [List.take_add_one, hx]; rfl
  cases hp : p x with
  | false =>
    rw [if_neg (by decide)]
    refine hR acc S2 (h5 _ _ h1) (by omega) ⟨h3.trans h5, ?_⟩
    rw [h4, tk, List.filter_append, List.filter_cons_of_neg (by simp [hp])]
    simp
  | true =>
    rw [if_pos rfl]
    refine he x (List.mem_of_getElem? hx) S2 _ (h3.trans h5) fun S3 h6 => ⟨acc, h6 _ _ (h5 _ _ h1), ?_, ?_⟩
    · have := (List.getElem?_eq_some_iff.mp hx).1
      omega
    · refine hR (acc ++ [f x]) _ (set_at (h6 _ _ (h5 _ _ h1))) (by simp; omega) ⟨((h3.trans h5).trans h6).put (Nat.le_refl _), ?_⟩
      rw [h4, tk, List.filter_append, List.filter_cons_of_pos hp]
      simp
/-- {x: True for x in xs if p x} -/
theorem dc_inv {ok : Store → Prop} {g : FG} {t : FT} {fk fv : FE} {n0 : Nat} {Q : Store → Prop} {σ : Slots} (I : Nat → List (D × D) → Store → Prop) {xs : List D} {S0 : Store} (few : xs.length ≤ sizeLine) (at0 : S0[n0]? = some (.dct [])) (h0 : I 0 [] S0)
    (step : ∀ i x acc S (R : Store → Prop), xs[i]? = some x → S[n0]? = some (.dct acc) → acc.length ≤ i → I i acc S → (∀ acc' S', S'[n0]? = some (.dct acc') → acc'.length ≤ i + 1 → I (i + 1) acc' S' → R S') →
      ok S ∧ g x σ S fun σ2 S2 => t σ2 S2 fun b S3 => if b = true then fk σ2 S3 fun k S4 => fv σ2 S4 fun v S5 => ∃ acc, (toKey k).isSome = true ∧ S5[n0]? = some (.dct acc) ∧ acc.length < sizeLine ∧ R (S5.set n0 (.dct (putD acc k v))) else R S3)
    (done : ∀ acc S, S[n0]? = some (.dct acc) → acc.length ≤ xs.length → I xs.length acc S → ok S ∧ Q S) : dcD ok g t fk fv n0 Q σ xs S0 := by
  have go : ∀ (ys : List D) (i : Nat) (acc : List (D × D)) (S : Store), xs.drop i = ys → i ≤ xs.length → S[n0]? = some (.dct acc) → acc.length ≤ i → I i acc S → dcD ok g t fk fv n0 Q σ ys S := by
    intro ys
    induction ys with
    | nil =>
      intro i acc S hd hi h1 h2 h3
      have : i = xs.length := by
        have := congrArg List.length hd
        simp at this
        omega
      subst this
      exact done acc S h1 h2 h3
    | cons y ys ih =>
      intro i acc S hd hi h1 h2 h3
      have hlt : i < xs.length := by
        have := congrArg List.length hd
        simp at this
        omega
      have hx : xs[i]? = some y := by
        rw [← List.head?_drop, hd]; rfl
      have hd' : xs.drop (i + 1) = ys := by
        rw [← List.tail_drop, hd]; rfl
      exact step i y acc S _ hx h1 h2 h3 fun acc' S' q1 q2 q3 => ih (i + 1) acc' S' hd' hlt q1 q2 q3
  exact go xs 0 [] S0 rfl (Nat.zero_le _) at0 (Nat.le_refl _) h0

/-! ### sets of numbers as dicts -/
def setD (ks : List Nat) : List (D × D) := ks.map fun k => (.int (k : Nat), .bl true)
def insK (ks : List Nat) (k : Nat) : List Nat := if k ∈ ks then ks else ks ++ [k]
theorem setD_val (ks : List Nat) (k : Nat) : (valD (setD ks) (.int k)).isSome = decide (k ∈ ks) := by
  induction ks with
  | nil => rfl
  | cons a ks ih =>
    unfold setD valD at ih ⊢
    rw [List.map_cons]
    by_cases h : a = k
    · subst h
      rw [List.find?_cons_of_pos (by simp)]
      simp
    · rw [List.find?_cons_of_neg (by simp; omega), ih]
      simp [Ne.symm h]
theorem setD_any (ks : List Nat) (k : Nat) : (setD ks).any (fun p => decide (p.1 = D.int k)) = decide (k ∈ ks) := by
  induction ks with
  | nil => rfl
  | cons a ks ih =>
    unfold setD at ih ⊢
    rw [List.map_cons, List.any_cons, ih]
    by_cases h : a = k
    · subst h; simp
    · simp [h, Ne.symm h]; omega
theorem setD_put (ks : List Nat) (k : Nat) : putD (setD ks) (.int k) (.bl true) = setD (insK ks k) := by
  unfold putD insK
  rw [setD_any]
  by_cases h : k ∈ ks
  · rw [if_pos (by simpa using h), if_pos h]
    unfold setD
    rw [List.map_map]
    refine List.map_congr_left fun x _ => ?_
    simp only [Function.comp]
    split <;> rfl
  · rw [if_neg (by simpa using h), if_neg h]
    unfold setD
    simp
theorem mem_insK {ks : List Nat} {k j : Nat} : j ∈ insK ks k ↔ j ∈ ks ∨ j = k := by
  unfold insK
  split
  · constructor
    · exact .inl
    · rintro (h | rfl)
      · exact h
      · assumption
  · simp
theorem nodup_insK {ks : List Nat} {k : Nat} (h : ks.Nodup) : (insK ks k).Nodup := by
  unfold insK
  split
  · exact h
  · rw [List.nodup_append]
    exact ⟨h, by simp, fun a ha b hb => by rw [List.mem_singleton] at hb; rintro rfl; subst hb; contradiction⟩
theorem length_insK (ks : List Nat) (k : Nat) : (insK ks k).length ≤ ks.length + 1 := by
  unfold insK
  split <;> simp
theorem setD_keys (ks : List Nat) : (setD ks).map (·.1) = ks.map fun k => D.int (k : Nat) := by
  unfold setD; rw [List.map_map]; rfl
theorem setD_length (ks : List Nat) : (setD ks).length = ks.length := by unfold setD; rw [List.length_map]
theorem setD_merge (ks ls : List Nat) : ∃ ms, mergeD (setD ks) (setD ls) = setD ms ∧ (ks.Nodup → ms.Nodup) ∧ ∀ j, j ∈ ms ↔ j ∈ ks ∨ j ∈ ls := by
  induction ls generalizing ks with
  | nil => exact ⟨ks, rfl, fun h => h, fun j => by simp⟩
  | cons a ls ih =>
    obtain ⟨ms, h1, h2, h3⟩ := ih (insK ks a)
    refine ⟨ms, ?_, fun h => h2 (nodup_insK h), fun j => ?_⟩
    · show mergeD (putD (setD ks) (.int a) (.bl true)) (setD ls) = setD ms
      rw [setD_put]; exact h1
    · rw [h3, mem_insK, List.mem_cons]
      constructor
      · rintro ((h | h) | h)
        · exact .inl h
        · exact .inr (.inl h)
        · exact .inr (.inr h)
      · rintro (h | h | h)
        · exact .inl (.inl h)
        · exact .inl (.inr h)
        · exact .inr h
theorem setD_hom (ks : List Nat) : ∀ p ∈ setD ks, p.2 = .bl true := by
  intro p hp
  obtain ⟨k, _, rfl⟩ := List.mem_map.mp hp
  rfl
theorem subset_len {α : Type} [DecidableEq α] : ∀ {ks ls : List α}, ks.Nodup → (∀ j, j ∈ ks → j ∈ ls) → ks.length ≤ ls.length
  | [], _, _, _ => Nat.zero_le _
  | k :: ks, ls, hn, h => by
    rw [List.nodup_cons] at hn
    have hk := h k List.mem_cons_self
    have ih := subset_len (ls := ls.erase k) hn.2 fun j hj => (List.mem_erase_of_ne (fun (e : j = k) => hn.1 (e ▸ hj))).mpr (h j (List.mem_cons_of_mem _ hj))
    rw [List.length_erase_of_mem hk] at ih
    have : 0 < ls.length := List.length_pos_of_mem hk
    rw [List.length_cons]
    omega
theorem subset_back {α : Type} [DecidableEq α] {ks ls : List α} (hn : ks.Nodup) (h : ∀ j, j ∈ ks → j ∈ ls) (hl : ks.length = ls.length) (j : α) (hj : j ∈ ls) : j ∈ ks := by
  by_cases q : j ∈ ks
  · exact q
  · have := subset_len (ls := ls.erase j) hn fun i hi => (List.mem_erase_of_ne (fun (e : i = j) => q (e ▸ hi))).mpr (h i hi)
    rw [List.length_erase_of_mem hj] at this
    have := List.length_pos_of_mem hj
    omega
theorem setD_same {ks ls : List Nat} (hk : ks.Nodup) (hl : ls.Nodup) : sameD (setD ks) (setD ls) = true ↔ ∀ j, j ∈ ks ↔ j ∈ ls := by
  have vv : ∀ (ls : List Nat) (j : Nat), valD (setD ls) (.int j) = some (.bl true) ↔ j ∈ ls := fun ls j => by
    have q := setD_val ls j
    constructor
    · intro h
      rw [h] at q
      simpa using q.symm
    · intro h
      rw [decide_eq_true h] at q
      obtain ⟨v, hv⟩ := Option.isSome_iff_exists.mp q
      rw [hv]
      unfold valD at hv
      cases e : (setD ls).find? fun p => decide (p.1 = D.int j) with
      | none => rw [e] at hv; cases hv
      | some z =>
        rw [e] at hv
        cases hv
        show some z.2 = _
        rw [setD_hom ls z (List.mem_of_find?_eq_some e)]
  unfold sameD
  rw [setD_length, setD_length, Bool.and_eq_true, List.all_eq_true, beq_iff_eq]
  constructor
  · rintro ⟨h1, h2⟩
    have sub : ∀ j, j ∈ ks → j ∈ ls := fun j hj => by
      have := h2 (.int j, .bl true) (List.mem_map.mpr ⟨j, hj, rfl⟩)
      exact (vv ls j).mp (by simpa using this)
    refine fun j => ⟨sub j, fun hj => ?_⟩
    exact subset_back hk sub h1 j hj
  · intro h
    refine ⟨((List.perm_ext_iff_of_nodup hk hl).mpr h).length_eq, fun p hp => ?_⟩
    obtain ⟨k, hk, rfl⟩ := List.mem_map.mp hp
    simpa using (vv ls k).mpr ((h k).mp hk)

/-! ### tests known -/
theorem ite_t {c : Prop} [Decidable c] {A B : Prop} (h : c) (a : A) : if c then A else B := by rw [if_pos h]; exact a
theorem ite_f {c : Prop} [Decidable c] {A B : Prop} (h : ¬ c) (b : B) : if c then A else B := by rw [if_neg h]; exact b
theorem ite_b {b : Bool} {A B : Prop} (h1 : b = true → A) (h2 : b = false → B) : if b = true then A else B := by cases b <;> simp_all
theorem atI_n {α : Type} {xs : List α} (k : Nat) : L2.atI xs (k : Int) = xs[k]? := by
  by_cases h : k < xs.length
  · rw [L2.atI_nat (v := xs[k]) (by simp [h])]; simp [h]
  · unfold L2.atI L2.ixN
    rw [if_pos (by omega), if_neg (by omega)]
    simp [h]
end SD
/-! SDr: one step of a meaning at a time. -/
namespace SD
open PySem L2
theorem dicC_or {o : Option Cell} {kvs : List (D × D)} (h : dicC o = some kvs) : o = some (.dct kvs) ∨ o = some (.lck kvs) := by
  cases o with
  | none => simp [dicC] at h
  | some c =>
    cases c with
    | lst xs => simp [dicC] at h
    | dct ks => simp only [dicC, Option.some.injEq] at h; rw [h]; exact .inl rfl
    | lck ks => simp only [dicC, Option.some.injEq] at h; rw [h]; exact .inr rfl
section
variable {σ : Slots} {S : Store} {E : EndsD} {Q : PD} {QB : Bool → Store → Prop} {QA : List D → Store → Prop} {QG : Slots → Store → Prop} {QI : (Store → Prop) → List D → Store → Prop}
theorem r_seq {f g : FS} (h : f { E with nx := g E } σ S) : sSeq f g E σ S := h
theorem r_cut {f g : FS} (I : Slots → Store → Prop) (h2 : ∀ σ S, I σ S → g E σ S) (h : ∀ T : Slots → Store → Prop, (∀ σ S, I σ S → T σ S) → f { E with nx := T } σ S) : sSeq f g E σ S := h _ h2
theorem r_asg {f : FE} {g : FG} (h : f σ S fun d S1 => g d σ S1 E.nx) : sAsg f g E σ S := h
theorem r_if {t : FT} {f g : FS} (h : t σ S fun b S1 => if b = true then f E σ S1 else g E σ S1) : sIf t f g E σ S := h
theorem r_ret {f : FE} (h : f σ S E.rt) : sRet f E σ S := h
theorem r_drop {f : FE} (h : f σ S fun _ S1 => E.nx σ S1) : sDrop f E σ S := h
theorem r_next (h : E.nx σ S) : sNext E σ S := h
theorem r_nm {d : D} {i : Nat} (h : QG (σ.set i (some d)) S) : gNm i d σ S QG := h
theorem r_var {i : Nat} {d : D} (e : σ[i]? = some (some d)) (h : Q d S) : eVar i σ S Q := ⟨d, e, h⟩
theorem r_c {d : D} (h : Q d S) : eC d σ S Q := h
theorem r_aNil (h : QA [] S) : aNil σ S QA := h
theorem r_aCons {f : FE} {g : FA} (h : f σ S fun d S1 => g σ S1 fun ds S2 => QA (d :: ds) S2) : aCons f g σ S QA := h
theorem r_tup {f : FA} (h : f σ S fun ds S1 => ds.length ≤ sizeLine ∧ Q (.tup ds) S1) : eTup f σ S Q := h
theorem r_lst {f : FA} (h : f σ S fun ds S1 => ds.length ≤ sizeLine ∧ Q (.ref S1.length) (S1 ++ [.lst ds])) : eLst f σ S Q := h
theorem r_op {r : F2} {f g : FE} (h : f σ S fun x S1 => g σ S1 fun y S2 => r x y S2 Q) : eOp r f g σ S Q := h
theorem r_cb {r : FN} {f : FA} (h : f σ S fun xs S1 => r xs S1 Q) : eCB r f σ S Q := h
theorem r_call {F : FnD} {f : FA} (h : f σ S fun xs S1 => F xs S1 Q) : eCall F f σ S Q := h
theorem r_val {f : FE} (h : f σ S fun d S1 => ∃ b, d = .bl b ∧ QB b S1) : tVal f σ S QB := h
theorem r_and {t u : FT} (h : t σ S fun c S1 => if c = true then u σ S1 QB else QB false S1) : tAndD t u σ S QB := h
theorem r_or {t u : FT} (h : t σ S fun c S1 => if c = true then QB true S1 else u σ S1 QB) : tOrD t u σ S QB := h
theorem r_not {t : FT} (h : t σ S fun c S1 => QB (!c) S1) : tNotD t σ S QB := h
theorem r_eAnd {f g : FE} (h : f σ S fun d S1 => ∃ c, d = .bl c ∧ if c = true then g σ S1 Q else Q (.bl false) S1) : eAnd f g σ S Q := h
theorem r_eOr {f g : FE} (h : f σ S fun d S1 => ∃ c, d = .bl c ∧ if c = true then Q (.bl true) S1 else g σ S1 Q) : eOr f g σ S Q := h
theorem r_eNot {f : FE} (h : f σ S fun d S1 => ∃ c, d = .bl c ∧ Q (.bl (!c)) S1) : eNot f σ S Q := h
theorem r_eIf {t : FT} {f g : FE} (h : t σ S fun c S1 => if c = true then f σ S1 Q else g σ S1 Q) : eIf t f g σ S Q := h
theorem r_isN {f : FE} (h : f σ S fun d S1 => Q (.bl (decide (d = .non))) S1) : eIsN f σ S Q := h
theorem cmul_r {i j : Int} (h : -(2 ^ 64) < j ∧ j < 2 ^ 64) : CMul i j := .inr h
theorem cmul_l {i j : Int} (h : -(2 ^ 64) < i ∧ i < 2 ^ 64) : CMul i j := .inl h
theorem r_isi {T : String} {f : FE} (h : f σ S fun d S1 => ∃ t, tyName S1 d = some t ∧ Q (.bl (isiB t T)) S1) : eIsi T f σ S Q := h
theorem r_ty {t : String} {d : D} {P : String → Prop} (e : tyName S d = some t) (h : P t) : ∃ t, tyName S d = some t ∧ P t := ⟨t, e, h⟩
theorem r_yes (h : QB true S) : tYesD σ S QB := h
theorem r_dict0 (h : Q (.ref S.length) (S ++ [.dct []])) : eDict0 σ S Q := h
theorem r_dictF {d : D} {kvs : List (D × D)} (e : dictD S d = some kvs) (h : Q (.ref S.length) (S ++ [.dct kvs])) : dictF [d] S Q := ⟨kvs, e, h⟩
def ssD (Q : PD) (d : D) (S1 : Store) : Prop := ∃ ns : List Int, seqD S1 d = some (ns.map D.int) ∧ ns.length < 64 ∧ ∀ ys : List Int, ys.Pairwise (· < ·) → (∀ k, k ∈ ys ↔ k ∈ ns) → ys.length ≤ ns.length → Q (.ref S1.length) (S1 ++ [.lst (ys.map D.int)])
theorem r_ss {f : FE} (h : f σ S fun d S1 => ssD Q d S1) : eSortSet f σ S Q := h
theorem r_tr {f : FE} (h : f σ S fun d S1 => ∃ n : Int, d = .int n ∧ 0 ≤ n ∧ n ≤ 16777216 ∧ Q (.tup (rngD 0 n.toNat)) S1) : eTupRg1 f σ S Q := h
theorem r_mt {T : String} {fr : FM} {fo : FE} {fa : FA} (h : fo σ S fun x S1 => tyD T S1 x ∧ fa σ S1 fun xs S2 => fr x xs S2 Q) : eMt T fr fo fa σ S Q := h
theorem r_tyL {n : Nat} {ys : List D} {P : Prop} (e : S[n]? = some (.lst ys)) (h : P) : tyD "list" S (.ref n) ∧ P := ⟨.inl ⟨rfl, n, ys, rfl, e⟩, h⟩
theorem r_tyDc {n : Nat} {ys : List (D × D)} {P : Prop} (e : S[n]? = some (.dct ys)) (h : P) : tyD "dict" S (.ref n) ∧ P := ⟨.inr ⟨rfl, n, ys, rfl, e⟩, h⟩
theorem r_le {n : Nat} {P : Prop} (a : n ≤ sizeLine) (h : P) : n ≤ sizeLine ∧ P := ⟨a, h⟩
theorem r_bl {c : Bool} {P : Bool → Prop} (h : P c) : ∃ b, D.bl c = .bl b ∧ P b := ⟨c, rfl, h⟩
theorem r_ifT {c : Bool} {A B : Prop} (e : c = true) (h : A) : if c = true then A else B := by rw [if_pos e]; exact h
theorem r_ifF {c : Bool} {A B : Prop} (e : c = false) (h : B) : if c = true then A else B := by rw [if_neg (by rw [e]; decide)]; exact h
theorem r_ixT {xs : List D} {k : Int} {v : D} (e : atI xs k = some v) (h : Q v S) : ixF (.tup xs) (.int k) S Q := ⟨v, e, h⟩
theorem r_ixE {o : D} {xs : List D} {k : Int} {v : D} (e0 : o = .tup xs) (e : atI xs k = some v) (h : Q v S) : ixF o (.int k) S Q := by subst e0; exact ⟨v, e, h⟩
theorem r_ixZ {xs : List D} {k : Int} {v : D} (e : atI xs k = some v) (h : Q v S) : ixF (.frz xs) (.int k) S Q := ⟨v, e, h⟩
theorem r_ixL {n : Nat} {xs : List D} {k : Int} {v : D} (a : S[n]? = some (.lst xs)) (e : atI xs k = some v) (h : Q v S) : ixF (.ref n) (.int k) S Q := by
  dsimp only [ixF]; rw [a]; exact ⟨k, v, rfl, e, h⟩
theorem r_ixD {n : Nat} {kvs : List (D × D)} {i v : D} {k : Key} (a : dictD S (.ref n) = some kvs) (e : toKey i = some k) (e2 : valD kvs i = some v) (h : Q v S) : ixF (.ref n) i S Q := by
  dsimp only [ixF]
  rcases dicC_or a with a | a <;> rw [a] <;> exact ⟨k, v, e, e2, h⟩
theorem r_addI {i j : Int} (h : Q (.int (i + j)) S) : addF (.int i) (.int j) S Q := h
theorem r_addT {xs ys : List D} (l : xs.length + ys.length ≤ sizeLine) (h : Q (.tup (xs ++ ys)) S) : addF (.tup xs) (.tup ys) S Q := ⟨l, h⟩
theorem r_addL {n k : Nat} {xs ys : List D} (a : S[n]? = some (.lst xs)) (b : S[k]? = some (.lst ys)) (l : xs.length + ys.length ≤ sizeLine) (h : Q (.ref S.length) (S ++ [.lst (xs ++ ys)])) : addF (.ref n) (.ref k) S Q := ⟨xs, ys, a, b, l, h⟩
theorem r_intF {f : Int → Int → D} {i j : Int} (h : Q (f i j) S) : intF f (.int i) (.int j) S Q := h
theorem r_intCF {C : Int → Int → Prop} {f : Int → Int → D} {i j : Int} (c : C i j) (h : Q (f i j) S) : intCF C f (.int i) (.int j) S Q := ⟨c, h⟩
theorem r_eqI {i j : Int} (h : Q (.bl (decide (i = j))) S) : eqF false (.int i) (.int j) S Q := by show Q _ S; rw [Bool.xor_false]; exact h
theorem r_neI {i j : Int} (h : Q (.bl (!decide (i = j))) S) : eqF true (.int i) (.int j) S Q := by show Q _ S; rw [Bool.xor_true]; exact h
theorem r_eqS {i j : Str} (h : Q (.bl (decide (i = j))) S) : eqF false (.str i) (.str j) S Q := by show Q _ S; rw [Bool.xor_false]; exact h
theorem r_neS {i j : Str} (h : Q (.bl (!decide (i = j))) S) : eqF true (.str i) (.str j) S Q := by show Q _ S; rw [Bool.xor_true]; exact h
theorem r_eqB {i j : Bool} (h : Q (.bl (decide (i = j))) S) : eqF false (.bl i) (.bl j) S Q := by show Q _ S; rw [Bool.xor_false]; exact h
theorem r_neDN {n : Nat} {kvs : List (D × D)} (e : S[n]? = some (.dct kvs)) (h : Q (.bl true) S) : eqF true (.ref n) .non S Q := ⟨rfl, ⟨kvs, e⟩, h⟩
theorem r_neDD {n k : Nat} {ks ls : List (D × D)} (e : S[n]? = some (.dct ks)) (e2 : S[k]? = some (.dct ls)) (hh : homD (ks ++ ls)) (h : Q (.bl (!sameD ks ls)) S) : eqF true (.ref n) (.ref k) S Q := .inl ⟨ks, ls, e, e2, hh, by rw [Bool.xor_true]; exact h⟩
theorem r_eqT {xs ys : List D} (a : plainD (.tup xs) = true) (b : plainD (.tup ys) = true) (h : Q (.bl (decide (D.tup xs = D.tup ys))) S) : eqF false (.tup xs) (.tup ys) S Q := ⟨a, b, by rw [Bool.xor_false]; exact h⟩
theorem r_neT {xs ys : List D} (a : plainD (.tup xs) = true) (b : plainD (.tup ys) = true) (h : Q (.bl (!decide (D.tup xs = D.tup ys))) S) : eqF true (.tup xs) (.tup ys) S Q := ⟨a, b, by rw [Bool.xor_true]; exact h⟩
theorem r_neB {i j : Bool} (h : Q (.bl (!decide (i = j))) S) : eqF true (.bl i) (.bl j) S Q := by show Q _ S; rw [Bool.xor_true]; exact h
theorem r_inT {x : D} {xs : List D} (a : flatD x = true) (b : xs.all flatD = true) (h : Q (.bl (decide (x ∈ xs))) S) : inF false x (.tup xs) S Q := ⟨a, b, by rw [Bool.xor_false]; exact h⟩
theorem r_ninT {x : D} {xs : List D} (a : flatD x = true) (b : xs.all flatD = true) (h : Q (.bl (!decide (x ∈ xs))) S) : inF true x (.tup xs) S Q := ⟨a, b, by rw [Bool.xor_true]; exact h⟩
theorem r_inD {neg : Bool} {n : Nat} {kvs : List (D × D)} {i : D} {k : Key} (a : dictD S (.ref n) = some kvs) (e : toKey i = some k) (h : Q (.bl ((valD kvs i).isSome ^^ neg)) S) : inF neg i (.ref n) S Q := by
  dsimp only [inF]
  rcases dicC_or a with a | a <;> rw [a] <;> exact ⟨k, e, h⟩
theorem r_len {d : D} {ys : List D} (e : seqD S d = some ys) (h : Q (.int (ys.length : Nat)) S) : lenF [d] S Q := ⟨ys.length, .inl ⟨ys, e, rfl⟩, h⟩
theorem r_lenD {d : D} {ys : List (D × D)} (e : dictD S d = some ys) (h : Q (.int (ys.length : Nat)) S) : lenF [d] S Q := ⟨ys.length, .inr (.inl ⟨ys, e, rfl⟩), h⟩
theorem r_list {d : D} {ys : List D} (e : seqD S d = some ys) (h : Q (.ref S.length) (S ++ [.lst ys])) : listF [d] S Q := .inl ⟨ys, e, h⟩
theorem r_listD {n : Nat} {kvs : List (D × D)} (e : S[n]? = some (.dct kvs)) (h : Q (.ref S.length) (S ++ [.lst (kvs.map (·.1))])) : listF [.ref n] S Q := .inr ⟨n, kvs, rfl, e, h⟩
theorem r_tuple {d : D} {ys : List D} (e : seqD S d = some ys) (h : Q (.tup ys) S) : tupleF [d] S Q := ⟨ys, e, h⟩
theorem r_int {i : Int} (h : Q (.int i) S) : intF1 [.int i] S Q := h
theorem r_sub {fo fi : FE} {d : D} (h : fo σ S fun o S1 => fi σ S1 fun i S2 => setF o i d S2 fun S3 => QG σ S3) : gSubD fo fi d σ S QG := h
theorem r_setL {n : Nat} {xs : List D} {k : Int} {j : Nat} {v : D} {R : Store → Prop} (a : S[n]? = some (.lst xs)) (e : ixN xs.length k = some j) (h : R (S.set n (.lst (xs.set j v)))) : setF (.ref n) (.int k) v S R := by
  dsimp only [setF]; rw [a]; exact ⟨k, j, rfl, e, h⟩
theorem r_setD {n : Nat} {kvs : List (D × D)} {i v : D} {R : Store → Prop} (a : S[n]? = some (.dct kvs)) (e : (toKey i).isSome = true) (l : kvs.length < sizeLine) (h : R (S.set n (.dct (putD kvs i v)))) : setF (.ref n) i v S R := by
  dsimp only [setF]; rw [a]; exact ⟨e, l, h⟩
/-- only the cell n has changed -/
structure Off (n : Nat) (S S' : Store) : Prop where
  len : S'.length = S.length
  off : ∀ i, i ≠ n → S'[i]? = S[i]?
theorem Off.set (n : Nat) (S : Store) (c : Cell) : Off n S (S.set n c) := ⟨List.length_set, fun i hi => set_off (Ne.symm hi)⟩
theorem Off.trans {n : Nat} {S S1 S2 : Store} (a : Off n S S1) (b : Off n S1 S2) : Off n S S2 := ⟨b.len.trans a.len, fun i hi => (b.off i hi).trans (a.off i hi)⟩
theorem Off.ne {n k : Nat} {S S' : Store} (o : Off n S S') (h : k ≠ n) {c : Cell} (e : S[k]? = some c) : S'[k]? = some c := (o.off k h).trans e
theorem Off.b {n : Nat} {S S' : Store} (a : Off n S S') {l : List Nat} (h : n ∈ l) : ExtB l S S' := ⟨Nat.le_of_eq a.len.symm, fun i hi c e => (a.off i fun z => hi (z ▸ h)).trans e⟩
theorem r_setL1 {n : Nat} {xs : List D} {k : Int} {j : Nat} {v : D} {R : Store → Prop} (a : S[n]? = some (.lst xs)) (e : ixN xs.length k = some j) (h : ∀ S', S'[n]? = some (.lst (xs.set j v)) → Off n S S' → R S') : setF (.ref n) (.int k) v S R :=
  r_setL a e (h _ (set_at a) (Off.set _ _ _))
theorem r_setD1 {n : Nat} {kvs : List (D × D)} {i v : D} {R : Store → Prop} (a : S[n]? = some (.dct kvs)) (e : (toKey i).isSome = true) (l : kvs.length < sizeLine) (h : ∀ S', S'[n]? = some (.dct (putD kvs i v)) → Off n S S' → R S') : setF (.ref n) i v S R :=
  r_setD a e l (h _ (set_at a) (Off.set _ _ _))
theorem r_app {n : Nat} {ys : List D} {y : D} (e : S[n]? = some (.lst ys)) (l : ys.length < sizeLine) (h : ∀ S', S'[n]? = some (.lst (ys ++ [y])) → Off n S S' → Q .non S') : appF (.ref n) [y] S Q :=
  ⟨n, ys, y, rfl, rfl, e, l, h _ (set_at e) (Off.set _ _ _)⟩
theorem r_iTup {f : FE} (h : f σ S fun d S1 => ∃ xs, d = .tup xs ∧ QI Always xs S1) : iSeqD f σ S QI := .inl h
theorem r_iLst {f : FE} (h : f σ S fun d S1 => (∃ xs, d = .frz xs ∧ QI Always xs S1) ∨ ∃ n xs, d = .ref n ∧ S1[n]? = some (.lst xs) ∧ QI (fun S => S[n]? = some (.lst xs)) xs S1) : iSeqD f σ S QI := .inr h
theorem r_iRg1 {f : FA} (h : f σ S fun ds S1 => ∃ j : Int, ds = [.int j] ∧ -1000 ≤ j ∧ j ≤ 16777216 ∧ QI Always (rngD 0 j.toNat) S1) : iRg1 f σ S QI := h
theorem r_rg {j : Int} {P : Int → Prop} (a : -1000 ≤ j) (b : j ≤ 16777216) (h : P j) : ∃ i : Int, [D.int j] = [.int i] ∧ -1000 ≤ i ∧ i ≤ 16777216 ∧ P i := ⟨j, rfl, a, b, h⟩
theorem r_xs {xs : List D} {P : List D → Prop} (h : P xs) : ∃ ys, D.tup xs = .tup ys ∧ P ys := ⟨xs, rfl, h⟩
theorem r_for {f : FI} {g : FG} {b : FS} (h : f σ S fun ok xs S1 => forD ok g b E xs σ S1) : sFor f g b E σ S := h
theorem r_lc {f : FI} {g : FG} {t : FT} {e : FE} {vs : List Nat} (h : f σ S fun ok xs S1 => xs.length ≤ sizeLine → lcD ok g t e S1.length (fun S' => Q (.ref S1.length) S') (wipeD σ vs) xs (S1 ++ [.lst []])) : eLc f g t e vs σ S Q := h
theorem r_dc {f : FI} {g : FG} {t : FT} {fk fv : FE} {vs : List Nat} (h : f σ S fun ok xs S1 => xs.length ≤ sizeLine → dcD ok g t fk fv S1.length (fun S' => Q (.ref S1.length) S') (wipeD σ vs) xs (S1 ++ [.dct []])) : eDc f g t fk fv vs σ S Q := h
theorem r_fn {n l : Nat} {b : FS} {ds : List D} (e : ds.length = n) (h : b { nx := fun _ S' => Q .non S', rt := Q } (ds.map some ++ List.replicate (l - n) none) S) : fnD n l b ds S Q := ⟨e, h⟩
theorem r_gTp {n : Nat} {g : FGs} {xs : List D} (e : xs.length = n) (h : g xs σ S QG) : gTp n g (.tup xs) σ S QG := ⟨xs, rfl, e, h⟩
theorem r_gsCons {g : FG} {k : FGs} {d : D} {r : List D} (h : g d σ S fun σ1 S1 => k r σ1 S1 QG) : gsCons g k (d :: r) σ S QG := ⟨d, r, rfl, h⟩
theorem r_gsNil (h : QG σ S) : gsNil [] σ S QG := ⟨rfl, h⟩
theorem mem_rng {n : Nat} {x : D} (h : x ∈ rngD 0 n) : ∃ i, i < n ∧ x = .int (i : Nat) := by
  unfold rngD at h
  obtain ⟨i, h1, rfl⟩ := List.mem_map.mp h
  exact ⟨i, List.mem_range.mp h1, by show D.int (0 + (i : Int)) = _; rw [Int.zero_add]⟩
theorem rng_at {n i : Nat} {x : D} (h : (rngD 0 n)[i]? = some x) : i < n ∧ x = .int (i : Nat) := by
  unfold rngD at h
  rw [List.getElem?_map] at h
  by_cases hi : i < n
  · rw [List.getElem?_range hi] at h
    cases h
    exact ⟨hi, by show D.int (0 + (i : Int)) = _; rw [Int.zero_add]⟩
  · rw [List.getElem?_eq_none (by simp; omega)] at h
    cases h
theorem rng_map (n : Nat) : rngD 0 n = (List.range n).map fun i : Nat => D.int (i : Nat) := by
  unfold rngD
  exact List.map_congr_left fun i _ => by show D.int (0 + (i : Int)) = _; rw [Int.zero_add]
theorem rng_len (n : Nat) : (rngD 0 n).length = n := by unfold rngD; simp
theorem putD_keys {kvs : List (D × D)} {k v : D} (h : kvs.any (fun p => decide (p.1 = k)) = true) : (putD kvs k v).map (·.1) = kvs.map (·.1) := by
  unfold putD
  rw [if_pos h, List.map_map]
  refine List.map_congr_left fun p _ => ?_
  simp only [Function.comp]
  split <;> rfl
theorem valD_any {kvs : List (D × D)} {k : D} : (valD kvs k).isSome = kvs.any fun p => decide (p.1 = k) := by
  unfold valD
  rw [Option.isSome_map, Bool.eq_iff_iff, List.find?_isSome, List.any_eq_true]
theorem putD_ne (kvs : List (D × D)) {k j : D} (v : D) (h : j ≠ k) : valD (putD kvs k v) j = valD kvs j := by
  unfold putD
  split
  · unfold valD
    induction kvs with
    | nil => rfl
    | cons p kvs ih =>
      rw [List.map_cons]
      by_cases hp : p.1 = k
      · rw [if_pos hp]
        rw [List.find?_cons_of_neg (by simp [hp, Ne.symm h]), List.find?_cons_of_neg (by simp [hp, Ne.symm h])]
        by_cases hk : kvs.any (fun p => decide (p.1 = k)) = true
        · exact ih hk
        · have : (kvs.map fun p => if p.1 = k then (p.1, v) else p) = kvs := by
            conv => rhs; rw [← List.map_id kvs]
            refine List.map_congr_left fun q hq => ?_
            rw [if_neg fun e => hk (List.any_eq_true.mpr ⟨q, hq, by simpa using e⟩)]; rfl
          rw [this]
      · rw [if_neg hp]
        by_cases hj : p.1 = j
        · rw [List.find?_cons_of_pos (by simpa using hj), List.find?_cons_of_pos (by simpa using hj)]
        · rw [List.find?_cons_of_neg (by simpa using hj), List.find?_cons_of_neg (by simpa using hj)]
          refine ih ?_
          rename_i hk
          simpa [hp] using hk
  · unfold valD
    rw [List.find?_append]
    cases hf : kvs.find? (fun p => decide (p.1 = j)) with
    | some q => rfl
    | none =>
      rw [Option.none_or, List.find?_cons_of_neg (by simpa using Ne.symm h)]; rfl
theorem putD_self (kvs : List (D × D)) (k v : D) : valD (putD kvs k v) k = some v := by
  unfold putD
  split
  · rename_i hk
    unfold valD
    induction kvs with
    | nil => simp at hk
    | cons p kvs ih =>
      rw [List.map_cons]
      by_cases hp : p.1 = k
      · rw [if_pos hp, List.find?_cons_of_pos (by simpa using hp)]; rfl
      · rw [if_neg hp, List.find?_cons_of_neg (by simpa using hp)]
        exact ih (by simpa [hp] using hk)
  · rename_i hk
    unfold valD
    rw [List.find?_append, List.find?_eq_none.mpr fun p hp e => hk (List.any_eq_true.mpr ⟨p, hp, by simpa using e⟩), Option.none_or, List.find?_cons_of_pos (by simp)]
    rfl
theorem putD_len_in {kvs : List (D × D)} {k v : D} (h : (valD kvs k).isSome = true) : (putD kvs k v).length = kvs.length := by
  rw [valD_any] at h
  have := congrArg List.length (putD_keys (v := v) h)
  simpa using this
/-- {x: True for x in xs if p x} -/
theorem dc_set {ok : Store → Prop} {t : FT} {i : Nat} {R : Store → Prop} (xs : List Nat) (p : Nat → Bool) (few : xs.length < sizeLine) (hi : ∀ d : D, (σ.set i (some d))[i]? = some (some d)) (hok : ∀ S1, Ext S S1 → ok S1)
    (ht : ∀ x ∈ xs, ∀ S1 (P : Bool → Store → Prop), Ext S S1 → (∀ S2, Ext S1 S2 → P (p x) S2) → t (σ.set i (some (.int (x : Nat)))) S1 P)
    (hQ : ∀ S1 ks, Ext S S1 → S1[S.length]? = some (.dct (setD ks)) → ks.Nodup → (∀ j, j ∈ ks ↔ j ∈ xs ∧ p j = true) → R S1) : dcD ok (gNm i) t (eVar i) (eC (.bl true)) S.length R σ (xs.map fun k : Nat => .int (k : Nat)) (S ++ [.dct []]) := by
  refine dc_inv (fun k acc S1 => Ext S S1 ∧ ∃ ks : List Nat, acc = setD ks ∧ ks.Nodup ∧ ∀ j, j ∈ ks ↔ j ∈ xs.take k ∧ p j = true) (by simp; omega) (new_at S _) ⟨Ext.app S _, [], rfl, .nil, by simp⟩ ?_ ?_
  · rintro k x acc S1 R1 hx h1 hl ⟨e1, ks, rfl, h2, h3⟩ hR
    rw [List.getElem?_map] at hx
    cases hxx : xs[k]? with
    | none => rw [hxx] at hx; cases hx
    | some x' =>
      rw [hxx] at hx
      cases hx
      have hkl : k < xs.length := (List.getElem?_eq_some_iff.mp hxx).1
      have tk : xs.take (k + 1) = xs.take k ++ [x'] := by rw [List.take_add_one, hxx]; rfl
      refine ⟨hok S1 e1, ht x' (List.mem_of_getElem? hxx) S1 _ e1 fun S2 e2 => ?_⟩
      have h1' := e2 _ _ h1
      cases hp : p x' with
      | false =>
        rw [if_neg (by decide)]
        refine hR _ S2 h1' (by omega) ⟨e1.trans e2, ks, rfl, h2, fun j => ?_⟩
        rw [h3, tk, List.mem_append, List.mem_singleton]
        constructor
        · exact fun ⟨a, b⟩ => ⟨.inl a, b⟩
        · rintro ⟨a | rfl, b⟩
          · exact ⟨a, b⟩
          · rw [hp] at b; cases b
      | true =>
        rw [if_pos rfl]
        refine ⟨_, hi _, ?_⟩
        refine ⟨setD ks, rfl, h1', by omega, ?_⟩
        refine hR _ _ (set_at h1') (Nat.le_trans (length_putD _ _ _) (by omega)) ⟨(e1.trans e2).put (Nat.le_refl _), insK ks x', setD_put ks x', nodup_insK h2, fun j => ?_⟩
        rw [mem_insK, h3, tk, List.mem_append, List.mem_singleton]
        constructor
        · rintro (⟨a, b⟩ | rfl)
          · exact ⟨.inl a, b⟩
          · exact ⟨.inr rfl, hp⟩
        · rintro ⟨a | rfl, b⟩
          · exact .inl ⟨a, b⟩
          · exact .inr rfl
  · rintro acc S1 h1 hl ⟨e1, ks, rfl, h2, h3⟩
    refine ⟨hok S1 e1, hQ S1 ks e1 h1 h2 fun j => ?_⟩
    rw [h3, List.length_map, List.take_length]
theorem rng_map' (n : Nat) : rngD 0 (n : Int).toNat = (List.range n).map fun i : Nat => D.int (i : Nat) := by rw [Int.toNat_natCast, rng_map]
/-- sorted of a list of numbers, each once -/
theorem r_sorted {n : Nat} {ks : List Nat} (e : seqD S (.ref n) = some (ks.map fun k : Nat => .int (k : Nat))) (nd : ks.Nodup) (h : ∀ ls : List Nat, ls.Pairwise (· < ·) → (∀ j, j ∈ ls ↔ j ∈ ks) → Q (.ref S.length) (S ++ [.lst (ls.map fun k : Nat => .int (k : Nat))])) : sortedF [.ref n] S Q := by
  refine ⟨ks.map fun k : Nat => (k : Int), by rw [e, List.map_map]; rfl, ⟨n, rfl⟩, fun ns hp hs => ?_⟩
  have hn : ∀ z ∈ ns, ∃ k : Nat, z = (k : Int) := fun z hz => by
    obtain ⟨k, _, rfl⟩ := List.mem_map.mp (hp.mem_iff.mp hz)
    exact ⟨k, rfl⟩
  have em : ns = (ns.map Int.toNat).map fun k : Nat => (k : Int) := by
    rw [List.map_map]
    conv => lhs; rw [← List.map_id ns]
    refine List.map_congr_left fun z hz => ?_
    obtain ⟨k, rfl⟩ := hn z hz
    rfl
  have nd' : ns.Nodup := hp.nodup_iff.mpr (by
    rw [List.nodup_iff_pairwise_ne, List.pairwise_map]
    exact nd.imp fun a b => a (by omega))
  have := h (ns.map Int.toNat) ?_ ?_
  · rw [List.map_map] at this
    have e2 : (ns.map D.int) = ns.map ((fun k : Nat => D.int (k : Nat)) ∘ Int.toNat) := by
      refine List.map_congr_left fun z hz => ?_
      obtain ⟨k, rfl⟩ := hn z hz
      rfl
    rw [e2]
    exact this
  · rw [List.pairwise_map]
    refine (hs.and (List.nodup_iff_pairwise_ne.mp nd')).imp_of_mem fun {a b} ha hb hab => ?_
    obtain ⟨k, rfl⟩ := hn a ha
    obtain ⟨l, rfl⟩ := hn b hb
    have := hab.1
    have := hab.2
    simp only [Int.toNat_natCast]
    have : k ≠ l := fun e => hab.2 (by rw [e])
    omega
  · intro j
    rw [List.mem_map]
    constructor
    · rintro ⟨z, hz, rfl⟩
      obtain ⟨k, rfl⟩ := hn z hz
      obtain ⟨k', hk', e⟩ := List.mem_map.mp (hp.mem_iff.mp hz)
      have : k' = k := Int.ofNat.inj e
      rw [← this]; simpa using hk'
    · intro hj
      exact ⟨(j : Int), hp.mem_iff.mpr (List.mem_map.mpr ⟨j, hj, rfl⟩), by simp⟩
theorem r_sortSet {d : D} {ks : List Nat} (e : seqD S d = some (ks.map fun k : Nat => .int (k : Nat))) (l : ks.length < 64) (h : ∀ ls : List Nat, ls.Pairwise (· < ·) → (∀ j, j ∈ ls ↔ j ∈ ks) → Q (.ref S.length) (S ++ [.lst (ls.map fun k : Nat => .int (k : Nat))])) :
    ssD Q d S := by
  refine ⟨ks.map fun k : Nat => (k : Int), by rw [e, List.map_map]; rfl, by simpa using l, fun ns hs hp _ => ?_⟩
  have hn : ∀ z ∈ ns, ∃ k : Nat, z = (k : Int) := fun z hz => by
    obtain ⟨k, _, rfl⟩ := List.mem_map.mp ((hp z).mp hz)
    exact ⟨k, rfl⟩
  have := h (ns.map Int.toNat) ?_ ?_
  · rw [List.map_map] at this
    have e2 : (ns.map D.int) = ns.map ((fun k : Nat => D.int (k : Nat)) ∘ Int.toNat) := by
      refine List.map_congr_left fun z hz => ?_
      obtain ⟨k, rfl⟩ := hn z hz
      rfl
    rw [e2]
    exact this
  · rw [List.pairwise_map]
    refine hs.imp_of_mem fun {a b} ha hb hab => ?_
    obtain ⟨k, rfl⟩ := hn a ha
    obtain ⟨l, rfl⟩ := hn b hb
    simp only [Int.toNat_natCast]
    omega
  · intro j
    rw [List.mem_map]
    constructor
    · rintro ⟨z, hz, rfl⟩
      obtain ⟨k, rfl⟩ := hn z hz
      obtain ⟨k', hk', e⟩ := List.mem_map.mp ((hp _).mp hz)
      have : k' = k := Int.ofNat.inj e
      rw [← this]; simpa using hk'
    · intro hj
      exact ⟨(j : Int), (hp _).mpr (List.mem_map.mpr ⟨j, hj, rfl⟩), by simp⟩
/-- a for by an invariant -/
theorem for_inv {ok : Store → Prop} {g : FG} {b : FS} {xs : List D} (I : Nat → Slots → Store → Prop) (h0 : I 0 σ S)
    (step : ∀ i x σ S (R : Slots → Store → Prop), xs[i]? = some x → I i σ S → (∀ σ' S', I (i + 1) σ' S' → R σ' S') → ok S ∧ g x σ S fun σ1 S1 => b { E with nx := R, ct := R, bk := E.nx } σ1 S1)
    (done : ∀ σ S, I xs.length σ S → ok S ∧ E.nx σ S) : forD ok g b E xs σ S := by
  have go : ∀ (ys : List D) (i : Nat) (σ : Slots) (S : Store), xs.drop i = ys → i ≤ xs.length → I i σ S → forD ok g b E ys σ S := by
    intro ys
    induction ys with
    | nil =>
      intro i σ S hd hi h
      have : i = xs.length := by
        have := congrArg List.length hd
        simp at this
        omega
      subst this
      exact done σ S h
    | cons y ys ih =>
      intro i σ S hd hi h
      have hlt : i < xs.length := by
        have := congrArg List.length hd
        simp at this
        omega
      have hx : xs[i]? = some y := by rw [← List.head?_drop, hd]; rfl
      have hd' : xs.drop (i + 1) = ys := by rw [← List.tail_drop, hd]; rfl
      exact step i y σ S _ hx h fun σ' S' h' => ih (i + 1) σ' S' hd' hlt h'
  exact go xs 0 σ S rfl (Nat.zero_le _) h0
/-- a while by an invariant that counts down -/
theorem while_inv {c : FT} {b : FS} (I : Nat → Slots → Store → Prop) (k0 : Nat) (h0 : I k0 σ S)
    (step : ∀ k σ S (R : Slots → Store → Prop), I k σ S → (∀ k' σ' S', k' < k → I k' σ' S' → R σ' S') → c σ S fun t S1 => if t = true then b { E with nx := R, ct := R, bk := E.nx } σ S1 else E.nx σ S1) : sWhile c b E σ S := by
  have up : ∀ (n : Nat) (k : Nat) (σ : Slots) (S : Store), k < n → I k σ S → whileD c b E n σ S := by
    intro n
    induction n with
    | zero => intro k σ S h; omega
    | succ n ih =>
      intro k σ S hk h
      exact step k σ S _ h fun k' σ' S' hk' h' => ih k' σ' S' (by omega) h'
  exact ⟨k0 + 1, up (k0 + 1) k0 σ S (Nat.lt_succ_self _) h0⟩
end
end SD
/-! PG1: the defs' meanings over D (printed by gen.py). -/
namespace PG
open PySem L2 SD
/-! ### leads -/
def b_leads  : FS :=
  (sSeq (sIf (tVal (eVar 2)) (sRet (eCB (boolsF fun bs => bs.any id) (aCons (eLc (iSeqD (eVar 0)) (gNm 3) tYesD (eOp (inF false) (eVar 3) (eVar 1)) [3]) aNil))) sNext)
  (sRet (eCB (boolsF fun bs => bs.all id) (aCons (eLc (iSeqD (eVar 0)) (gNm 3) tYesD (eOp (inF false) (eVar 3) (eVar 1)) [3]) aNil))))
def F_leads : FnD := fnD 3 4 (b_leads )
/-! ### found_places -/
def b_found_places (G_found_places : FnD) (G_leads : FnD) : FS :=
  (sSeq (sAsg (eOp ixF (eVar 1) (eC (.int 0))) (gNm 3))
  (sSeq (sIf (tVal (eOp (inF false) (eVar 3) (eTup (aCons (eC (.str "yes")) (aCons (eC (.str "no")) aNil))))) (sRet (eDc (iRg1 (aCons (eOp ixF (eVar 0) (eC (.int 0))) aNil)) (gNm 10) (tVal (eOp (eqF false) (eVar 3) (eC (.str "yes")))) (eVar 10) (eC (.bl true)) [10])) sNext)
  (sSeq (sIf (tVal (eOp (inF false) (eVar 3) (eTup (aCons (eC (.str "is")) (aCons (eC (.str "isnt")) aNil))))) (sRet (eDc (iRg1 (aCons (eOp ixF (eVar 0) (eC (.int 0))) aNil)) (gNm 10) (tVal (eOp (eqF false) (eOp (inF false) (eVar 10) (eOp ixF (eOp ixF (eVar 0) (eC (.int 1))) (eOp ixF (eVar 1) (eC (.int 1))))) (eOp (eqF false) (eVar 3) (eC (.str "is"))))) (eVar 10) (eC (.bl true)) [10])) sNext)
  (sSeq (sIf (tVal (eOp (eqF false) (eVar 3) (eC (.str "name")))) (sRet (eDc (iSeqD (eOp ixF (eVar 2) (eOp ixF (eVar 1) (eC (.int 1))))) (gNm 10) tYesD (eVar 10) (eC (.bl true)) [10])) sNext)
  (sSeq (sIf (tVal (eOp (inF false) (eVar 3) (eTup (aCons (eC (.str "both")) (aCons (eC (.str "either")) aNil))))) (sSeq (sAsg (eTup (aCons (eCall G_found_places (aCons (eVar 0) (aCons (eOp ixF (eVar 1) (eC (.int 1))) (aCons (eVar 2) aNil)))) (aCons (eCall G_found_places (aCons (eVar 0) (aCons (eOp ixF (eVar 1) (eC (.int 2))) (aCons (eVar 2) aNil)))) aNil))) (gTp 2 (gsCons (gNm 4) (gsCons (gNm 5) gsNil))))
  (sSeq (sIf (tVal (eOp (eqF false) (eVar 3) (eC (.str "both")))) (sRet (eLock 4 (eDc (iKeysD 4) (gNm 10) (tVal (eOp (inF false) (eVar 10) (eVar 5))) (eVar 10) (eC (.bl true)) [10]))) sNext)
  (sSeq (sDrop (eMt "dict" updF (eVar 5) (aCons (eVar 4) aNil)))
  (sRet (eVar 5))))) sNext)
  (sSeq (sIf (tVal (eOp (inF false) (eVar 3) (eTup (aCons (eC (.str "some")) (aCons (eC (.str "all")) aNil))))) (sSeq (sAsg (eCall G_found_places (aCons (eVar 0) (aCons (eOp ixF (eVar 1) (eC (.int 2))) (aCons (eVar 2) aNil)))) (gNm 6))
  (sRet (eDc (iRg1 (aCons (eOp ixF (eVar 0) (eC (.int 0))) aNil)) (gNm 10) (tVal (eCall G_leads (aCons (eOp ixF (eOp ixF (eOp ixF (eVar 0) (eC (.int 2))) (eOp ixF (eVar 1) (eC (.int 1)))) (eVar 10)) (aCons (eVar 6) (aCons (eOp (eqF false) (eVar 3) (eC (.str "some"))) aNil))))) (eVar 10) (eC (.bl true)) [10]))) sNext)
  (sSeq (sAsg (eCB dictF (aCons (eVar 2) aNil)) (gNm 7))
  (sSeq (sAsg (eIf (tVal (eOp (eqF false) (eVar 3) (eC (.str "least")))) eDict0 (eDc (iRg1 (aCons (eOp ixF (eVar 0) (eC (.int 0))) aNil)) (gNm 10) tYesD (eVar 10) (eC (.bl true)) [10])) (gNm 8))
  (sSeq (sAsg (eC .non) (gNm 9))
  (sSeq (sWhile (tVal (eOp (eqF true) (eVar 8) (eVar 9))) (sSeq (sAsg (eVar 8) (gNm 9))
  (sSeq (sAsg (eCB tupleF (aCons (eCB sortedF (aCons (eCB listF (aCons (eVar 8) aNil)) aNil)) aNil)) (gSubD (eVar 7) (eOp ixF (eVar 1) (eC (.int 1)))))
  (sAsg (eCall G_found_places (aCons (eVar 0) (aCons (eOp ixF (eVar 1) (eC (.int 2))) (aCons (eVar 7) aNil)))) (gNm 8)))))
  (sRet (eVar 8))))))))))))
def F_found_places : Nat → FnD
  | 0 => fun _ _ _ => False
  | k + 1 => fnD 3 11 (b_found_places (F_found_places k) F_leads)
/-! ### worth -/
def b_worth (G_found_places : FnD) : FS :=
  (sRet (eCB tupleF (aCons (eCB sortedF (aCons (eCB listF (aCons (eCall G_found_places (aCons (eVar 0) (aCons (eVar 1) (aCons (eVar 2) aNil)))) aNil)) aNil)) aNil)))
def F_worth : FnD := fnD 3 3 (b_worth (F_found_places 12))
/-! ### places_where -/
def b_places_where (G_worth : FnD) : FS :=
  (sRet (eCall G_worth (aCons (eVar 0) (aCons (eVar 1) (aCons eDict0 aNil)))))
def F_places_where : FnD := fnD 2 2 (b_places_where F_worth)
/-! ### round_places -/
def b_round_places (G_worth : FnD) : FS :=
  (sSeq (sAsg (eIf (tVal (eOp (eqF false) (eOp ixF (eVar 1) (eC (.int 0))) (eC (.str "least")))) (eTup aNil) (eTupRg1 (eOp ixF (eVar 0) (eC (.int 0))))) (gNm 3))
  (sSeq (sFor (iRg1 (aCons (eVar 2) aNil)) (gNm 4) (sAsg (eCall G_worth (aCons (eVar 0) (aCons (eOp ixF (eVar 1) (eC (.int 2))) (aCons (eDispD (((eOp ixF (eVar 1) (eC (.int 1))), (eVar 3)) :: [])) aNil)))) (gNm 3)))
  (sRet (eVar 3))))
def F_round_places : FnD := fnD 3 5 (b_round_places F_worth)
/-! ### _law_same -/
def b__law_same (G__law_same : FnD) : FS :=
  (sSeq (sIf (tOrD (tVal (eIsi "tuple" (eVar 1))) (tVal (eIsi "list" (eVar 1)))) (sSeq (sIf (tOrD (tVal (eOp (eqF true) (eIsi "tuple" (eVar 1)) (eIsi "tuple" (eVar 0)))) (tOrD (tVal (eOp (eqF true) (eIsi "list" (eVar 1)) (eIsi "list" (eVar 0)))) (tVal (eOp (eqF true) (eCB lenF (aCons (eVar 0) aNil)) (eCB lenF (aCons (eVar 1) aNil)))))) (sRet (eC (.bl false))) sNext)
  (sRet (eOp (eqF false) (eCB lenF (aCons (eLc (iRg1 (aCons (eCB lenF (aCons (eVar 1) aNil)) aNil)) (gNm 2) (tNotD (tVal (eCall G__law_same (aCons (eOp ixF (eVar 0) (eVar 2)) (aCons (eOp ixF (eVar 1) (eVar 2)) aNil))))) (eVar 2) [2]) aNil)) (eC (.int 0))))) sNext)
  (sSeq (sIf (tVal (eIsN (eVar 1))) (sRet (eIsN (eVar 0))) sNext)
  (sSeq (sIf (tOrD (tVal (eIsi "bool" (eVar 1))) (tVal (eIsi "bool" (eVar 0)))) (sRet (eAnd (eIsi "bool" (eVar 1)) (eAnd (eIsi "bool" (eVar 0)) (eOp (eqF false) (eVar 0) (eVar 1))))) sNext)
  (sSeq (sIf (tVal (eIsi "int" (eVar 1))) (sRet (eAnd (eIsi "int" (eVar 0)) (eOp (eqF false) (eVar 0) (eVar 1)))) sNext)
  (sRet (eAnd (eIsi "str" (eVar 0)) (eOp (eqF false) (eVar 0) (eVar 1))))))))
def F__law_same : Nat → FnD
  | 0 => fun _ _ _ => False
  | k + 1 => fnD 2 3 (b__law_same (F__law_same k))
/-! ### _law_pool -/
def b__law_pool  : FS :=
  (sSeq (sAsg (eC (.int 7)) (gNm 1))
  (sSeq (sFor (iSeqD (eSl (eVar 0) oNo (oSome (eC (.int 63))))) (gNm 2) (sAsg (eOp (intCF (fun _ j => 0 < j) fun i j => .int (i % j)) (eCB intF1 (aCons (eOp addF (eOp (intCF CMul fun i j => .int (i * j)) (eVar 1) (eC (.int 31))) (eVar 2)) aNil)) (eC (.int 1000003))) (gNm 1)))
  (sRet (eLst (aCons (eCB listF (aCons (eVar 0) aNil)) (aCons (eC (.int 0)) (aCons (eC (.int 0)) (aCons (eC (.int 0)) (aCons (eVar 1) aNil)))))))))
def F__law_pool : FnD := fnD 1 3 (b__law_pool )
/-! ### _law_spread -/
def b__law_spread  : FS :=
  (sSeq (sAsg (eOp (intCF (fun _ j => 0 < j) fun i j => .int (i % j)) (eCB intF1 (aCons (eVar 0) aNil)) (eC (.int 2147483647))) (gNm 1))
  (sSeq (sAsg (eC (.int 1)) (gNm 2))
  (sSeq (sFor (iRg1 (aCons (eC (.int 4)) aNil)) (gNm 3) (sSeq (sAsg (eOp (intCF (fun _ j => 0 < j) fun i j => .int (i % j)) (eCB intF1 (aCons (eOp addF (eOp addF (eOp (intCF CMul fun i j => .int (i * j)) (eVar 1) (eC (.int 48271))) (eC (.int 12345))) (eVar 3)) aNil)) (eC (.int 2147483647))) (gNm 1))
  (sAsg (eOp addF (eOp (intCF CMul fun i j => .int (i * j)) (eVar 2) (eC (.int 2147483647))) (eVar 1)) (gNm 2))))
  (sRet (eVar 2)))))
def F__law_spread : FnD := fnD 1 4 (b__law_spread )
/-! ### _law_draw -/
def b__law_draw (G__law_spread : FnD) : FS :=
  (sSeq (sIf (tAndD (tVal (eOp (intF fun i j => .bl (decide (i ≤ j))) (eOp ixF (eVar 0) (eC (.int 2))) (eC (.int 0)))) (tVal (eOp (intF fun i j => .bl (decide (i < j))) (eOp ixF (eVar 0) (eC (.int 1))) (eCB lenF (aCons (eOp ixF (eVar 0) (eC (.int 0))) aNil))))) (sSeq (sAsg (eOp ixF (eOp ixF (eVar 0) (eC (.int 0))) (eOp ixF (eVar 0) (eC (.int 1)))) (gNm 2))
  (sSeq (sAsg (eOp addF (eOp ixF (eVar 0) (eC (.int 1))) (eC (.int 1))) (gSubD (eVar 0) (eC (.int 1))))
  (sSeq (sAsg (eVar 2) (gSubD (eVar 0) (eC (.int 2))))
  (sIf (tVal (eOp (intF fun i j => .bl (decide (i < j))) (eVar 2) (eC (.int 1000000000000000000)))) (sAsg (eCall G__law_spread (aCons (eVar 2) aNil)) (gSubD (eVar 0) (eC (.int 2)))) sNext)))) sNext)
  (sSeq (sAsg (eOp addF (eOp ixF (eVar 0) (eC (.int 3))) (eC (.int 1))) (gSubD (eVar 0) (eC (.int 3))))
  (sSeq (sIf (tVal (eOp (intF fun i j => .bl (decide (i ≤ j))) (eOp ixF (eVar 0) (eC (.int 2))) (eC (.int 0)))) (sSeq (sAsg (eOp (intCF (fun _ j => 0 < j) fun i j => .int (i % j)) (eCB intF1 (aCons (eOp addF (eOp addF (eOp (intCF CMul fun i j => .int (i * j)) (eOp ixF (eVar 0) (eC (.int 4))) (eC (.int 48271))) (eOp (intCF CMul fun i j => .int (i * j)) (eOp ixF (eVar 0) (eC (.int 3))) (eC (.int 69621)))) (eC (.int 1))) aNil)) (eC (.int 2147483647))) (gNm 3))
  (sSeq (sAsg (eOp (intCF (fun _ j => 0 < j) fun i j => .int (i % j)) (eCB intF1 (aCons (eOp addF (eOp (intCF CMul fun i j => .int (i * j)) (eVar 3) (eC (.int 16807))) (eOp ixF (eVar 0) (eC (.int 3)))) aNil)) (eC (.int 2147483629))) (gNm 3))
  (sRet (eOp (intCF (fun _ j => 0 < j) fun i j => .int (i % j)) (eOp (intCF CDiv fun i j => .int (i / j)) (eVar 3) (eC (.int 5))) (eVar 1))))) sNext)
  (sSeq (sAsg (eOp (intCF (fun _ j => 0 < j) fun i j => .int (i % j)) (eCB intF1 (aCons (eOp ixF (eVar 0) (eC (.int 2))) aNil)) (eVar 1)) (gNm 4))
  (sSeq (sAsg (eOp (intCF CDiv fun i j => .int (i / j)) (eOp ixF (eVar 0) (eC (.int 2))) (eVar 1)) (gSubD (eVar 0) (eC (.int 2))))
  (sRet (eVar 4)))))))
def F__law_draw : FnD := fnD 2 5 (b__law_draw F__law_spread)
/-! ### _law_pick -/
def b__law_pick (G__law_draw : FnD) : FS :=
  (sRet (eOp ixF (eVar 1) (eCall G__law_draw (aCons (eVar 0) (aCons (eCB lenF (aCons (eVar 1) aNil)) aNil)))))
def F__law_pick : FnD := fnD 2 2 (b__law_pick F__law_draw)
/-! ### _law_land -/
def b__law_land (G__law_draw : FnD) : FS :=
  (sRet (eOp ixF (eTup (aCons (eTup (aCons (eC (.int 1)) (aCons (eC (.int 1)) aNil))) (aCons (eTup (aCons (eC (.int 2)) (aCons (eC (.int 1)) aNil))) (aCons (eTup (aCons (eC (.int 1)) (aCons (eC (.int 2)) aNil))) (aCons (eTup (aCons (eC (.int 3)) (aCons (eC (.int 1)) aNil))) (aCons (eTup (aCons (eC (.int 2)) (aCons (eC (.int 2)) aNil))) aNil)))))) (eCall G__law_draw (aCons (eVar 0) (aCons (eC (.int 5)) aNil)))))
def F__law_land : FnD := fnD 1 1 (b__law_land F__law_draw)
/-! ### _law_saying -/
def b__law_saying (G__law_saying : FnD) (G__law_draw : FnD) (G__law_pick : FnD) : FS :=
  (sSeq (sAsg (eIf (tVal (eOp (intF fun i j => .bl (decide (j < i))) (eVar 2) (eC (.int 0)))) (eCall G__law_draw (aCons (eVar 0) (aCons (eC (.int 13)) aNil))) (eCall G__law_draw (aCons (eVar 0) (aCons (eC (.int 5)) aNil)))) (gNm 6))
  (sSeq (sIf (tOrD (tVal (eOp (intF fun i j => .bl (decide (i < j))) (eVar 6) (eC (.int 2)))) (tAndD (tVal (eOp (eqF false) (eVar 6) (eC (.int 3)))) (tVal (eOp (eqF false) (eCB lenF (aCons (eVar 5) aNil)) (eC (.int 0)))))) (sRet (eTup (aCons (eOp ixF (eTup (aCons (eC (.str "is")) (aCons (eC (.str "isnt")) aNil))) (eIf (tVal (eOp (intF fun i j => .bl (decide (i < j))) (eVar 6) (eC (.int 2)))) (eOp (intCF (fun _ j => 0 < j) fun i j => .int (i % j)) (eVar 6) (eC (.int 2))) (eC (.int 0)))) (aCons (eCall G__law_draw (aCons (eVar 0) (aCons (eOp ixF (eVar 1) (eC (.int 0))) aNil))) aNil)))) sNext)
  (sSeq (sIf (tVal (eOp (eqF false) (eVar 6) (eC (.int 2)))) (sRet (eIf (tVal (eOp (eqF false) (eCall G__law_draw (aCons (eVar 0) (aCons (eC (.int 3)) aNil))) (eC (.int 0)))) (eOp ixF (eTup (aCons (eTup (aCons (eC (.str "yes")) aNil)) (aCons (eTup (aCons (eC (.str "no")) aNil)) aNil))) (eCall G__law_draw (aCons (eVar 0) (aCons (eC (.int 2)) aNil)))) (eTup (aCons (eC (.str "is")) (aCons (eCall G__law_draw (aCons (eVar 0) (aCons (eOp ixF (eVar 1) (eC (.int 0))) aNil))) aNil))))) sNext)
  (sSeq (sIf (tVal (eOp (intF fun i j => .bl (decide (i < j))) (eVar 6) (eC (.int 5)))) (sRet (eIf (tVal (eOp (intF fun i j => .bl (decide (j < i))) (eCB lenF (aCons (eVar 5) aNil)) (eC (.int 0)))) (eTup (aCons (eC (.str "name")) (aCons (eCall G__law_pick (aCons (eVar 0) (aCons (eCB listF (aCons (eVar 5) aNil)) aNil))) aNil))) (eTup (aCons (eC (.str "isnt")) (aCons (eCall G__law_draw (aCons (eVar 0) (aCons (eOp ixF (eVar 1) (eC (.int 0))) aNil))) aNil))))) sNext)
  (sSeq (sIf (tVal (eOp (intF fun i j => .bl (decide (i < j))) (eVar 6) (eC (.int 8)))) (sRet (eTup (aCons (eOp ixF (eTup (aCons (eC (.str "both")) (aCons (eC (.str "either")) aNil))) (eCall G__law_draw (aCons (eVar 0) (aCons (eC (.int 2)) aNil)))) (aCons (eCall G__law_saying (aCons (eVar 0) (aCons (eVar 1) (aCons (eOp (intF fun i j => .int (i - j)) (eVar 2) (eC (.int 1))) (aCons (eVar 3) (aCons (eVar 4) (aCons (eVar 5) aNil))))))) (aCons (eCall G__law_saying (aCons (eVar 0) (aCons (eVar 1) (aCons (eOp (intF fun i j => .int (i - j)) (eVar 2) (eC (.int 1))) (aCons (eVar 3) (aCons (eVar 4) (aCons (eVar 5) aNil))))))) aNil))))) sNext)
  (sSeq (sIf (tVal (eOp (intF fun i j => .bl (decide (i < j))) (eVar 6) (eC (.int 11)))) (sRet (eTup (aCons (eOp ixF (eTup (aCons (eC (.str "some")) (aCons (eC (.str "all")) aNil))) (eCall G__law_draw (aCons (eVar 0) (aCons (eC (.int 2)) aNil)))) (aCons (eCall G__law_draw (aCons (eVar 0) (aCons (eOp ixF (eVar 1) (eC (.int 1))) aNil))) (aCons (eCall G__law_saying (aCons (eVar 0) (aCons (eVar 1) (aCons (eOp (intF fun i j => .int (i - j)) (eVar 2) (eC (.int 1))) (aCons (eVar 3) (aCons (eVar 4) (aCons (eVar 4) aNil))))))) aNil))))) sNext)
  (sSeq (sAsg (eCB lenF (aCons (eVar 3) aNil)) (gNm 7))
  (sSeq (sIf (tVal (eOp (intF fun i j => .bl (decide (j < i))) (eVar 7) (eC (.int 4)))) (sRet (eTup (aCons (eC (.str "is")) (aCons (eC (.int 0)) aNil)))) sNext)
  (sSeq (sDrop (eMt "list" appF (eVar 3) (aCons (eVar 7) aNil)))
  (sRet (eTup (aCons (eOp ixF (eTup (aCons (eC (.str "least")) (aCons (eC (.str "greatest")) aNil))) (eCall G__law_draw (aCons (eVar 0) (aCons (eC (.int 2)) aNil)))) (aCons (eVar 7) (aCons (eCall G__law_saying (aCons (eVar 0) (aCons (eVar 1) (aCons (eOp (intF fun i j => .int (i - j)) (eVar 2) (eC (.int 1))) (aCons (eVar 3) (aCons (eOp addF (eVar 4) (eTup (aCons (eVar 7) aNil))) (aCons (eVar 5) aNil))))))) aNil))))))))))))))
def F__law_saying : Nat → FnD
  | 0 => fun _ _ _ => False
  | k + 1 => fnD 6 8 (b__law_saying (F__law_saying k) F__law_draw F__law_pick)
/-! ### _law_world -/
def b__law_world (G__law_draw : FnD) : FS :=
  (sSeq (sAsg (eOp addF (eC (.int 1)) (eCall G__law_draw (aCons (eVar 0) (aCons (eVar 2) aNil)))) (gNm 3))
  (sSeq (sAsg (eCB tupleF (aCons (eLc (iRg1 (aCons (eOp ixF (eVar 1) (eC (.int 0))) aNil)) (gNm 8) tYesD (eCB tupleF (aCons (eLc (iRg1 (aCons (eVar 3) aNil)) (gNm 9) (tVal (eOp (eqF false) (eCall G__law_draw (aCons (eVar 0) (aCons (eC (.int 2)) aNil))) (eC (.int 0)))) (eVar 9) [9]) aNil)) [8]) aNil)) (gNm 4))
  (sSeq (sAsg (eOp addF (eC (.int 2)) (eCall G__law_draw (aCons (eVar 0) (aCons (eC (.int 2)) aNil)))) (gNm 5))
  (sSeq (sAsg (eTup aNil) (gNm 6))
  (sSeq (sFor (iRg1 (aCons (eOp ixF (eVar 1) (eC (.int 1))) aNil)) (gNm 7) (sAsg (eOp addF (eVar 6) (eTup (aCons (eCB tupleF (aCons (eLc (iRg1 (aCons (eVar 3) aNil)) (gNm 10) tYesD (eCB tupleF (aCons (eLc (iRg1 (aCons (eVar 3) aNil)) (gNm 9) (tVal (eOp (eqF false) (eCall G__law_draw (aCons (eVar 0) (aCons (eVar 5) aNil))) (eC (.int 0)))) (eVar 9) [9]) aNil)) [10]) aNil)) aNil))) (gNm 6)))
  (sRet (eTup (aCons (eVar 3) (aCons (eVar 4) (aCons (eVar 6) aNil))))))))))
def F__law_world : FnD := fnD 3 11 (b__law_world F__law_draw)

end PG
/-! SP1: the drawing helpers. -/
namespace PG
open PySem L2 SD
theorem spread_spec {c : Int} {S : Store} {Q : PD} (h : ∀ z : Int, Q (.int z) S) : F__law_spread [.int c] S Q := by
  refine r_fn rfl ?_
  unfold b__law_spread
  (repeat with_reducible first | refine r_seq ?_ | refine r_asg ?_ | refine r_nm ?_ | refine r_var (by with_unfolding_all rfl) ?_ | refine r_c ?_ | refine r_aCons ?_ | refine r_aNil ?_ | refine r_op ?_ | refine r_call ?_ | refine r_val ?_ | refine r_bl ?_ | refine r_if ?_ | refine r_ret ?_ | refine r_next ?_ | refine r_ifT (by first | decide | (with_unfolding_all rfl)) ?_ | refine r_ifF (by first | decide | (with_unfolding_all rfl)) ?_ | refine r_tup ?_ | refine r_lst ?_ | refine r_le (Nat.le_of_ble_eq_true (by with_unfolding_all rfl)) ?_ | refine r_cb ?_ | refine r_and ?_ | refine r_or ?_ | refine r_not ?_ | refine r_eIf ?_ | refine r_eAnd ?_ | refine r_eOr ?_ | refine r_eNot ?_ | refine r_isN ?_ | refine r_mt ?_ | refine r_tr ?_ | refine r_ss ?_ | refine r_dict0 ?_ | refine r_yes ?_ | refine r_isi ?_ | refine r_ty (by with_unfolding_all rfl) ?_ | refine r_ixT (by with_unfolding_all rfl) ?_ | refine r_ixE (by with_unfolding_all rfl) (by with_unfolding_all rfl) ?_ | refine r_ixL (by assumption) (by with_unfolding_all rfl) ?_ | refine r_addI ?_ | refine r_intF ?_ | refine r_intCF (by first | decide | exact cmul_r (by decide) | exact cmul_l (by decide)) ?_ | refine r_eqI ?_ | refine r_neI ?_ | refine r_eqS ?_ | refine r_neS ?_ | refine r_eqB ?_ | refine r_neB ?_ | refine r_int ?_ | refine r_drop ?_ | refine r_sub ?_ | refine r_gTp (by with_unfolding_all rfl) ?_ | refine r_gsCons ?_ | refine r_gsNil ?_ | refine r_for ?_ | refine r_lc ?_ | refine r_dc ?_ | refine r_iRg1 ?_ | refine r_inT (by with_unfolding_all rfl) (by with_unfolding_all rfl) ?_)
  refine r_rg (by decide) (by decide) ?_
  refine for_inv (fun _ σ S' => S' = S ∧ ∃ a b c d : Int, σ = [some (.int a), some (.int b), some (.int c), some (.int d)] ∨ σ = [some (.int a), some (.int b), some (.int c), none]) ⟨rfl, _, _, _, 0, .inr rfl⟩ ?_ ?_
  · rintro i x σ S1 R hx ⟨rfl, a, b, c, d, hσ⟩ hR
    have : ∃ j : Int, x = .int j := by
      unfold rngD at hx
      rw [List.getElem?_map] at hx
      cases e : (List.range (Int.toNat 4))[i]? with
      | none => rw [e] at hx; cases hx
      | some j => rw [e] at hx; cases hx; exact ⟨_, rfl⟩
    obtain ⟨j, rfl⟩ := this
    refine ⟨trivial, ?_⟩
    rcases hσ with rfl | rfl
    · (repeat with_reducible first | refine r_seq ?_ | refine r_asg ?_ | refine r_nm ?_ | refine r_var (by with_unfolding_all rfl) ?_ | refine r_c ?_ | refine r_aCons ?_ | refine r_aNil ?_ | refine r_op ?_ | refine r_call ?_ | refine r_val ?_ | refine r_bl ?_ | refine r_if ?_ | refine r_ret ?_ | refine r_next ?_ | refine r_ifT (by first | decide | (with_unfolding_all rfl)) ?_ | refine r_ifF (by first | decide | (with_unfolding_all rfl)) ?_ | refine r_tup ?_ | refine r_lst ?_ | refine r_le (Nat.le_of_ble_eq_true (by with_unfolding_all rfl)) ?_ | refine r_cb ?_ | refine r_and ?_ | refine r_or ?_ | refine r_not ?_ | refine r_eIf ?_ | refine r_eAnd ?_ | refine r_eOr ?_ | refine r_eNot ?_ | refine r_isN ?_ | refine r_mt ?_ | refine r_tr ?_ | refine r_ss ?_ | refine r_dict0 ?_ | refine r_yes ?_ | refine r_isi ?_ | refine r_ty (by with_unfolding_all rfl) ?_ | refine r_ixT (by with_unfolding_all rfl) ?_ | refine r_ixE (by with_unfolding_all rfl) (by with_unfolding_all rfl) ?_ | refine r_ixL (by assumption) (by with_unfolding_all rfl) ?_ | refine r_addI ?_ | refine r_intF ?_ | refine r_intCF (by first | decide | exact cmul_r (by decide) | exact cmul_l (by decide)) ?_ | refine r_eqI ?_ | refine r_neI ?_ | refine r_eqS ?_ | refine r_neS ?_ | refine r_eqB ?_ | refine r_neB ?_ | refine r_int ?_ | refine r_drop ?_ | refine r_sub ?_ | refine r_gTp (by with_unfolding_all rfl) ?_ | refine r_gsCons ?_ | refine r_gsNil ?_ | refine r_for ?_ | refine r_lc ?_ | refine r_dc ?_ | refine r_iRg1 ?_ | refine r_inT (by with_unfolding_all rfl) (by with_unfolding_all rfl) ?_)
      exact hR _ _ ⟨rfl, _, _, _, _, .inl rfl⟩
    · (repeat with_reducible first | refine r_seq ?_ | refine r_asg ?_ | refine r_nm ?_ | refine r_var (by with_unfolding_all rfl) ?_ | refine r_c ?_ | refine r_aCons ?_ | refine r_aNil ?_ | refine r_op ?_ | refine r_call ?_ | refine r_val ?_ | refine r_bl ?_ | refine r_if ?_ | refine r_ret ?_ | refine r_next ?_ | refine r_ifT (by first | decide | (with_unfolding_all rfl)) ?_ | refine r_ifF (by first | decide | (with_unfolding_all rfl)) ?_ | refine r_tup ?_ | refine r_lst ?_ | refine r_le (Nat.le_of_ble_eq_true (by with_unfolding_all rfl)) ?_ | refine r_cb ?_ | refine r_and ?_ | refine r_or ?_ | refine r_not ?_ | refine r_eIf ?_ | refine r_eAnd ?_ | refine r_eOr ?_ | refine r_eNot ?_ | refine r_isN ?_ | refine r_mt ?_ | refine r_tr ?_ | refine r_ss ?_ | refine r_dict0 ?_ | refine r_yes ?_ | refine r_isi ?_ | refine r_ty (by with_unfolding_all rfl) ?_ | refine r_ixT (by with_unfolding_all rfl) ?_ | refine r_ixE (by with_unfolding_all rfl) (by with_unfolding_all rfl) ?_ | refine r_ixL (by assumption) (by with_unfolding_all rfl) ?_ | refine r_addI ?_ | refine r_intF ?_ | refine r_intCF (by first | decide | exact cmul_r (by decide) | exact cmul_l (by decide)) ?_ | refine r_eqI ?_ | refine r_neI ?_ | refine r_eqS ?_ | refine r_neS ?_ | refine r_eqB ?_ | refine r_neB ?_ | refine r_int ?_ | refine r_drop ?_ | refine r_sub ?_ | refine r_gTp (by with_unfolding_all rfl) ?_ | refine r_gsCons ?_ | refine r_gsNil ?_ | refine r_for ?_ | refine r_lc ?_ | refine r_dc ?_ | refine r_iRg1 ?_ | refine r_inT (by with_unfolding_all rfl) (by with_unfolding_all rfl) ?_)
      exact hR _ _ ⟨rfl, _, _, _, _, .inl rfl⟩
  · rintro σ S1 ⟨rfl, a, b, c, d, rfl | rfl⟩
    · refine ⟨trivial, ?_⟩
      (repeat with_reducible first | refine r_seq ?_ | refine r_asg ?_ | refine r_nm ?_ | refine r_var (by with_unfolding_all rfl) ?_ | refine r_c ?_ | refine r_aCons ?_ | refine r_aNil ?_ | refine r_op ?_ | refine r_call ?_ | refine r_val ?_ | refine r_bl ?_ | refine r_if ?_ | refine r_ret ?_ | refine r_next ?_ | refine r_ifT (by first | decide | (with_unfolding_all rfl)) ?_ | refine r_ifF (by first | decide | (with_unfolding_all rfl)) ?_ | refine r_tup ?_ | refine r_lst ?_ | refine r_le (Nat.le_of_ble_eq_true (by with_unfolding_all rfl)) ?_ | refine r_cb ?_ | refine r_and ?_ | refine r_or ?_ | refine r_not ?_ | refine r_eIf ?_ | refine r_eAnd ?_ | refine r_eOr ?_ | refine r_eNot ?_ | refine r_isN ?_ | refine r_mt ?_ | refine r_tr ?_ | refine r_ss ?_ | refine r_dict0 ?_ | refine r_yes ?_ | refine r_isi ?_ | refine r_ty (by with_unfolding_all rfl) ?_ | refine r_ixT (by with_unfolding_all rfl) ?_ | refine r_ixE (by with_unfolding_all rfl) (by with_unfolding_all rfl) ?_ | refine r_ixL (by assumption) (by with_unfolding_all rfl) ?_ | refine r_addI ?_ | refine r_intF ?_ | refine r_intCF (by first | decide | exact cmul_r (by decide) | exact cmul_l (by decide)) ?_ | refine r_eqI ?_ | refine r_neI ?_ | refine r_eqS ?_ | refine r_neS ?_ | refine r_eqB ?_ | refine r_neB ?_ | refine r_int ?_ | refine r_drop ?_ | refine r_sub ?_ | refine r_gTp (by with_unfolding_all rfl) ?_ | refine r_gsCons ?_ | refine r_gsNil ?_ | refine r_for ?_ | refine r_lc ?_ | refine r_dc ?_ | refine r_iRg1 ?_ | refine r_inT (by with_unfolding_all rfl) (by with_unfolding_all rfl) ?_)
      exact h _
    · refine ⟨trivial, ?_⟩
      (repeat with_reducible first | refine r_seq ?_ | refine r_asg ?_ | refine r_nm ?_ | refine r_var (by with_unfolding_all rfl) ?_ | refine r_c ?_ | refine r_aCons ?_ | refine r_aNil ?_ | refine r_op ?_ | refine r_call ?_ | refine r_val ?_ | refine r_bl ?_ | refine r_if ?_ | refine r_ret ?_ | refine r_next ?_ | refine r_ifT (by first | decide | (with_unfolding_all rfl)) ?_ | refine r_ifF (by first | decide | (with_unfolding_all rfl)) ?_ | refine r_tup ?_ | refine r_lst ?_ | refine r_le (Nat.le_of_ble_eq_true (by with_unfolding_all rfl)) ?_ | refine r_cb ?_ | refine r_and ?_ | refine r_or ?_ | refine r_not ?_ | refine r_eIf ?_ | refine r_eAnd ?_ | refine r_eOr ?_ | refine r_eNot ?_ | refine r_isN ?_ | refine r_mt ?_ | refine r_tr ?_ | refine r_ss ?_ | refine r_dict0 ?_ | refine r_yes ?_ | refine r_isi ?_ | refine r_ty (by with_unfolding_all rfl) ?_ | refine r_ixT (by with_unfolding_all rfl) ?_ | refine r_ixE (by with_unfolding_all rfl) (by with_unfolding_all rfl) ?_ | refine r_ixL (by assumption) (by with_unfolding_all rfl) ?_ | refine r_addI ?_ | refine r_intF ?_ | refine r_intCF (by first | decide | exact cmul_r (by decide) | exact cmul_l (by decide)) ?_ | refine r_eqI ?_ | refine r_neI ?_ | refine r_eqS ?_ | refine r_neS ?_ | refine r_eqB ?_ | refine r_neB ?_ | refine r_int ?_ | refine r_drop ?_ | refine r_sub ?_ | refine r_gTp (by with_unfolding_all rfl) ?_ | refine r_gsCons ?_ | refine r_gsNil ?_ | refine r_for ?_ | refine r_lc ?_ | refine r_dc ?_ | refine r_iRg1 ?_ | refine r_inT (by with_unfolding_all rfl) (by with_unfolding_all rfl) ?_)
      exact h _
/-- a pool -/
structure Pool (p : Nat) (S : Store) (q : Nat) (xs : List Int) (a : Nat) (b c d : Int) : Prop where
  ne : q ≠ p
  at_ : S[p]? = some (.lst [.ref q, .int a, .int b, .int c, .int d])
  list : S[q]? = some (.lst (xs.map .int))
  few : xs.length ≤ 63
def PoolOk (p q : Nat) (S : Store) : Prop := ∃ xs a b c d, Pool p S q xs a b c d
theorem PoolOk.ext {p q : Nat} {S S' : Store} (h : PoolOk p q S) (e : Ext S S') : PoolOk p q S' := by
  obtain ⟨xs, a, b, c, d, h1, h2, h3, h4⟩ := h
  exact ⟨xs, a, b, c, d, h1, e _ _ h2, e _ _ h3, h4⟩
theorem PoolOk.lt {p q : Nat} {S : Store} (h : PoolOk p q S) : p < S.length := by
  obtain ⟨xs, a, b, c, d, h1, h2, h3, h4⟩ := h
  exact (List.getElem?_eq_some_iff.mp h2).1
theorem PoolOk.lt2 {p q : Nat} {S : Store} (h : PoolOk p q S) : q < S.length := by
  obtain ⟨xs, a, b, c, d, h1, h2, h3, h4⟩ := h
  exact (List.getElem?_eq_some_iff.mp h3).1
theorem PoolOk.extB {p q : Nat} {S S' : Store} {l : List Nat} (h : PoolOk p q S) (e : ExtB l S S') (h1 : p ∉ l) (h2 : q ∉ l) : PoolOk p q S' := by
  obtain ⟨xs, a, b, c, d, g1, g2, g3, g4⟩ := h
  exact ⟨xs, a, b, c, d, g1, e.2 _ h1 _ g2, e.2 _ h2 _ g3, g4⟩
theorem atI_int {xs : List Int} {k : Nat} (h : k < xs.length) : atI (xs.map D.int) (k : Int) = some (.int xs[k]) := by
  rw [atI_n, List.getElem?_map, List.getElem?_eq_getElem h]; rfl
theorem draw_spec {p q : Nat} {many : Int} {S : Store} {Q : PD} (P : PoolOk p q S) (h1 : 0 < many) (h2 : many < 1073741824) (h : ∀ S' (r : Nat), (r : Int) < many → PoolOk p q S' → Off p S S' → Q (.int (r : Nat)) S') : F__law_draw [.ref p, .int many] S Q := by
  obtain ⟨xs, a, b, c, d, p1, p2, p3, p4⟩ := P
  have h : ∀ S' (r : Int), 0 ≤ r → r < many → PoolOk p q S' → Off p S S' → Q (.int r) S' := fun S' r r0 r1 r2 r3 => by
    obtain ⟨r, rfl⟩ := Int.eq_ofNat_of_zero_le r0
    exact h S' r r1 r2 r3
  refine r_fn rfl ?_
  unfold b__law_draw
  refine r_cut (fun σ S' => ∃ a b c d s2 s3 s4, σ = [some (.ref p), some (.int many), s2, s3, s4] ∧ Pool p S' q xs a b c d ∧ Off p S S') ?_ fun T hT => ?_
  · rintro σ S0 ⟨a, b, c, d, s2, s3, s4, rfl, ⟨p1, p2, p3, p4⟩, o0⟩
    (repeat with_reducible first | refine r_seq ?_ | refine r_asg ?_ | refine r_nm ?_ | refine r_var (by with_unfolding_all rfl) ?_ | refine r_c ?_ | refine r_aCons ?_ | refine r_aNil ?_ | refine r_op ?_ | refine r_call ?_ | refine r_val ?_ | refine r_bl ?_ | refine r_if ?_ | refine r_ret ?_ | refine r_next ?_ | refine r_ifT (by first | decide | (with_unfolding_all rfl)) ?_ | refine r_ifF (by first | decide | (with_unfolding_all rfl)) ?_ | refine r_tup ?_ | refine r_lst ?_ | refine r_le (Nat.le_of_ble_eq_true (by with_unfolding_all rfl)) ?_ | refine r_cb ?_ | refine r_and ?_ | refine r_or ?_ | refine r_not ?_ | refine r_eIf ?_ | refine r_eAnd ?_ | refine r_eOr ?_ | refine r_eNot ?_ | refine r_isN ?_ | refine r_mt ?_ | refine r_tr ?_ | refine r_ss ?_ | refine r_dict0 ?_ | refine r_yes ?_ | refine r_isi ?_ | refine r_ty (by with_unfolding_all rfl) ?_ | refine r_ixT (by with_unfolding_all rfl) ?_ | refine r_ixE (by with_unfolding_all rfl) (by with_unfolding_all rfl) ?_ | refine r_ixL (by assumption) (by with_unfolding_all rfl) ?_ | refine r_addI ?_ | refine r_intF ?_ | refine r_intCF (by first | decide | exact cmul_r (by decide) | exact cmul_l (by decide)) ?_ | refine r_eqI ?_ | refine r_neI ?_ | refine r_eqS ?_ | refine r_neS ?_ | refine r_eqB ?_ | refine r_neB ?_ | refine r_int ?_ | refine r_drop ?_ | refine r_sub ?_ | refine r_gTp (by with_unfolding_all rfl) ?_ | refine r_gsCons ?_ | refine r_gsNil ?_ | refine r_for ?_ | refine r_lc ?_ | refine r_dc ?_ | refine r_iRg1 ?_ | refine r_inT (by with_unfolding_all rfl) (by with_unfolding_all rfl) ?_)
    refine r_setL1 p2 (by with_unfolding_all rfl) fun S1 q1 o1 => ?_
    clear p2
    have oo := o0.trans o1
    (repeat with_reducible first | refine r_seq ?_ | refine r_asg ?_ | refine r_nm ?_ | refine r_var (by with_unfolding_all rfl) ?_ | refine r_c ?_ | refine r_aCons ?_ | refine r_aNil ?_ | refine r_op ?_ | refine r_call ?_ | refine r_val ?_ | refine r_bl ?_ | refine r_if ?_ | refine r_ret ?_ | refine r_next ?_ | refine r_ifT (by first | decide | (with_unfolding_all rfl)) ?_ | refine r_ifF (by first | decide | (with_unfolding_all rfl)) ?_ | refine r_tup ?_ | refine r_lst ?_ | refine r_le (Nat.le_of_ble_eq_true (by with_unfolding_all rfl)) ?_ | refine r_cb ?_ | refine r_and ?_ | refine r_or ?_ | refine r_not ?_ | refine r_eIf ?_ | refine r_eAnd ?_ | refine r_eOr ?_ | refine r_eNot ?_ | refine r_isN ?_ | refine r_mt ?_ | refine r_tr ?_ | refine r_ss ?_ | refine r_dict0 ?_ | refine r_yes ?_ | refine r_isi ?_ | refine r_ty (by with_unfolding_all rfl) ?_ | refine r_ixT (by with_unfolding_all rfl) ?_ | refine r_ixE (by with_unfolding_all rfl) (by with_unfolding_all rfl) ?_ | refine r_ixL (by assumption) (by with_unfolding_all rfl) ?_ | refine r_addI ?_ | refine r_intF ?_ | refine r_intCF (by first | decide | exact cmul_r (by decide) | exact cmul_l (by decide)) ?_ | refine r_eqI ?_ | refine r_neI ?_ | refine r_eqS ?_ | refine r_neS ?_ | refine r_eqB ?_ | refine r_neB ?_ | refine r_int ?_ | refine r_drop ?_ | refine r_sub ?_ | refine r_gTp (by with_unfolding_all rfl) ?_ | refine r_gsCons ?_ | refine r_gsNil ?_ | refine r_for ?_ | refine r_lc ?_ | refine r_dc ?_ | refine r_iRg1 ?_ | refine r_inT (by with_unfolding_all rfl) (by with_unfolding_all rfl) ?_)
    refine ite_b (fun hb => ?_) (fun hb => ?_)
    · (repeat with_reducible first | refine r_seq ?_ | refine r_asg ?_ | refine r_nm ?_ | refine r_var (by with_unfolding_all rfl) ?_ | refine r_c ?_ | refine r_aCons ?_ | refine r_aNil ?_ | refine r_op ?_ | refine r_call ?_ | refine r_val ?_ | refine r_bl ?_ | refine r_if ?_ | refine r_ret ?_ | refine r_next ?_ | refine r_ifT (by first | decide | (with_unfolding_all rfl)) ?_ | refine r_ifF (by first | decide | (with_unfolding_all rfl)) ?_ | refine r_tup ?_ | refine r_lst ?_ | refine r_le (Nat.le_of_ble_eq_true (by with_unfolding_all rfl)) ?_ | refine r_cb ?_ | refine r_and ?_ | refine r_or ?_ | refine r_not ?_ | refine r_eIf ?_ | refine r_eAnd ?_ | refine r_eOr ?_ | refine r_eNot ?_ | refine r_isN ?_ | refine r_mt ?_ | refine r_tr ?_ | refine r_ss ?_ | refine r_dict0 ?_ | refine r_yes ?_ | refine r_isi ?_ | refine r_ty (by with_unfolding_all rfl) ?_ | refine r_ixT (by with_unfolding_all rfl) ?_ | refine r_ixE (by with_unfolding_all rfl) (by with_unfolding_all rfl) ?_ | refine r_ixL (by assumption) (by with_unfolding_all rfl) ?_ | refine r_addI ?_ | refine r_intF ?_ | refine r_intCF (by first | decide | exact cmul_r (by decide) | exact cmul_l (by decide)) ?_ | refine r_eqI ?_ | refine r_neI ?_ | refine r_eqS ?_ | refine r_neS ?_ | refine r_eqB ?_ | refine r_neB ?_ | refine r_int ?_ | refine r_drop ?_ | refine r_sub ?_ | refine r_gTp (by with_unfolding_all rfl) ?_ | refine r_gsCons ?_ | refine r_gsNil ?_ | refine r_for ?_ | refine r_lc ?_ | refine r_dc ?_ | refine r_iRg1 ?_ | refine r_inT (by with_unfolding_all rfl) (by with_unfolding_all rfl) ?_)
      refine r_intCF ⟨by decide, by decide⟩ ?_
      (repeat with_reducible first | refine r_seq ?_ | refine r_asg ?_ | refine r_nm ?_ | refine r_var (by with_unfolding_all rfl) ?_ | refine r_c ?_ | refine r_aCons ?_ | refine r_aNil ?_ | refine r_op ?_ | refine r_call ?_ | refine r_val ?_ | refine r_bl ?_ | refine r_if ?_ | refine r_ret ?_ | refine r_next ?_ | refine r_ifT (by first | decide | (with_unfolding_all rfl)) ?_ | refine r_ifF (by first | decide | (with_unfolding_all rfl)) ?_ | refine r_tup ?_ | refine r_lst ?_ | refine r_le (Nat.le_of_ble_eq_true (by with_unfolding_all rfl)) ?_ | refine r_cb ?_ | refine r_and ?_ | refine r_or ?_ | refine r_not ?_ | refine r_eIf ?_ | refine r_eAnd ?_ | refine r_eOr ?_ | refine r_eNot ?_ | refine r_isN ?_ | refine r_mt ?_ | refine r_tr ?_ | refine r_ss ?_ | refine r_dict0 ?_ | refine r_yes ?_ | refine r_isi ?_ | refine r_ty (by with_unfolding_all rfl) ?_ | refine r_ixT (by with_unfolding_all rfl) ?_ | refine r_ixE (by with_unfolding_all rfl) (by with_unfolding_all rfl) ?_ | refine r_ixL (by assumption) (by with_unfolding_all rfl) ?_ | refine r_addI ?_ | refine r_intF ?_ | refine r_intCF (by first | decide | exact cmul_r (by decide) | exact cmul_l (by decide)) ?_ | refine r_eqI ?_ | refine r_neI ?_ | refine r_eqS ?_ | refine r_neS ?_ | refine r_eqB ?_ | refine r_neB ?_ | refine r_int ?_ | refine r_drop ?_ | refine r_sub ?_ | refine r_gTp (by with_unfolding_all rfl) ?_ | refine r_gsCons ?_ | refine r_gsNil ?_ | refine r_for ?_ | refine r_lc ?_ | refine r_dc ?_ | refine r_iRg1 ?_ | refine r_inT (by with_unfolding_all rfl) (by with_unfolding_all rfl) ?_)
      refine r_intCF h1 ?_
      exact h _ _ (Int.emod_nonneg _ (by omega)) (Int.emod_lt_of_pos _ h1) ⟨xs, _, _, _, _, p1, q1, (o1.off q p1).trans p3, p4⟩ oo
    · (repeat with_reducible first | refine r_seq ?_ | refine r_asg ?_ | refine r_nm ?_ | refine r_var (by with_unfolding_all rfl) ?_ | refine r_c ?_ | refine r_aCons ?_ | refine r_aNil ?_ | refine r_op ?_ | refine r_call ?_ | refine r_val ?_ | refine r_bl ?_ | refine r_if ?_ | refine r_ret ?_ | refine r_next ?_ | refine r_ifT (by first | decide | (with_unfolding_all rfl)) ?_ | refine r_ifF (by first | decide | (with_unfolding_all rfl)) ?_ | refine r_tup ?_ | refine r_lst ?_ | refine r_le (Nat.le_of_ble_eq_true (by with_unfolding_all rfl)) ?_ | refine r_cb ?_ | refine r_and ?_ | refine r_or ?_ | refine r_not ?_ | refine r_eIf ?_ | refine r_eAnd ?_ | refine r_eOr ?_ | refine r_eNot ?_ | refine r_isN ?_ | refine r_mt ?_ | refine r_tr ?_ | refine r_ss ?_ | refine r_dict0 ?_ | refine r_yes ?_ | refine r_isi ?_ | refine r_ty (by with_unfolding_all rfl) ?_ | refine r_ixT (by with_unfolding_all rfl) ?_ | refine r_ixE (by with_unfolding_all rfl) (by with_unfolding_all rfl) ?_ | refine r_ixL (by assumption) (by with_unfolding_all rfl) ?_ | refine r_addI ?_ | refine r_intF ?_ | refine r_intCF (by first | decide | exact cmul_r (by decide) | exact cmul_l (by decide)) ?_ | refine r_eqI ?_ | refine r_neI ?_ | refine r_eqS ?_ | refine r_neS ?_ | refine r_eqB ?_ | refine r_neB ?_ | refine r_int ?_ | refine r_drop ?_ | refine r_sub ?_ | refine r_gTp (by with_unfolding_all rfl) ?_ | refine r_gsCons ?_ | refine r_gsNil ?_ | refine r_for ?_ | refine r_lc ?_ | refine r_dc ?_ | refine r_iRg1 ?_ | refine r_inT (by with_unfolding_all rfl) (by with_unfolding_all rfl) ?_)
      refine r_intCF h1 ?_
      (repeat with_reducible first | refine r_seq ?_ | refine r_asg ?_ | refine r_nm ?_ | refine r_var (by with_unfolding_all rfl) ?_ | refine r_c ?_ | refine r_aCons ?_ | refine r_aNil ?_ | refine r_op ?_ | refine r_call ?_ | refine r_val ?_ | refine r_bl ?_ | refine r_if ?_ | refine r_ret ?_ | refine r_next ?_ | refine r_ifT (by first | decide | (with_unfolding_all rfl)) ?_ | refine r_ifF (by first | decide | (with_unfolding_all rfl)) ?_ | refine r_tup ?_ | refine r_lst ?_ | refine r_le (Nat.le_of_ble_eq_true (by with_unfolding_all rfl)) ?_ | refine r_cb ?_ | refine r_and ?_ | refine r_or ?_ | refine r_not ?_ | refine r_eIf ?_ | refine r_eAnd ?_ | refine r_eOr ?_ | refine r_eNot ?_ | refine r_isN ?_ | refine r_mt ?_ | refine r_tr ?_ | refine r_ss ?_ | refine r_dict0 ?_ | refine r_yes ?_ | refine r_isi ?_ | refine r_ty (by with_unfolding_all rfl) ?_ | refine r_ixT (by with_unfolding_all rfl) ?_ | refine r_ixE (by with_unfolding_all rfl) (by with_unfolding_all rfl) ?_ | refine r_ixL (by assumption) (by with_unfolding_all rfl) ?_ | refine r_addI ?_ | refine r_intF ?_ | refine r_intCF (by first | decide | exact cmul_r (by decide) | exact cmul_l (by decide)) ?_ | refine r_eqI ?_ | refine r_neI ?_ | refine r_eqS ?_ | refine r_neS ?_ | refine r_eqB ?_ | refine r_neB ?_ | refine r_int ?_ | refine r_drop ?_ | refine r_sub ?_ | refine r_gTp (by with_unfolding_all rfl) ?_ | refine r_gsCons ?_ | refine r_gsNil ?_ | refine r_for ?_ | refine r_lc ?_ | refine r_dc ?_ | refine r_iRg1 ?_ | refine r_inT (by with_unfolding_all rfl) (by with_unfolding_all rfl) ?_)
      refine r_intCF ⟨h1, h2⟩ ?_
      (repeat with_reducible first | refine r_seq ?_ | refine r_asg ?_ | refine r_nm ?_ | refine r_var (by with_unfolding_all rfl) ?_ | refine r_c ?_ | refine r_aCons ?_ | refine r_aNil ?_ | refine r_op ?_ | refine r_call ?_ | refine r_val ?_ | refine r_bl ?_ | refine r_if ?_ | refine r_ret ?_ | refine r_next ?_ | refine r_ifT (by first | decide | (with_unfolding_all rfl)) ?_ | refine r_ifF (by first | decide | (with_unfolding_all rfl)) ?_ | refine r_tup ?_ | refine r_lst ?_ | refine r_le (Nat.le_of_ble_eq_true (by with_unfolding_all rfl)) ?_ | refine r_cb ?_ | refine r_and ?_ | refine r_or ?_ | refine r_not ?_ | refine r_eIf ?_ | refine r_eAnd ?_ | refine r_eOr ?_ | refine r_eNot ?_ | refine r_isN ?_ | refine r_mt ?_ | refine r_tr ?_ | refine r_ss ?_ | refine r_dict0 ?_ | refine r_yes ?_ | refine r_isi ?_ | refine r_ty (by with_unfolding_all rfl) ?_ | refine r_ixT (by with_unfolding_all rfl) ?_ | refine r_ixE (by with_unfolding_all rfl) (by with_unfolding_all rfl) ?_ | refine r_ixL (by assumption) (by with_unfolding_all rfl) ?_ | refine r_addI ?_ | refine r_intF ?_ | refine r_intCF (by first | decide | exact cmul_r (by decide) | exact cmul_l (by decide)) ?_ | refine r_eqI ?_ | refine r_neI ?_ | refine r_eqS ?_ | refine r_neS ?_ | refine r_eqB ?_ | refine r_neB ?_ | refine r_int ?_ | refine r_drop ?_ | refine r_sub ?_ | refine r_gTp (by with_unfolding_all rfl) ?_ | refine r_gsCons ?_ | refine r_gsNil ?_ | refine r_for ?_ | refine r_lc ?_ | refine r_dc ?_ | refine r_iRg1 ?_ | refine r_inT (by with_unfolding_all rfl) (by with_unfolding_all rfl) ?_)
      refine r_setL1 q1 (by with_unfolding_all rfl) fun S2 q2 o2 => ?_
      (repeat with_reducible first | refine r_seq ?_ | refine r_asg ?_ | refine r_nm ?_ | refine r_var (by with_unfolding_all rfl) ?_ | refine r_c ?_ | refine r_aCons ?_ | refine r_aNil ?_ | refine r_op ?_ | refine r_call ?_ | refine r_val ?_ | refine r_bl ?_ | refine r_if ?_ | refine r_ret ?_ | refine r_next ?_ | refine r_ifT (by first | decide | (with_unfolding_all rfl)) ?_ | refine r_ifF (by first | decide | (with_unfolding_all rfl)) ?_ | refine r_tup ?_ | refine r_lst ?_ | refine r_le (Nat.le_of_ble_eq_true (by with_unfolding_all rfl)) ?_ | refine r_cb ?_ | refine r_and ?_ | refine r_or ?_ | refine r_not ?_ | refine r_eIf ?_ | refine r_eAnd ?_ | refine r_eOr ?_ | refine r_eNot ?_ | refine r_isN ?_ | refine r_mt ?_ | refine r_tr ?_ | refine r_ss ?_ | refine r_dict0 ?_ | refine r_yes ?_ | refine r_isi ?_ | refine r_ty (by with_unfolding_all rfl) ?_ | refine r_ixT (by with_unfolding_all rfl) ?_ | refine r_ixE (by with_unfolding_all rfl) (by with_unfolding_all rfl) ?_ | refine r_ixL (by assumption) (by with_unfolding_all rfl) ?_ | refine r_addI ?_ | refine r_intF ?_ | refine r_intCF (by first | decide | exact cmul_r (by decide) | exact cmul_l (by decide)) ?_ | refine r_eqI ?_ | refine r_neI ?_ | refine r_eqS ?_ | refine r_neS ?_ | refine r_eqB ?_ | refine r_neB ?_ | refine r_int ?_ | refine r_drop ?_ | refine r_sub ?_ | refine r_gTp (by with_unfolding_all rfl) ?_ | refine r_gsCons ?_ | refine r_gsNil ?_ | refine r_for ?_ | refine r_lc ?_ | refine r_dc ?_ | refine r_iRg1 ?_ | refine r_inT (by with_unfolding_all rfl) (by with_unfolding_all rfl) ?_)
      exact h _ _ (Int.emod_nonneg _ (by omega)) (Int.emod_lt_of_pos _ h1) ⟨xs, _, _, _, _, p1, q2, ((o1.trans o2).off q p1).trans p3, p4⟩ (oo.trans o2)
  (repeat with_reducible first | refine r_seq ?_ | refine r_asg ?_ | refine r_nm ?_ | refine r_var (by with_unfolding_all rfl) ?_ | refine r_c ?_ | refine r_aCons ?_ | refine r_aNil ?_ | refine r_op ?_ | refine r_call ?_ | refine r_val ?_ | refine r_bl ?_ | refine r_if ?_ | refine r_ret ?_ | refine r_next ?_ | refine r_ifT (by first | decide | (with_unfolding_all rfl)) ?_ | refine r_ifF (by first | decide | (with_unfolding_all rfl)) ?_ | refine r_tup ?_ | refine r_lst ?_ | refine r_le (Nat.le_of_ble_eq_true (by with_unfolding_all rfl)) ?_ | refine r_cb ?_ | refine r_and ?_ | refine r_or ?_ | refine r_not ?_ | refine r_eIf ?_ | refine r_eAnd ?_ | refine r_eOr ?_ | refine r_eNot ?_ | refine r_isN ?_ | refine r_mt ?_ | refine r_tr ?_ | refine r_ss ?_ | refine r_dict0 ?_ | refine r_yes ?_ | refine r_isi ?_ | refine r_ty (by with_unfolding_all rfl) ?_ | refine r_ixT (by with_unfolding_all rfl) ?_ | refine r_ixE (by with_unfolding_all rfl) (by with_unfolding_all rfl) ?_ | refine r_ixL (by assumption) (by with_unfolding_all rfl) ?_ | refine r_addI ?_ | refine r_intF ?_ | refine r_intCF (by first | decide | exact cmul_r (by decide) | exact cmul_l (by decide)) ?_ | refine r_eqI ?_ | refine r_neI ?_ | refine r_eqS ?_ | refine r_neS ?_ | refine r_eqB ?_ | refine r_neB ?_ | refine r_int ?_ | refine r_drop ?_ | refine r_sub ?_ | refine r_gTp (by with_unfolding_all rfl) ?_ | refine r_gsCons ?_ | refine r_gsNil ?_ | refine r_for ?_ | refine r_lc ?_ | refine r_dc ?_ | refine r_iRg1 ?_ | refine r_inT (by with_unfolding_all rfl) (by with_unfolding_all rfl) ?_)
  refine ite_b (fun hb => ?_) (fun hb => ?_)
  · (repeat with_reducible first | refine r_seq ?_ | refine r_asg ?_ | refine r_nm ?_ | refine r_var (by with_unfolding_all rfl) ?_ | refine r_c ?_ | refine r_aCons ?_ | refine r_aNil ?_ | refine r_op ?_ | refine r_call ?_ | refine r_val ?_ | refine r_bl ?_ | refine r_if ?_ | refine r_ret ?_ | refine r_next ?_ | refine r_ifT (by first | decide | (with_unfolding_all rfl)) ?_ | refine r_ifF (by first | decide | (with_unfolding_all rfl)) ?_ | refine r_tup ?_ | refine r_lst ?_ | refine r_le (Nat.le_of_ble_eq_true (by with_unfolding_all rfl)) ?_ | refine r_cb ?_ | refine r_and ?_ | refine r_or ?_ | refine r_not ?_ | refine r_eIf ?_ | refine r_eAnd ?_ | refine r_eOr ?_ | refine r_eNot ?_ | refine r_isN ?_ | refine r_mt ?_ | refine r_tr ?_ | refine r_ss ?_ | refine r_dict0 ?_ | refine r_yes ?_ | refine r_isi ?_ | refine r_ty (by with_unfolding_all rfl) ?_ | refine r_ixT (by with_unfolding_all rfl) ?_ | refine r_ixE (by with_unfolding_all rfl) (by with_unfolding_all rfl) ?_ | refine r_ixL (by assumption) (by with_unfolding_all rfl) ?_ | refine r_addI ?_ | refine r_intF ?_ | refine r_intCF (by first | decide | exact cmul_r (by decide) | exact cmul_l (by decide)) ?_ | refine r_eqI ?_ | refine r_neI ?_ | refine r_eqS ?_ | refine r_neS ?_ | refine r_eqB ?_ | refine r_neB ?_ | refine r_int ?_ | refine r_drop ?_ | refine r_sub ?_ | refine r_gTp (by with_unfolding_all rfl) ?_ | refine r_gsCons ?_ | refine r_gsNil ?_ | refine r_for ?_ | refine r_lc ?_ | refine r_dc ?_ | refine r_iRg1 ?_ | refine r_inT (by with_unfolding_all rfl) (by with_unfolding_all rfl) ?_)
    refine r_len (by show seqC S[q]? = _; rw [p3]; rfl) ?_
    (repeat with_reducible first | refine r_seq ?_ | refine r_asg ?_ | refine r_nm ?_ | refine r_var (by with_unfolding_all rfl) ?_ | refine r_c ?_ | refine r_aCons ?_ | refine r_aNil ?_ | refine r_op ?_ | refine r_call ?_ | refine r_val ?_ | refine r_bl ?_ | refine r_if ?_ | refine r_ret ?_ | refine r_next ?_ | refine r_ifT (by first | decide | (with_unfolding_all rfl)) ?_ | refine r_ifF (by first | decide | (with_unfolding_all rfl)) ?_ | refine r_tup ?_ | refine r_lst ?_ | refine r_le (Nat.le_of_ble_eq_true (by with_unfolding_all rfl)) ?_ | refine r_cb ?_ | refine r_and ?_ | refine r_or ?_ | refine r_not ?_ | refine r_eIf ?_ | refine r_eAnd ?_ | refine r_eOr ?_ | refine r_eNot ?_ | refine r_isN ?_ | refine r_mt ?_ | refine r_tr ?_ | refine r_ss ?_ | refine r_dict0 ?_ | refine r_yes ?_ | refine r_isi ?_ | refine r_ty (by with_unfolding_all rfl) ?_ | refine r_ixT (by with_unfolding_all rfl) ?_ | refine r_ixE (by with_unfolding_all rfl) (by with_unfolding_all rfl) ?_ | refine r_ixL (by assumption) (by with_unfolding_all rfl) ?_ | refine r_addI ?_ | refine r_intF ?_ | refine r_intCF (by first | decide | exact cmul_r (by decide) | exact cmul_l (by decide)) ?_ | refine r_eqI ?_ | refine r_neI ?_ | refine r_eqS ?_ | refine r_neS ?_ | refine r_eqB ?_ | refine r_neB ?_ | refine r_int ?_ | refine r_drop ?_ | refine r_sub ?_ | refine r_gTp (by with_unfolding_all rfl) ?_ | refine r_gsCons ?_ | refine r_gsNil ?_ | refine r_for ?_ | refine r_lc ?_ | refine r_dc ?_ | refine r_iRg1 ?_ | refine r_inT (by with_unfolding_all rfl) (by with_unfolding_all rfl) ?_)
    refine ite_b (fun ha => ?_) (fun ha => ?_)
    · have ha : a < xs.length := by
        rw [List.length_map] at ha
        have := of_decide_eq_true ha
        omega
      (repeat with_reducible first | refine r_seq ?_ | refine r_asg ?_ | refine r_nm ?_ | refine r_var (by with_unfolding_all rfl) ?_ | refine r_c ?_ | refine r_aCons ?_ | refine r_aNil ?_ | refine r_op ?_ | refine r_call ?_ | refine r_val ?_ | refine r_bl ?_ | refine r_if ?_ | refine r_ret ?_ | refine r_next ?_ | refine r_ifT (by first | decide | (with_unfolding_all rfl)) ?_ | refine r_ifF (by first | decide | (with_unfolding_all rfl)) ?_ | refine r_tup ?_ | refine r_lst ?_ | refine r_le (Nat.le_of_ble_eq_true (by with_unfolding_all rfl)) ?_ | refine r_cb ?_ | refine r_and ?_ | refine r_or ?_ | refine r_not ?_ | refine r_eIf ?_ | refine r_eAnd ?_ | refine r_eOr ?_ | refine r_eNot ?_ | refine r_isN ?_ | refine r_mt ?_ | refine r_tr ?_ | refine r_ss ?_ | refine r_dict0 ?_ | refine r_yes ?_ | refine r_isi ?_ | refine r_ty (by with_unfolding_all rfl) ?_ | refine r_ixT (by with_unfolding_all rfl) ?_ | refine r_ixE (by with_unfolding_all rfl) (by with_unfolding_all rfl) ?_ | refine r_ixL (by assumption) (by with_unfolding_all rfl) ?_ | refine r_addI ?_ | refine r_intF ?_ | refine r_intCF (by first | decide | exact cmul_r (by decide) | exact cmul_l (by decide)) ?_ | refine r_eqI ?_ | refine r_neI ?_ | refine r_eqS ?_ | refine r_neS ?_ | refine r_eqB ?_ | refine r_neB ?_ | refine r_int ?_ | refine r_drop ?_ | refine r_sub ?_ | refine r_gTp (by with_unfolding_all rfl) ?_ | refine r_gsCons ?_ | refine r_gsNil ?_ | refine r_for ?_ | refine r_lc ?_ | refine r_dc ?_ | refine r_iRg1 ?_ | refine r_inT (by with_unfolding_all rfl) (by with_unfolding_all rfl) ?_)
      refine r_ixL p3 (atI_int ha) ?_
      (repeat with_reducible first | refine r_seq ?_ | refine r_asg ?_ | refine r_nm ?_ | refine r_var (by with_unfolding_all rfl) ?_ | refine r_c ?_ | refine r_aCons ?_ | refine r_aNil ?_ | refine r_op ?_ | refine r_call ?_ | refine r_val ?_ | refine r_bl ?_ | refine r_if ?_ | refine r_ret ?_ | refine r_next ?_ | refine r_ifT (by first | decide | (with_unfolding_all rfl)) ?_ | refine r_ifF (by first | decide | (with_unfolding_all rfl)) ?_ | refine r_tup ?_ | refine r_lst ?_ | refine r_le (Nat.le_of_ble_eq_true (by with_unfolding_all rfl)) ?_ | refine r_cb ?_ | refine r_and ?_ | refine r_or ?_ | refine r_not ?_ | refine r_eIf ?_ | refine r_eAnd ?_ | refine r_eOr ?_ | refine r_eNot ?_ | refine r_isN ?_ | refine r_mt ?_ | refine r_tr ?_ | refine r_ss ?_ | refine r_dict0 ?_ | refine r_yes ?_ | refine r_isi ?_ | refine r_ty (by with_unfolding_all rfl) ?_ | refine r_ixT (by with_unfolding_all rfl) ?_ | refine r_ixE (by with_unfolding_all rfl) (by with_unfolding_all rfl) ?_ | refine r_ixL (by assumption) (by with_unfolding_all rfl) ?_ | refine r_addI ?_ | refine r_intF ?_ | refine r_intCF (by first | decide | exact cmul_r (by decide) | exact cmul_l (by decide)) ?_ | refine r_eqI ?_ | refine r_neI ?_ | refine r_eqS ?_ | refine r_neS ?_ | refine r_eqB ?_ | refine r_neB ?_ | refine r_int ?_ | refine r_drop ?_ | refine r_sub ?_ | refine r_gTp (by with_unfolding_all rfl) ?_ | refine r_gsCons ?_ | refine r_gsNil ?_ | refine r_for ?_ | refine r_lc ?_ | refine r_dc ?_ | refine r_iRg1 ?_ | refine r_inT (by with_unfolding_all rfl) (by with_unfolding_all rfl) ?_)
      refine r_setL1 p2 (by with_unfolding_all rfl) fun S1 q1 o1 => ?_
      clear p2
      (repeat with_reducible first | refine r_seq ?_ | refine r_asg ?_ | refine r_nm ?_ | refine r_var (by with_unfolding_all rfl) ?_ | refine r_c ?_ | refine r_aCons ?_ | refine r_aNil ?_ | refine r_op ?_ | refine r_call ?_ | refine r_val ?_ | refine r_bl ?_ | refine r_if ?_ | refine r_ret ?_ | refine r_next ?_ | refine r_ifT (by first | decide | (with_unfolding_all rfl)) ?_ | refine r_ifF (by first | decide | (with_unfolding_all rfl)) ?_ | refine r_tup ?_ | refine r_lst ?_ | refine r_le (Nat.le_of_ble_eq_true (by with_unfolding_all rfl)) ?_ | refine r_cb ?_ | refine r_and ?_ | refine r_or ?_ | refine r_not ?_ | refine r_eIf ?_ | refine r_eAnd ?_ | refine r_eOr ?_ | refine r_eNot ?_ | refine r_isN ?_ | refine r_mt ?_ | refine r_tr ?_ | refine r_ss ?_ | refine r_dict0 ?_ | refine r_yes ?_ | refine r_isi ?_ | refine r_ty (by with_unfolding_all rfl) ?_ | refine r_ixT (by with_unfolding_all rfl) ?_ | refine r_ixE (by with_unfolding_all rfl) (by with_unfolding_all rfl) ?_ | refine r_ixL (by assumption) (by with_unfolding_all rfl) ?_ | refine r_addI ?_ | refine r_intF ?_ | refine r_intCF (by first | decide | exact cmul_r (by decide) | exact cmul_l (by decide)) ?_ | refine r_eqI ?_ | refine r_neI ?_ | refine r_eqS ?_ | refine r_neS ?_ | refine r_eqB ?_ | refine r_neB ?_ | refine r_int ?_ | refine r_drop ?_ | refine r_sub ?_ | refine r_gTp (by with_unfolding_all rfl) ?_ | refine r_gsCons ?_ | refine r_gsNil ?_ | refine r_for ?_ | refine r_lc ?_ | refine r_dc ?_ | refine r_iRg1 ?_ | refine r_inT (by with_unfolding_all rfl) (by with_unfolding_all rfl) ?_)
      refine r_setL1 q1 (by with_unfolding_all rfl) fun S2 q2 o2 => ?_
      clear q1
      (repeat with_reducible first | refine r_seq ?_ | refine r_asg ?_ | refine r_nm ?_ | refine r_var (by with_unfolding_all rfl) ?_ | refine r_c ?_ | refine r_aCons ?_ | refine r_aNil ?_ | refine r_op ?_ | refine r_call ?_ | refine r_val ?_ | refine r_bl ?_ | refine r_if ?_ | refine r_ret ?_ | refine r_next ?_ | refine r_ifT (by first | decide | (with_unfolding_all rfl)) ?_ | refine r_ifF (by first | decide | (with_unfolding_all rfl)) ?_ | refine r_tup ?_ | refine r_lst ?_ | refine r_le (Nat.le_of_ble_eq_true (by with_unfolding_all rfl)) ?_ | refine r_cb ?_ | refine r_and ?_ | refine r_or ?_ | refine r_not ?_ | refine r_eIf ?_ | refine r_eAnd ?_ | refine r_eOr ?_ | refine r_eNot ?_ | refine r_isN ?_ | refine r_mt ?_ | refine r_tr ?_ | refine r_ss ?_ | refine r_dict0 ?_ | refine r_yes ?_ | refine r_isi ?_ | refine r_ty (by with_unfolding_all rfl) ?_ | refine r_ixT (by with_unfolding_all rfl) ?_ | refine r_ixE (by with_unfolding_all rfl) (by with_unfolding_all rfl) ?_ | refine r_ixL (by assumption) (by with_unfolding_all rfl) ?_ | refine r_addI ?_ | refine r_intF ?_ | refine r_intCF (by first | decide | exact cmul_r (by decide) | exact cmul_l (by decide)) ?_ | refine r_eqI ?_ | refine r_neI ?_ | refine r_eqS ?_ | refine r_neS ?_ | refine r_eqB ?_ | refine r_neB ?_ | refine r_int ?_ | refine r_drop ?_ | refine r_sub ?_ | refine r_gTp (by with_unfolding_all rfl) ?_ | refine r_gsCons ?_ | refine r_gsNil ?_ | refine r_for ?_ | refine r_lc ?_ | refine r_dc ?_ | refine r_iRg1 ?_ | refine r_inT (by with_unfolding_all rfl) (by with_unfolding_all rfl) ?_)
      have o3 := o1.trans o2
      refine ite_b (fun hb => ?_) (fun hb => ?_)
      · (repeat with_reducible first | refine r_seq ?_ | refine r_asg ?_ | refine r_nm ?_ | refine r_var (by with_unfolding_all rfl) ?_ | refine r_c ?_ | refine r_aCons ?_ | refine r_aNil ?_ | refine r_op ?_ | refine r_call ?_ | refine r_val ?_ | refine r_bl ?_ | refine r_if ?_ | refine r_ret ?_ | refine r_next ?_ | refine r_ifT (by first | decide | (with_unfolding_all rfl)) ?_ | refine r_ifF (by first | decide | (with_unfolding_all rfl)) ?_ | refine r_tup ?_ | refine r_lst ?_ | refine r_le (Nat.le_of_ble_eq_true (by with_unfolding_all rfl)) ?_ | refine r_cb ?_ | refine r_and ?_ | refine r_or ?_ | refine r_not ?_ | refine r_eIf ?_ | refine r_eAnd ?_ | refine r_eOr ?_ | refine r_eNot ?_ | refine r_isN ?_ | refine r_mt ?_ | refine r_tr ?_ | refine r_ss ?_ | refine r_dict0 ?_ | refine r_yes ?_ | refine r_isi ?_ | refine r_ty (by with_unfolding_all rfl) ?_ | refine r_ixT (by with_unfolding_all rfl) ?_ | refine r_ixE (by with_unfolding_all rfl) (by with_unfolding_all rfl) ?_ | refine r_ixL (by assumption) (by with_unfolding_all rfl) ?_ | refine r_addI ?_ | refine r_intF ?_ | refine r_intCF (by first | decide | exact cmul_r (by decide) | exact cmul_l (by decide)) ?_ | refine r_eqI ?_ | refine r_neI ?_ | refine r_eqS ?_ | refine r_neS ?_ | refine r_eqB ?_ | refine r_neB ?_ | refine r_int ?_ | refine r_drop ?_ | refine r_sub ?_ | refine r_gTp (by with_unfolding_all rfl) ?_ | refine r_gsCons ?_ | refine r_gsNil ?_ | refine r_for ?_ | refine r_lc ?_ | refine r_dc ?_ | refine r_iRg1 ?_ | refine r_inT (by with_unfolding_all rfl) (by with_unfolding_all rfl) ?_)
        refine spread_spec fun z => ?_
        (repeat with_reducible first | refine r_seq ?_ | refine r_asg ?_ | refine r_nm ?_ | refine r_var (by with_unfolding_all rfl) ?_ | refine r_c ?_ | refine r_aCons ?_ | refine r_aNil ?_ | refine r_op ?_ | refine r_call ?_ | refine r_val ?_ | refine r_bl ?_ | refine r_if ?_ | refine r_ret ?_ | refine r_next ?_ | refine r_ifT (by first | decide | (with_unfolding_all rfl)) ?_ | refine r_ifF (by first | decide | (with_unfolding_all rfl)) ?_ | refine r_tup ?_ | refine r_lst ?_ | refine r_le (Nat.le_of_ble_eq_true (by with_unfolding_all rfl)) ?_ | refine r_cb ?_ | refine r_and ?_ | refine r_or ?_ | refine r_not ?_ | refine r_eIf ?_ | refine r_eAnd ?_ | refine r_eOr ?_ | refine r_eNot ?_ | refine r_isN ?_ | refine r_mt ?_ | refine r_tr ?_ | refine r_ss ?_ | refine r_dict0 ?_ | refine r_yes ?_ | refine r_isi ?_ | refine r_ty (by with_unfolding_all rfl) ?_ | refine r_ixT (by with_unfolding_all rfl) ?_ | refine r_ixE (by with_unfolding_all rfl) (by with_unfolding_all rfl) ?_ | refine r_ixL (by assumption) (by with_unfolding_all rfl) ?_ | refine r_addI ?_ | refine r_intF ?_ | refine r_intCF (by first | decide | exact cmul_r (by decide) | exact cmul_l (by decide)) ?_ | refine r_eqI ?_ | refine r_neI ?_ | refine r_eqS ?_ | refine r_neS ?_ | refine r_eqB ?_ | refine r_neB ?_ | refine r_int ?_ | refine r_drop ?_ | refine r_sub ?_ | refine r_gTp (by with_unfolding_all rfl) ?_ | refine r_gsCons ?_ | refine r_gsNil ?_ | refine r_for ?_ | refine r_lc ?_ | refine r_dc ?_ | refine r_iRg1 ?_ | refine r_inT (by with_unfolding_all rfl) (by with_unfolding_all rfl) ?_)
        refine r_setL1 q2 (by with_unfolding_all rfl) fun S3 q3 o3 => ?_
        have oo := (o1.trans o2).trans o3
        exact hT _ _ ⟨a + 1, _, _, _, _, _, _, rfl, ⟨p1, q3, (oo.off q p1).trans p3, p4⟩, oo⟩
      · (repeat with_reducible first | refine r_seq ?_ | refine r_asg ?_ | refine r_nm ?_ | refine r_var (by with_unfolding_all rfl) ?_ | refine r_c ?_ | refine r_aCons ?_ | refine r_aNil ?_ | refine r_op ?_ | refine r_call ?_ | refine r_val ?_ | refine r_bl ?_ | refine r_if ?_ | refine r_ret ?_ | refine r_next ?_ | refine r_ifT (by first | decide | (with_unfolding_all rfl)) ?_ | refine r_ifF (by first | decide | (with_unfolding_all rfl)) ?_ | refine r_tup ?_ | refine r_lst ?_ | refine r_le (Nat.le_of_ble_eq_true (by with_unfolding_all rfl)) ?_ | refine r_cb ?_ | refine r_and ?_ | refine r_or ?_ | refine r_not ?_ | refine r_eIf ?_ | refine r_eAnd ?_ | refine r_eOr ?_ | refine r_eNot ?_ | refine r_isN ?_ | refine r_mt ?_ | refine r_tr ?_ | refine r_ss ?_ | refine r_dict0 ?_ | refine r_yes ?_ | refine r_isi ?_ | refine r_ty (by with_unfolding_all rfl) ?_ | refine r_ixT (by with_unfolding_all rfl) ?_ | refine r_ixE (by with_unfolding_all rfl) (by with_unfolding_all rfl) ?_ | refine r_ixL (by assumption) (by with_unfolding_all rfl) ?_ | refine r_addI ?_ | refine r_intF ?_ | refine r_intCF (by first | decide | exact cmul_r (by decide) | exact cmul_l (by decide)) ?_ | refine r_eqI ?_ | refine r_neI ?_ | refine r_eqS ?_ | refine r_neS ?_ | refine r_eqB ?_ | refine r_neB ?_ | refine r_int ?_ | refine r_drop ?_ | refine r_sub ?_ | refine r_gTp (by with_unfolding_all rfl) ?_ | refine r_gsCons ?_ | refine r_gsNil ?_ | refine r_for ?_ | refine r_lc ?_ | refine r_dc ?_ | refine r_iRg1 ?_ | refine r_inT (by with_unfolding_all rfl) (by with_unfolding_all rfl) ?_)
        exact hT _ _ ⟨a + 1, _, _, _, _, _, _, rfl, ⟨p1, q2, (o3.off q p1).trans p3, p4⟩, o3⟩
    · (repeat with_reducible first | refine r_seq ?_ | refine r_asg ?_ | refine r_nm ?_ | refine r_var (by with_unfolding_all rfl) ?_ | refine r_c ?_ | refine r_aCons ?_ | refine r_aNil ?_ | refine r_op ?_ | refine r_call ?_ | refine r_val ?_ | refine r_bl ?_ | refine r_if ?_ | refine r_ret ?_ | refine r_next ?_ | refine r_ifT (by first | decide | (with_unfolding_all rfl)) ?_ | refine r_ifF (by first | decide | (with_unfolding_all rfl)) ?_ | refine r_tup ?_ | refine r_lst ?_ | refine r_le (Nat.le_of_ble_eq_true (by with_unfolding_all rfl)) ?_ | refine r_cb ?_ | refine r_and ?_ | refine r_or ?_ | refine r_not ?_ | refine r_eIf ?_ | refine r_eAnd ?_ | refine r_eOr ?_ | refine r_eNot ?_ | refine r_isN ?_ | refine r_mt ?_ | refine r_tr ?_ | refine r_ss ?_ | refine r_dict0 ?_ | refine r_yes ?_ | refine r_isi ?_ | refine r_ty (by with_unfolding_all rfl) ?_ | refine r_ixT (by with_unfolding_all rfl) ?_ | refine r_ixE (by with_unfolding_all rfl) (by with_unfolding_all rfl) ?_ | refine r_ixL (by assumption) (by with_unfolding_all rfl) ?_ | refine r_addI ?_ | refine r_intF ?_ | refine r_intCF (by first | decide | exact cmul_r (by decide) | exact cmul_l (by decide)) ?_ | refine r_eqI ?_ | refine r_neI ?_ | refine r_eqS ?_ | refine r_neS ?_ | refine r_eqB ?_ | refine r_neB ?_ | refine r_int ?_ | refine r_drop ?_ | refine r_sub ?_ | refine r_gTp (by with_unfolding_all rfl) ?_ | refine r_gsCons ?_ | refine r_gsNil ?_ | refine r_for ?_ | refine r_lc ?_ | refine r_dc ?_ | refine r_iRg1 ?_ | refine r_inT (by with_unfolding_all rfl) (by with_unfolding_all rfl) ?_)
      exact hT _ _ ⟨_, _, _, _, _, _, _, rfl, ⟨p1, p2, p3, p4⟩, rfl, fun _ _ => rfl⟩
  · (repeat with_reducible first | refine r_seq ?_ | refine r_asg ?_ | refine r_nm ?_ | refine r_var (by with_unfolding_all rfl) ?_ | refine r_c ?_ | refine r_aCons ?_ | refine r_aNil ?_ | refine r_op ?_ | refine r_call ?_ | refine r_val ?_ | refine r_bl ?_ | refine r_if ?_ | refine r_ret ?_ | refine r_next ?_ | refine r_ifT (by first | decide | (with_unfolding_all rfl)) ?_ | refine r_ifF (by first | decide | (with_unfolding_all rfl)) ?_ | refine r_tup ?_ | refine r_lst ?_ | refine r_le (Nat.le_of_ble_eq_true (by with_unfolding_all rfl)) ?_ | refine r_cb ?_ | refine r_and ?_ | refine r_or ?_ | refine r_not ?_ | refine r_eIf ?_ | refine r_eAnd ?_ | refine r_eOr ?_ | refine r_eNot ?_ | refine r_isN ?_ | refine r_mt ?_ | refine r_tr ?_ | refine r_ss ?_ | refine r_dict0 ?_ | refine r_yes ?_ | refine r_isi ?_ | refine r_ty (by with_unfolding_all rfl) ?_ | refine r_ixT (by with_unfolding_all rfl) ?_ | refine r_ixE (by with_unfolding_all rfl) (by with_unfolding_all rfl) ?_ | refine r_ixL (by assumption) (by with_unfolding_all rfl) ?_ | refine r_addI ?_ | refine r_intF ?_ | refine r_intCF (by first | decide | exact cmul_r (by decide) | exact cmul_l (by decide)) ?_ | refine r_eqI ?_ | refine r_neI ?_ | refine r_eqS ?_ | refine r_neS ?_ | refine r_eqB ?_ | refine r_neB ?_ | refine r_int ?_ | refine r_drop ?_ | refine r_sub ?_ | refine r_gTp (by with_unfolding_all rfl) ?_ | refine r_gsCons ?_ | refine r_gsNil ?_ | refine r_for ?_ | refine r_lc ?_ | refine r_dc ?_ | refine r_iRg1 ?_ | refine r_inT (by with_unfolding_all rfl) (by with_unfolding_all rfl) ?_)
    exact hT _ _ ⟨_, _, _, _, _, _, _, rfl, ⟨p1, p2, p3, p4⟩, rfl, fun _ _ => rfl⟩
theorem pool_spec {ns : List Int} {S : Store} {Q : PD} (hn : ns.length ≤ 63) (h : ∀ S' p q, PoolOk p q S' → Ext S S' → S.length ≤ p → S.length ≤ q → Q (.ref p) S') : F__law_pool [.frz (ns.map .int)] S Q := by
  refine r_fn rfl ?_
  unfold b__law_pool
  (repeat with_reducible first | refine r_seq ?_ | refine r_asg ?_ | refine r_nm ?_ | refine r_var (by with_unfolding_all rfl) ?_ | refine r_c ?_ | refine r_aCons ?_ | refine r_aNil ?_ | refine r_op ?_ | refine r_call ?_ | refine r_val ?_ | refine r_bl ?_ | refine r_if ?_ | refine r_ret ?_ | refine r_next ?_ | refine r_ifT (by first | decide | (with_unfolding_all rfl)) ?_ | refine r_ifF (by first | decide | (with_unfolding_all rfl)) ?_ | refine r_tup ?_ | refine r_lst ?_ | refine r_le (Nat.le_of_ble_eq_true (by with_unfolding_all rfl)) ?_ | refine r_cb ?_ | refine r_and ?_ | refine r_or ?_ | refine r_not ?_ | refine r_eIf ?_ | refine r_eAnd ?_ | refine r_eOr ?_ | refine r_eNot ?_ | refine r_isN ?_ | refine r_mt ?_ | refine r_tr ?_ | refine r_ss ?_ | refine r_dict0 ?_ | refine r_yes ?_ | refine r_isi ?_ | refine r_ty (by with_unfolding_all rfl) ?_ | refine r_ixT (by with_unfolding_all rfl) ?_ | refine r_ixE (by with_unfolding_all rfl) (by with_unfolding_all rfl) ?_ | refine r_ixL (by assumption) (by with_unfolding_all rfl) ?_ | refine r_addI ?_ | refine r_intF ?_ | refine r_intCF (by first | decide | exact cmul_r (by decide) | exact cmul_l (by decide)) ?_ | refine r_eqI ?_ | refine r_neI ?_ | refine r_eqS ?_ | refine r_neS ?_ | refine r_eqB ?_ | refine r_neB ?_ | refine r_int ?_ | refine r_drop ?_ | refine r_sub ?_ | refine r_gTp (by with_unfolding_all rfl) ?_ | refine r_gsCons ?_ | refine r_gsNil ?_ | refine r_for ?_ | refine r_lc ?_ | refine r_dc ?_ | refine r_iRg1 ?_ | refine r_inT (by with_unfolding_all rfl) (by with_unfolding_all rfl) ?_)
  refine r_iLst ?_
  have cut : ∀ o, ∃ ks : List Int, cutD (ns.map D.int) none o = ks.map .int := fun o => by
    unfold cutD
    exact ⟨(ns.drop _).take _, by rw [List.map_take, List.map_drop]⟩
  refine ⟨_, rfl, 63, rfl, .inr (.inl ⟨_, rfl, ?_⟩)⟩
  obtain ⟨ks, hk⟩ := cut (some 63)
  rw [hk]
  refine .inr ⟨_, _, rfl, new_at S _, ?_⟩
  refine for_inv (fun _ σ S' => S' = S ++ [.lst (ks.map .int)] ∧ ∃ (a : Int) (s : Option D), σ = [some (.frz (ns.map .int)), some (.int a), s]) ⟨rfl, _, _, rfl⟩ ?_ ?_
  · rintro i x σ S1 R hx ⟨rfl, a, s, rfl⟩ hR
    have : ∃ j : Int, x = .int j := by
      rw [List.getElem?_map] at hx
      cases e : ks[i]? with
      | none => rw [e] at hx; cases hx
      | some j => rw [e] at hx; cases hx; exact ⟨_, rfl⟩
    obtain ⟨j, rfl⟩ := this
    refine ⟨new_at S _, ?_⟩
    (repeat with_reducible first | refine r_seq ?_ | refine r_asg ?_ | refine r_nm ?_ | refine r_var (by with_unfolding_all rfl) ?_ | refine r_c ?_ | refine r_aCons ?_ | refine r_aNil ?_ | refine r_op ?_ | refine r_call ?_ | refine r_val ?_ | refine r_bl ?_ | refine r_if ?_ | refine r_ret ?_ | refine r_next ?_ | refine r_ifT (by first | decide | (with_unfolding_all rfl)) ?_ | refine r_ifF (by first | decide | (with_unfolding_all rfl)) ?_ | refine r_tup ?_ | refine r_lst ?_ | refine r_le (Nat.le_of_ble_eq_true (by with_unfolding_all rfl)) ?_ | refine r_cb ?_ | refine r_and ?_ | refine r_or ?_ | refine r_not ?_ | refine r_eIf ?_ | refine r_eAnd ?_ | refine r_eOr ?_ | refine r_eNot ?_ | refine r_isN ?_ | refine r_mt ?_ | refine r_tr ?_ | refine r_ss ?_ | refine r_dict0 ?_ | refine r_yes ?_ | refine r_isi ?_ | refine r_ty (by with_unfolding_all rfl) ?_ | refine r_ixT (by with_unfolding_all rfl) ?_ | refine r_ixE (by with_unfolding_all rfl) (by with_unfolding_all rfl) ?_ | refine r_ixL (by assumption) (by with_unfolding_all rfl) ?_ | refine r_addI ?_ | refine r_intF ?_ | refine r_intCF (by first | decide | exact cmul_r (by decide) | exact cmul_l (by decide)) ?_ | refine r_eqI ?_ | refine r_neI ?_ | refine r_eqS ?_ | refine r_neS ?_ | refine r_eqB ?_ | refine r_neB ?_ | refine r_int ?_ | refine r_drop ?_ | refine r_sub ?_ | refine r_gTp (by with_unfolding_all rfl) ?_ | refine r_gsCons ?_ | refine r_gsNil ?_ | refine r_for ?_ | refine r_lc ?_ | refine r_dc ?_ | refine r_iRg1 ?_ | refine r_inT (by with_unfolding_all rfl) (by with_unfolding_all rfl) ?_)
    exact hR _ _ ⟨rfl, _, _, rfl⟩
  · rintro σ S1 ⟨rfl, a, s, rfl⟩
    refine ⟨new_at S _, ?_⟩
    (repeat with_reducible first | refine r_seq ?_ | refine r_asg ?_ | refine r_nm ?_ | refine r_var (by with_unfolding_all rfl) ?_ | refine r_c ?_ | refine r_aCons ?_ | refine r_aNil ?_ | refine r_op ?_ | refine r_call ?_ | refine r_val ?_ | refine r_bl ?_ | refine r_if ?_ | refine r_ret ?_ | refine r_next ?_ | refine r_ifT (by first | decide | (with_unfolding_all rfl)) ?_ | refine r_ifF (by first | decide | (with_unfolding_all rfl)) ?_ | refine r_tup ?_ | refine r_lst ?_ | refine r_le (Nat.le_of_ble_eq_true (by with_unfolding_all rfl)) ?_ | refine r_cb ?_ | refine r_and ?_ | refine r_or ?_ | refine r_not ?_ | refine r_eIf ?_ | refine r_eAnd ?_ | refine r_eOr ?_ | refine r_eNot ?_ | refine r_isN ?_ | refine r_mt ?_ | refine r_tr ?_ | refine r_ss ?_ | refine r_dict0 ?_ | refine r_yes ?_ | refine r_isi ?_ | refine r_ty (by with_unfolding_all rfl) ?_ | refine r_ixT (by with_unfolding_all rfl) ?_ | refine r_ixE (by with_unfolding_all rfl) (by with_unfolding_all rfl) ?_ | refine r_ixL (by assumption) (by with_unfolding_all rfl) ?_ | refine r_addI ?_ | refine r_intF ?_ | refine r_intCF (by first | decide | exact cmul_r (by decide) | exact cmul_l (by decide)) ?_ | refine r_eqI ?_ | refine r_neI ?_ | refine r_eqS ?_ | refine r_neS ?_ | refine r_eqB ?_ | refine r_neB ?_ | refine r_int ?_ | refine r_drop ?_ | refine r_sub ?_ | refine r_gTp (by with_unfolding_all rfl) ?_ | refine r_gsCons ?_ | refine r_gsNil ?_ | refine r_for ?_ | refine r_lc ?_ | refine r_dc ?_ | refine r_iRg1 ?_ | refine r_inT (by with_unfolding_all rfl) (by with_unfolding_all rfl) ?_)
    refine r_list rfl ?_
    (repeat with_reducible first | refine r_seq ?_ | refine r_asg ?_ | refine r_nm ?_ | refine r_var (by with_unfolding_all rfl) ?_ | refine r_c ?_ | refine r_aCons ?_ | refine r_aNil ?_ | refine r_op ?_ | refine r_call ?_ | refine r_val ?_ | refine r_bl ?_ | refine r_if ?_ | refine r_ret ?_ | refine r_next ?_ | refine r_ifT (by first | decide | (with_unfolding_all rfl)) ?_ | refine r_ifF (by first | decide | (with_unfolding_all rfl)) ?_ | refine r_tup ?_ | refine r_lst ?_ | refine r_le (Nat.le_of_ble_eq_true (by with_unfolding_all rfl)) ?_ | refine r_cb ?_ | refine r_and ?_ | refine r_or ?_ | refine r_not ?_ | refine r_eIf ?_ | refine r_eAnd ?_ | refine r_eOr ?_ | refine r_eNot ?_ | refine r_isN ?_ | refine r_mt ?_ | refine r_tr ?_ | refine r_ss ?_ | refine r_dict0 ?_ | refine r_yes ?_ | refine r_isi ?_ | refine r_ty (by with_unfolding_all rfl) ?_ | refine r_ixT (by with_unfolding_all rfl) ?_ | refine r_ixE (by with_unfolding_all rfl) (by with_unfolding_all rfl) ?_ | refine r_ixL (by assumption) (by with_unfolding_all rfl) ?_ | refine r_addI ?_ | refine r_intF ?_ | refine r_intCF (by first | decide | exact cmul_r (by decide) | exact cmul_l (by decide)) ?_ | refine r_eqI ?_ | refine r_neI ?_ | refine r_eqS ?_ | refine r_neS ?_ | refine r_eqB ?_ | refine r_neB ?_ | refine r_int ?_ | refine r_drop ?_ | refine r_sub ?_ | refine r_gTp (by with_unfolding_all rfl) ?_ | refine r_gsCons ?_ | refine r_gsNil ?_ | refine r_for ?_ | refine r_lc ?_ | refine r_dc ?_ | refine r_iRg1 ?_ | refine r_inT (by with_unfolding_all rfl) (by with_unfolding_all rfl) ?_)
    refine h _ _ (S ++ [Cell.lst (ks.map D.int)]).length ⟨ns, 0, 0, 0, a, ?_, new_at _ _, ?_, hn⟩ (((Ext.app S _).trans (Ext.app _ _)).trans (Ext.app _ _)) ?_ ?_
    · simp
    · simp
    · simp
    · simp
theorem pick_spec {p q n : Nat} {xs : List D} {S : Store} {Q : PD} (P : PoolOk p q S) (hn : n ≠ p) (e : S[n]? = some (.lst xs)) (h1 : 0 < xs.length) (h2 : xs.length < 1000000) (h : ∀ S' d, d ∈ xs → PoolOk p q S' → Off p S S' → Q d S') : F__law_pick [.ref p, .ref n] S Q := by
  refine r_fn rfl ?_
  unfold b__law_pick
  (repeat with_reducible first | refine r_seq ?_ | refine r_asg ?_ | refine r_nm ?_ | refine r_var (by with_unfolding_all rfl) ?_ | refine r_c ?_ | refine r_aCons ?_ | refine r_aNil ?_ | refine r_op ?_ | refine r_call ?_ | refine r_val ?_ | refine r_bl ?_ | refine r_if ?_ | refine r_ret ?_ | refine r_next ?_ | refine r_ifT (by first | decide | (with_unfolding_all rfl)) ?_ | refine r_ifF (by first | decide | (with_unfolding_all rfl)) ?_ | refine r_tup ?_ | refine r_lst ?_ | refine r_le (Nat.le_of_ble_eq_true (by with_unfolding_all rfl)) ?_ | refine r_cb ?_ | refine r_and ?_ | refine r_or ?_ | refine r_not ?_ | refine r_eIf ?_ | refine r_eAnd ?_ | refine r_eOr ?_ | refine r_eNot ?_ | refine r_isN ?_ | refine r_mt ?_ | refine r_tr ?_ | refine r_ss ?_ | refine r_dict0 ?_ | refine r_yes ?_ | refine r_isi ?_ | refine r_ty (by with_unfolding_all rfl) ?_ | refine r_ixT (by with_unfolding_all rfl) ?_ | refine r_ixE (by with_unfolding_all rfl) (by with_unfolding_all rfl) ?_ | refine r_ixL (by assumption) (by with_unfolding_all rfl) ?_ | refine r_addI ?_ | refine r_intF ?_ | refine r_intCF (by first | decide | exact cmul_r (by decide) | exact cmul_l (by decide)) ?_ | refine r_eqI ?_ | refine r_neI ?_ | refine r_eqS ?_ | refine r_neS ?_ | refine r_eqB ?_ | refine r_neB ?_ | refine r_int ?_ | refine r_drop ?_ | refine r_sub ?_ | refine r_gTp (by with_unfolding_all rfl) ?_ | refine r_gsCons ?_ | refine r_gsNil ?_ | refine r_for ?_ | refine r_lc ?_ | refine r_dc ?_ | refine r_iRg1 ?_ | refine r_inT (by with_unfolding_all rfl) (by with_unfolding_all rfl) ?_)
  refine r_len (by show seqC S[n]? = _; rw [e]; rfl) ?_
  (repeat with_reducible first | refine r_seq ?_ | refine r_asg ?_ | refine r_nm ?_ | refine r_var (by with_unfolding_all rfl) ?_ | refine r_c ?_ | refine r_aCons ?_ | refine r_aNil ?_ | refine r_op ?_ | refine r_call ?_ | refine r_val ?_ | refine r_bl ?_ | refine r_if ?_ | refine r_ret ?_ | refine r_next ?_ | refine r_ifT (by first | decide | (with_unfolding_all rfl)) ?_ | refine r_ifF (by first | decide | (with_unfolding_all rfl)) ?_ | refine r_tup ?_ | refine r_lst ?_ | refine r_le (Nat.le_of_ble_eq_true (by with_unfolding_all rfl)) ?_ | refine r_cb ?_ | refine r_and ?_ | refine r_or ?_ | refine r_not ?_ | refine r_eIf ?_ | refine r_eAnd ?_ | refine r_eOr ?_ | refine r_eNot ?_ | refine r_isN ?_ | refine r_mt ?_ | refine r_tr ?_ | refine r_ss ?_ | refine r_dict0 ?_ | refine r_yes ?_ | refine r_isi ?_ | refine r_ty (by with_unfolding_all rfl) ?_ | refine r_ixT (by with_unfolding_all rfl) ?_ | refine r_ixE (by with_unfolding_all rfl) (by with_unfolding_all rfl) ?_ | refine r_ixL (by assumption) (by with_unfolding_all rfl) ?_ | refine r_addI ?_ | refine r_intF ?_ | refine r_intCF (by first | decide | exact cmul_r (by decide) | exact cmul_l (by decide)) ?_ | refine r_eqI ?_ | refine r_neI ?_ | refine r_eqS ?_ | refine r_neS ?_ | refine r_eqB ?_ | refine r_neB ?_ | refine r_int ?_ | refine r_drop ?_ | refine r_sub ?_ | refine r_gTp (by with_unfolding_all rfl) ?_ | refine r_gsCons ?_ | refine r_gsNil ?_ | refine r_for ?_ | refine r_lc ?_ | refine r_dc ?_ | refine r_iRg1 ?_ | refine r_inT (by with_unfolding_all rfl) (by with_unfolding_all rfl) ?_)
  refine draw_spec P (by omega) (by omega) fun S1 r h3 P1 o1 => ?_
  have : r < xs.length := by omega
  refine r_ixL (o1.ne hn e) (by rw [atI_n, List.getElem?_eq_getElem this]) ?_
  exact h _ _ (List.getElem_mem this) P1 o1
theorem land_spec {p q : Nat} {S : Store} {Q : PD} (P : PoolOk p q S) (h : ∀ S' (a b : Nat), 1 ≤ a → a ≤ 3 → 1 ≤ b → b ≤ 2 → PoolOk p q S' → Off p S S' → Q (.tup [.int (a : Nat), .int (b : Nat)]) S') : F__law_land [.ref p] S Q := by
  refine r_fn rfl ?_
  unfold b__law_land
  (repeat with_reducible first | refine r_seq ?_ | refine r_asg ?_ | refine r_nm ?_ | refine r_var (by with_unfolding_all rfl) ?_ | refine r_c ?_ | refine r_aCons ?_ | refine r_aNil ?_ | refine r_op ?_ | refine r_call ?_ | refine r_val ?_ | refine r_bl ?_ | refine r_if ?_ | refine r_ret ?_ | refine r_next ?_ | refine r_ifT (by first | decide | (with_unfolding_all rfl)) ?_ | refine r_ifF (by first | decide | (with_unfolding_all rfl)) ?_ | refine r_tup ?_ | refine r_lst ?_ | refine r_le (Nat.le_of_ble_eq_true (by with_unfolding_all rfl)) ?_ | refine r_cb ?_ | refine r_and ?_ | refine r_or ?_ | refine r_not ?_ | refine r_eIf ?_ | refine r_eAnd ?_ | refine r_eOr ?_ | refine r_eNot ?_ | refine r_isN ?_ | refine r_mt ?_ | refine r_tr ?_ | refine r_ss ?_ | refine r_dict0 ?_ | refine r_yes ?_ | refine r_isi ?_ | refine r_ty (by with_unfolding_all rfl) ?_ | refine r_ixT (by with_unfolding_all rfl) ?_ | refine r_ixE (by with_unfolding_all rfl) (by with_unfolding_all rfl) ?_ | refine r_ixL (by assumption) (by with_unfolding_all rfl) ?_ | refine r_addI ?_ | refine r_intF ?_ | refine r_intCF (by first | decide | exact cmul_r (by decide) | exact cmul_l (by decide)) ?_ | refine r_eqI ?_ | refine r_neI ?_ | refine r_eqS ?_ | refine r_neS ?_ | refine r_eqB ?_ | refine r_neB ?_ | refine r_int ?_ | refine r_drop ?_ | refine r_sub ?_ | refine r_gTp (by with_unfolding_all rfl) ?_ | refine r_gsCons ?_ | refine r_gsNil ?_ | refine r_for ?_ | refine r_lc ?_ | refine r_dc ?_ | refine r_iRg1 ?_ | refine r_inT (by with_unfolding_all rfl) (by with_unfolding_all rfl) ?_)
  refine draw_spec P (by decide) (by decide) fun S1 r h3 P1 o1 => ?_
  match r, h3 with
  | 0, _ => exact r_ixT rfl (h _ 1 1 (by decide) (by decide) (by decide) (by decide) P1 o1)
  | 1, _ => exact r_ixT rfl (h _ 2 1 (by decide) (by decide) (by decide) (by decide) P1 o1)
  | 2, _ => exact r_ixT rfl (h _ 1 2 (by decide) (by decide) (by decide) (by decide) P1 o1)
  | 3, _ => exact r_ixT rfl (h _ 3 1 (by decide) (by decide) (by decide) (by decide) P1 o1)
  | 4, _ => exact r_ixT rfl (h _ 2 2 (by decide) (by decide) (by decide) (by decide) P1 o1)
  | n + 5, h3 => omega
end PG
/-! SP2: comparing plain data. -/
namespace PG
open PySem L2 SD
inductive Pl : Nat → D → Prop
  | non (k : Nat) : Pl (k + 1) .non
  | bl (k : Nat) (b : Bool) : Pl (k + 1) (.bl b)
  | int (k : Nat) (i : Int) : Pl (k + 1) (.int i)
  | str (k : Nat) (s : Str) : Pl (k + 1) (.str s)
  | tup (k : Nat) (xs : List D) : xs.length ≤ 1000000 → (∀ x ∈ xs, Pl k x) → Pl (k + 1) (.tup xs)
def neAt (xs ys : List D) : D → Bool
  | .int i => !decide (xs[i.toNat]? = ys[i.toNat]?)
  | _ => true
theorem neAt_int {xs ys : List D} {i : Nat} (h1 : i < xs.length) (h2 : i < ys.length) : neAt xs ys (.int i) = !decide (xs[i] = ys[i]) := by
  unfold neAt
  simp only [Int.toNat_natCast]
  congr 1
  rw [decide_eq_decide, List.getElem?_eq_getElem h1, List.getElem?_eq_getElem h2, Option.some.injEq]
theorem filter_ne {xs ys : List D} (h : xs.length = ys.length) : (((rngD 0 ys.length).filter (neAt xs ys)).length = 0) ↔ xs = ys := by
  rw [List.length_eq_zero_iff, List.filter_eq_nil_iff]
  constructor
  · intro a
    refine List.ext_getElem? fun i => ?_
    by_cases hi : i < ys.length
    · have := a (.int (i : Nat)) (by rw [rng_map]; exact List.mem_map.mpr ⟨i, List.mem_range.mpr hi, rfl⟩)
      simpa [neAt] using this
    · rw [List.getElem?_eq_none (by omega), List.getElem?_eq_none (by omega)]
  · rintro rfl x hx
    obtain ⟨i, hi, rfl⟩ := mem_rng hx
    simp [neAt]
theorem same_spec : ∀ (k : Nat) (a b : D) (S : Store) (Q : PD), Pl k a → Pl k b → (∀ S', Ext S S' → Q (.bl (decide (a = b))) S') → F__law_same k [a, b] S Q
  | 0, a, b, S, Q, ha, _, _ => by cases ha
  | k + 1, a, b, S, Q, ha, hb, h => by
    have h0 := h S (.refl S)
    refine r_fn rfl ?_
    unfold b__law_same
    cases hb with
    | tup _ ys hl hy =>
      cases ha with
      | tup _ xs hl2 hx0 =>
        (repeat with_reducible first | refine r_seq ?_ | refine r_asg ?_ | refine r_nm ?_ | refine r_var (by with_unfolding_all rfl) ?_ | refine r_c ?_ | refine r_aCons ?_ | refine r_aNil ?_ | refine r_op ?_ | refine r_call ?_ | refine r_val ?_ | refine r_bl ?_ | refine r_if ?_ | refine r_ret ?_ | refine r_next ?_ | refine r_ifT (by first | decide | (with_unfolding_all rfl)) ?_ | refine r_ifF (by first | decide | (with_unfolding_all rfl)) ?_ | refine r_tup ?_ | refine r_lst ?_ | refine r_le (Nat.le_of_ble_eq_true (by with_unfolding_all rfl)) ?_ | refine r_cb ?_ | refine r_and ?_ | refine r_or ?_ | refine r_not ?_ | refine r_eIf ?_ | refine r_eAnd ?_ | refine r_eOr ?_ | refine r_eNot ?_ | refine r_isN ?_ | refine r_mt ?_ | refine r_tr ?_ | refine r_ss ?_ | refine r_dict0 ?_ | refine r_yes ?_ | refine r_isi ?_ | refine r_ty (by with_unfolding_all rfl) ?_ | refine r_ixT (by with_unfolding_all rfl) ?_ | refine r_ixE (by with_unfolding_all rfl) (by with_unfolding_all rfl) ?_ | refine r_ixL (by assumption) (by with_unfolding_all rfl) ?_ | refine r_addI ?_ | refine r_intF ?_ | refine r_intCF (by first | decide | exact cmul_r (by decide) | exact cmul_l (by decide)) ?_ | refine r_eqI ?_ | refine r_neI ?_ | refine r_eqS ?_ | refine r_neS ?_ | refine r_eqB ?_ | refine r_neB ?_ | refine r_int ?_ | refine r_drop ?_ | refine r_sub ?_ | refine r_gTp (by with_unfolding_all rfl) ?_ | refine r_gsCons ?_ | refine r_gsNil ?_ | refine r_for ?_ | refine r_lc ?_ | refine r_dc ?_ | refine r_iRg1 ?_ | refine r_inT (by with_unfolding_all rfl) (by with_unfolding_all rfl) ?_)
        refine r_len rfl ?_
        (repeat with_reducible first | refine r_seq ?_ | refine r_asg ?_ | refine r_nm ?_ | refine r_var (by with_unfolding_all rfl) ?_ | refine r_c ?_ | refine r_aCons ?_ | refine r_aNil ?_ | refine r_op ?_ | refine r_call ?_ | refine r_val ?_ | refine r_bl ?_ | refine r_if ?_ | refine r_ret ?_ | refine r_next ?_ | refine r_ifT (by first | decide | (with_unfolding_all rfl)) ?_ | refine r_ifF (by first | decide | (with_unfolding_all rfl)) ?_ | refine r_tup ?_ | refine r_lst ?_ | refine r_le (Nat.le_of_ble_eq_true (by with_unfolding_all rfl)) ?_ | refine r_cb ?_ | refine r_and ?_ | refine r_or ?_ | refine r_not ?_ | refine r_eIf ?_ | refine r_eAnd ?_ | refine r_eOr ?_ | refine r_eNot ?_ | refine r_isN ?_ | refine r_mt ?_ | refine r_tr ?_ | refine r_ss ?_ | refine r_dict0 ?_ | refine r_yes ?_ | refine r_isi ?_ | refine r_ty (by with_unfolding_all rfl) ?_ | refine r_ixT (by with_unfolding_all rfl) ?_ | refine r_ixE (by with_unfolding_all rfl) (by with_unfolding_all rfl) ?_ | refine r_ixL (by assumption) (by with_unfolding_all rfl) ?_ | refine r_addI ?_ | refine r_intF ?_ | refine r_intCF (by first | decide | exact cmul_r (by decide) | exact cmul_l (by decide)) ?_ | refine r_eqI ?_ | refine r_neI ?_ | refine r_eqS ?_ | refine r_neS ?_ | refine r_eqB ?_ | refine r_neB ?_ | refine r_int ?_ | refine r_drop ?_ | refine r_sub ?_ | refine r_gTp (by with_unfolding_all rfl) ?_ | refine r_gsCons ?_ | refine r_gsNil ?_ | refine r_for ?_ | refine r_lc ?_ | refine r_dc ?_ | refine r_iRg1 ?_ | refine r_inT (by with_unfolding_all rfl) (by with_unfolding_all rfl) ?_)
        refine r_len rfl ?_
        (repeat with_reducible first | refine r_seq ?_ | refine r_asg ?_ | refine r_nm ?_ | refine r_var (by with_unfolding_all rfl) ?_ | refine r_c ?_ | refine r_aCons ?_ | refine r_aNil ?_ | refine r_op ?_ | refine r_call ?_ | refine r_val ?_ | refine r_bl ?_ | refine r_if ?_ | refine r_ret ?_ | refine r_next ?_ | refine r_ifT (by first | decide | (with_unfolding_all rfl)) ?_ | refine r_ifF (by first | decide | (with_unfolding_all rfl)) ?_ | refine r_tup ?_ | refine r_lst ?_ | refine r_le (Nat.le_of_ble_eq_true (by with_unfolding_all rfl)) ?_ | refine r_cb ?_ | refine r_and ?_ | refine r_or ?_ | refine r_not ?_ | refine r_eIf ?_ | refine r_eAnd ?_ | refine r_eOr ?_ | refine r_eNot ?_ | refine r_isN ?_ | refine r_mt ?_ | refine r_tr ?_ | refine r_ss ?_ | refine r_dict0 ?_ | refine r_yes ?_ | refine r_isi ?_ | refine r_ty (by with_unfolding_all rfl) ?_ | refine r_ixT (by with_unfolding_all rfl) ?_ | refine r_ixE (by with_unfolding_all rfl) (by with_unfolding_all rfl) ?_ | refine r_ixL (by assumption) (by with_unfolding_all rfl) ?_ | refine r_addI ?_ | refine r_intF ?_ | refine r_intCF (by first | decide | exact cmul_r (by decide) | exact cmul_l (by decide)) ?_ | refine r_eqI ?_ | refine r_neI ?_ | refine r_eqS ?_ | refine r_neS ?_ | refine r_eqB ?_ | refine r_neB ?_ | refine r_int ?_ | refine r_drop ?_ | refine r_sub ?_ | refine r_gTp (by with_unfolding_all rfl) ?_ | refine r_gsCons ?_ | refine r_gsNil ?_ | refine r_for ?_ | refine r_lc ?_ | refine r_dc ?_ | refine r_iRg1 ?_ | refine r_inT (by with_unfolding_all rfl) (by with_unfolding_all rfl) ?_)
        refine ite_b (fun hne => ?_) (fun he => ?_)
        · (repeat with_reducible first | refine r_seq ?_ | refine r_asg ?_ | refine r_nm ?_ | refine r_var (by with_unfolding_all rfl) ?_ | refine r_c ?_ | refine r_aCons ?_ | refine r_aNil ?_ | refine r_op ?_ | refine r_call ?_ | refine r_val ?_ | refine r_bl ?_ | refine r_if ?_ | refine r_ret ?_ | refine r_next ?_ | refine r_ifT (by first | decide | (with_unfolding_all rfl)) ?_ | refine r_ifF (by first | decide | (with_unfolding_all rfl)) ?_ | refine r_tup ?_ | refine r_lst ?_ | refine r_le (Nat.le_of_ble_eq_true (by with_unfolding_all rfl)) ?_ | refine r_cb ?_ | refine r_and ?_ | refine r_or ?_ | refine r_not ?_ | refine r_eIf ?_ | refine r_eAnd ?_ | refine r_eOr ?_ | refine r_eNot ?_ | refine r_isN ?_ | refine r_mt ?_ | refine r_tr ?_ | refine r_ss ?_ | refine r_dict0 ?_ | refine r_yes ?_ | refine r_isi ?_ | refine r_ty (by with_unfolding_all rfl) ?_ | refine r_ixT (by with_unfolding_all rfl) ?_ | refine r_ixE (by with_unfolding_all rfl) (by with_unfolding_all rfl) ?_ | refine r_ixL (by assumption) (by with_unfolding_all rfl) ?_ | refine r_addI ?_ | refine r_intF ?_ | refine r_intCF (by first | decide | exact cmul_r (by decide) | exact cmul_l (by decide)) ?_ | refine r_eqI ?_ | refine r_neI ?_ | refine r_eqS ?_ | refine r_neS ?_ | refine r_eqB ?_ | refine r_neB ?_ | refine r_int ?_ | refine r_drop ?_ | refine r_sub ?_ | refine r_gTp (by with_unfolding_all rfl) ?_ | refine r_gsCons ?_ | refine r_gsNil ?_ | refine r_for ?_ | refine r_lc ?_ | refine r_dc ?_ | refine r_iRg1 ?_ | refine r_inT (by with_unfolding_all rfl) (by with_unfolding_all rfl) ?_)
          have : decide (D.tup xs = D.tup ys) = false := by
            rw [decide_eq_false_iff_not]
            intro e
            cases e
            simp at hne
          rw [this] at h0
          exact h0
        · have he : xs.length = ys.length := by
            have : ((xs.length : Nat) : Int) = (ys.length : Nat) := by simpa using he
            omega
          (repeat with_reducible first | refine r_seq ?_ | refine r_asg ?_ | refine r_nm ?_ | refine r_var (by with_unfolding_all rfl) ?_ | refine r_c ?_ | refine r_aCons ?_ | refine r_aNil ?_ | refine r_op ?_ | refine r_call ?_ | refine r_val ?_ | refine r_bl ?_ | refine r_if ?_ | refine r_ret ?_ | refine r_next ?_ | refine r_ifT (by first | decide | (with_unfolding_all rfl)) ?_ | refine r_ifF (by first | decide | (with_unfolding_all rfl)) ?_ | refine r_tup ?_ | refine r_lst ?_ | refine r_le (Nat.le_of_ble_eq_true (by with_unfolding_all rfl)) ?_ | refine r_cb ?_ | refine r_and ?_ | refine r_or ?_ | refine r_not ?_ | refine r_eIf ?_ | refine r_eAnd ?_ | refine r_eOr ?_ | refine r_eNot ?_ | refine r_isN ?_ | refine r_mt ?_ | refine r_tr ?_ | refine r_ss ?_ | refine r_dict0 ?_ | refine r_yes ?_ | refine r_isi ?_ | refine r_ty (by with_unfolding_all rfl) ?_ | refine r_ixT (by with_unfolding_all rfl) ?_ | refine r_ixE (by with_unfolding_all rfl) (by with_unfolding_all rfl) ?_ | refine r_ixL (by assumption) (by with_unfolding_all rfl) ?_ | refine r_addI ?_ | refine r_intF ?_ | refine r_intCF (by first | decide | exact cmul_r (by decide) | exact cmul_l (by decide)) ?_ | refine r_eqI ?_ | refine r_neI ?_ | refine r_eqS ?_ | refine r_neS ?_ | refine r_eqB ?_ | refine r_neB ?_ | refine r_int ?_ | refine r_drop ?_ | refine r_sub ?_ | refine r_gTp (by with_unfolding_all rfl) ?_ | refine r_gsCons ?_ | refine r_gsNil ?_ | refine r_for ?_ | refine r_lc ?_ | refine r_dc ?_ | refine r_iRg1 ?_ | refine r_inT (by with_unfolding_all rfl) (by with_unfolding_all rfl) ?_)
          refine r_len rfl ?_
          (repeat with_reducible first | refine r_seq ?_ | refine r_asg ?_ | refine r_nm ?_ | refine r_var (by with_unfolding_all rfl) ?_ | refine r_c ?_ | refine r_aCons ?_ | refine r_aNil ?_ | refine r_op ?_ | refine r_call ?_ | refine r_val ?_ | refine r_bl ?_ | refine r_if ?_ | refine r_ret ?_ | refine r_next ?_ | refine r_ifT (by first | decide | (with_unfolding_all rfl)) ?_ | refine r_ifF (by first | decide | (with_unfolding_all rfl)) ?_ | refine r_tup ?_ | refine r_lst ?_ | refine r_le (Nat.le_of_ble_eq_true (by with_unfolding_all rfl)) ?_ | refine r_cb ?_ | refine r_and ?_ | refine r_or ?_ | refine r_not ?_ | refine r_eIf ?_ | refine r_eAnd ?_ | refine r_eOr ?_ | refine r_eNot ?_ | refine r_isN ?_ | refine r_mt ?_ | refine r_tr ?_ | refine r_ss ?_ | refine r_dict0 ?_ | refine r_yes ?_ | refine r_isi ?_ | refine r_ty (by with_unfolding_all rfl) ?_ | refine r_ixT (by with_unfolding_all rfl) ?_ | refine r_ixE (by with_unfolding_all rfl) (by with_unfolding_all rfl) ?_ | refine r_ixL (by assumption) (by with_unfolding_all rfl) ?_ | refine r_addI ?_ | refine r_intF ?_ | refine r_intCF (by first | decide | exact cmul_r (by decide) | exact cmul_l (by decide)) ?_ | refine r_eqI ?_ | refine r_neI ?_ | refine r_eqS ?_ | refine r_neS ?_ | refine r_eqB ?_ | refine r_neB ?_ | refine r_int ?_ | refine r_drop ?_ | refine r_sub ?_ | refine r_gTp (by with_unfolding_all rfl) ?_ | refine r_gsCons ?_ | refine r_gsNil ?_ | refine r_for ?_ | refine r_lc ?_ | refine r_dc ?_ | refine r_iRg1 ?_ | refine r_inT (by with_unfolding_all rfl) (by with_unfolding_all rfl) ?_)
          refine r_rg (by omega) (by omega) fun few => ?_
          refine lc_filter (neAt xs ys) id few (fun _ _ => trivial) ?_ ?_ ?_
          · intro x hx S1 P e1 hP
            obtain ⟨i, hi, rfl⟩ := mem_rng hx
            rw [Int.toNat_natCast] at hi
            (repeat with_reducible first | refine r_seq ?_ | refine r_asg ?_ | refine r_nm ?_ | refine r_var (by with_unfolding_all rfl) ?_ | refine r_c ?_ | refine r_aCons ?_ | refine r_aNil ?_ | refine r_op ?_ | refine r_call ?_ | refine r_val ?_ | refine r_bl ?_ | refine r_if ?_ | refine r_ret ?_ | refine r_next ?_ | refine r_ifT (by first | decide | (with_unfolding_all rfl)) ?_ | refine r_ifF (by first | decide | (with_unfolding_all rfl)) ?_ | refine r_tup ?_ | refine r_lst ?_ | refine r_le (Nat.le_of_ble_eq_true (by with_unfolding_all rfl)) ?_ | refine r_cb ?_ | refine r_and ?_ | refine r_or ?_ | refine r_not ?_ | refine r_eIf ?_ | refine r_eAnd ?_ | refine r_eOr ?_ | refine r_eNot ?_ | refine r_isN ?_ | refine r_mt ?_ | refine r_tr ?_ | refine r_ss ?_ | refine r_dict0 ?_ | refine r_yes ?_ | refine r_isi ?_ | refine r_ty (by with_unfolding_all rfl) ?_ | refine r_ixT (by with_unfolding_all rfl) ?_ | refine r_ixE (by with_unfolding_all rfl) (by with_unfolding_all rfl) ?_ | refine r_ixL (by assumption) (by with_unfolding_all rfl) ?_ | refine r_addI ?_ | refine r_intF ?_ | refine r_intCF (by first | decide | exact cmul_r (by decide) | exact cmul_l (by decide)) ?_ | refine r_eqI ?_ | refine r_neI ?_ | refine r_eqS ?_ | refine r_neS ?_ | refine r_eqB ?_ | refine r_neB ?_ | refine r_int ?_ | refine r_drop ?_ | refine r_sub ?_ | refine r_gTp (by with_unfolding_all rfl) ?_ | refine r_gsCons ?_ | refine r_gsNil ?_ | refine r_for ?_ | refine r_lc ?_ | refine r_dc ?_ | refine r_iRg1 ?_ | refine r_inT (by with_unfolding_all rfl) (by with_unfolding_all rfl) ?_)
            refine r_ixT (v := xs[i]) (by rw [atI_n, List.getElem?_eq_getElem (by omega)]) ?_
            (repeat with_reducible first | refine r_seq ?_ | refine r_asg ?_ | refine r_nm ?_ | refine r_var (by with_unfolding_all rfl) ?_ | refine r_c ?_ | refine r_aCons ?_ | refine r_aNil ?_ | refine r_op ?_ | refine r_call ?_ | refine r_val ?_ | refine r_bl ?_ | refine r_if ?_ | refine r_ret ?_ | refine r_next ?_ | refine r_ifT (by first | decide | (with_unfolding_all rfl)) ?_ | refine r_ifF (by first | decide | (with_unfolding_all rfl)) ?_ | refine r_tup ?_ | refine r_lst ?_ | refine r_le (Nat.le_of_ble_eq_true (by with_unfolding_all rfl)) ?_ | refine r_cb ?_ | refine r_and ?_ | refine r_or ?_ | refine r_not ?_ | refine r_eIf ?_ | refine r_eAnd ?_ | refine r_eOr ?_ | refine r_eNot ?_ | refine r_isN ?_ | refine r_mt ?_ | refine r_tr ?_ | refine r_ss ?_ | refine r_dict0 ?_ | refine r_yes ?_ | refine r_isi ?_ | refine r_ty (by with_unfolding_all rfl) ?_ | refine r_ixT (by with_unfolding_all rfl) ?_ | refine r_ixE (by with_unfolding_all rfl) (by with_unfolding_all rfl) ?_ | refine r_ixL (by assumption) (by with_unfolding_all rfl) ?_ | refine r_addI ?_ | refine r_intF ?_ | refine r_intCF (by first | decide | exact cmul_r (by decide) | exact cmul_l (by decide)) ?_ | refine r_eqI ?_ | refine r_neI ?_ | refine r_eqS ?_ | refine r_neS ?_ | refine r_eqB ?_ | refine r_neB ?_ | refine r_int ?_ | refine r_drop ?_ | refine r_sub ?_ | refine r_gTp (by with_unfolding_all rfl) ?_ | refine r_gsCons ?_ | refine r_gsNil ?_ | refine r_for ?_ | refine r_lc ?_ | refine r_dc ?_ | refine r_iRg1 ?_ | refine r_inT (by with_unfolding_all rfl) (by with_unfolding_all rfl) ?_)
            refine r_ixT (v := ys[i]) (by rw [atI_n, List.getElem?_eq_getElem (by omega)]) ?_
            (repeat with_reducible first | refine r_seq ?_ | refine r_asg ?_ | refine r_nm ?_ | refine r_var (by with_unfolding_all rfl) ?_ | refine r_c ?_ | refine r_aCons ?_ | refine r_aNil ?_ | refine r_op ?_ | refine r_call ?_ | refine r_val ?_ | refine r_bl ?_ | refine r_if ?_ | refine r_ret ?_ | refine r_next ?_ | refine r_ifT (by first | decide | (with_unfolding_all rfl)) ?_ | refine r_ifF (by first | decide | (with_unfolding_all rfl)) ?_ | refine r_tup ?_ | refine r_lst ?_ | refine r_le (Nat.le_of_ble_eq_true (by with_unfolding_all rfl)) ?_ | refine r_cb ?_ | refine r_and ?_ | refine r_or ?_ | refine r_not ?_ | refine r_eIf ?_ | refine r_eAnd ?_ | refine r_eOr ?_ | refine r_eNot ?_ | refine r_isN ?_ | refine r_mt ?_ | refine r_tr ?_ | refine r_ss ?_ | refine r_dict0 ?_ | refine r_yes ?_ | refine r_isi ?_ | refine r_ty (by with_unfolding_all rfl) ?_ | refine r_ixT (by with_unfolding_all rfl) ?_ | refine r_ixE (by with_unfolding_all rfl) (by with_unfolding_all rfl) ?_ | refine r_ixL (by assumption) (by with_unfolding_all rfl) ?_ | refine r_addI ?_ | refine r_intF ?_ | refine r_intCF (by first | decide | exact cmul_r (by decide) | exact cmul_l (by decide)) ?_ | refine r_eqI ?_ | refine r_neI ?_ | refine r_eqS ?_ | refine r_neS ?_ | refine r_eqB ?_ | refine r_neB ?_ | refine r_int ?_ | refine r_drop ?_ | refine r_sub ?_ | refine r_gTp (by with_unfolding_all rfl) ?_ | refine r_gsCons ?_ | refine r_gsNil ?_ | refine r_for ?_ | refine r_lc ?_ | refine r_dc ?_ | refine r_iRg1 ?_ | refine r_inT (by with_unfolding_all rfl) (by with_unfolding_all rfl) ?_)
            refine same_spec k _ _ _ _ (hx0 _ (List.getElem_mem _)) (hy _ (List.getElem_mem _)) fun S2 e2 => ?_
            (repeat with_reducible first | refine r_seq ?_ | refine r_asg ?_ | refine r_nm ?_ | refine r_var (by with_unfolding_all rfl) ?_ | refine r_c ?_ | refine r_aCons ?_ | refine r_aNil ?_ | refine r_op ?_ | refine r_call ?_ | refine r_val ?_ | refine r_bl ?_ | refine r_if ?_ | refine r_ret ?_ | refine r_next ?_ | refine r_ifT (by first | decide | (with_unfolding_all rfl)) ?_ | refine r_ifF (by first | decide | (with_unfolding_all rfl)) ?_ | refine r_tup ?_ | refine r_lst ?_ | refine r_le (Nat.le_of_ble_eq_true (by with_unfolding_all rfl)) ?_ | refine r_cb ?_ | refine r_and ?_ | refine r_or ?_ | refine r_not ?_ | refine r_eIf ?_ | refine r_eAnd ?_ | refine r_eOr ?_ | refine r_eNot ?_ | refine r_isN ?_ | refine r_mt ?_ | refine r_tr ?_ | refine r_ss ?_ | refine r_dict0 ?_ | refine r_yes ?_ | refine r_isi ?_ | refine r_ty (by with_unfolding_all rfl) ?_ | refine r_ixT (by with_unfolding_all rfl) ?_ | refine r_ixE (by with_unfolding_all rfl) (by with_unfolding_all rfl) ?_ | refine r_ixL (by assumption) (by with_unfolding_all rfl) ?_ | refine r_addI ?_ | refine r_intF ?_ | refine r_intCF (by first | decide | exact cmul_r (by decide) | exact cmul_l (by decide)) ?_ | refine r_eqI ?_ | refine r_neI ?_ | refine r_eqS ?_ | refine r_neS ?_ | refine r_eqB ?_ | refine r_neB ?_ | refine r_int ?_ | refine r_drop ?_ | refine r_sub ?_ | refine r_gTp (by with_unfolding_all rfl) ?_ | refine r_gsCons ?_ | refine r_gsNil ?_ | refine r_for ?_ | refine r_lc ?_ | refine r_dc ?_ | refine r_iRg1 ?_ | refine r_inT (by with_unfolding_all rfl) (by with_unfolding_all rfl) ?_)
            have := hP S2 e2
            rw [neAt_int (by omega) hi] at this
            exact this
          · intro x hx S1 P e1 hP
            (repeat with_reducible first | refine r_seq ?_ | refine r_asg ?_ | refine r_nm ?_ | refine r_var (by with_unfolding_all rfl) ?_ | refine r_c ?_ | refine r_aCons ?_ | refine r_aNil ?_ | refine r_op ?_ | refine r_call ?_ | refine r_val ?_ | refine r_bl ?_ | refine r_if ?_ | refine r_ret ?_ | refine r_next ?_ | refine r_ifT (by first | decide | (with_unfolding_all rfl)) ?_ | refine r_ifF (by first | decide | (with_unfolding_all rfl)) ?_ | refine r_tup ?_ | refine r_lst ?_ | refine r_le (Nat.le_of_ble_eq_true (by with_unfolding_all rfl)) ?_ | refine r_cb ?_ | refine r_and ?_ | refine r_or ?_ | refine r_not ?_ | refine r_eIf ?_ | refine r_eAnd ?_ | refine r_eOr ?_ | refine r_eNot ?_ | refine r_isN ?_ | refine r_mt ?_ | refine r_tr ?_ | refine r_ss ?_ | refine r_dict0 ?_ | refine r_yes ?_ | refine r_isi ?_ | refine r_ty (by with_unfolding_all rfl) ?_ | refine r_ixT (by with_unfolding_all rfl) ?_ | refine r_ixE (by with_unfolding_all rfl) (by with_unfolding_all rfl) ?_ | refine r_ixL (by assumption) (by with_unfolding_all rfl) ?_ | refine r_addI ?_ | refine r_intF ?_ | refine r_intCF (by first | decide | exact cmul_r (by decide) | exact cmul_l (by decide)) ?_ | refine r_eqI ?_ | refine r_neI ?_ | refine r_eqS ?_ | refine r_neS ?_ | refine r_eqB ?_ | refine r_neB ?_ | refine r_int ?_ | refine r_drop ?_ | refine r_sub ?_ | refine r_gTp (by with_unfolding_all rfl) ?_ | refine r_gsCons ?_ | refine r_gsNil ?_ | refine r_for ?_ | refine r_lc ?_ | refine r_dc ?_ | refine r_iRg1 ?_ | refine r_inT (by with_unfolding_all rfl) (by with_unfolding_all rfl) ?_)
            exact hP S1 (.refl S1)
          · intro S1 e1 hS
            (repeat with_reducible first | refine r_seq ?_ | refine r_asg ?_ | refine r_nm ?_ | refine r_var (by with_unfolding_all rfl) ?_ | refine r_c ?_ | refine r_aCons ?_ | refine r_aNil ?_ | refine r_op ?_ | refine r_call ?_ | refine r_val ?_ | refine r_bl ?_ | refine r_if ?_ | refine r_ret ?_ | refine r_next ?_ | refine r_ifT (by first | decide | (with_unfolding_all rfl)) ?_ | refine r_ifF (by first | decide | (with_unfolding_all rfl)) ?_ | refine r_tup ?_ | refine r_lst ?_ | refine r_le (Nat.le_of_ble_eq_true (by with_unfolding_all rfl)) ?_ | refine r_cb ?_ | refine r_and ?_ | refine r_or ?_ | refine r_not ?_ | refine r_eIf ?_ | refine r_eAnd ?_ | refine r_eOr ?_ | refine r_eNot ?_ | refine r_isN ?_ | refine r_mt ?_ | refine r_tr ?_ | refine r_ss ?_ | refine r_dict0 ?_ | refine r_yes ?_ | refine r_isi ?_ | refine r_ty (by with_unfolding_all rfl) ?_ | refine r_ixT (by with_unfolding_all rfl) ?_ | refine r_ixE (by with_unfolding_all rfl) (by with_unfolding_all rfl) ?_ | refine r_ixL (by assumption) (by with_unfolding_all rfl) ?_ | refine r_addI ?_ | refine r_intF ?_ | refine r_intCF (by first | decide | exact cmul_r (by decide) | exact cmul_l (by decide)) ?_ | refine r_eqI ?_ | refine r_neI ?_ | refine r_eqS ?_ | refine r_neS ?_ | refine r_eqB ?_ | refine r_neB ?_ | refine r_int ?_ | refine r_drop ?_ | refine r_sub ?_ | refine r_gTp (by with_unfolding_all rfl) ?_ | refine r_gsCons ?_ | refine r_gsNil ?_ | refine r_for ?_ | refine r_lc ?_ | refine r_dc ?_ | refine r_iRg1 ?_ | refine r_inT (by with_unfolding_all rfl) (by with_unfolding_all rfl) ?_)
            refine r_len (by show seqC S1[S.length]? = _; rw [hS]; rfl) ?_
            (repeat with_reducible first | refine r_seq ?_ | refine r_asg ?_ | refine r_nm ?_ | refine r_var (by with_unfolding_all rfl) ?_ | refine r_c ?_ | refine r_aCons ?_ | refine r_aNil ?_ | refine r_op ?_ | refine r_call ?_ | refine r_val ?_ | refine r_bl ?_ | refine r_if ?_ | refine r_ret ?_ | refine r_next ?_ | refine r_ifT (by first | decide | (with_unfolding_all rfl)) ?_ | refine r_ifF (by first | decide | (with_unfolding_all rfl)) ?_ | refine r_tup ?_ | refine r_lst ?_ | refine r_le (Nat.le_of_ble_eq_true (by with_unfolding_all rfl)) ?_ | refine r_cb ?_ | refine r_and ?_ | refine r_or ?_ | refine r_not ?_ | refine r_eIf ?_ | refine r_eAnd ?_ | refine r_eOr ?_ | refine r_eNot ?_ | refine r_isN ?_ | refine r_mt ?_ | refine r_tr ?_ | refine r_ss ?_ | refine r_dict0 ?_ | refine r_yes ?_ | refine r_isi ?_ | refine r_ty (by with_unfolding_all rfl) ?_ | refine r_ixT (by with_unfolding_all rfl) ?_ | refine r_ixE (by with_unfolding_all rfl) (by with_unfolding_all rfl) ?_ | refine r_ixL (by assumption) (by with_unfolding_all rfl) ?_ | refine r_addI ?_ | refine r_intF ?_ | refine r_intCF (by first | decide | exact cmul_r (by decide) | exact cmul_l (by decide)) ?_ | refine r_eqI ?_ | refine r_neI ?_ | refine r_eqS ?_ | refine r_neS ?_ | refine r_eqB ?_ | refine r_neB ?_ | refine r_int ?_ | refine r_drop ?_ | refine r_sub ?_ | refine r_gTp (by with_unfolding_all rfl) ?_ | refine r_gsCons ?_ | refine r_gsNil ?_ | refine r_for ?_ | refine r_lc ?_ | refine r_dc ?_ | refine r_iRg1 ?_ | refine r_inT (by with_unfolding_all rfl) (by with_unfolding_all rfl) ?_)
            have := h S1 e1
            rw [List.map_id]
            have q : decide (D.tup xs = D.tup ys) = decide ((((rngD 0 ((ys.length : Nat) : Int).toNat).filter (neAt xs ys)).length : Int) = 0) := by
              rw [decide_eq_decide, Int.toNat_natCast, Int.natCast_eq_zero, filter_ne he]
              simp
            rw [q] at this
            exact this
      | _ =>
        (repeat with_reducible first | refine r_seq ?_ | refine r_asg ?_ | refine r_nm ?_ | refine r_var (by with_unfolding_all rfl) ?_ | refine r_c ?_ | refine r_aCons ?_ | refine r_aNil ?_ | refine r_op ?_ | refine r_call ?_ | refine r_val ?_ | refine r_bl ?_ | refine r_if ?_ | refine r_ret ?_ | refine r_next ?_ | refine r_ifT (by first | decide | (with_unfolding_all rfl)) ?_ | refine r_ifF (by first | decide | (with_unfolding_all rfl)) ?_ | refine r_tup ?_ | refine r_lst ?_ | refine r_le (Nat.le_of_ble_eq_true (by with_unfolding_all rfl)) ?_ | refine r_cb ?_ | refine r_and ?_ | refine r_or ?_ | refine r_not ?_ | refine r_eIf ?_ | refine r_eAnd ?_ | refine r_eOr ?_ | refine r_eNot ?_ | refine r_isN ?_ | refine r_mt ?_ | refine r_tr ?_ | refine r_ss ?_ | refine r_dict0 ?_ | refine r_yes ?_ | refine r_isi ?_ | refine r_ty (by with_unfolding_all rfl) ?_ | refine r_ixT (by with_unfolding_all rfl) ?_ | refine r_ixE (by with_unfolding_all rfl) (by with_unfolding_all rfl) ?_ | refine r_ixL (by assumption) (by with_unfolding_all rfl) ?_ | refine r_addI ?_ | refine r_intF ?_ | refine r_intCF (by first | decide | exact cmul_r (by decide) | exact cmul_l (by decide)) ?_ | refine r_eqI ?_ | refine r_neI ?_ | refine r_eqS ?_ | refine r_neS ?_ | refine r_eqB ?_ | refine r_neB ?_ | refine r_int ?_ | refine r_drop ?_ | refine r_sub ?_ | refine r_gTp (by with_unfolding_all rfl) ?_ | refine r_gsCons ?_ | refine r_gsNil ?_ | refine r_for ?_ | refine r_lc ?_ | refine r_dc ?_ | refine r_iRg1 ?_ | refine r_inT (by with_unfolding_all rfl) (by with_unfolding_all rfl) ?_)
        simpa using h0
    | _ =>
      cases ha <;> ((repeat with_reducible first | refine r_seq ?_ | refine r_asg ?_ | refine r_nm ?_ | refine r_var (by with_unfolding_all rfl) ?_ | refine r_c ?_ | refine r_aCons ?_ | refine r_aNil ?_ | refine r_op ?_ | refine r_call ?_ | refine r_val ?_ | refine r_bl ?_ | refine r_if ?_ | refine r_ret ?_ | refine r_next ?_ | refine r_ifT (by first | decide | (with_unfolding_all rfl)) ?_ | refine r_ifF (by first | decide | (with_unfolding_all rfl)) ?_ | refine r_tup ?_ | refine r_lst ?_ | refine r_le (Nat.le_of_ble_eq_true (by with_unfolding_all rfl)) ?_ | refine r_cb ?_ | refine r_and ?_ | refine r_or ?_ | refine r_not ?_ | refine r_eIf ?_ | refine r_eAnd ?_ | refine r_eOr ?_ | refine r_eNot ?_ | refine r_isN ?_ | refine r_mt ?_ | refine r_tr ?_ | refine r_ss ?_ | refine r_dict0 ?_ | refine r_yes ?_ | refine r_isi ?_ | refine r_ty (by with_unfolding_all rfl) ?_ | refine r_ixT (by with_unfolding_all rfl) ?_ | refine r_ixE (by with_unfolding_all rfl) (by with_unfolding_all rfl) ?_ | refine r_ixL (by assumption) (by with_unfolding_all rfl) ?_ | refine r_addI ?_ | refine r_intF ?_ | refine r_intCF (by first | decide | exact cmul_r (by decide) | exact cmul_l (by decide)) ?_ | refine r_eqI ?_ | refine r_neI ?_ | refine r_eqS ?_ | refine r_neS ?_ | refine r_eqB ?_ | refine r_neB ?_ | refine r_int ?_ | refine r_drop ?_ | refine r_sub ?_ | refine r_gTp (by with_unfolding_all rfl) ?_ | refine r_gsCons ?_ | refine r_gsNil ?_ | refine r_for ?_ | refine r_lc ?_ | refine r_dc ?_ | refine r_iRg1 ?_ | refine r_inT (by with_unfolding_all rfl) (by with_unfolding_all rfl) ?_); simpa using h0)
end PG
/-! SP3: worlds and sayings, drawn. -/
namespace PG
open PySem L2 SD
inductive Fm where
  | yes | no | is (i : Nat) | isnt (i : Nat) | name (x : Nat) | both (a b : Fm) | either (a b : Fm) | some (j : Nat) (a : Fm) | all (j : Nat) (a : Fm) | least (x : Nat) (a : Fm) | greatest (x : Nat) (a : Fm)
deriving DecidableEq
def encP (xs : List Nat) : D := .tup (xs.map fun k : Nat => .int (k : Nat))
def encF : Fm → D
  | .yes => .tup [.str "yes"]
  | .no => .tup [.str "no"]
  | .is i => .tup [.str "is", .int (i : Nat)]
  | .isnt i => .tup [.str "isnt", .int (i : Nat)]
  | .name x => .tup [.str "name", .int (x : Nat)]
  | .both a b => .tup [.str "both", encF a, encF b]
  | .either a b => .tup [.str "either", encF a, encF b]
  | .some j a => .tup [.str "some", .int (j : Nat), encF a]
  | .all j a => .tup [.str "all", .int (j : Nat), encF a]
  | .least x a => .tup [.str "least", .int (x : Nat), encF a]
  | .greatest x a => .tup [.str "greatest", .int (x : Nat), encF a]
def Fm.dp : Fm → Nat
  | .both a b => max a.dp b.dp + 1
  | .either a b => max a.dp b.dp + 1
  | .some _ a => a.dp + 1
  | .all _ a => a.dp + 1
  | .least _ a => a.dp + 1
  | .greatest _ a => a.dp + 1
  | _ => 1
def Fm.bnds : Fm → List Nat
  | .both a b => a.bnds ++ b.bnds
  | .either a b => a.bnds ++ b.bnds
  | .some _ a => a.bnds
  | .all _ a => a.bnds
  | .least x a => x :: a.bnds
  | .greatest x a => x :: a.bnds
  | _ => []
/-- of a land, names known and names free to be said -/
def OkF (L0 L1 : Nat) : List Nat → List Nat → Fm → Prop
  | _, _, .yes => True
  | _, _, .no => True
  | _, _, .is i => i < L0
  | _, _, .isnt i => i < L0
  | _, fr, .name x => x ∈ fr
  | kn, fr, .both a b => OkF L0 L1 kn fr a ∧ OkF L0 L1 kn fr b
  | kn, fr, .either a b => OkF L0 L1 kn fr a ∧ OkF L0 L1 kn fr b
  | kn, _, .some j a => j < L1 ∧ OkF L0 L1 kn kn a
  | kn, _, .all j a => j < L1 ∧ OkF L0 L1 kn kn a
  | kn, fr, .least x a => OkF L0 L1 (kn ++ [x]) fr a
  | kn, fr, .greatest x a => OkF L0 L1 (kn ++ [x]) fr a
theorem saying_spec : ∀ (k deep p q st L0 L1 : Nat) (kn fr : List Nat) (ys : List D) (S : Store) (Q : PD), deep < k → PoolOk p q S → 1 ≤ L0 → L0 ≤ 1000 → 1 ≤ L1 → L1 ≤ 1000 → st ≠ p → st ≠ q → S[st]? = Option.some (.lst ys) → ys.length ≤ 5 →
    kn.length + k ≤ 1000 → fr.length ≤ 1000 →
    (∀ S' f ys', OkF L0 L1 kn fr f → f.dp ≤ deep + 1 → ys.length ≤ ys'.length → ys'.length ≤ 5 → f.bnds = List.range' ys.length (ys'.length - ys.length) → PoolOk p q S' → S'[st]? = Option.some (.lst ys') → ExtB [p, st] S S' → Q (encF f) S') →
    F__law_saying k [.ref p, .tup [.int (L0 : Nat), .int (L1 : Nat)], .int (deep : Nat), .ref st, encP kn, encP fr] S Q
  | 0, _, _, _, _, _, _, _, _, _, _, _, h, _, _, _, _, _, _, _, _, _, _, _, _ => absurd h (Nat.not_lt_zero _)
  | k + 1, deep, p, q, st, L0, L1, kn, fr, ys, S, Q, hd, P, l1, l2, m1, m2, sp, sq, hst, hys, hkn, hfr, h => by
    refine r_fn rfl ?_
    unfold b__law_saying
    refine r_cut (fun σ S' => ∃ r : Nat, σ = [Option.some (.ref p), Option.some (.tup [.int (L0 : Nat), .int (L1 : Nat)]), Option.some (.int (deep : Nat)), Option.some (.ref st), Option.some (encP kn), Option.some (encP fr), Option.some (.int (r : Nat)), none] ∧ r < 13 ∧ (deep = 0 → r < 5) ∧ PoolOk p q S' ∧ Off p S S') ?_ fun T hT => ?_
    · rintro σ S0 ⟨r, rfl, hr, hr5, P0, o0⟩
      have hst0 := o0.ne sp hst
      have leaf : ∀ S' f, OkF L0 L1 kn fr f → f.dp ≤ 1 → f.bnds = [] → PoolOk p q S' → ExtB [p] S0 S' → Q (encF f) S' := fun S' f h1 h2 h3 h4 h5 =>
        h S' f ys h1 (by omega) (Nat.le_refl _) hys (by rw [h3]; simp) h4 (h5.2 st (by simpa using sp) _ hst0) ((o0.b (List.mem_cons_self)).trans (h5.mono (by simp)))
      have go : ∀ (kn' fr' : List Nat) (ys1 : List D) (S1 : Store) (R : PD), 0 < deep → PoolOk p q S1 → S1[st]? = Option.some (.lst ys1) → ys1.length ≤ 5 → kn'.length + k ≤ 1000 → fr'.length ≤ 1000 →
          (∀ S' f ys', OkF L0 L1 kn' fr' f → f.dp ≤ deep → ys1.length ≤ ys'.length → ys'.length ≤ 5 → f.bnds = List.range' ys1.length (ys'.length - ys1.length) → PoolOk p q S' → S'[st]? = Option.some (.lst ys') → ExtB [p, st] S1 S' → R (encF f) S') →
          F__law_saying k [.ref p, .tup [.int (L0 : Nat), .int (L1 : Nat)], .int ((deep : Nat) - 1), .ref st, encP kn', encP fr'] S1 R := fun kn' fr' ys1 S1 R h0 h1 h2 h3 h4 h5 h6 => by
        have e : ((deep : Nat) : Int) - 1 = ((deep - 1 : Nat) : Int) := by omega
        rw [e]
        exact saying_spec k (deep - 1) p q st L0 L1 kn' fr' ys1 S1 R (by omega) h1 l1 l2 m1 m2 sp sq h2 h3 h4 h5 fun S' f ys' a1 a2 => h6 S' f ys' a1 (by omega)
      by_cases a2 : r < 2
      · match r, a2 with
        | 0, _ =>
          (repeat with_reducible first | refine r_seq ?_ | refine r_asg ?_ | refine r_nm ?_ | refine r_var (by with_unfolding_all rfl) ?_ | refine r_c ?_ | refine r_aCons ?_ | refine r_aNil ?_ | refine r_op ?_ | refine r_call ?_ | refine r_val ?_ | refine r_bl ?_ | refine r_if ?_ | refine r_ret ?_ | refine r_next ?_ | refine r_ifT (by first | decide | (with_unfolding_all rfl)) ?_ | refine r_ifF (by first | decide | (with_unfolding_all rfl)) ?_ | refine r_tup ?_ | refine r_lst ?_ | refine r_le (Nat.le_of_ble_eq_true (by with_unfolding_all rfl)) ?_ | refine r_cb ?_ | refine r_and ?_ | refine r_or ?_ | refine r_not ?_ | refine r_eIf ?_ | refine r_eAnd ?_ | refine r_eOr ?_ | refine r_eNot ?_ | refine r_isN ?_ | refine r_mt ?_ | refine r_tr ?_ | refine r_ss ?_ | refine r_dict0 ?_ | refine r_yes ?_ | refine r_isi ?_ | refine r_ty (by with_unfolding_all rfl) ?_ | refine r_ixT (by with_unfolding_all rfl) ?_ | refine r_ixE (by with_unfolding_all rfl) (by with_unfolding_all rfl) ?_ | refine r_ixL (by assumption) (by with_unfolding_all rfl) ?_ | refine r_addI ?_ | refine r_intF ?_ | refine r_intCF (by first | decide | exact cmul_r (by decide) | exact cmul_l (by decide)) ?_ | refine r_eqI ?_ | refine r_neI ?_ | refine r_eqS ?_ | refine r_neS ?_ | refine r_eqB ?_ | refine r_neB ?_ | refine r_int ?_ | refine r_drop ?_ | refine r_sub ?_ | refine r_gTp (by with_unfolding_all rfl) ?_ | refine r_gsCons ?_ | refine r_gsNil ?_ | refine r_for ?_ | refine r_lc ?_ | refine r_dc ?_ | refine r_iRg1 ?_ | refine r_inT (by with_unfolding_all rfl) (by with_unfolding_all rfl) ?_)
          refine draw_spec P0 (by omega) (by omega) fun S2 i hi P2 o2 => ?_
          (repeat with_reducible first | refine r_seq ?_ | refine r_asg ?_ | refine r_nm ?_ | refine r_var (by with_unfolding_all rfl) ?_ | refine r_c ?_ | refine r_aCons ?_ | refine r_aNil ?_ | refine r_op ?_ | refine r_call ?_ | refine r_val ?_ | refine r_bl ?_ | refine r_if ?_ | refine r_ret ?_ | refine r_next ?_ | refine r_ifT (by first | decide | (with_unfolding_all rfl)) ?_ | refine r_ifF (by first | decide | (with_unfolding_all rfl)) ?_ | refine r_tup ?_ | refine r_lst ?_ | refine r_le (Nat.le_of_ble_eq_true (by with_unfolding_all rfl)) ?_ | refine r_cb ?_ | refine r_and ?_ | refine r_or ?_ | refine r_not ?_ | refine r_eIf ?_ | refine r_eAnd ?_ | refine r_eOr ?_ | refine r_eNot ?_ | refine r_isN ?_ | refine r_mt ?_ | refine r_tr ?_ | refine r_ss ?_ | refine r_dict0 ?_ | refine r_yes ?_ | refine r_isi ?_ | refine r_ty (by with_unfolding_all rfl) ?_ | refine r_ixT (by with_unfolding_all rfl) ?_ | refine r_ixE (by with_unfolding_all rfl) (by with_unfolding_all rfl) ?_ | refine r_ixL (by assumption) (by with_unfolding_all rfl) ?_ | refine r_addI ?_ | refine r_intF ?_ | refine r_intCF (by first | decide | exact cmul_r (by decide) | exact cmul_l (by decide)) ?_ | refine r_eqI ?_ | refine r_neI ?_ | refine r_eqS ?_ | refine r_neS ?_ | refine r_eqB ?_ | refine r_neB ?_ | refine r_int ?_ | refine r_drop ?_ | refine r_sub ?_ | refine r_gTp (by with_unfolding_all rfl) ?_ | refine r_gsCons ?_ | refine r_gsNil ?_ | refine r_for ?_ | refine r_lc ?_ | refine r_dc ?_ | refine r_iRg1 ?_ | refine r_inT (by with_unfolding_all rfl) (by with_unfolding_all rfl) ?_)
          exact leaf S2 (.is i) (by show i < L0; omega) (Nat.le_refl _) rfl P2 (o2.b (by simp))
        | 1, _ =>
          (repeat with_reducible first | refine r_seq ?_ | refine r_asg ?_ | refine r_nm ?_ | refine r_var (by with_unfolding_all rfl) ?_ | refine r_c ?_ | refine r_aCons ?_ | refine r_aNil ?_ | refine r_op ?_ | refine r_call ?_ | refine r_val ?_ | refine r_bl ?_ | refine r_if ?_ | refine r_ret ?_ | refine r_next ?_ | refine r_ifT (by first | decide | (with_unfolding_all rfl)) ?_ | refine r_ifF (by first | decide | (with_unfolding_all rfl)) ?_ | refine r_tup ?_ | refine r_lst ?_ | refine r_le (Nat.le_of_ble_eq_true (by with_unfolding_all rfl)) ?_ | refine r_cb ?_ | refine r_and ?_ | refine r_or ?_ | refine r_not ?_ | refine r_eIf ?_ | refine r_eAnd ?_ | refine r_eOr ?_ | refine r_eNot ?_ | refine r_isN ?_ | refine r_mt ?_ | refine r_tr ?_ | refine r_ss ?_ | refine r_dict0 ?_ | refine r_yes ?_ | refine r_isi ?_ | refine r_ty (by with_unfolding_all rfl) ?_ | refine r_ixT (by with_unfolding_all rfl) ?_ | refine r_ixE (by with_unfolding_all rfl) (by with_unfolding_all rfl) ?_ | refine r_ixL (by assumption) (by with_unfolding_all rfl) ?_ | refine r_addI ?_ | refine r_intF ?_ | refine r_intCF (by first | decide | exact cmul_r (by decide) | exact cmul_l (by decide)) ?_ | refine r_eqI ?_ | refine r_neI ?_ | refine r_eqS ?_ | refine r_neS ?_ | refine r_eqB ?_ | refine r_neB ?_ | refine r_int ?_ | refine r_drop ?_ | refine r_sub ?_ | refine r_gTp (by with_unfolding_all rfl) ?_ | refine r_gsCons ?_ | refine r_gsNil ?_ | refine r_for ?_ | refine r_lc ?_ | refine r_dc ?_ | refine r_iRg1 ?_ | refine r_inT (by with_unfolding_all rfl) (by with_unfolding_all rfl) ?_)
          refine draw_spec P0 (by omega) (by omega) fun S2 i hi P2 o2 => ?_
          (repeat with_reducible first | refine r_seq ?_ | refine r_asg ?_ | refine r_nm ?_ | refine r_var (by with_unfolding_all rfl) ?_ | refine r_c ?_ | refine r_aCons ?_ | refine r_aNil ?_ | refine r_op ?_ | refine r_call ?_ | refine r_val ?_ | refine r_bl ?_ | refine r_if ?_ | refine r_ret ?_ | refine r_next ?_ | refine r_ifT (by first | decide | (with_unfolding_all rfl)) ?_ | refine r_ifF (by first | decide | (with_unfolding_all rfl)) ?_ | refine r_tup ?_ | refine r_lst ?_ | refine r_le (Nat.le_of_ble_eq_true (by with_unfolding_all rfl)) ?_ | refine r_cb ?_ | refine r_and ?_ | refine r_or ?_ | refine r_not ?_ | refine r_eIf ?_ | refine r_eAnd ?_ | refine r_eOr ?_ | refine r_eNot ?_ | refine r_isN ?_ | refine r_mt ?_ | refine r_tr ?_ | refine r_ss ?_ | refine r_dict0 ?_ | refine r_yes ?_ | refine r_isi ?_ | refine r_ty (by with_unfolding_all rfl) ?_ | refine r_ixT (by with_unfolding_all rfl) ?_ | refine r_ixE (by with_unfolding_all rfl) (by with_unfolding_all rfl) ?_ | refine r_ixL (by assumption) (by with_unfolding_all rfl) ?_ | refine r_addI ?_ | refine r_intF ?_ | refine r_intCF (by first | decide | exact cmul_r (by decide) | exact cmul_l (by decide)) ?_ | refine r_eqI ?_ | refine r_neI ?_ | refine r_eqS ?_ | refine r_neS ?_ | refine r_eqB ?_ | refine r_neB ?_ | refine r_int ?_ | refine r_drop ?_ | refine r_sub ?_ | refine r_gTp (by with_unfolding_all rfl) ?_ | refine r_gsCons ?_ | refine r_gsNil ?_ | refine r_for ?_ | refine r_lc ?_ | refine r_dc ?_ | refine r_iRg1 ?_ | refine r_inT (by with_unfolding_all rfl) (by with_unfolding_all rfl) ?_)
          exact leaf S2 (.isnt i) (by show i < L0; omega) (Nat.le_refl _) rfl P2 (o2.b (by simp))
      (repeat with_reducible first | refine r_seq ?_ | refine r_asg ?_ | refine r_nm ?_ | refine r_var (by with_unfolding_all rfl) ?_ | refine r_c ?_ | refine r_aCons ?_ | refine r_aNil ?_ | refine r_op ?_ | refine r_call ?_ | refine r_val ?_ | refine r_bl ?_ | refine r_if ?_ | refine r_ret ?_ | refine r_next ?_ | refine r_ifT (by first | decide | (with_unfolding_all rfl)) ?_ | refine r_ifF (by first | decide | (with_unfolding_all rfl)) ?_ | refine r_tup ?_ | refine r_lst ?_ | refine r_le (Nat.le_of_ble_eq_true (by with_unfolding_all rfl)) ?_ | refine r_cb ?_ | refine r_and ?_ | refine r_or ?_ | refine r_not ?_ | refine r_eIf ?_ | refine r_eAnd ?_ | refine r_eOr ?_ | refine r_eNot ?_ | refine r_isN ?_ | refine r_mt ?_ | refine r_tr ?_ | refine r_ss ?_ | refine r_dict0 ?_ | refine r_yes ?_ | refine r_isi ?_ | refine r_ty (by with_unfolding_all rfl) ?_ | refine r_ixT (by with_unfolding_all rfl) ?_ | refine r_ixE (by with_unfolding_all rfl) (by with_unfolding_all rfl) ?_ | refine r_ixL (by assumption) (by with_unfolding_all rfl) ?_ | refine r_addI ?_ | refine r_intF ?_ | refine r_intCF (by first | decide | exact cmul_r (by decide) | exact cmul_l (by decide)) ?_ | refine r_eqI ?_ | refine r_neI ?_ | refine r_eqS ?_ | refine r_neS ?_ | refine r_eqB ?_ | refine r_neB ?_ | refine r_int ?_ | refine r_drop ?_ | refine r_sub ?_ | refine r_gTp (by with_unfolding_all rfl) ?_ | refine r_gsCons ?_ | refine r_gsNil ?_ | refine r_for ?_ | refine r_lc ?_ | refine r_dc ?_ | refine r_iRg1 ?_ | refine r_inT (by with_unfolding_all rfl) (by with_unfolding_all rfl) ?_)
      refine r_ifF (decide_eq_false (by omega)) ?_
      (repeat with_reducible first | refine r_seq ?_ | refine r_asg ?_ | refine r_nm ?_ | refine r_var (by with_unfolding_all rfl) ?_ | refine r_c ?_ | refine r_aCons ?_ | refine r_aNil ?_ | refine r_op ?_ | refine r_call ?_ | refine r_val ?_ | refine r_bl ?_ | refine r_if ?_ | refine r_ret ?_ | refine r_next ?_ | refine r_ifT (by first | decide | (with_unfolding_all rfl)) ?_ | refine r_ifF (by first | decide | (with_unfolding_all rfl)) ?_ | refine r_tup ?_ | refine r_lst ?_ | refine r_le (Nat.le_of_ble_eq_true (by with_unfolding_all rfl)) ?_ | refine r_cb ?_ | refine r_and ?_ | refine r_or ?_ | refine r_not ?_ | refine r_eIf ?_ | refine r_eAnd ?_ | refine r_eOr ?_ | refine r_eNot ?_ | refine r_isN ?_ | refine r_mt ?_ | refine r_tr ?_ | refine r_ss ?_ | refine r_dict0 ?_ | refine r_yes ?_ | refine r_isi ?_ | refine r_ty (by with_unfolding_all rfl) ?_ | refine r_ixT (by with_unfolding_all rfl) ?_ | refine r_ixE (by with_unfolding_all rfl) (by with_unfolding_all rfl) ?_ | refine r_ixL (by assumption) (by with_unfolding_all rfl) ?_ | refine r_addI ?_ | refine r_intF ?_ | refine r_intCF (by first | decide | exact cmul_r (by decide) | exact cmul_l (by decide)) ?_ | refine r_eqI ?_ | refine r_neI ?_ | refine r_eqS ?_ | refine r_neS ?_ | refine r_eqB ?_ | refine r_neB ?_ | refine r_int ?_ | refine r_drop ?_ | refine r_sub ?_ | refine r_gTp (by with_unfolding_all rfl) ?_ | refine r_gsCons ?_ | refine r_gsNil ?_ | refine r_for ?_ | refine r_lc ?_ | refine r_dc ?_ | refine r_iRg1 ?_ | refine r_inT (by with_unfolding_all rfl) (by with_unfolding_all rfl) ?_)
      by_cases a3 : r = 3
      · subst a3
        (repeat with_reducible first | refine r_seq ?_ | refine r_asg ?_ | refine r_nm ?_ | refine r_var (by with_unfolding_all rfl) ?_ | refine r_c ?_ | refine r_aCons ?_ | refine r_aNil ?_ | refine r_op ?_ | refine r_call ?_ | refine r_val ?_ | refine r_bl ?_ | refine r_if ?_ | refine r_ret ?_ | refine r_next ?_ | refine r_ifT (by first | decide | (with_unfolding_all rfl)) ?_ | refine r_ifF (by first | decide | (with_unfolding_all rfl)) ?_ | refine r_tup ?_ | refine r_lst ?_ | refine r_le (Nat.le_of_ble_eq_true (by with_unfolding_all rfl)) ?_ | refine r_cb ?_ | refine r_and ?_ | refine r_or ?_ | refine r_not ?_ | refine r_eIf ?_ | refine r_eAnd ?_ | refine r_eOr ?_ | refine r_eNot ?_ | refine r_isN ?_ | refine r_mt ?_ | refine r_tr ?_ | refine r_ss ?_ | refine r_dict0 ?_ | refine r_yes ?_ | refine r_isi ?_ | refine r_ty (by with_unfolding_all rfl) ?_ | refine r_ixT (by with_unfolding_all rfl) ?_ | refine r_ixE (by with_unfolding_all rfl) (by with_unfolding_all rfl) ?_ | refine r_ixL (by assumption) (by with_unfolding_all rfl) ?_ | refine r_addI ?_ | refine r_intF ?_ | refine r_intCF (by first | decide | exact cmul_r (by decide) | exact cmul_l (by decide)) ?_ | refine r_eqI ?_ | refine r_neI ?_ | refine r_eqS ?_ | refine r_neS ?_ | refine r_eqB ?_ | refine r_neB ?_ | refine r_int ?_ | refine r_drop ?_ | refine r_sub ?_ | refine r_gTp (by with_unfolding_all rfl) ?_ | refine r_gsCons ?_ | refine r_gsNil ?_ | refine r_for ?_ | refine r_lc ?_ | refine r_dc ?_ | refine r_iRg1 ?_ | refine r_inT (by with_unfolding_all rfl) (by with_unfolding_all rfl) ?_)
        refine r_len rfl ?_
        (repeat with_reducible first | refine r_seq ?_ | refine r_asg ?_ | refine r_nm ?_ | refine r_var (by with_unfolding_all rfl) ?_ | refine r_c ?_ | refine r_aCons ?_ | refine r_aNil ?_ | refine r_op ?_ | refine r_call ?_ | refine r_val ?_ | refine r_bl ?_ | refine r_if ?_ | refine r_ret ?_ | refine r_next ?_ | refine r_ifT (by first | decide | (with_unfolding_all rfl)) ?_ | refine r_ifF (by first | decide | (with_unfolding_all rfl)) ?_ | refine r_tup ?_ | refine r_lst ?_ | refine r_le (Nat.le_of_ble_eq_true (by with_unfolding_all rfl)) ?_ | refine r_cb ?_ | refine r_and ?_ | refine r_or ?_ | refine r_not ?_ | refine r_eIf ?_ | refine r_eAnd ?_ | refine r_eOr ?_ | refine r_eNot ?_ | refine r_isN ?_ | refine r_mt ?_ | refine r_tr ?_ | refine r_ss ?_ | refine r_dict0 ?_ | refine r_yes ?_ | refine r_isi ?_ | refine r_ty (by with_unfolding_all rfl) ?_ | refine r_ixT (by with_unfolding_all rfl) ?_ | refine r_ixE (by with_unfolding_all rfl) (by with_unfolding_all rfl) ?_ | refine r_ixL (by assumption) (by with_unfolding_all rfl) ?_ | refine r_addI ?_ | refine r_intF ?_ | refine r_intCF (by first | decide | exact cmul_r (by decide) | exact cmul_l (by decide)) ?_ | refine r_eqI ?_ | refine r_neI ?_ | refine r_eqS ?_ | refine r_neS ?_ | refine r_eqB ?_ | refine r_neB ?_ | refine r_int ?_ | refine r_drop ?_ | refine r_sub ?_ | refine r_gTp (by with_unfolding_all rfl) ?_ | refine r_gsCons ?_ | refine r_gsNil ?_ | refine r_for ?_ | refine r_lc ?_ | refine r_dc ?_ | refine r_iRg1 ?_ | refine r_inT (by with_unfolding_all rfl) (by with_unfolding_all rfl) ?_)
        refine ite_b (fun hf => ?_) (fun hf => ?_)
        · (repeat with_reducible first | refine r_seq ?_ | refine r_asg ?_ | refine r_nm ?_ | refine r_var (by with_unfolding_all rfl) ?_ | refine r_c ?_ | refine r_aCons ?_ | refine r_aNil ?_ | refine r_op ?_ | refine r_call ?_ | refine r_val ?_ | refine r_bl ?_ | refine r_if ?_ | refine r_ret ?_ | refine r_next ?_ | refine r_ifT (by first | decide | (with_unfolding_all rfl)) ?_ | refine r_ifF (by first | decide | (with_unfolding_all rfl)) ?_ | refine r_tup ?_ | refine r_lst ?_ | refine r_le (Nat.le_of_ble_eq_true (by with_unfolding_all rfl)) ?_ | refine r_cb ?_ | refine r_and ?_ | refine r_or ?_ | refine r_not ?_ | refine r_eIf ?_ | refine r_eAnd ?_ | refine r_eOr ?_ | refine r_eNot ?_ | refine r_isN ?_ | refine r_mt ?_ | refine r_tr ?_ | refine r_ss ?_ | refine r_dict0 ?_ | refine r_yes ?_ | refine r_isi ?_ | refine r_ty (by with_unfolding_all rfl) ?_ | refine r_ixT (by with_unfolding_all rfl) ?_ | refine r_ixE (by with_unfolding_all rfl) (by with_unfolding_all rfl) ?_ | refine r_ixL (by assumption) (by with_unfolding_all rfl) ?_ | refine r_addI ?_ | refine r_intF ?_ | refine r_intCF (by first | decide | exact cmul_r (by decide) | exact cmul_l (by decide)) ?_ | refine r_eqI ?_ | refine r_neI ?_ | refine r_eqS ?_ | refine r_neS ?_ | refine r_eqB ?_ | refine r_neB ?_ | refine r_int ?_ | refine r_drop ?_ | refine r_sub ?_ | refine r_gTp (by with_unfolding_all rfl) ?_ | refine r_gsCons ?_ | refine r_gsNil ?_ | refine r_for ?_ | refine r_lc ?_ | refine r_dc ?_ | refine r_iRg1 ?_ | refine r_inT (by with_unfolding_all rfl) (by with_unfolding_all rfl) ?_)
          refine draw_spec P0 (by omega) (by omega) fun S2 i hi P2 o2 => ?_
          (repeat with_reducible first | refine r_seq ?_ | refine r_asg ?_ | refine r_nm ?_ | refine r_var (by with_unfolding_all rfl) ?_ | refine r_c ?_ | refine r_aCons ?_ | refine r_aNil ?_ | refine r_op ?_ | refine r_call ?_ | refine r_val ?_ | refine r_bl ?_ | refine r_if ?_ | refine r_ret ?_ | refine r_next ?_ | refine r_ifT (by first | decide | (with_unfolding_all rfl)) ?_ | refine r_ifF (by first | decide | (with_unfolding_all rfl)) ?_ | refine r_tup ?_ | refine r_lst ?_ | refine r_le (Nat.le_of_ble_eq_true (by with_unfolding_all rfl)) ?_ | refine r_cb ?_ | refine r_and ?_ | refine r_or ?_ | refine r_not ?_ | refine r_eIf ?_ | refine r_eAnd ?_ | refine r_eOr ?_ | refine r_eNot ?_ | refine r_isN ?_ | refine r_mt ?_ | refine r_tr ?_ | refine r_ss ?_ | refine r_dict0 ?_ | refine r_yes ?_ | refine r_isi ?_ | refine r_ty (by with_unfolding_all rfl) ?_ | refine r_ixT (by with_unfolding_all rfl) ?_ | refine r_ixE (by with_unfolding_all rfl) (by with_unfolding_all rfl) ?_ | refine r_ixL (by assumption) (by with_unfolding_all rfl) ?_ | refine r_addI ?_ | refine r_intF ?_ | refine r_intCF (by first | decide | exact cmul_r (by decide) | exact cmul_l (by decide)) ?_ | refine r_eqI ?_ | refine r_neI ?_ | refine r_eqS ?_ | refine r_neS ?_ | refine r_eqB ?_ | refine r_neB ?_ | refine r_int ?_ | refine r_drop ?_ | refine r_sub ?_ | refine r_gTp (by with_unfolding_all rfl) ?_ | refine r_gsCons ?_ | refine r_gsNil ?_ | refine r_for ?_ | refine r_lc ?_ | refine r_dc ?_ | refine r_iRg1 ?_ | refine r_inT (by with_unfolding_all rfl) (by with_unfolding_all rfl) ?_)
          exact leaf S2 (.is i) (by show i < L0; omega) (Nat.le_refl _) rfl P2 (o2.b (by simp))
        · (repeat with_reducible first | refine r_seq ?_ | refine r_asg ?_ | refine r_nm ?_ | refine r_var (by with_unfolding_all rfl) ?_ | refine r_c ?_ | refine r_aCons ?_ | refine r_aNil ?_ | refine r_op ?_ | refine r_call ?_ | refine r_val ?_ | refine r_bl ?_ | refine r_if ?_ | refine r_ret ?_ | refine r_next ?_ | refine r_ifT (by first | decide | (with_unfolding_all rfl)) ?_ | refine r_ifF (by first | decide | (with_unfolding_all rfl)) ?_ | refine r_tup ?_ | refine r_lst ?_ | refine r_le (Nat.le_of_ble_eq_true (by with_unfolding_all rfl)) ?_ | refine r_cb ?_ | refine r_and ?_ | refine r_or ?_ | refine r_not ?_ | refine r_eIf ?_ | refine r_eAnd ?_ | refine r_eOr ?_ | refine r_eNot ?_ | refine r_isN ?_ | refine r_mt ?_ | refine r_tr ?_ | refine r_ss ?_ | refine r_dict0 ?_ | refine r_yes ?_ | refine r_isi ?_ | refine r_ty (by with_unfolding_all rfl) ?_ | refine r_ixT (by with_unfolding_all rfl) ?_ | refine r_ixE (by with_unfolding_all rfl) (by with_unfolding_all rfl) ?_ | refine r_ixL (by assumption) (by with_unfolding_all rfl) ?_ | refine r_addI ?_ | refine r_intF ?_ | refine r_intCF (by first | decide | exact cmul_r (by decide) | exact cmul_l (by decide)) ?_ | refine r_eqI ?_ | refine r_neI ?_ | refine r_eqS ?_ | refine r_neS ?_ | refine r_eqB ?_ | refine r_neB ?_ | refine r_int ?_ | refine r_drop ?_ | refine r_sub ?_ | refine r_gTp (by with_unfolding_all rfl) ?_ | refine r_gsCons ?_ | refine r_gsNil ?_ | refine r_for ?_ | refine r_lc ?_ | refine r_dc ?_ | refine r_iRg1 ?_ | refine r_inT (by with_unfolding_all rfl) (by with_unfolding_all rfl) ?_)
          refine r_len rfl ?_
          (repeat with_reducible first | refine r_seq ?_ | refine r_asg ?_ | refine r_nm ?_ | refine r_var (by with_unfolding_all rfl) ?_ | refine r_c ?_ | refine r_aCons ?_ | refine r_aNil ?_ | refine r_op ?_ | refine r_call ?_ | refine r_val ?_ | refine r_bl ?_ | refine r_if ?_ | refine r_ret ?_ | refine r_next ?_ | refine r_ifT (by first | decide | (with_unfolding_all rfl)) ?_ | refine r_ifF (by first | decide | (with_unfolding_all rfl)) ?_ | refine r_tup ?_ | refine r_lst ?_ | refine r_le (Nat.le_of_ble_eq_true (by with_unfolding_all rfl)) ?_ | refine r_cb ?_ | refine r_and ?_ | refine r_or ?_ | refine r_not ?_ | refine r_eIf ?_ | refine r_eAnd ?_ | refine r_eOr ?_ | refine r_eNot ?_ | refine r_isN ?_ | refine r_mt ?_ | refine r_tr ?_ | refine r_ss ?_ | refine r_dict0 ?_ | refine r_yes ?_ | refine r_isi ?_ | refine r_ty (by with_unfolding_all rfl) ?_ | refine r_ixT (by with_unfolding_all rfl) ?_ | refine r_ixE (by with_unfolding_all rfl) (by with_unfolding_all rfl) ?_ | refine r_ixL (by assumption) (by with_unfolding_all rfl) ?_ | refine r_addI ?_ | refine r_intF ?_ | refine r_intCF (by first | decide | exact cmul_r (by decide) | exact cmul_l (by decide)) ?_ | refine r_eqI ?_ | refine r_neI ?_ | refine r_eqS ?_ | refine r_neS ?_ | refine r_eqB ?_ | refine r_neB ?_ | refine r_int ?_ | refine r_drop ?_ | refine r_sub ?_ | refine r_gTp (by with_unfolding_all rfl) ?_ | refine r_gsCons ?_ | refine r_gsNil ?_ | refine r_for ?_ | refine r_lc ?_ | refine r_dc ?_ | refine r_iRg1 ?_ | refine r_inT (by with_unfolding_all rfl) (by with_unfolding_all rfl) ?_)
          refine ite_b (fun hf => ?_) (fun hf => ?_)
          · (repeat with_reducible first | refine r_seq ?_ | refine r_asg ?_ | refine r_nm ?_ | refine r_var (by with_unfolding_all rfl) ?_ | refine r_c ?_ | refine r_aCons ?_ | refine r_aNil ?_ | refine r_op ?_ | refine r_call ?_ | refine r_val ?_ | refine r_bl ?_ | refine r_if ?_ | refine r_ret ?_ | refine r_next ?_ | refine r_ifT (by first | decide | (with_unfolding_all rfl)) ?_ | refine r_ifF (by first | decide | (with_unfolding_all rfl)) ?_ | refine r_tup ?_ | refine r_lst ?_ | refine r_le (Nat.le_of_ble_eq_true (by with_unfolding_all rfl)) ?_ | refine r_cb ?_ | refine r_and ?_ | refine r_or ?_ | refine r_not ?_ | refine r_eIf ?_ | refine r_eAnd ?_ | refine r_eOr ?_ | refine r_eNot ?_ | refine r_isN ?_ | refine r_mt ?_ | refine r_tr ?_ | refine r_ss ?_ | refine r_dict0 ?_ | refine r_yes ?_ | refine r_isi ?_ | refine r_ty (by with_unfolding_all rfl) ?_ | refine r_ixT (by with_unfolding_all rfl) ?_ | refine r_ixE (by with_unfolding_all rfl) (by with_unfolding_all rfl) ?_ | refine r_ixL (by assumption) (by with_unfolding_all rfl) ?_ | refine r_addI ?_ | refine r_intF ?_ | refine r_intCF (by first | decide | exact cmul_r (by decide) | exact cmul_l (by decide)) ?_ | refine r_eqI ?_ | refine r_neI ?_ | refine r_eqS ?_ | refine r_neS ?_ | refine r_eqB ?_ | refine r_neB ?_ | refine r_int ?_ | refine r_drop ?_ | refine r_sub ?_ | refine r_gTp (by with_unfolding_all rfl) ?_ | refine r_gsCons ?_ | refine r_gsNil ?_ | refine r_for ?_ | refine r_lc ?_ | refine r_dc ?_ | refine r_iRg1 ?_ | refine r_inT (by with_unfolding_all rfl) (by with_unfolding_all rfl) ?_)
            refine r_list rfl ?_
            (repeat with_reducible first | refine r_seq ?_ | refine r_asg ?_ | refine r_nm ?_ | refine r_var (by with_unfolding_all rfl) ?_ | refine r_c ?_ | refine r_aCons ?_ | refine r_aNil ?_ | refine r_op ?_ | refine r_call ?_ | refine r_val ?_ | refine r_bl ?_ | refine r_if ?_ | refine r_ret ?_ | refine r_next ?_ | refine r_ifT (by first | decide | (with_unfolding_all rfl)) ?_ | refine r_ifF (by first | decide | (with_unfolding_all rfl)) ?_ | refine r_tup ?_ | refine r_lst ?_ | refine r_le (Nat.le_of_ble_eq_true (by with_unfolding_all rfl)) ?_ | refine r_cb ?_ | refine r_and ?_ | refine r_or ?_ | refine r_not ?_ | refine r_eIf ?_ | refine r_eAnd ?_ | refine r_eOr ?_ | refine r_eNot ?_ | refine r_isN ?_ | refine r_mt ?_ | refine r_tr ?_ | refine r_ss ?_ | refine r_dict0 ?_ | refine r_yes ?_ | refine r_isi ?_ | refine r_ty (by with_unfolding_all rfl) ?_ | refine r_ixT (by with_unfolding_all rfl) ?_ | refine r_ixE (by with_unfolding_all rfl) (by with_unfolding_all rfl) ?_ | refine r_ixL (by assumption) (by with_unfolding_all rfl) ?_ | refine r_addI ?_ | refine r_intF ?_ | refine r_intCF (by first | decide | exact cmul_r (by decide) | exact cmul_l (by decide)) ?_ | refine r_eqI ?_ | refine r_neI ?_ | refine r_eqS ?_ | refine r_neS ?_ | refine r_eqB ?_ | refine r_neB ?_ | refine r_int ?_ | refine r_drop ?_ | refine r_sub ?_ | refine r_gTp (by with_unfolding_all rfl) ?_ | refine r_gsCons ?_ | refine r_gsNil ?_ | refine r_for ?_ | refine r_lc ?_ | refine r_dc ?_ | refine r_iRg1 ?_ | refine r_inT (by with_unfolding_all rfl) (by with_unfolding_all rfl) ?_)
            have hf : 0 < fr.length := by simpa using hf
            refine pick_spec (P0.ext (Ext.app S0 _)) (Nat.ne_of_gt P0.lt) (new_at S0 _) (by simpa using hf) (by simp; omega) fun S2 d hdm P2 o2 => ?_
            obtain ⟨x, hx, rfl⟩ := List.mem_map.mp hdm
            (repeat with_reducible first | refine r_seq ?_ | refine r_asg ?_ | refine r_nm ?_ | refine r_var (by with_unfolding_all rfl) ?_ | refine r_c ?_ | refine r_aCons ?_ | refine r_aNil ?_ | refine r_op ?_ | refine r_call ?_ | refine r_val ?_ | refine r_bl ?_ | refine r_if ?_ | refine r_ret ?_ | refine r_next ?_ | refine r_ifT (by first | decide | (with_unfolding_all rfl)) ?_ | refine r_ifF (by first | decide | (with_unfolding_all rfl)) ?_ | refine r_tup ?_ | refine r_lst ?_ | refine r_le (Nat.le_of_ble_eq_true (by with_unfolding_all rfl)) ?_ | refine r_cb ?_ | refine r_and ?_ | refine r_or ?_ | refine r_not ?_ | refine r_eIf ?_ | refine r_eAnd ?_ | refine r_eOr ?_ | refine r_eNot ?_ | refine r_isN ?_ | refine r_mt ?_ | refine r_tr ?_ | refine r_ss ?_ | refine r_dict0 ?_ | refine r_yes ?_ | refine r_isi ?_ | refine r_ty (by with_unfolding_all rfl) ?_ | refine r_ixT (by with_unfolding_all rfl) ?_ | refine r_ixE (by with_unfolding_all rfl) (by with_unfolding_all rfl) ?_ | refine r_ixL (by assumption) (by with_unfolding_all rfl) ?_ | refine r_addI ?_ | refine r_intF ?_ | refine r_intCF (by first | decide | exact cmul_r (by decide) | exact cmul_l (by decide)) ?_ | refine r_eqI ?_ | refine r_neI ?_ | refine r_eqS ?_ | refine r_neS ?_ | refine r_eqB ?_ | refine r_neB ?_ | refine r_int ?_ | refine r_drop ?_ | refine r_sub ?_ | refine r_gTp (by with_unfolding_all rfl) ?_ | refine r_gsCons ?_ | refine r_gsNil ?_ | refine r_for ?_ | refine r_lc ?_ | refine r_dc ?_ | refine r_iRg1 ?_ | refine r_inT (by with_unfolding_all rfl) (by with_unfolding_all rfl) ?_)
            exact leaf S2 (.name x) hx (Nat.le_refl _) rfl P2 (((Ext.app S0 _).b _).trans (o2.b (by simp)))
          · (repeat with_reducible first | refine r_seq ?_ | refine r_asg ?_ | refine r_nm ?_ | refine r_var (by with_unfolding_all rfl) ?_ | refine r_c ?_ | refine r_aCons ?_ | refine r_aNil ?_ | refine r_op ?_ | refine r_call ?_ | refine r_val ?_ | refine r_bl ?_ | refine r_if ?_ | refine r_ret ?_ | refine r_next ?_ | refine r_ifT (by first | decide | (with_unfolding_all rfl)) ?_ | refine r_ifF (by first | decide | (with_unfolding_all rfl)) ?_ | refine r_tup ?_ | refine r_lst ?_ | refine r_le (Nat.le_of_ble_eq_true (by with_unfolding_all rfl)) ?_ | refine r_cb ?_ | refine r_and ?_ | refine r_or ?_ | refine r_not ?_ | refine r_eIf ?_ | refine r_eAnd ?_ | refine r_eOr ?_ | refine r_eNot ?_ | refine r_isN ?_ | refine r_mt ?_ | refine r_tr ?_ | refine r_ss ?_ | refine r_dict0 ?_ | refine r_yes ?_ | refine r_isi ?_ | refine r_ty (by with_unfolding_all rfl) ?_ | refine r_ixT (by with_unfolding_all rfl) ?_ | refine r_ixE (by with_unfolding_all rfl) (by with_unfolding_all rfl) ?_ | refine r_ixL (by assumption) (by with_unfolding_all rfl) ?_ | refine r_addI ?_ | refine r_intF ?_ | refine r_intCF (by first | decide | exact cmul_r (by decide) | exact cmul_l (by decide)) ?_ | refine r_eqI ?_ | refine r_neI ?_ | refine r_eqS ?_ | refine r_neS ?_ | refine r_eqB ?_ | refine r_neB ?_ | refine r_int ?_ | refine r_drop ?_ | refine r_sub ?_ | refine r_gTp (by with_unfolding_all rfl) ?_ | refine r_gsCons ?_ | refine r_gsNil ?_ | refine r_for ?_ | refine r_lc ?_ | refine r_dc ?_ | refine r_iRg1 ?_ | refine r_inT (by with_unfolding_all rfl) (by with_unfolding_all rfl) ?_)
            refine draw_spec P0 (by omega) (by omega) fun S2 i hi P2 o2 => ?_
            (repeat with_reducible first | refine r_seq ?_ | refine r_asg ?_ | refine r_nm ?_ | refine r_var (by with_unfolding_all rfl) ?_ | refine r_c ?_ | refine r_aCons ?_ | refine r_aNil ?_ | refine r_op ?_ | refine r_call ?_ | refine r_val ?_ | refine r_bl ?_ | refine r_if ?_ | refine r_ret ?_ | refine r_next ?_ | refine r_ifT (by first | decide | (with_unfolding_all rfl)) ?_ | refine r_ifF (by first | decide | (with_unfolding_all rfl)) ?_ | refine r_tup ?_ | refine r_lst ?_ | refine r_le (Nat.le_of_ble_eq_true (by with_unfolding_all rfl)) ?_ | refine r_cb ?_ | refine r_and ?_ | refine r_or ?_ | refine r_not ?_ | refine r_eIf ?_ | refine r_eAnd ?_ | refine r_eOr ?_ | refine r_eNot ?_ | refine r_isN ?_ | refine r_mt ?_ | refine r_tr ?_ | refine r_ss ?_ | refine r_dict0 ?_ | refine r_yes ?_ | refine r_isi ?_ | refine r_ty (by with_unfolding_all rfl) ?_ | refine r_ixT (by with_unfolding_all rfl) ?_ | refine r_ixE (by with_unfolding_all rfl) (by with_unfolding_all rfl) ?_ | refine r_ixL (by assumption) (by with_unfolding_all rfl) ?_ | refine r_addI ?_ | refine r_intF ?_ | refine r_intCF (by first | decide | exact cmul_r (by decide) | exact cmul_l (by decide)) ?_ | refine r_eqI ?_ | refine r_neI ?_ | refine r_eqS ?_ | refine r_neS ?_ | refine r_eqB ?_ | refine r_neB ?_ | refine r_int ?_ | refine r_drop ?_ | refine r_sub ?_ | refine r_gTp (by with_unfolding_all rfl) ?_ | refine r_gsCons ?_ | refine r_gsNil ?_ | refine r_for ?_ | refine r_lc ?_ | refine r_dc ?_ | refine r_iRg1 ?_ | refine r_inT (by with_unfolding_all rfl) (by with_unfolding_all rfl) ?_)
            exact leaf S2 (.isnt i) (by show i < L0; omega) (Nat.le_refl _) rfl P2 (o2.b (by simp))
      by_cases a4 : r = 4
      · subst a4
        (repeat with_reducible first | refine r_seq ?_ | refine r_asg ?_ | refine r_nm ?_ | refine r_var (by with_unfolding_all rfl) ?_ | refine r_c ?_ | refine r_aCons ?_ | refine r_aNil ?_ | refine r_op ?_ | refine r_call ?_ | refine r_val ?_ | refine r_bl ?_ | refine r_if ?_ | refine r_ret ?_ | refine r_next ?_ | refine r_ifT (by first | decide | (with_unfolding_all rfl)) ?_ | refine r_ifF (by first | decide | (with_unfolding_all rfl)) ?_ | refine r_tup ?_ | refine r_lst ?_ | refine r_le (Nat.le_of_ble_eq_true (by with_unfolding_all rfl)) ?_ | refine r_cb ?_ | refine r_and ?_ | refine r_or ?_ | refine r_not ?_ | refine r_eIf ?_ | refine r_eAnd ?_ | refine r_eOr ?_ | refine r_eNot ?_ | refine r_isN ?_ | refine r_mt ?_ | refine r_tr ?_ | refine r_ss ?_ | refine r_dict0 ?_ | refine r_yes ?_ | refine r_isi ?_ | refine r_ty (by with_unfolding_all rfl) ?_ | refine r_ixT (by with_unfolding_all rfl) ?_ | refine r_ixE (by with_unfolding_all rfl) (by with_unfolding_all rfl) ?_ | refine r_ixL (by assumption) (by with_unfolding_all rfl) ?_ | refine r_addI ?_ | refine r_intF ?_ | refine r_intCF (by first | decide | exact cmul_r (by decide) | exact cmul_l (by decide)) ?_ | refine r_eqI ?_ | refine r_neI ?_ | refine r_eqS ?_ | refine r_neS ?_ | refine r_eqB ?_ | refine r_neB ?_ | refine r_int ?_ | refine r_drop ?_ | refine r_sub ?_ | refine r_gTp (by with_unfolding_all rfl) ?_ | refine r_gsCons ?_ | refine r_gsNil ?_ | refine r_for ?_ | refine r_lc ?_ | refine r_dc ?_ | refine r_iRg1 ?_ | refine r_inT (by with_unfolding_all rfl) (by with_unfolding_all rfl) ?_)
        refine r_len rfl ?_
        (repeat with_reducible first | refine r_seq ?_ | refine r_asg ?_ | refine r_nm ?_ | refine r_var (by with_unfolding_all rfl) ?_ | refine r_c ?_ | refine r_aCons ?_ | refine r_aNil ?_ | refine r_op ?_ | refine r_call ?_ | refine r_val ?_ | refine r_bl ?_ | refine r_if ?_ | refine r_ret ?_ | refine r_next ?_ | refine r_ifT (by first | decide | (with_unfolding_all rfl)) ?_ | refine r_ifF (by first | decide | (with_unfolding_all rfl)) ?_ | refine r_tup ?_ | refine r_lst ?_ | refine r_le (Nat.le_of_ble_eq_true (by with_unfolding_all rfl)) ?_ | refine r_cb ?_ | refine r_and ?_ | refine r_or ?_ | refine r_not ?_ | refine r_eIf ?_ | refine r_eAnd ?_ | refine r_eOr ?_ | refine r_eNot ?_ | refine r_isN ?_ | refine r_mt ?_ | refine r_tr ?_ | refine r_ss ?_ | refine r_dict0 ?_ | refine r_yes ?_ | refine r_isi ?_ | refine r_ty (by with_unfolding_all rfl) ?_ | refine r_ixT (by with_unfolding_all rfl) ?_ | refine r_ixE (by with_unfolding_all rfl) (by with_unfolding_all rfl) ?_ | refine r_ixL (by assumption) (by with_unfolding_all rfl) ?_ | refine r_addI ?_ | refine r_intF ?_ | refine r_intCF (by first | decide | exact cmul_r (by decide) | exact cmul_l (by decide)) ?_ | refine r_eqI ?_ | refine r_neI ?_ | refine r_eqS ?_ | refine r_neS ?_ | refine r_eqB ?_ | refine r_neB ?_ | refine r_int ?_ | refine r_drop ?_ | refine r_sub ?_ | refine r_gTp (by with_unfolding_all rfl) ?_ | refine r_gsCons ?_ | refine r_gsNil ?_ | refine r_for ?_ | refine r_lc ?_ | refine r_dc ?_ | refine r_iRg1 ?_ | refine r_inT (by with_unfolding_all rfl) (by with_unfolding_all rfl) ?_)
        refine ite_b (fun hf => ?_) (fun hf => ?_)
        · (repeat with_reducible first | refine r_seq ?_ | refine r_asg ?_ | refine r_nm ?_ | refine r_var (by with_unfolding_all rfl) ?_ | refine r_c ?_ | refine r_aCons ?_ | refine r_aNil ?_ | refine r_op ?_ | refine r_call ?_ | refine r_val ?_ | refine r_bl ?_ | refine r_if ?_ | refine r_ret ?_ | refine r_next ?_ | refine r_ifT (by first | decide | (with_unfolding_all rfl)) ?_ | refine r_ifF (by first | decide | (with_unfolding_all rfl)) ?_ | refine r_tup ?_ | refine r_lst ?_ | refine r_le (Nat.le_of_ble_eq_true (by with_unfolding_all rfl)) ?_ | refine r_cb ?_ | refine r_and ?_ | refine r_or ?_ | refine r_not ?_ | refine r_eIf ?_ | refine r_eAnd ?_ | refine r_eOr ?_ | refine r_eNot ?_ | refine r_isN ?_ | refine r_mt ?_ | refine r_tr ?_ | refine r_ss ?_ | refine r_dict0 ?_ | refine r_yes ?_ | refine r_isi ?_ | refine r_ty (by with_unfolding_all rfl) ?_ | refine r_ixT (by with_unfolding_all rfl) ?_ | refine r_ixE (by with_unfolding_all rfl) (by with_unfolding_all rfl) ?_ | refine r_ixL (by assumption) (by with_unfolding_all rfl) ?_ | refine r_addI ?_ | refine r_intF ?_ | refine r_intCF (by first | decide | exact cmul_r (by decide) | exact cmul_l (by decide)) ?_ | refine r_eqI ?_ | refine r_neI ?_ | refine r_eqS ?_ | refine r_neS ?_ | refine r_eqB ?_ | refine r_neB ?_ | refine r_int ?_ | refine r_drop ?_ | refine r_sub ?_ | refine r_gTp (by with_unfolding_all rfl) ?_ | refine r_gsCons ?_ | refine r_gsNil ?_ | refine r_for ?_ | refine r_lc ?_ | refine r_dc ?_ | refine r_iRg1 ?_ | refine r_inT (by with_unfolding_all rfl) (by with_unfolding_all rfl) ?_)
          refine r_list rfl ?_
          (repeat with_reducible first | refine r_seq ?_ | refine r_asg ?_ | refine r_nm ?_ | refine r_var (by with_unfolding_all rfl) ?_ | refine r_c ?_ | refine r_aCons ?_ | refine r_aNil ?_ | refine r_op ?_ | refine r_call ?_ | refine r_val ?_ | refine r_bl ?_ | refine r_if ?_ | refine r_ret ?_ | refine r_next ?_ | refine r_ifT (by first | decide | (with_unfolding_all rfl)) ?_ | refine r_ifF (by first | decide | (with_unfolding_all rfl)) ?_ | refine r_tup ?_ | refine r_lst ?_ | refine r_le (Nat.le_of_ble_eq_true (by with_unfolding_all rfl)) ?_ | refine r_cb ?_ | refine r_and ?_ | refine r_or ?_ | refine r_not ?_ | refine r_eIf ?_ | refine r_eAnd ?_ | refine r_eOr ?_ | refine r_eNot ?_ | refine r_isN ?_ | refine r_mt ?_ | refine r_tr ?_ | refine r_ss ?_ | refine r_dict0 ?_ | refine r_yes ?_ | refine r_isi ?_ | refine r_ty (by with_unfolding_all rfl) ?_ | refine r_ixT (by with_unfolding_all rfl) ?_ | refine r_ixE (by with_unfolding_all rfl) (by with_unfolding_all rfl) ?_ | refine r_ixL (by assumption) (by with_unfolding_all rfl) ?_ | refine r_addI ?_ | refine r_intF ?_ | refine r_intCF (by first | decide | exact cmul_r (by decide) | exact cmul_l (by decide)) ?_ | refine r_eqI ?_ | refine r_neI ?_ | refine r_eqS ?_ | refine r_neS ?_ | refine r_eqB ?_ | refine r_neB ?_ | refine r_int ?_ | refine r_drop ?_ | refine r_sub ?_ | refine r_gTp (by with_unfolding_all rfl) ?_ | refine r_gsCons ?_ | refine r_gsNil ?_ | refine r_for ?_ | refine r_lc ?_ | refine r_dc ?_ | refine r_iRg1 ?_ | refine r_inT (by with_unfolding_all rfl) (by with_unfolding_all rfl) ?_)
          have hf : 0 < fr.length := by simpa using hf
          refine pick_spec (P0.ext (Ext.app S0 _)) (Nat.ne_of_gt P0.lt) (new_at S0 _) (by simpa using hf) (by simp; omega) fun S2 d hdm P2 o2 => ?_
          obtain ⟨x, hx, rfl⟩ := List.mem_map.mp hdm
          (repeat with_reducible first | refine r_seq ?_ | refine r_asg ?_ | refine r_nm ?_ | refine r_var (by with_unfolding_all rfl) ?_ | refine r_c ?_ | refine r_aCons ?_ | refine r_aNil ?_ | refine r_op ?_ | refine r_call ?_ | refine r_val ?_ | refine r_bl ?_ | refine r_if ?_ | refine r_ret ?_ | refine r_next ?_ | refine r_ifT (by first | decide | (with_unfolding_all rfl)) ?_ | refine r_ifF (by first | decide | (with_unfolding_all rfl)) ?_ | refine r_tup ?_ | refine r_lst ?_ | refine r_le (Nat.le_of_ble_eq_true (by with_unfolding_all rfl)) ?_ | refine r_cb ?_ | refine r_and ?_ | refine r_or ?_ | refine r_not ?_ | refine r_eIf ?_ | refine r_eAnd ?_ | refine r_eOr ?_ | refine r_eNot ?_ | refine r_isN ?_ | refine r_mt ?_ | refine r_tr ?_ | refine r_ss ?_ | refine r_dict0 ?_ | refine r_yes ?_ | refine r_isi ?_ | refine r_ty (by with_unfolding_all rfl) ?_ | refine r_ixT (by with_unfolding_all rfl) ?_ | refine r_ixE (by with_unfolding_all rfl) (by with_unfolding_all rfl) ?_ | refine r_ixL (by assumption) (by with_unfolding_all rfl) ?_ | refine r_addI ?_ | refine r_intF ?_ | refine r_intCF (by first | decide | exact cmul_r (by decide) | exact cmul_l (by decide)) ?_ | refine r_eqI ?_ | refine r_neI ?_ | refine r_eqS ?_ | refine r_neS ?_ | refine r_eqB ?_ | refine r_neB ?_ | refine r_int ?_ | refine r_drop ?_ | refine r_sub ?_ | refine r_gTp (by with_unfolding_all rfl) ?_ | refine r_gsCons ?_ | refine r_gsNil ?_ | refine r_for ?_ | refine r_lc ?_ | refine r_dc ?_ | refine r_iRg1 ?_ | refine r_inT (by with_unfolding_all rfl) (by with_unfolding_all rfl) ?_)
          exact leaf S2 (.name x) hx (Nat.le_refl _) rfl P2 (((Ext.app S0 _).b _).trans (o2.b (by simp)))
        · (repeat with_reducible first | refine r_seq ?_ | refine r_asg ?_ | refine r_nm ?_ | refine r_var (by with_unfolding_all rfl) ?_ | refine r_c ?_ | refine r_aCons ?_ | refine r_aNil ?_ | refine r_op ?_ | refine r_call ?_ | refine r_val ?_ | refine r_bl ?_ | refine r_if ?_ | refine r_ret ?_ | refine r_next ?_ | refine r_ifT (by first | decide | (with_unfolding_all rfl)) ?_ | refine r_ifF (by first | decide | (with_unfolding_all rfl)) ?_ | refine r_tup ?_ | refine r_lst ?_ | refine r_le (Nat.le_of_ble_eq_true (by with_unfolding_all rfl)) ?_ | refine r_cb ?_ | refine r_and ?_ | refine r_or ?_ | refine r_not ?_ | refine r_eIf ?_ | refine r_eAnd ?_ | refine r_eOr ?_ | refine r_eNot ?_ | refine r_isN ?_ | refine r_mt ?_ | refine r_tr ?_ | refine r_ss ?_ | refine r_dict0 ?_ | refine r_yes ?_ | refine r_isi ?_ | refine r_ty (by with_unfolding_all rfl) ?_ | refine r_ixT (by with_unfolding_all rfl) ?_ | refine r_ixE (by with_unfolding_all rfl) (by with_unfolding_all rfl) ?_ | refine r_ixL (by assumption) (by with_unfolding_all rfl) ?_ | refine r_addI ?_ | refine r_intF ?_ | refine r_intCF (by first | decide | exact cmul_r (by decide) | exact cmul_l (by decide)) ?_ | refine r_eqI ?_ | refine r_neI ?_ | refine r_eqS ?_ | refine r_neS ?_ | refine r_eqB ?_ | refine r_neB ?_ | refine r_int ?_ | refine r_drop ?_ | refine r_sub ?_ | refine r_gTp (by with_unfolding_all rfl) ?_ | refine r_gsCons ?_ | refine r_gsNil ?_ | refine r_for ?_ | refine r_lc ?_ | refine r_dc ?_ | refine r_iRg1 ?_ | refine r_inT (by with_unfolding_all rfl) (by with_unfolding_all rfl) ?_)
          refine draw_spec P0 (by omega) (by omega) fun S2 i hi P2 o2 => ?_
          (repeat with_reducible first | refine r_seq ?_ | refine r_asg ?_ | refine r_nm ?_ | refine r_var (by with_unfolding_all rfl) ?_ | refine r_c ?_ | refine r_aCons ?_ | refine r_aNil ?_ | refine r_op ?_ | refine r_call ?_ | refine r_val ?_ | refine r_bl ?_ | refine r_if ?_ | refine r_ret ?_ | refine r_next ?_ | refine r_ifT (by first | decide | (with_unfolding_all rfl)) ?_ | refine r_ifF (by first | decide | (with_unfolding_all rfl)) ?_ | refine r_tup ?_ | refine r_lst ?_ | refine r_le (Nat.le_of_ble_eq_true (by with_unfolding_all rfl)) ?_ | refine r_cb ?_ | refine r_and ?_ | refine r_or ?_ | refine r_not ?_ | refine r_eIf ?_ | refine r_eAnd ?_ | refine r_eOr ?_ | refine r_eNot ?_ | refine r_isN ?_ | refine r_mt ?_ | refine r_tr ?_ | refine r_ss ?_ | refine r_dict0 ?_ | refine r_yes ?_ | refine r_isi ?_ | refine r_ty (by with_unfolding_all rfl) ?_ | refine r_ixT (by with_unfolding_all rfl) ?_ | refine r_ixE (by with_unfolding_all rfl) (by with_unfolding_all rfl) ?_ | refine r_ixL (by assumption) (by with_unfolding_all rfl) ?_ | refine r_addI ?_ | refine r_intF ?_ | refine r_intCF (by first | decide | exact cmul_r (by decide) | exact cmul_l (by decide)) ?_ | refine r_eqI ?_ | refine r_neI ?_ | refine r_eqS ?_ | refine r_neS ?_ | refine r_eqB ?_ | refine r_neB ?_ | refine r_int ?_ | refine r_drop ?_ | refine r_sub ?_ | refine r_gTp (by with_unfolding_all rfl) ?_ | refine r_gsCons ?_ | refine r_gsNil ?_ | refine r_for ?_ | refine r_lc ?_ | refine r_dc ?_ | refine r_iRg1 ?_ | refine r_inT (by with_unfolding_all rfl) (by with_unfolding_all rfl) ?_)
          exact leaf S2 (.isnt i) (by show i < L0; omega) (Nat.le_refl _) rfl P2 (o2.b (by simp))
      refine r_ifF (decide_eq_false (by omega)) ?_
      (repeat with_reducible first | refine r_seq ?_ | refine r_asg ?_ | refine r_nm ?_ | refine r_var (by with_unfolding_all rfl) ?_ | refine r_c ?_ | refine r_aCons ?_ | refine r_aNil ?_ | refine r_op ?_ | refine r_call ?_ | refine r_val ?_ | refine r_bl ?_ | refine r_if ?_ | refine r_ret ?_ | refine r_next ?_ | refine r_ifT (by first | decide | (with_unfolding_all rfl)) ?_ | refine r_ifF (by first | decide | (with_unfolding_all rfl)) ?_ | refine r_tup ?_ | refine r_lst ?_ | refine r_le (Nat.le_of_ble_eq_true (by with_unfolding_all rfl)) ?_ | refine r_cb ?_ | refine r_and ?_ | refine r_or ?_ | refine r_not ?_ | refine r_eIf ?_ | refine r_eAnd ?_ | refine r_eOr ?_ | refine r_eNot ?_ | refine r_isN ?_ | refine r_mt ?_ | refine r_tr ?_ | refine r_ss ?_ | refine r_dict0 ?_ | refine r_yes ?_ | refine r_isi ?_ | refine r_ty (by with_unfolding_all rfl) ?_ | refine r_ixT (by with_unfolding_all rfl) ?_ | refine r_ixE (by with_unfolding_all rfl) (by with_unfolding_all rfl) ?_ | refine r_ixL (by assumption) (by with_unfolding_all rfl) ?_ | refine r_addI ?_ | refine r_intF ?_ | refine r_intCF (by first | decide | exact cmul_r (by decide) | exact cmul_l (by decide)) ?_ | refine r_eqI ?_ | refine r_neI ?_ | refine r_eqS ?_ | refine r_neS ?_ | refine r_eqB ?_ | refine r_neB ?_ | refine r_int ?_ | refine r_drop ?_ | refine r_sub ?_ | refine r_gTp (by with_unfolding_all rfl) ?_ | refine r_gsCons ?_ | refine r_gsNil ?_ | refine r_for ?_ | refine r_lc ?_ | refine r_dc ?_ | refine r_iRg1 ?_ | refine r_inT (by with_unfolding_all rfl) (by with_unfolding_all rfl) ?_)
      by_cases a5 : r = 2
      · subst a5
        (repeat with_reducible first | refine r_seq ?_ | refine r_asg ?_ | refine r_nm ?_ | refine r_var (by with_unfolding_all rfl) ?_ | refine r_c ?_ | refine r_aCons ?_ | refine r_aNil ?_ | refine r_op ?_ | refine r_call ?_ | refine r_val ?_ | refine r_bl ?_ | refine r_if ?_ | refine r_ret ?_ | refine r_next ?_ | refine r_ifT (by first | decide | (with_unfolding_all rfl)) ?_ | refine r_ifF (by first | decide | (with_unfolding_all rfl)) ?_ | refine r_tup ?_ | refine r_lst ?_ | refine r_le (Nat.le_of_ble_eq_true (by with_unfolding_all rfl)) ?_ | refine r_cb ?_ | refine r_and ?_ | refine r_or ?_ | refine r_not ?_ | refine r_eIf ?_ | refine r_eAnd ?_ | refine r_eOr ?_ | refine r_eNot ?_ | refine r_isN ?_ | refine r_mt ?_ | refine r_tr ?_ | refine r_ss ?_ | refine r_dict0 ?_ | refine r_yes ?_ | refine r_isi ?_ | refine r_ty (by with_unfolding_all rfl) ?_ | refine r_ixT (by with_unfolding_all rfl) ?_ | refine r_ixE (by with_unfolding_all rfl) (by with_unfolding_all rfl) ?_ | refine r_ixL (by assumption) (by with_unfolding_all rfl) ?_ | refine r_addI ?_ | refine r_intF ?_ | refine r_intCF (by first | decide | exact cmul_r (by decide) | exact cmul_l (by decide)) ?_ | refine r_eqI ?_ | refine r_neI ?_ | refine r_eqS ?_ | refine r_neS ?_ | refine r_eqB ?_ | refine r_neB ?_ | refine r_int ?_ | refine r_drop ?_ | refine r_sub ?_ | refine r_gTp (by with_unfolding_all rfl) ?_ | refine r_gsCons ?_ | refine r_gsNil ?_ | refine r_for ?_ | refine r_lc ?_ | refine r_dc ?_ | refine r_iRg1 ?_ | refine r_inT (by with_unfolding_all rfl) (by with_unfolding_all rfl) ?_)
        refine draw_spec P0 (by decide) (by decide) fun S1 i hi P1 o1 => ?_
        (repeat with_reducible first | refine r_seq ?_ | refine r_asg ?_ | refine r_nm ?_ | refine r_var (by with_unfolding_all rfl) ?_ | refine r_c ?_ | refine r_aCons ?_ | refine r_aNil ?_ | refine r_op ?_ | refine r_call ?_ | refine r_val ?_ | refine r_bl ?_ | refine r_if ?_ | refine r_ret ?_ | refine r_next ?_ | refine r_ifT (by first | decide | (with_unfolding_all rfl)) ?_ | refine r_ifF (by first | decide | (with_unfolding_all rfl)) ?_ | refine r_tup ?_ | refine r_lst ?_ | refine r_le (Nat.le_of_ble_eq_true (by with_unfolding_all rfl)) ?_ | refine r_cb ?_ | refine r_and ?_ | refine r_or ?_ | refine r_not ?_ | refine r_eIf ?_ | refine r_eAnd ?_ | refine r_eOr ?_ | refine r_eNot ?_ | refine r_isN ?_ | refine r_mt ?_ | refine r_tr ?_ | refine r_ss ?_ | refine r_dict0 ?_ | refine r_yes ?_ | refine r_isi ?_ | refine r_ty (by with_unfolding_all rfl) ?_ | refine r_ixT (by with_unfolding_all rfl) ?_ | refine r_ixE (by with_unfolding_all rfl) (by with_unfolding_all rfl) ?_ | refine r_ixL (by assumption) (by with_unfolding_all rfl) ?_ | refine r_addI ?_ | refine r_intF ?_ | refine r_intCF (by first | decide | exact cmul_r (by decide) | exact cmul_l (by decide)) ?_ | refine r_eqI ?_ | refine r_neI ?_ | refine r_eqS ?_ | refine r_neS ?_ | refine r_eqB ?_ | refine r_neB ?_ | refine r_int ?_ | refine r_drop ?_ | refine r_sub ?_ | refine r_gTp (by with_unfolding_all rfl) ?_ | refine r_gsCons ?_ | refine r_gsNil ?_ | refine r_for ?_ | refine r_lc ?_ | refine r_dc ?_ | refine r_iRg1 ?_ | refine r_inT (by with_unfolding_all rfl) (by with_unfolding_all rfl) ?_)
        refine ite_b (fun hb => ?_) (fun hb => ?_)
        · (repeat with_reducible first | refine r_seq ?_ | refine r_asg ?_ | refine r_nm ?_ | refine r_var (by with_unfolding_all rfl) ?_ | refine r_c ?_ | refine r_aCons ?_ | refine r_aNil ?_ | refine r_op ?_ | refine r_call ?_ | refine r_val ?_ | refine r_bl ?_ | refine r_if ?_ | refine r_ret ?_ | refine r_next ?_ | refine r_ifT (by first | decide | (with_unfolding_all rfl)) ?_ | refine r_ifF (by first | decide | (with_unfolding_all rfl)) ?_ | refine r_tup ?_ | refine r_lst ?_ | refine r_le (Nat.le_of_ble_eq_true (by with_unfolding_all rfl)) ?_ | refine r_cb ?_ | refine r_and ?_ | refine r_or ?_ | refine r_not ?_ | refine r_eIf ?_ | refine r_eAnd ?_ | refine r_eOr ?_ | refine r_eNot ?_ | refine r_isN ?_ | refine r_mt ?_ | refine r_tr ?_ | refine r_ss ?_ | refine r_dict0 ?_ | refine r_yes ?_ | refine r_isi ?_ | refine r_ty (by with_unfolding_all rfl) ?_ | refine r_ixT (by with_unfolding_all rfl) ?_ | refine r_ixE (by with_unfolding_all rfl) (by with_unfolding_all rfl) ?_ | refine r_ixL (by assumption) (by with_unfolding_all rfl) ?_ | refine r_addI ?_ | refine r_intF ?_ | refine r_intCF (by first | decide | exact cmul_r (by decide) | exact cmul_l (by decide)) ?_ | refine r_eqI ?_ | refine r_neI ?_ | refine r_eqS ?_ | refine r_neS ?_ | refine r_eqB ?_ | refine r_neB ?_ | refine r_int ?_ | refine r_drop ?_ | refine r_sub ?_ | refine r_gTp (by with_unfolding_all rfl) ?_ | refine r_gsCons ?_ | refine r_gsNil ?_ | refine r_for ?_ | refine r_lc ?_ | refine r_dc ?_ | refine r_iRg1 ?_ | refine r_inT (by with_unfolding_all rfl) (by with_unfolding_all rfl) ?_)
          refine draw_spec P1 (by decide) (by decide) fun S2 i hi P2 o2 => ?_
          match i, hi with
          | 0, _ =>
            (repeat with_reducible first | refine r_seq ?_ | refine r_asg ?_ | refine r_nm ?_ | refine r_var (by with_unfolding_all rfl) ?_ | refine r_c ?_ | refine r_aCons ?_ | refine r_aNil ?_ | refine r_op ?_ | refine r_call ?_ | refine r_val ?_ | refine r_bl ?_ | refine r_if ?_ | refine r_ret ?_ | refine r_next ?_ | refine r_ifT (by first | decide | (with_unfolding_all rfl)) ?_ | refine r_ifF (by first | decide | (with_unfolding_all rfl)) ?_ | refine r_tup ?_ | refine r_lst ?_ | refine r_le (Nat.le_of_ble_eq_true (by with_unfolding_all rfl)) ?_ | refine r_cb ?_ | refine r_and ?_ | refine r_or ?_ | refine r_not ?_ | refine r_eIf ?_ | refine r_eAnd ?_ | refine r_eOr ?_ | refine r_eNot ?_ | refine r_isN ?_ | refine r_mt ?_ | refine r_tr ?_ | refine r_ss ?_ | refine r_dict0 ?_ | refine r_yes ?_ | refine r_isi ?_ | refine r_ty (by with_unfolding_all rfl) ?_ | refine r_ixT (by with_unfolding_all rfl) ?_ | refine r_ixE (by with_unfolding_all rfl) (by with_unfolding_all rfl) ?_ | refine r_ixL (by assumption) (by with_unfolding_all rfl) ?_ | refine r_addI ?_ | refine r_intF ?_ | refine r_intCF (by first | decide | exact cmul_r (by decide) | exact cmul_l (by decide)) ?_ | refine r_eqI ?_ | refine r_neI ?_ | refine r_eqS ?_ | refine r_neS ?_ | refine r_eqB ?_ | refine r_neB ?_ | refine r_int ?_ | refine r_drop ?_ | refine r_sub ?_ | refine r_gTp (by with_unfolding_all rfl) ?_ | refine r_gsCons ?_ | refine r_gsNil ?_ | refine r_for ?_ | refine r_lc ?_ | refine r_dc ?_ | refine r_iRg1 ?_ | refine r_inT (by with_unfolding_all rfl) (by with_unfolding_all rfl) ?_)
            exact leaf S2 .yes trivial (Nat.le_refl _) rfl P2 ((o1.trans o2).b (by simp))
          | 1, _ =>
            (repeat with_reducible first | refine r_seq ?_ | refine r_asg ?_ | refine r_nm ?_ | refine r_var (by with_unfolding_all rfl) ?_ | refine r_c ?_ | refine r_aCons ?_ | refine r_aNil ?_ | refine r_op ?_ | refine r_call ?_ | refine r_val ?_ | refine r_bl ?_ | refine r_if ?_ | refine r_ret ?_ | refine r_next ?_ | refine r_ifT (by first | decide | (with_unfolding_all rfl)) ?_ | refine r_ifF (by first | decide | (with_unfolding_all rfl)) ?_ | refine r_tup ?_ | refine r_lst ?_ | refine r_le (Nat.le_of_ble_eq_true (by with_unfolding_all rfl)) ?_ | refine r_cb ?_ | refine r_and ?_ | refine r_or ?_ | refine r_not ?_ | refine r_eIf ?_ | refine r_eAnd ?_ | refine r_eOr ?_ | refine r_eNot ?_ | refine r_isN ?_ | refine r_mt ?_ | refine r_tr ?_ | refine r_ss ?_ | refine r_dict0 ?_ | refine r_yes ?_ | refine r_isi ?_ | refine r_ty (by with_unfolding_all rfl) ?_ | refine r_ixT (by with_unfolding_all rfl) ?_ | refine r_ixE (by with_unfolding_all rfl) (by with_unfolding_all rfl) ?_ | refine r_ixL (by assumption) (by with_unfolding_all rfl) ?_ | refine r_addI ?_ | refine r_intF ?_ | refine r_intCF (by first | decide | exact cmul_r (by decide) | exact cmul_l (by decide)) ?_ | refine r_eqI ?_ | refine r_neI ?_ | refine r_eqS ?_ | refine r_neS ?_ | refine r_eqB ?_ | refine r_neB ?_ | refine r_int ?_ | refine r_drop ?_ | refine r_sub ?_ | refine r_gTp (by with_unfolding_all rfl) ?_ | refine r_gsCons ?_ | refine r_gsNil ?_ | refine r_for ?_ | refine r_lc ?_ | refine r_dc ?_ | refine r_iRg1 ?_ | refine r_inT (by with_unfolding_all rfl) (by with_unfolding_all rfl) ?_)
            exact leaf S2 .no trivial (Nat.le_refl _) rfl P2 ((o1.trans o2).b (by simp))
          | i + 2, hi => omega
        · (repeat with_reducible first | refine r_seq ?_ | refine r_asg ?_ | refine r_nm ?_ | refine r_var (by with_unfolding_all rfl) ?_ | refine r_c ?_ | refine r_aCons ?_ | refine r_aNil ?_ | refine r_op ?_ | refine r_call ?_ | refine r_val ?_ | refine r_bl ?_ | refine r_if ?_ | refine r_ret ?_ | refine r_next ?_ | refine r_ifT (by first | decide | (with_unfolding_all rfl)) ?_ | refine r_ifF (by first | decide | (with_unfolding_all rfl)) ?_ | refine r_tup ?_ | refine r_lst ?_ | refine r_le (Nat.le_of_ble_eq_true (by with_unfolding_all rfl)) ?_ | refine r_cb ?_ | refine r_and ?_ | refine r_or ?_ | refine r_not ?_ | refine r_eIf ?_ | refine r_eAnd ?_ | refine r_eOr ?_ | refine r_eNot ?_ | refine r_isN ?_ | refine r_mt ?_ | refine r_tr ?_ | refine r_ss ?_ | refine r_dict0 ?_ | refine r_yes ?_ | refine r_isi ?_ | refine r_ty (by with_unfolding_all rfl) ?_ | refine r_ixT (by with_unfolding_all rfl) ?_ | refine r_ixE (by with_unfolding_all rfl) (by with_unfolding_all rfl) ?_ | refine r_ixL (by assumption) (by with_unfolding_all rfl) ?_ | refine r_addI ?_ | refine r_intF ?_ | refine r_intCF (by first | decide | exact cmul_r (by decide) | exact cmul_l (by decide)) ?_ | refine r_eqI ?_ | refine r_neI ?_ | refine r_eqS ?_ | refine r_neS ?_ | refine r_eqB ?_ | refine r_neB ?_ | refine r_int ?_ | refine r_drop ?_ | refine r_sub ?_ | refine r_gTp (by with_unfolding_all rfl) ?_ | refine r_gsCons ?_ | refine r_gsNil ?_ | refine r_for ?_ | refine r_lc ?_ | refine r_dc ?_ | refine r_iRg1 ?_ | refine r_inT (by with_unfolding_all rfl) (by with_unfolding_all rfl) ?_)
          refine draw_spec P1 (by omega) (by omega) fun S2 i hi P2 o2 => ?_
          (repeat with_reducible first | refine r_seq ?_ | refine r_asg ?_ | refine r_nm ?_ | refine r_var (by with_unfolding_all rfl) ?_ | refine r_c ?_ | refine r_aCons ?_ | refine r_aNil ?_ | refine r_op ?_ | refine r_call ?_ | refine r_val ?_ | refine r_bl ?_ | refine r_if ?_ | refine r_ret ?_ | refine r_next ?_ | refine r_ifT (by first | decide | (with_unfolding_all rfl)) ?_ | refine r_ifF (by first | decide | (with_unfolding_all rfl)) ?_ | refine r_tup ?_ | refine r_lst ?_ | refine r_le (Nat.le_of_ble_eq_true (by with_unfolding_all rfl)) ?_ | refine r_cb ?_ | refine r_and ?_ | refine r_or ?_ | refine r_not ?_ | refine r_eIf ?_ | refine r_eAnd ?_ | refine r_eOr ?_ | refine r_eNot ?_ | refine r_isN ?_ | refine r_mt ?_ | refine r_tr ?_ | refine r_ss ?_ | refine r_dict0 ?_ | refine r_yes ?_ | refine r_isi ?_ | refine r_ty (by with_unfolding_all rfl) ?_ | refine r_ixT (by with_unfolding_all rfl) ?_ | refine r_ixE (by with_unfolding_all rfl) (by with_unfolding_all rfl) ?_ | refine r_ixL (by assumption) (by with_unfolding_all rfl) ?_ | refine r_addI ?_ | refine r_intF ?_ | refine r_intCF (by first | decide | exact cmul_r (by decide) | exact cmul_l (by decide)) ?_ | refine r_eqI ?_ | refine r_neI ?_ | refine r_eqS ?_ | refine r_neS ?_ | refine r_eqB ?_ | refine r_neB ?_ | refine r_int ?_ | refine r_drop ?_ | refine r_sub ?_ | refine r_gTp (by with_unfolding_all rfl) ?_ | refine r_gsCons ?_ | refine r_gsNil ?_ | refine r_for ?_ | refine r_lc ?_ | refine r_dc ?_ | refine r_iRg1 ?_ | refine r_inT (by with_unfolding_all rfl) (by with_unfolding_all rfl) ?_)
          exact leaf S2 (.is i) (by show i < L0; omega) (Nat.le_refl _) rfl P2 ((o1.trans o2).b (by simp))
      refine r_ifF (decide_eq_false (by omega)) ?_
      (repeat with_reducible first | refine r_seq ?_ | refine r_asg ?_ | refine r_nm ?_ | refine r_var (by with_unfolding_all rfl) ?_ | refine r_c ?_ | refine r_aCons ?_ | refine r_aNil ?_ | refine r_op ?_ | refine r_call ?_ | refine r_val ?_ | refine r_bl ?_ | refine r_if ?_ | refine r_ret ?_ | refine r_next ?_ | refine r_ifT (by first | decide | (with_unfolding_all rfl)) ?_ | refine r_ifF (by first | decide | (with_unfolding_all rfl)) ?_ | refine r_tup ?_ | refine r_lst ?_ | refine r_le (Nat.le_of_ble_eq_true (by with_unfolding_all rfl)) ?_ | refine r_cb ?_ | refine r_and ?_ | refine r_or ?_ | refine r_not ?_ | refine r_eIf ?_ | refine r_eAnd ?_ | refine r_eOr ?_ | refine r_eNot ?_ | refine r_isN ?_ | refine r_mt ?_ | refine r_tr ?_ | refine r_ss ?_ | refine r_dict0 ?_ | refine r_yes ?_ | refine r_isi ?_ | refine r_ty (by with_unfolding_all rfl) ?_ | refine r_ixT (by with_unfolding_all rfl) ?_ | refine r_ixE (by with_unfolding_all rfl) (by with_unfolding_all rfl) ?_ | refine r_ixL (by assumption) (by with_unfolding_all rfl) ?_ | refine r_addI ?_ | refine r_intF ?_ | refine r_intCF (by first | decide | exact cmul_r (by decide) | exact cmul_l (by decide)) ?_ | refine r_eqI ?_ | refine r_neI ?_ | refine r_eqS ?_ | refine r_neS ?_ | refine r_eqB ?_ | refine r_neB ?_ | refine r_int ?_ | refine r_drop ?_ | refine r_sub ?_ | refine r_gTp (by with_unfolding_all rfl) ?_ | refine r_gsCons ?_ | refine r_gsNil ?_ | refine r_for ?_ | refine r_lc ?_ | refine r_dc ?_ | refine r_iRg1 ?_ | refine r_inT (by with_unfolding_all rfl) (by with_unfolding_all rfl) ?_)
      refine r_ifF (decide_eq_false (by omega)) ?_
      (repeat with_reducible first | refine r_seq ?_ | refine r_asg ?_ | refine r_nm ?_ | refine r_var (by with_unfolding_all rfl) ?_ | refine r_c ?_ | refine r_aCons ?_ | refine r_aNil ?_ | refine r_op ?_ | refine r_call ?_ | refine r_val ?_ | refine r_bl ?_ | refine r_if ?_ | refine r_ret ?_ | refine r_next ?_ | refine r_ifT (by first | decide | (with_unfolding_all rfl)) ?_ | refine r_ifF (by first | decide | (with_unfolding_all rfl)) ?_ | refine r_tup ?_ | refine r_lst ?_ | refine r_le (Nat.le_of_ble_eq_true (by with_unfolding_all rfl)) ?_ | refine r_cb ?_ | refine r_and ?_ | refine r_or ?_ | refine r_not ?_ | refine r_eIf ?_ | refine r_eAnd ?_ | refine r_eOr ?_ | refine r_eNot ?_ | refine r_isN ?_ | refine r_mt ?_ | refine r_tr ?_ | refine r_ss ?_ | refine r_dict0 ?_ | refine r_yes ?_ | refine r_isi ?_ | refine r_ty (by with_unfolding_all rfl) ?_ | refine r_ixT (by with_unfolding_all rfl) ?_ | refine r_ixE (by with_unfolding_all rfl) (by with_unfolding_all rfl) ?_ | refine r_ixL (by assumption) (by with_unfolding_all rfl) ?_ | refine r_addI ?_ | refine r_intF ?_ | refine r_intCF (by first | decide | exact cmul_r (by decide) | exact cmul_l (by decide)) ?_ | refine r_eqI ?_ | refine r_neI ?_ | refine r_eqS ?_ | refine r_neS ?_ | refine r_eqB ?_ | refine r_neB ?_ | refine r_int ?_ | refine r_drop ?_ | refine r_sub ?_ | refine r_gTp (by with_unfolding_all rfl) ?_ | refine r_gsCons ?_ | refine r_gsNil ?_ | refine r_for ?_ | refine r_lc ?_ | refine r_dc ?_ | refine r_iRg1 ?_ | refine r_inT (by with_unfolding_all rfl) (by with_unfolding_all rfl) ?_)
      have d0 : 0 < deep := by omega
      have n1 : ∀ a b c : Nat, a ≤ b → b ≤ c → ∀ u v : List Nat, u = List.range' a (b - a) → v = List.range' b (c - b) → u ++ v = List.range' a (c - a) := fun a b c h1 h2 u v hu hv => by
        have e1 : c - a = (b - a) + (c - b) := by omega
        have e2 : List.range' b (c - b) = List.range' (a + 1 * (b - a)) (c - b) := by rw [show a + 1 * (b - a) = b from by omega]
        rw [hu, hv, e1, e2, List.range'_append]
      refine ite_b (fun hb => ?_) (fun hb => ?_)
      · (repeat with_reducible first | refine r_seq ?_ | refine r_asg ?_ | refine r_nm ?_ | refine r_var (by with_unfolding_all rfl) ?_ | refine r_c ?_ | refine r_aCons ?_ | refine r_aNil ?_ | refine r_op ?_ | refine r_call ?_ | refine r_val ?_ | refine r_bl ?_ | refine r_if ?_ | refine r_ret ?_ | refine r_next ?_ | refine r_ifT (by first | decide | (with_unfolding_all rfl)) ?_ | refine r_ifF (by first | decide | (with_unfolding_all rfl)) ?_ | refine r_tup ?_ | refine r_lst ?_ | refine r_le (Nat.le_of_ble_eq_true (by with_unfolding_all rfl)) ?_ | refine r_cb ?_ | refine r_and ?_ | refine r_or ?_ | refine r_not ?_ | refine r_eIf ?_ | refine r_eAnd ?_ | refine r_eOr ?_ | refine r_eNot ?_ | refine r_isN ?_ | refine r_mt ?_ | refine r_tr ?_ | refine r_ss ?_ | refine r_dict0 ?_ | refine r_yes ?_ | refine r_isi ?_ | refine r_ty (by with_unfolding_all rfl) ?_ | refine r_ixT (by with_unfolding_all rfl) ?_ | refine r_ixE (by with_unfolding_all rfl) (by with_unfolding_all rfl) ?_ | refine r_ixL (by assumption) (by with_unfolding_all rfl) ?_ | refine r_addI ?_ | refine r_intF ?_ | refine r_intCF (by first | decide | exact cmul_r (by decide) | exact cmul_l (by decide)) ?_ | refine r_eqI ?_ | refine r_neI ?_ | refine r_eqS ?_ | refine r_neS ?_ | refine r_eqB ?_ | refine r_neB ?_ | refine r_int ?_ | refine r_drop ?_ | refine r_sub ?_ | refine r_gTp (by with_unfolding_all rfl) ?_ | refine r_gsCons ?_ | refine r_gsNil ?_ | refine r_for ?_ | refine r_lc ?_ | refine r_dc ?_ | refine r_iRg1 ?_ | refine r_inT (by with_unfolding_all rfl) (by with_unfolding_all rfl) ?_)
        refine draw_spec P0 (by decide) (by decide) fun S1 i hi P1 o1 => ?_
        match i, hi with
        | 0, _ =>
          (repeat with_reducible first | refine r_seq ?_ | refine r_asg ?_ | refine r_nm ?_ | refine r_var (by with_unfolding_all rfl) ?_ | refine r_c ?_ | refine r_aCons ?_ | refine r_aNil ?_ | refine r_op ?_ | refine r_call ?_ | refine r_val ?_ | refine r_bl ?_ | refine r_if ?_ | refine r_ret ?_ | refine r_next ?_ | refine r_ifT (by first | decide | (with_unfolding_all rfl)) ?_ | refine r_ifF (by first | decide | (with_unfolding_all rfl)) ?_ | refine r_tup ?_ | refine r_lst ?_ | refine r_le (Nat.le_of_ble_eq_true (by with_unfolding_all rfl)) ?_ | refine r_cb ?_ | refine r_and ?_ | refine r_or ?_ | refine r_not ?_ | refine r_eIf ?_ | refine r_eAnd ?_ | refine r_eOr ?_ | refine r_eNot ?_ | refine r_isN ?_ | refine r_mt ?_ | refine r_tr ?_ | refine r_ss ?_ | refine r_dict0 ?_ | refine r_yes ?_ | refine r_isi ?_ | refine r_ty (by with_unfolding_all rfl) ?_ | refine r_ixT (by with_unfolding_all rfl) ?_ | refine r_ixE (by with_unfolding_all rfl) (by with_unfolding_all rfl) ?_ | refine r_ixL (by assumption) (by with_unfolding_all rfl) ?_ | refine r_addI ?_ | refine r_intF ?_ | refine r_intCF (by first | decide | exact cmul_r (by decide) | exact cmul_l (by decide)) ?_ | refine r_eqI ?_ | refine r_neI ?_ | refine r_eqS ?_ | refine r_neS ?_ | refine r_eqB ?_ | refine r_neB ?_ | refine r_int ?_ | refine r_drop ?_ | refine r_sub ?_ | refine r_gTp (by with_unfolding_all rfl) ?_ | refine r_gsCons ?_ | refine r_gsNil ?_ | refine r_for ?_ | refine r_lc ?_ | refine r_dc ?_ | refine r_iRg1 ?_ | refine r_inT (by with_unfolding_all rfl) (by with_unfolding_all rfl) ?_)
          refine go kn fr ys S1 _ d0 P1 (o1.ne sp hst0) hys (by omega) hfr fun S2 fa ys2 u1 u2 u3 u4 u5 u6 u7 u8 => ?_
          (repeat with_reducible first | refine r_seq ?_ | refine r_asg ?_ | refine r_nm ?_ | refine r_var (by with_unfolding_all rfl) ?_ | refine r_c ?_ | refine r_aCons ?_ | refine r_aNil ?_ | refine r_op ?_ | refine r_call ?_ | refine r_val ?_ | refine r_bl ?_ | refine r_if ?_ | refine r_ret ?_ | refine r_next ?_ | refine r_ifT (by first | decide | (with_unfolding_all rfl)) ?_ | refine r_ifF (by first | decide | (with_unfolding_all rfl)) ?_ | refine r_tup ?_ | refine r_lst ?_ | refine r_le (Nat.le_of_ble_eq_true (by with_unfolding_all rfl)) ?_ | refine r_cb ?_ | refine r_and ?_ | refine r_or ?_ | refine r_not ?_ | refine r_eIf ?_ | refine r_eAnd ?_ | refine r_eOr ?_ | refine r_eNot ?_ | refine r_isN ?_ | refine r_mt ?_ | refine r_tr ?_ | refine r_ss ?_ | refine r_dict0 ?_ | refine r_yes ?_ | refine r_isi ?_ | refine r_ty (by with_unfolding_all rfl) ?_ | refine r_ixT (by with_unfolding_all rfl) ?_ | refine r_ixE (by with_unfolding_all rfl) (by with_unfolding_all rfl) ?_ | refine r_ixL (by assumption) (by with_unfolding_all rfl) ?_ | refine r_addI ?_ | refine r_intF ?_ | refine r_intCF (by first | decide | exact cmul_r (by decide) | exact cmul_l (by decide)) ?_ | refine r_eqI ?_ | refine r_neI ?_ | refine r_eqS ?_ | refine r_neS ?_ | refine r_eqB ?_ | refine r_neB ?_ | refine r_int ?_ | refine r_drop ?_ | refine r_sub ?_ | refine r_gTp (by with_unfolding_all rfl) ?_ | refine r_gsCons ?_ | refine r_gsNil ?_ | refine r_for ?_ | refine r_lc ?_ | refine r_dc ?_ | refine r_iRg1 ?_ | refine r_inT (by with_unfolding_all rfl) (by with_unfolding_all rfl) ?_)
          refine go kn fr ys2 S2 _ d0 u6 u7 u4 (by omega) hfr fun S3 fb ys3 v1 v2 v3 v4 v5 v6 v7 v8 => ?_
          (repeat with_reducible first | refine r_seq ?_ | refine r_asg ?_ | refine r_nm ?_ | refine r_var (by with_unfolding_all rfl) ?_ | refine r_c ?_ | refine r_aCons ?_ | refine r_aNil ?_ | refine r_op ?_ | refine r_call ?_ | refine r_val ?_ | refine r_bl ?_ | refine r_if ?_ | refine r_ret ?_ | refine r_next ?_ | refine r_ifT (by first | decide | (with_unfolding_all rfl)) ?_ | refine r_ifF (by first | decide | (with_unfolding_all rfl)) ?_ | refine r_tup ?_ | refine r_lst ?_ | refine r_le (Nat.le_of_ble_eq_true (by with_unfolding_all rfl)) ?_ | refine r_cb ?_ | refine r_and ?_ | refine r_or ?_ | refine r_not ?_ | refine r_eIf ?_ | refine r_eAnd ?_ | refine r_eOr ?_ | refine r_eNot ?_ | refine r_isN ?_ | refine r_mt ?_ | refine r_tr ?_ | refine r_ss ?_ | refine r_dict0 ?_ | refine r_yes ?_ | refine r_isi ?_ | refine r_ty (by with_unfolding_all rfl) ?_ | refine r_ixT (by with_unfolding_all rfl) ?_ | refine r_ixE (by with_unfolding_all rfl) (by with_unfolding_all rfl) ?_ | refine r_ixL (by assumption) (by with_unfolding_all rfl) ?_ | refine r_addI ?_ | refine r_intF ?_ | refine r_intCF (by first | decide | exact cmul_r (by decide) | exact cmul_l (by decide)) ?_ | refine r_eqI ?_ | refine r_neI ?_ | refine r_eqS ?_ | refine r_neS ?_ | refine r_eqB ?_ | refine r_neB ?_ | refine r_int ?_ | refine r_drop ?_ | refine r_sub ?_ | refine r_gTp (by with_unfolding_all rfl) ?_ | refine r_gsCons ?_ | refine r_gsNil ?_ | refine r_for ?_ | refine r_lc ?_ | refine r_dc ?_ | refine r_iRg1 ?_ | refine r_inT (by with_unfolding_all rfl) (by with_unfolding_all rfl) ?_)
          exact h S3 (.both fa fb) ys3 ⟨u1, v1⟩ (by show max fa.dp fb.dp + 1 ≤ _; omega) (Nat.le_trans u3 v3) v4 (n1 _ _ _ u3 v3 _ _ u5 v5) v6 v7 (((((o0.trans o1).b (by simp)).trans u8)).trans v8)
        | 1, _ =>
          (repeat with_reducible first | refine r_seq ?_ | refine r_asg ?_ | refine r_nm ?_ | refine r_var (by with_unfolding_all rfl) ?_ | refine r_c ?_ | refine r_aCons ?_ | refine r_aNil ?_ | refine r_op ?_ | refine r_call ?_ | refine r_val ?_ | refine r_bl ?_ | refine r_if ?_ | refine r_ret ?_ | refine r_next ?_ | refine r_ifT (by first | decide | (with_unfolding_all rfl)) ?_ | refine r_ifF (by first | decide | (with_unfolding_all rfl)) ?_ | refine r_tup ?_ | refine r_lst ?_ | refine r_le (Nat.le_of_ble_eq_true (by with_unfolding_all rfl)) ?_ | refine r_cb ?_ | refine r_and ?_ | refine r_or ?_ | refine r_not ?_ | refine r_eIf ?_ | refine r_eAnd ?_ | refine r_eOr ?_ | refine r_eNot ?_ | refine r_isN ?_ | refine r_mt ?_ | refine r_tr ?_ | refine r_ss ?_ | refine r_dict0 ?_ | refine r_yes ?_ | refine r_isi ?_ | refine r_ty (by with_unfolding_all rfl) ?_ | refine r_ixT (by with_unfolding_all rfl) ?_ | refine r_ixE (by with_unfolding_all rfl) (by with_unfolding_all rfl) ?_ | refine r_ixL (by assumption) (by with_unfolding_all rfl) ?_ | refine r_addI ?_ | refine r_intF ?_ | refine r_intCF (by first | decide | exact cmul_r (by decide) | exact cmul_l (by decide)) ?_ | refine r_eqI ?_ | refine r_neI ?_ | refine r_eqS ?_ | refine r_neS ?_ | refine r_eqB ?_ | refine r_neB ?_ | refine r_int ?_ | refine r_drop ?_ | refine r_sub ?_ | refine r_gTp (by with_unfolding_all rfl) ?_ | refine r_gsCons ?_ | refine r_gsNil ?_ | refine r_for ?_ | refine r_lc ?_ | refine r_dc ?_ | refine r_iRg1 ?_ | refine r_inT (by with_unfolding_all rfl) (by with_unfolding_all rfl) ?_)
          refine go kn fr ys S1 _ d0 P1 (o1.ne sp hst0) hys (by omega) hfr fun S2 fa ys2 u1 u2 u3 u4 u5 u6 u7 u8 => ?_
          (repeat with_reducible first | refine r_seq ?_ | refine r_asg ?_ | refine r_nm ?_ | refine r_var (by with_unfolding_all rfl) ?_ | refine r_c ?_ | refine r_aCons ?_ | refine r_aNil ?_ | refine r_op ?_ | refine r_call ?_ | refine r_val ?_ | refine r_bl ?_ | refine r_if ?_ | refine r_ret ?_ | refine r_next ?_ | refine r_ifT (by first | decide | (with_unfolding_all rfl)) ?_ | refine r_ifF (by first | decide | (with_unfolding_all rfl)) ?_ | refine r_tup ?_ | refine r_lst ?_ | refine r_le (Nat.le_of_ble_eq_true (by with_unfolding_all rfl)) ?_ | refine r_cb ?_ | refine r_and ?_ | refine r_or ?_ | refine r_not ?_ | refine r_eIf ?_ | refine r_eAnd ?_ | refine r_eOr ?_ | refine r_eNot ?_ | refine r_isN ?_ | refine r_mt ?_ | refine r_tr ?_ | refine r_ss ?_ | refine r_dict0 ?_ | refine r_yes ?_ | refine r_isi ?_ | refine r_ty (by with_unfolding_all rfl) ?_ | refine r_ixT (by with_unfolding_all rfl) ?_ | refine r_ixE (by with_unfolding_all rfl) (by with_unfolding_all rfl) ?_ | refine r_ixL (by assumption) (by with_unfolding_all rfl) ?_ | refine r_addI ?_ | refine r_intF ?_ | refine r_intCF (by first | decide | exact cmul_r (by decide) | exact cmul_l (by decide)) ?_ | refine r_eqI ?_ | refine r_neI ?_ | refine r_eqS ?_ | refine r_neS ?_ | refine r_eqB ?_ | refine r_neB ?_ | refine r_int ?_ | refine r_drop ?_ | refine r_sub ?_ | refine r_gTp (by with_unfolding_all rfl) ?_ | refine r_gsCons ?_ | refine r_gsNil ?_ | refine r_for ?_ | refine r_lc ?_ | refine r_dc ?_ | refine r_iRg1 ?_ | refine r_inT (by with_unfolding_all rfl) (by with_unfolding_all rfl) ?_)
          refine go kn fr ys2 S2 _ d0 u6 u7 u4 (by omega) hfr fun S3 fb ys3 v1 v2 v3 v4 v5 v6 v7 v8 => ?_
          (repeat with_reducible first | refine r_seq ?_ | refine r_asg ?_ | refine r_nm ?_ | refine r_var (by with_unfolding_all rfl) ?_ | refine r_c ?_ | refine r_aCons ?_ | refine r_aNil ?_ | refine r_op ?_ | refine r_call ?_ | refine r_val ?_ | refine r_bl ?_ | refine r_if ?_ | refine r_ret ?_ | refine r_next ?_ | refine r_ifT (by first | decide | (with_unfolding_all rfl)) ?_ | refine r_ifF (by first | decide | (with_unfolding_all rfl)) ?_ | refine r_tup ?_ | refine r_lst ?_ | refine r_le (Nat.le_of_ble_eq_true (by with_unfolding_all rfl)) ?_ | refine r_cb ?_ | refine r_and ?_ | refine r_or ?_ | refine r_not ?_ | refine r_eIf ?_ | refine r_eAnd ?_ | refine r_eOr ?_ | refine r_eNot ?_ | refine r_isN ?_ | refine r_mt ?_ | refine r_tr ?_ | refine r_ss ?_ | refine r_dict0 ?_ | refine r_yes ?_ | refine r_isi ?_ | refine r_ty (by with_unfolding_all rfl) ?_ | refine r_ixT (by with_unfolding_all rfl) ?_ | refine r_ixE (by with_unfolding_all rfl) (by with_unfolding_all rfl) ?_ | refine r_ixL (by assumption) (by with_unfolding_all rfl) ?_ | refine r_addI ?_ | refine r_intF ?_ | refine r_intCF (by first | decide | exact cmul_r (by decide) | exact cmul_l (by decide)) ?_ | refine r_eqI ?_ | refine r_neI ?_ | refine r_eqS ?_ | refine r_neS ?_ | refine r_eqB ?_ | refine r_neB ?_ | refine r_int ?_ | refine r_drop ?_ | refine r_sub ?_ | refine r_gTp (by with_unfolding_all rfl) ?_ | refine r_gsCons ?_ | refine r_gsNil ?_ | refine r_for ?_ | refine r_lc ?_ | refine r_dc ?_ | refine r_iRg1 ?_ | refine r_inT (by with_unfolding_all rfl) (by with_unfolding_all rfl) ?_)
          exact h S3 (.either fa fb) ys3 ⟨u1, v1⟩ (by show max fa.dp fb.dp + 1 ≤ _; omega) (Nat.le_trans u3 v3) v4 (n1 _ _ _ u3 v3 _ _ u5 v5) v6 v7 (((((o0.trans o1).b (by simp)).trans u8)).trans v8)
        | i + 2, hi => omega
      (repeat with_reducible first | refine r_seq ?_ | refine r_asg ?_ | refine r_nm ?_ | refine r_var (by with_unfolding_all rfl) ?_ | refine r_c ?_ | refine r_aCons ?_ | refine r_aNil ?_ | refine r_op ?_ | refine r_call ?_ | refine r_val ?_ | refine r_bl ?_ | refine r_if ?_ | refine r_ret ?_ | refine r_next ?_ | refine r_ifT (by first | decide | (with_unfolding_all rfl)) ?_ | refine r_ifF (by first | decide | (with_unfolding_all rfl)) ?_ | refine r_tup ?_ | refine r_lst ?_ | refine r_le (Nat.le_of_ble_eq_true (by with_unfolding_all rfl)) ?_ | refine r_cb ?_ | refine r_and ?_ | refine r_or ?_ | refine r_not ?_ | refine r_eIf ?_ | refine r_eAnd ?_ | refine r_eOr ?_ | refine r_eNot ?_ | refine r_isN ?_ | refine r_mt ?_ | refine r_tr ?_ | refine r_ss ?_ | refine r_dict0 ?_ | refine r_yes ?_ | refine r_isi ?_ | refine r_ty (by with_unfolding_all rfl) ?_ | refine r_ixT (by with_unfolding_all rfl) ?_ | refine r_ixE (by with_unfolding_all rfl) (by with_unfolding_all rfl) ?_ | refine r_ixL (by assumption) (by with_unfolding_all rfl) ?_ | refine r_addI ?_ | refine r_intF ?_ | refine r_intCF (by first | decide | exact cmul_r (by decide) | exact cmul_l (by decide)) ?_ | refine r_eqI ?_ | refine r_neI ?_ | refine r_eqS ?_ | refine r_neS ?_ | refine r_eqB ?_ | refine r_neB ?_ | refine r_int ?_ | refine r_drop ?_ | refine r_sub ?_ | refine r_gTp (by with_unfolding_all rfl) ?_ | refine r_gsCons ?_ | refine r_gsNil ?_ | refine r_for ?_ | refine r_lc ?_ | refine r_dc ?_ | refine r_iRg1 ?_ | refine r_inT (by with_unfolding_all rfl) (by with_unfolding_all rfl) ?_)
      refine ite_b (fun hb => ?_) (fun hb => ?_)
      · (repeat with_reducible first | refine r_seq ?_ | refine r_asg ?_ | refine r_nm ?_ | refine r_var (by with_unfolding_all rfl) ?_ | refine r_c ?_ | refine r_aCons ?_ | refine r_aNil ?_ | refine r_op ?_ | refine r_call ?_ | refine r_val ?_ | refine r_bl ?_ | refine r_if ?_ | refine r_ret ?_ | refine r_next ?_ | refine r_ifT (by first | decide | (with_unfolding_all rfl)) ?_ | refine r_ifF (by first | decide | (with_unfolding_all rfl)) ?_ | refine r_tup ?_ | refine r_lst ?_ | refine r_le (Nat.le_of_ble_eq_true (by with_unfolding_all rfl)) ?_ | refine r_cb ?_ | refine r_and ?_ | refine r_or ?_ | refine r_not ?_ | refine r_eIf ?_ | refine r_eAnd ?_ | refine r_eOr ?_ | refine r_eNot ?_ | refine r_isN ?_ | refine r_mt ?_ | refine r_tr ?_ | refine r_ss ?_ | refine r_dict0 ?_ | refine r_yes ?_ | refine r_isi ?_ | refine r_ty (by with_unfolding_all rfl) ?_ | refine r_ixT (by with_unfolding_all rfl) ?_ | refine r_ixE (by with_unfolding_all rfl) (by with_unfolding_all rfl) ?_ | refine r_ixL (by assumption) (by with_unfolding_all rfl) ?_ | refine r_addI ?_ | refine r_intF ?_ | refine r_intCF (by first | decide | exact cmul_r (by decide) | exact cmul_l (by decide)) ?_ | refine r_eqI ?_ | refine r_neI ?_ | refine r_eqS ?_ | refine r_neS ?_ | refine r_eqB ?_ | refine r_neB ?_ | refine r_int ?_ | refine r_drop ?_ | refine r_sub ?_ | refine r_gTp (by with_unfolding_all rfl) ?_ | refine r_gsCons ?_ | refine r_gsNil ?_ | refine r_for ?_ | refine r_lc ?_ | refine r_dc ?_ | refine r_iRg1 ?_ | refine r_inT (by with_unfolding_all rfl) (by with_unfolding_all rfl) ?_)
        refine draw_spec P0 (by decide) (by decide) fun S1 i hi P1 o1 => ?_
        match i, hi with
        | 0, _ =>
          (repeat with_reducible first | refine r_seq ?_ | refine r_asg ?_ | refine r_nm ?_ | refine r_var (by with_unfolding_all rfl) ?_ | refine r_c ?_ | refine r_aCons ?_ | refine r_aNil ?_ | refine r_op ?_ | refine r_call ?_ | refine r_val ?_ | refine r_bl ?_ | refine r_if ?_ | refine r_ret ?_ | refine r_next ?_ | refine r_ifT (by first | decide | (with_unfolding_all rfl)) ?_ | refine r_ifF (by first | decide | (with_unfolding_all rfl)) ?_ | refine r_tup ?_ | refine r_lst ?_ | refine r_le (Nat.le_of_ble_eq_true (by with_unfolding_all rfl)) ?_ | refine r_cb ?_ | refine r_and ?_ | refine r_or ?_ | refine r_not ?_ | refine r_eIf ?_ | refine r_eAnd ?_ | refine r_eOr ?_ | refine r_eNot ?_ | refine r_isN ?_ | refine r_mt ?_ | refine r_tr ?_ | refine r_ss ?_ | refine r_dict0 ?_ | refine r_yes ?_ | refine r_isi ?_ | refine r_ty (by with_unfolding_all rfl) ?_ | refine r_ixT (by with_unfolding_all rfl) ?_ | refine r_ixE (by with_unfolding_all rfl) (by with_unfolding_all rfl) ?_ | refine r_ixL (by assumption) (by with_unfolding_all rfl) ?_ | refine r_addI ?_ | refine r_intF ?_ | refine r_intCF (by first | decide | exact cmul_r (by decide) | exact cmul_l (by decide)) ?_ | refine r_eqI ?_ | refine r_neI ?_ | refine r_eqS ?_ | refine r_neS ?_ | refine r_eqB ?_ | refine r_neB ?_ | refine r_int ?_ | refine r_drop ?_ | refine r_sub ?_ | refine r_gTp (by with_unfolding_all rfl) ?_ | refine r_gsCons ?_ | refine r_gsNil ?_ | refine r_for ?_ | refine r_lc ?_ | refine r_dc ?_ | refine r_iRg1 ?_ | refine r_inT (by with_unfolding_all rfl) (by with_unfolding_all rfl) ?_)
          refine draw_spec P1 (by omega) (by omega) fun S2 jj hj P2 o2 => ?_
          (repeat with_reducible first | refine r_seq ?_ | refine r_asg ?_ | refine r_nm ?_ | refine r_var (by with_unfolding_all rfl) ?_ | refine r_c ?_ | refine r_aCons ?_ | refine r_aNil ?_ | refine r_op ?_ | refine r_call ?_ | refine r_val ?_ | refine r_bl ?_ | refine r_if ?_ | refine r_ret ?_ | refine r_next ?_ | refine r_ifT (by first | decide | (with_unfolding_all rfl)) ?_ | refine r_ifF (by first | decide | (with_unfolding_all rfl)) ?_ | refine r_tup ?_ | refine r_lst ?_ | refine r_le (Nat.le_of_ble_eq_true (by with_unfolding_all rfl)) ?_ | refine r_cb ?_ | refine r_and ?_ | refine r_or ?_ | refine r_not ?_ | refine r_eIf ?_ | refine r_eAnd ?_ | refine r_eOr ?_ | refine r_eNot ?_ | refine r_isN ?_ | refine r_mt ?_ | refine r_tr ?_ | refine r_ss ?_ | refine r_dict0 ?_ | refine r_yes ?_ | refine r_isi ?_ | refine r_ty (by with_unfolding_all rfl) ?_ | refine r_ixT (by with_unfolding_all rfl) ?_ | refine r_ixE (by with_unfolding_all rfl) (by with_unfolding_all rfl) ?_ | refine r_ixL (by assumption) (by with_unfolding_all rfl) ?_ | refine r_addI ?_ | refine r_intF ?_ | refine r_intCF (by first | decide | exact cmul_r (by decide) | exact cmul_l (by decide)) ?_ | refine r_eqI ?_ | refine r_neI ?_ | refine r_eqS ?_ | refine r_neS ?_ | refine r_eqB ?_ | refine r_neB ?_ | refine r_int ?_ | refine r_drop ?_ | refine r_sub ?_ | refine r_gTp (by with_unfolding_all rfl) ?_ | refine r_gsCons ?_ | refine r_gsNil ?_ | refine r_for ?_ | refine r_lc ?_ | refine r_dc ?_ | refine r_iRg1 ?_ | refine r_inT (by with_unfolding_all rfl) (by with_unfolding_all rfl) ?_)
          refine go kn kn ys S2 _ d0 P2 (o2.ne sp (o1.ne sp hst0)) hys (by omega) (by omega) fun S3 fa ys2 u1 u2 u3 u4 u5 u6 u7 u8 => ?_
          (repeat with_reducible first | refine r_seq ?_ | refine r_asg ?_ | refine r_nm ?_ | refine r_var (by with_unfolding_all rfl) ?_ | refine r_c ?_ | refine r_aCons ?_ | refine r_aNil ?_ | refine r_op ?_ | refine r_call ?_ | refine r_val ?_ | refine r_bl ?_ | refine r_if ?_ | refine r_ret ?_ | refine r_next ?_ | refine r_ifT (by first | decide | (with_unfolding_all rfl)) ?_ | refine r_ifF (by first | decide | (with_unfolding_all rfl)) ?_ | refine r_tup ?_ | refine r_lst ?_ | refine r_le (Nat.le_of_ble_eq_true (by with_unfolding_all rfl)) ?_ | refine r_cb ?_ | refine r_and ?_ | refine r_or ?_ | refine r_not ?_ | refine r_eIf ?_ | refine r_eAnd ?_ | refine r_eOr ?_ | refine r_eNot ?_ | refine r_isN ?_ | refine r_mt ?_ | refine r_tr ?_ | refine r_ss ?_ | refine r_dict0 ?_ | refine r_yes ?_ | refine r_isi ?_ | refine r_ty (by with_unfolding_all rfl) ?_ | refine r_ixT (by with_unfolding_all rfl) ?_ | refine r_ixE (by with_unfolding_all rfl) (by with_unfolding_all rfl) ?_ | refine r_ixL (by assumption) (by with_unfolding_all rfl) ?_ | refine r_addI ?_ | refine r_intF ?_ | refine r_intCF (by first | decide | exact cmul_r (by decide) | exact cmul_l (by decide)) ?_ | refine r_eqI ?_ | refine r_neI ?_ | refine r_eqS ?_ | refine r_neS ?_ | refine r_eqB ?_ | refine r_neB ?_ | refine r_int ?_ | refine r_drop ?_ | refine r_sub ?_ | refine r_gTp (by with_unfolding_all rfl) ?_ | refine r_gsCons ?_ | refine r_gsNil ?_ | refine r_for ?_ | refine r_lc ?_ | refine r_dc ?_ | refine r_iRg1 ?_ | refine r_inT (by with_unfolding_all rfl) (by with_unfolding_all rfl) ?_)
          exact h S3 (.some jj fa) ys2 ⟨by omega, u1⟩ (by show fa.dp + 1 ≤ _; omega) u3 u4 u5 u6 u7 ((((o0.trans o1).trans o2).b (by simp)).trans u8)
        | 1, _ =>
          (repeat with_reducible first | refine r_seq ?_ | refine r_asg ?_ | refine r_nm ?_ | refine r_var (by with_unfolding_all rfl) ?_ | refine r_c ?_ | refine r_aCons ?_ | refine r_aNil ?_ | refine r_op ?_ | refine r_call ?_ | refine r_val ?_ | refine r_bl ?_ | refine r_if ?_ | refine r_ret ?_ | refine r_next ?_ | refine r_ifT (by first | decide | (with_unfolding_all rfl)) ?_ | refine r_ifF (by first | decide | (with_unfolding_all rfl)) ?_ | refine r_tup ?_ | refine r_lst ?_ | refine r_le (Nat.le_of_ble_eq_true (by with_unfolding_all rfl)) ?_ | refine r_cb ?_ | refine r_and ?_ | refine r_or ?_ | refine r_not ?_ | refine r_eIf ?_ | refine r_eAnd ?_ | refine r_eOr ?_ | refine r_eNot ?_ | refine r_isN ?_ | refine r_mt ?_ | refine r_tr ?_ | refine r_ss ?_ | refine r_dict0 ?_ | refine r_yes ?_ | refine r_isi ?_ | refine r_ty (by with_unfolding_all rfl) ?_ | refine r_ixT (by with_unfolding_all rfl) ?_ | refine r_ixE (by with_unfolding_all rfl) (by with_unfolding_all rfl) ?_ | refine r_ixL (by assumption) (by with_unfolding_all rfl) ?_ | refine r_addI ?_ | refine r_intF ?_ | refine r_intCF (by first | decide | exact cmul_r (by decide) | exact cmul_l (by decide)) ?_ | refine r_eqI ?_ | refine r_neI ?_ | refine r_eqS ?_ | refine r_neS ?_ | refine r_eqB ?_ | refine r_neB ?_ | refine r_int ?_ | refine r_drop ?_ | refine r_sub ?_ | refine r_gTp (by with_unfolding_all rfl) ?_ | refine r_gsCons ?_ | refine r_gsNil ?_ | refine r_for ?_ | refine r_lc ?_ | refine r_dc ?_ | refine r_iRg1 ?_ | refine r_inT (by with_unfolding_all rfl) (by with_unfolding_all rfl) ?_)
          refine draw_spec P1 (by omega) (by omega) fun S2 jj hj P2 o2 => ?_
          (repeat with_reducible first | refine r_seq ?_ | refine r_asg ?_ | refine r_nm ?_ | refine r_var (by with_unfolding_all rfl) ?_ | refine r_c ?_ | refine r_aCons ?_ | refine r_aNil ?_ | refine r_op ?_ | refine r_call ?_ | refine r_val ?_ | refine r_bl ?_ | refine r_if ?_ | refine r_ret ?_ | refine r_next ?_ | refine r_ifT (by first | decide | (with_unfolding_all rfl)) ?_ | refine r_ifF (by first | decide | (with_unfolding_all rfl)) ?_ | refine r_tup ?_ | refine r_lst ?_ | refine r_le (Nat.le_of_ble_eq_true (by with_unfolding_all rfl)) ?_ | refine r_cb ?_ | refine r_and ?_ | refine r_or ?_ | refine r_not ?_ | refine r_eIf ?_ | refine r_eAnd ?_ | refine r_eOr ?_ | refine r_eNot ?_ | refine r_isN ?_ | refine r_mt ?_ | refine r_tr ?_ | refine r_ss ?_ | refine r_dict0 ?_ | refine r_yes ?_ | refine r_isi ?_ | refine r_ty (by with_unfolding_all rfl) ?_ | refine r_ixT (by with_unfolding_all rfl) ?_ | refine r_ixE (by with_unfolding_all rfl) (by with_unfolding_all rfl) ?_ | refine r_ixL (by assumption) (by with_unfolding_all rfl) ?_ | refine r_addI ?_ | refine r_intF ?_ | refine r_intCF (by first | decide | exact cmul_r (by decide) | exact cmul_l (by decide)) ?_ | refine r_eqI ?_ | refine r_neI ?_ | refine r_eqS ?_ | refine r_neS ?_ | refine r_eqB ?_ | refine r_neB ?_ | refine r_int ?_ | refine r_drop ?_ | refine r_sub ?_ | refine r_gTp (by with_unfolding_all rfl) ?_ | refine r_gsCons ?_ | refine r_gsNil ?_ | refine r_for ?_ | refine r_lc ?_ | refine r_dc ?_ | refine r_iRg1 ?_ | refine r_inT (by with_unfolding_all rfl) (by with_unfolding_all rfl) ?_)
          refine go kn kn ys S2 _ d0 P2 (o2.ne sp (o1.ne sp hst0)) hys (by omega) (by omega) fun S3 fa ys2 u1 u2 u3 u4 u5 u6 u7 u8 => ?_
          (repeat with_reducible first | refine r_seq ?_ | refine r_asg ?_ | refine r_nm ?_ | refine r_var (by with_unfolding_all rfl) ?_ | refine r_c ?_ | refine r_aCons ?_ | refine r_aNil ?_ | refine r_op ?_ | refine r_call ?_ | refine r_val ?_ | refine r_bl ?_ | refine r_if ?_ | refine r_ret ?_ | refine r_next ?_ | refine r_ifT (by first | decide | (with_unfolding_all rfl)) ?_ | refine r_ifF (by first | decide | (with_unfolding_all rfl)) ?_ | refine r_tup ?_ | refine r_lst ?_ | refine r_le (Nat.le_of_ble_eq_true (by with_unfolding_all rfl)) ?_ | refine r_cb ?_ | refine r_and ?_ | refine r_or ?_ | refine r_not ?_ | refine r_eIf ?_ | refine r_eAnd ?_ | refine r_eOr ?_ | refine r_eNot ?_ | refine r_isN ?_ | refine r_mt ?_ | refine r_tr ?_ | refine r_ss ?_ | refine r_dict0 ?_ | refine r_yes ?_ | refine r_isi ?_ | refine r_ty (by with_unfolding_all rfl) ?_ | refine r_ixT (by with_unfolding_all rfl) ?_ | refine r_ixE (by with_unfolding_all rfl) (by with_unfolding_all rfl) ?_ | refine r_ixL (by assumption) (by with_unfolding_all rfl) ?_ | refine r_addI ?_ | refine r_intF ?_ | refine r_intCF (by first | decide | exact cmul_r (by decide) | exact cmul_l (by decide)) ?_ | refine r_eqI ?_ | refine r_neI ?_ | refine r_eqS ?_ | refine r_neS ?_ | refine r_eqB ?_ | refine r_neB ?_ | refine r_int ?_ | refine r_drop ?_ | refine r_sub ?_ | refine r_gTp (by with_unfolding_all rfl) ?_ | refine r_gsCons ?_ | refine r_gsNil ?_ | refine r_for ?_ | refine r_lc ?_ | refine r_dc ?_ | refine r_iRg1 ?_ | refine r_inT (by with_unfolding_all rfl) (by with_unfolding_all rfl) ?_)
          exact h S3 (.all jj fa) ys2 ⟨by omega, u1⟩ (by show fa.dp + 1 ≤ _; omega) u3 u4 u5 u6 u7 ((((o0.trans o1).trans o2).b (by simp)).trans u8)
        | i + 2, hi => omega
      (repeat with_reducible first | refine r_seq ?_ | refine r_asg ?_ | refine r_nm ?_ | refine r_var (by with_unfolding_all rfl) ?_ | refine r_c ?_ | refine r_aCons ?_ | refine r_aNil ?_ | refine r_op ?_ | refine r_call ?_ | refine r_val ?_ | refine r_bl ?_ | refine r_if ?_ | refine r_ret ?_ | refine r_next ?_ | refine r_ifT (by first | decide | (with_unfolding_all rfl)) ?_ | refine r_ifF (by first | decide | (with_unfolding_all rfl)) ?_ | refine r_tup ?_ | refine r_lst ?_ | refine r_le (Nat.le_of_ble_eq_true (by with_unfolding_all rfl)) ?_ | refine r_cb ?_ | refine r_and ?_ | refine r_or ?_ | refine r_not ?_ | refine r_eIf ?_ | refine r_eAnd ?_ | refine r_eOr ?_ | refine r_eNot ?_ | refine r_isN ?_ | refine r_mt ?_ | refine r_tr ?_ | refine r_ss ?_ | refine r_dict0 ?_ | refine r_yes ?_ | refine r_isi ?_ | refine r_ty (by with_unfolding_all rfl) ?_ | refine r_ixT (by with_unfolding_all rfl) ?_ | refine r_ixE (by with_unfolding_all rfl) (by with_unfolding_all rfl) ?_ | refine r_ixL (by assumption) (by with_unfolding_all rfl) ?_ | refine r_addI ?_ | refine r_intF ?_ | refine r_intCF (by first | decide | exact cmul_r (by decide) | exact cmul_l (by decide)) ?_ | refine r_eqI ?_ | refine r_neI ?_ | refine r_eqS ?_ | refine r_neS ?_ | refine r_eqB ?_ | refine r_neB ?_ | refine r_int ?_ | refine r_drop ?_ | refine r_sub ?_ | refine r_gTp (by with_unfolding_all rfl) ?_ | refine r_gsCons ?_ | refine r_gsNil ?_ | refine r_for ?_ | refine r_lc ?_ | refine r_dc ?_ | refine r_iRg1 ?_ | refine r_inT (by with_unfolding_all rfl) (by with_unfolding_all rfl) ?_)
      refine r_len (by show seqC S0[st]? = _; rw [hst0]; rfl) ?_
      (repeat with_reducible first | refine r_seq ?_ | refine r_asg ?_ | refine r_nm ?_ | refine r_var (by with_unfolding_all rfl) ?_ | refine r_c ?_ | refine r_aCons ?_ | refine r_aNil ?_ | refine r_op ?_ | refine r_call ?_ | refine r_val ?_ | refine r_bl ?_ | refine r_if ?_ | refine r_ret ?_ | refine r_next ?_ | refine r_ifT (by first | decide | (with_unfolding_all rfl)) ?_ | refine r_ifF (by first | decide | (with_unfolding_all rfl)) ?_ | refine r_tup ?_ | refine r_lst ?_ | refine r_le (Nat.le_of_ble_eq_true (by with_unfolding_all rfl)) ?_ | refine r_cb ?_ | refine r_and ?_ | refine r_or ?_ | refine r_not ?_ | refine r_eIf ?_ | refine r_eAnd ?_ | refine r_eOr ?_ | refine r_eNot ?_ | refine r_isN ?_ | refine r_mt ?_ | refine r_tr ?_ | refine r_ss ?_ | refine r_dict0 ?_ | refine r_yes ?_ | refine r_isi ?_ | refine r_ty (by with_unfolding_all rfl) ?_ | refine r_ixT (by with_unfolding_all rfl) ?_ | refine r_ixE (by with_unfolding_all rfl) (by with_unfolding_all rfl) ?_ | refine r_ixL (by assumption) (by with_unfolding_all rfl) ?_ | refine r_addI ?_ | refine r_intF ?_ | refine r_intCF (by first | decide | exact cmul_r (by decide) | exact cmul_l (by decide)) ?_ | refine r_eqI ?_ | refine r_neI ?_ | refine r_eqS ?_ | refine r_neS ?_ | refine r_eqB ?_ | refine r_neB ?_ | refine r_int ?_ | refine r_drop ?_ | refine r_sub ?_ | refine r_gTp (by with_unfolding_all rfl) ?_ | refine r_gsCons ?_ | refine r_gsNil ?_ | refine r_for ?_ | refine r_lc ?_ | refine r_dc ?_ | refine r_iRg1 ?_ | refine r_inT (by with_unfolding_all rfl) (by with_unfolding_all rfl) ?_)
      refine ite_b (fun hx => ?_) (fun hx => ?_)
      · (repeat with_reducible first | refine r_seq ?_ | refine r_asg ?_ | refine r_nm ?_ | refine r_var (by with_unfolding_all rfl) ?_ | refine r_c ?_ | refine r_aCons ?_ | refine r_aNil ?_ | refine r_op ?_ | refine r_call ?_ | refine r_val ?_ | refine r_bl ?_ | refine r_if ?_ | refine r_ret ?_ | refine r_next ?_ | refine r_ifT (by first | decide | (with_unfolding_all rfl)) ?_ | refine r_ifF (by first | decide | (with_unfolding_all rfl)) ?_ | refine r_tup ?_ | refine r_lst ?_ | refine r_le (Nat.le_of_ble_eq_true (by with_unfolding_all rfl)) ?_ | refine r_cb ?_ | refine r_and ?_ | refine r_or ?_ | refine r_not ?_ | refine r_eIf ?_ | refine r_eAnd ?_ | refine r_eOr ?_ | refine r_eNot ?_ | refine r_isN ?_ | refine r_mt ?_ | refine r_tr ?_ | refine r_ss ?_ | refine r_dict0 ?_ | refine r_yes ?_ | refine r_isi ?_ | refine r_ty (by with_unfolding_all rfl) ?_ | refine r_ixT (by with_unfolding_all rfl) ?_ | refine r_ixE (by with_unfolding_all rfl) (by with_unfolding_all rfl) ?_ | refine r_ixL (by assumption) (by with_unfolding_all rfl) ?_ | refine r_addI ?_ | refine r_intF ?_ | refine r_intCF (by first | decide | exact cmul_r (by decide) | exact cmul_l (by decide)) ?_ | refine r_eqI ?_ | refine r_neI ?_ | refine r_eqS ?_ | refine r_neS ?_ | refine r_eqB ?_ | refine r_neB ?_ | refine r_int ?_ | refine r_drop ?_ | refine r_sub ?_ | refine r_gTp (by with_unfolding_all rfl) ?_ | refine r_gsCons ?_ | refine r_gsNil ?_ | refine r_for ?_ | refine r_lc ?_ | refine r_dc ?_ | refine r_iRg1 ?_ | refine r_inT (by with_unfolding_all rfl) (by with_unfolding_all rfl) ?_)
        exact leaf S0 (.is 0) (by show 0 < L0; omega) (Nat.le_refl _) rfl P0 (.refl _ _)
      · have hx : ys.length ≤ 4 := by
          have := of_decide_eq_false hx
          omega
        (repeat with_reducible first | refine r_seq ?_ | refine r_asg ?_ | refine r_nm ?_ | refine r_var (by with_unfolding_all rfl) ?_ | refine r_c ?_ | refine r_aCons ?_ | refine r_aNil ?_ | refine r_op ?_ | refine r_call ?_ | refine r_val ?_ | refine r_bl ?_ | refine r_if ?_ | refine r_ret ?_ | refine r_next ?_ | refine r_ifT (by first | decide | (with_unfolding_all rfl)) ?_ | refine r_ifF (by first | decide | (with_unfolding_all rfl)) ?_ | refine r_tup ?_ | refine r_lst ?_ | refine r_le (Nat.le_of_ble_eq_true (by with_unfolding_all rfl)) ?_ | refine r_cb ?_ | refine r_and ?_ | refine r_or ?_ | refine r_not ?_ | refine r_eIf ?_ | refine r_eAnd ?_ | refine r_eOr ?_ | refine r_eNot ?_ | refine r_isN ?_ | refine r_mt ?_ | refine r_tr ?_ | refine r_ss ?_ | refine r_dict0 ?_ | refine r_yes ?_ | refine r_isi ?_ | refine r_ty (by with_unfolding_all rfl) ?_ | refine r_ixT (by with_unfolding_all rfl) ?_ | refine r_ixE (by with_unfolding_all rfl) (by with_unfolding_all rfl) ?_ | refine r_ixL (by assumption) (by with_unfolding_all rfl) ?_ | refine r_addI ?_ | refine r_intF ?_ | refine r_intCF (by first | decide | exact cmul_r (by decide) | exact cmul_l (by decide)) ?_ | refine r_eqI ?_ | refine r_neI ?_ | refine r_eqS ?_ | refine r_neS ?_ | refine r_eqB ?_ | refine r_neB ?_ | refine r_int ?_ | refine r_drop ?_ | refine r_sub ?_ | refine r_gTp (by with_unfolding_all rfl) ?_ | refine r_gsCons ?_ | refine r_gsNil ?_ | refine r_for ?_ | refine r_lc ?_ | refine r_dc ?_ | refine r_iRg1 ?_ | refine r_inT (by with_unfolding_all rfl) (by with_unfolding_all rfl) ?_)
        refine r_tyL hst0 ?_
        (repeat with_reducible first | refine r_seq ?_ | refine r_asg ?_ | refine r_nm ?_ | refine r_var (by with_unfolding_all rfl) ?_ | refine r_c ?_ | refine r_aCons ?_ | refine r_aNil ?_ | refine r_op ?_ | refine r_call ?_ | refine r_val ?_ | refine r_bl ?_ | refine r_if ?_ | refine r_ret ?_ | refine r_next ?_ | refine r_ifT (by first | decide | (with_unfolding_all rfl)) ?_ | refine r_ifF (by first | decide | (with_unfolding_all rfl)) ?_ | refine r_tup ?_ | refine r_lst ?_ | refine r_le (Nat.le_of_ble_eq_true (by with_unfolding_all rfl)) ?_ | refine r_cb ?_ | refine r_and ?_ | refine r_or ?_ | refine r_not ?_ | refine r_eIf ?_ | refine r_eAnd ?_ | refine r_eOr ?_ | refine r_eNot ?_ | refine r_isN ?_ | refine r_mt ?_ | refine r_tr ?_ | refine r_ss ?_ | refine r_dict0 ?_ | refine r_yes ?_ | refine r_isi ?_ | refine r_ty (by with_unfolding_all rfl) ?_ | refine r_ixT (by with_unfolding_all rfl) ?_ | refine r_ixE (by with_unfolding_all rfl) (by with_unfolding_all rfl) ?_ | refine r_ixL (by assumption) (by with_unfolding_all rfl) ?_ | refine r_addI ?_ | refine r_intF ?_ | refine r_intCF (by first | decide | exact cmul_r (by decide) | exact cmul_l (by decide)) ?_ | refine r_eqI ?_ | refine r_neI ?_ | refine r_eqS ?_ | refine r_neS ?_ | refine r_eqB ?_ | refine r_neB ?_ | refine r_int ?_ | refine r_drop ?_ | refine r_sub ?_ | refine r_gTp (by with_unfolding_all rfl) ?_ | refine r_gsCons ?_ | refine r_gsNil ?_ | refine r_for ?_ | refine r_lc ?_ | refine r_dc ?_ | refine r_iRg1 ?_ | refine r_inT (by with_unfolding_all rfl) (by with_unfolding_all rfl) ?_)
        refine r_app hst0 (by simp [sizeLine]; omega) fun S1 q1 o1 => ?_
        have P1 := P0.extB (o1.b (l := [st]) (by simp)) (by simpa using Ne.symm sp) (by simpa using Ne.symm sq)
        have ek : (kn.map fun k : Nat => D.int (k : Nat)) ++ [D.int (ys.length : Nat)] = (kn ++ [ys.length]).map fun k : Nat => D.int (k : Nat) := by simp
        (repeat with_reducible first | refine r_seq ?_ | refine r_asg ?_ | refine r_nm ?_ | refine r_var (by with_unfolding_all rfl) ?_ | refine r_c ?_ | refine r_aCons ?_ | refine r_aNil ?_ | refine r_op ?_ | refine r_call ?_ | refine r_val ?_ | refine r_bl ?_ | refine r_if ?_ | refine r_ret ?_ | refine r_next ?_ | refine r_ifT (by first | decide | (with_unfolding_all rfl)) ?_ | refine r_ifF (by first | decide | (with_unfolding_all rfl)) ?_ | refine r_tup ?_ | refine r_lst ?_ | refine r_le (Nat.le_of_ble_eq_true (by with_unfolding_all rfl)) ?_ | refine r_cb ?_ | refine r_and ?_ | refine r_or ?_ | refine r_not ?_ | refine r_eIf ?_ | refine r_eAnd ?_ | refine r_eOr ?_ | refine r_eNot ?_ | refine r_isN ?_ | refine r_mt ?_ | refine r_tr ?_ | refine r_ss ?_ | refine r_dict0 ?_ | refine r_yes ?_ | refine r_isi ?_ | refine r_ty (by with_unfolding_all rfl) ?_ | refine r_ixT (by with_unfolding_all rfl) ?_ | refine r_ixE (by with_unfolding_all rfl) (by with_unfolding_all rfl) ?_ | refine r_ixL (by assumption) (by with_unfolding_all rfl) ?_ | refine r_addI ?_ | refine r_intF ?_ | refine r_intCF (by first | decide | exact cmul_r (by decide) | exact cmul_l (by decide)) ?_ | refine r_eqI ?_ | refine r_neI ?_ | refine r_eqS ?_ | refine r_neS ?_ | refine r_eqB ?_ | refine r_neB ?_ | refine r_int ?_ | refine r_drop ?_ | refine r_sub ?_ | refine r_gTp (by with_unfolding_all rfl) ?_ | refine r_gsCons ?_ | refine r_gsNil ?_ | refine r_for ?_ | refine r_lc ?_ | refine r_dc ?_ | refine r_iRg1 ?_ | refine r_inT (by with_unfolding_all rfl) (by with_unfolding_all rfl) ?_)
        refine draw_spec P1 (by decide) (by decide) fun S2 i hi P2 o2 => ?_
        match i, hi with
        | 0, _ =>
          (repeat with_reducible first | refine r_seq ?_ | refine r_asg ?_ | refine r_nm ?_ | refine r_var (by with_unfolding_all rfl) ?_ | refine r_c ?_ | refine r_aCons ?_ | refine r_aNil ?_ | refine r_op ?_ | refine r_call ?_ | refine r_val ?_ | refine r_bl ?_ | refine r_if ?_ | refine r_ret ?_ | refine r_next ?_ | refine r_ifT (by first | decide | (with_unfolding_all rfl)) ?_ | refine r_ifF (by first | decide | (with_unfolding_all rfl)) ?_ | refine r_tup ?_ | refine r_lst ?_ | refine r_le (Nat.le_of_ble_eq_true (by with_unfolding_all rfl)) ?_ | refine r_cb ?_ | refine r_and ?_ | refine r_or ?_ | refine r_not ?_ | refine r_eIf ?_ | refine r_eAnd ?_ | refine r_eOr ?_ | refine r_eNot ?_ | refine r_isN ?_ | refine r_mt ?_ | refine r_tr ?_ | refine r_ss ?_ | refine r_dict0 ?_ | refine r_yes ?_ | refine r_isi ?_ | refine r_ty (by with_unfolding_all rfl) ?_ | refine r_ixT (by with_unfolding_all rfl) ?_ | refine r_ixE (by with_unfolding_all rfl) (by with_unfolding_all rfl) ?_ | refine r_ixL (by assumption) (by with_unfolding_all rfl) ?_ | refine r_addI ?_ | refine r_intF ?_ | refine r_intCF (by first | decide | exact cmul_r (by decide) | exact cmul_l (by decide)) ?_ | refine r_eqI ?_ | refine r_neI ?_ | refine r_eqS ?_ | refine r_neS ?_ | refine r_eqB ?_ | refine r_neB ?_ | refine r_int ?_ | refine r_drop ?_ | refine r_sub ?_ | refine r_gTp (by with_unfolding_all rfl) ?_ | refine r_gsCons ?_ | refine r_gsNil ?_ | refine r_for ?_ | refine r_lc ?_ | refine r_dc ?_ | refine r_iRg1 ?_ | refine r_inT (by with_unfolding_all rfl) (by with_unfolding_all rfl) ?_)
          refine r_addT (by simp [sizeLine]; omega) ?_
          rw [ek]
          (repeat with_reducible first | refine r_seq ?_ | refine r_asg ?_ | refine r_nm ?_ | refine r_var (by with_unfolding_all rfl) ?_ | refine r_c ?_ | refine r_aCons ?_ | refine r_aNil ?_ | refine r_op ?_ | refine r_call ?_ | refine r_val ?_ | refine r_bl ?_ | refine r_if ?_ | refine r_ret ?_ | refine r_next ?_ | refine r_ifT (by first | decide | (with_unfolding_all rfl)) ?_ | refine r_ifF (by first | decide | (with_unfolding_all rfl)) ?_ | refine r_tup ?_ | refine r_lst ?_ | refine r_le (Nat.le_of_ble_eq_true (by with_unfolding_all rfl)) ?_ | refine r_cb ?_ | refine r_and ?_ | refine r_or ?_ | refine r_not ?_ | refine r_eIf ?_ | refine r_eAnd ?_ | refine r_eOr ?_ | refine r_eNot ?_ | refine r_isN ?_ | refine r_mt ?_ | refine r_tr ?_ | refine r_ss ?_ | refine r_dict0 ?_ | refine r_yes ?_ | refine r_isi ?_ | refine r_ty (by with_unfolding_all rfl) ?_ | refine r_ixT (by with_unfolding_all rfl) ?_ | refine r_ixE (by with_unfolding_all rfl) (by with_unfolding_all rfl) ?_ | refine r_ixL (by assumption) (by with_unfolding_all rfl) ?_ | refine r_addI ?_ | refine r_intF ?_ | refine r_intCF (by first | decide | exact cmul_r (by decide) | exact cmul_l (by decide)) ?_ | refine r_eqI ?_ | refine r_neI ?_ | refine r_eqS ?_ | refine r_neS ?_ | refine r_eqB ?_ | refine r_neB ?_ | refine r_int ?_ | refine r_drop ?_ | refine r_sub ?_ | refine r_gTp (by with_unfolding_all rfl) ?_ | refine r_gsCons ?_ | refine r_gsNil ?_ | refine r_for ?_ | refine r_lc ?_ | refine r_dc ?_ | refine r_iRg1 ?_ | refine r_inT (by with_unfolding_all rfl) (by with_unfolding_all rfl) ?_)
          refine go (kn ++ [ys.length]) fr _ S2 _ d0 P2 (o2.ne sp q1) (by simp; omega) (by simp; omega) hfr fun S3 fa ys2 u1 u2 u3 u4 u5 u6 u7 u8 => ?_
          (repeat with_reducible first | refine r_seq ?_ | refine r_asg ?_ | refine r_nm ?_ | refine r_var (by with_unfolding_all rfl) ?_ | refine r_c ?_ | refine r_aCons ?_ | refine r_aNil ?_ | refine r_op ?_ | refine r_call ?_ | refine r_val ?_ | refine r_bl ?_ | refine r_if ?_ | refine r_ret ?_ | refine r_next ?_ | refine r_ifT (by first | decide | (with_unfolding_all rfl)) ?_ | refine r_ifF (by first | decide | (with_unfolding_all rfl)) ?_ | refine r_tup ?_ | refine r_lst ?_ | refine r_le (Nat.le_of_ble_eq_true (by with_unfolding_all rfl)) ?_ | refine r_cb ?_ | refine r_and ?_ | refine r_or ?_ | refine r_not ?_ | refine r_eIf ?_ | refine r_eAnd ?_ | refine r_eOr ?_ | refine r_eNot ?_ | refine r_isN ?_ | refine r_mt ?_ | refine r_tr ?_ | refine r_ss ?_ | refine r_dict0 ?_ | refine r_yes ?_ | refine r_isi ?_ | refine r_ty (by with_unfolding_all rfl) ?_ | refine r_ixT (by with_unfolding_all rfl) ?_ | refine r_ixE (by with_unfolding_all rfl) (by with_unfolding_all rfl) ?_ | refine r_ixL (by assumption) (by with_unfolding_all rfl) ?_ | refine r_addI ?_ | refine r_intF ?_ | refine r_intCF (by first | decide | exact cmul_r (by decide) | exact cmul_l (by decide)) ?_ | refine r_eqI ?_ | refine r_neI ?_ | refine r_eqS ?_ | refine r_neS ?_ | refine r_eqB ?_ | refine r_neB ?_ | refine r_int ?_ | refine r_drop ?_ | refine r_sub ?_ | refine r_gTp (by with_unfolding_all rfl) ?_ | refine r_gsCons ?_ | refine r_gsNil ?_ | refine r_for ?_ | refine r_lc ?_ | refine r_dc ?_ | refine r_iRg1 ?_ | refine r_inT (by with_unfolding_all rfl) (by with_unfolding_all rfl) ?_)
          refine h S3 (.least ys.length fa) ys2 u1 (by show fa.dp + 1 ≤ _; omega) (by simp at u3; omega) u4 ?_ u6 u7 (((o0.b (by simp)).trans (o1.b (by simp))).trans ((o2.b (by simp)).trans u8))
          show ys.length :: fa.bnds = _
          rw [u5]
          simp at u3 ⊢
          have e3 : ys2.length - ys.length = (ys2.length - (ys.length + 1)) + 1 := by omega
          rw [e3, List.range'_succ]
        | 1, _ =>
          (repeat with_reducible first | refine r_seq ?_ | refine r_asg ?_ | refine r_nm ?_ | refine r_var (by with_unfolding_all rfl) ?_ | refine r_c ?_ | refine r_aCons ?_ | refine r_aNil ?_ | refine r_op ?_ | refine r_call ?_ | refine r_val ?_ | refine r_bl ?_ | refine r_if ?_ | refine r_ret ?_ | refine r_next ?_ | refine r_ifT (by first | decide | (with_unfolding_all rfl)) ?_ | refine r_ifF (by first | decide | (with_unfolding_all rfl)) ?_ | refine r_tup ?_ | refine r_lst ?_ | refine r_le (Nat.le_of_ble_eq_true (by with_unfolding_all rfl)) ?_ | refine r_cb ?_ | refine r_and ?_ | refine r_or ?_ | refine r_not ?_ | refine r_eIf ?_ | refine r_eAnd ?_ | refine r_eOr ?_ | refine r_eNot ?_ | refine r_isN ?_ | refine r_mt ?_ | refine r_tr ?_ | refine r_ss ?_ | refine r_dict0 ?_ | refine r_yes ?_ | refine r_isi ?_ | refine r_ty (by with_unfolding_all rfl) ?_ | refine r_ixT (by with_unfolding_all rfl) ?_ | refine r_ixE (by with_unfolding_all rfl) (by with_unfolding_all rfl) ?_ | refine r_ixL (by assumption) (by with_unfolding_all rfl) ?_ | refine r_addI ?_ | refine r_intF ?_ | refine r_intCF (by first | decide | exact cmul_r (by decide) | exact cmul_l (by decide)) ?_ | refine r_eqI ?_ | refine r_neI ?_ | refine r_eqS ?_ | refine r_neS ?_ | refine r_eqB ?_ | refine r_neB ?_ | refine r_int ?_ | refine r_drop ?_ | refine r_sub ?_ | refine r_gTp (by with_unfolding_all rfl) ?_ | refine r_gsCons ?_ | refine r_gsNil ?_ | refine r_for ?_ | refine r_lc ?_ | refine r_dc ?_ | refine r_iRg1 ?_ | refine r_inT (by with_unfolding_all rfl) (by with_unfolding_all rfl) ?_)
          refine r_addT (by simp [sizeLine]; omega) ?_
          rw [ek]
          (repeat with_reducible first | refine r_seq ?_ | refine r_asg ?_ | refine r_nm ?_ | refine r_var (by with_unfolding_all rfl) ?_ | refine r_c ?_ | refine r_aCons ?_ | refine r_aNil ?_ | refine r_op ?_ | refine r_call ?_ | refine r_val ?_ | refine r_bl ?_ | refine r_if ?_ | refine r_ret ?_ | refine r_next ?_ | refine r_ifT (by first | decide | (with_unfolding_all rfl)) ?_ | refine r_ifF (by first | decide | (with_unfolding_all rfl)) ?_ | refine r_tup ?_ | refine r_lst ?_ | refine r_le (Nat.le_of_ble_eq_true (by with_unfolding_all rfl)) ?_ | refine r_cb ?_ | refine r_and ?_ | refine r_or ?_ | refine r_not ?_ | refine r_eIf ?_ | refine r_eAnd ?_ | refine r_eOr ?_ | refine r_eNot ?_ | refine r_isN ?_ | refine r_mt ?_ | refine r_tr ?_ | refine r_ss ?_ | refine r_dict0 ?_ | refine r_yes ?_ | refine r_isi ?_ | refine r_ty (by with_unfolding_all rfl) ?_ | refine r_ixT (by with_unfolding_all rfl) ?_ | refine r_ixE (by with_unfolding_all rfl) (by with_unfolding_all rfl) ?_ | refine r_ixL (by assumption) (by with_unfolding_all rfl) ?_ | refine r_addI ?_ | refine r_intF ?_ | refine r_intCF (by first | decide | exact cmul_r (by decide) | exact cmul_l (by decide)) ?_ | refine r_eqI ?_ | refine r_neI ?_ | refine r_eqS ?_ | refine r_neS ?_ | refine r_eqB ?_ | refine r_neB ?_ | refine r_int ?_ | refine r_drop ?_ | refine r_sub ?_ | refine r_gTp (by with_unfolding_all rfl) ?_ | refine r_gsCons ?_ | refine r_gsNil ?_ | refine r_for ?_ | refine r_lc ?_ | refine r_dc ?_ | refine r_iRg1 ?_ | refine r_inT (by with_unfolding_all rfl) (by with_unfolding_all rfl) ?_)
          refine go (kn ++ [ys.length]) fr _ S2 _ d0 P2 (o2.ne sp q1) (by simp; omega) (by simp; omega) hfr fun S3 fa ys2 u1 u2 u3 u4 u5 u6 u7 u8 => ?_
          (repeat with_reducible first | refine r_seq ?_ | refine r_asg ?_ | refine r_nm ?_ | refine r_var (by with_unfolding_all rfl) ?_ | refine r_c ?_ | refine r_aCons ?_ | refine r_aNil ?_ | refine r_op ?_ | refine r_call ?_ | refine r_val ?_ | refine r_bl ?_ | refine r_if ?_ | refine r_ret ?_ | refine r_next ?_ | refine r_ifT (by first | decide | (with_unfolding_all rfl)) ?_ | refine r_ifF (by first | decide | (with_unfolding_all rfl)) ?_ | refine r_tup ?_ | refine r_lst ?_ | refine r_le (Nat.le_of_ble_eq_true (by with_unfolding_all rfl)) ?_ | refine r_cb ?_ | refine r_and ?_ | refine r_or ?_ | refine r_not ?_ | refine r_eIf ?_ | refine r_eAnd ?_ | refine r_eOr ?_ | refine r_eNot ?_ | refine r_isN ?_ | refine r_mt ?_ | refine r_tr ?_ | refine r_ss ?_ | refine r_dict0 ?_ | refine r_yes ?_ | refine r_isi ?_ | refine r_ty (by with_unfolding_all rfl) ?_ | refine r_ixT (by with_unfolding_all rfl) ?_ | refine r_ixE (by with_unfolding_all rfl) (by with_unfolding_all rfl) ?_ | refine r_ixL (by assumption) (by with_unfolding_all rfl) ?_ | refine r_addI ?_ | refine r_intF ?_ | refine r_intCF (by first | decide | exact cmul_r (by decide) | exact cmul_l (by decide)) ?_ | refine r_eqI ?_ | refine r_neI ?_ | refine r_eqS ?_ | refine r_neS ?_ | refine r_eqB ?_ | refine r_neB ?_ | refine r_int ?_ | refine r_drop ?_ | refine r_sub ?_ | refine r_gTp (by with_unfolding_all rfl) ?_ | refine r_gsCons ?_ | refine r_gsNil ?_ | refine r_for ?_ | refine r_lc ?_ | refine r_dc ?_ | refine r_iRg1 ?_ | refine r_inT (by with_unfolding_all rfl) (by with_unfolding_all rfl) ?_)
          refine h S3 (.greatest ys.length fa) ys2 u1 (by show fa.dp + 1 ≤ _; omega) (by simp at u3; omega) u4 ?_ u6 u7 (((o0.b (by simp)).trans (o1.b (by simp))).trans ((o2.b (by simp)).trans u8))
          show ys.length :: fa.bnds = _
          rw [u5]
          simp at u3 ⊢
          have e3 : ys2.length - ys.length = (ys2.length - (ys.length + 1)) + 1 := by omega
          rw [e3, List.range'_succ]
        | i + 2, hi => omega
    · (repeat with_reducible first | refine r_seq ?_ | refine r_asg ?_ | refine r_nm ?_ | refine r_var (by with_unfolding_all rfl) ?_ | refine r_c ?_ | refine r_aCons ?_ | refine r_aNil ?_ | refine r_op ?_ | refine r_call ?_ | refine r_val ?_ | refine r_bl ?_ | refine r_if ?_ | refine r_ret ?_ | refine r_next ?_ | refine r_ifT (by first | decide | (with_unfolding_all rfl)) ?_ | refine r_ifF (by first | decide | (with_unfolding_all rfl)) ?_ | refine r_tup ?_ | refine r_lst ?_ | refine r_le (Nat.le_of_ble_eq_true (by with_unfolding_all rfl)) ?_ | refine r_cb ?_ | refine r_and ?_ | refine r_or ?_ | refine r_not ?_ | refine r_eIf ?_ | refine r_eAnd ?_ | refine r_eOr ?_ | refine r_eNot ?_ | refine r_isN ?_ | refine r_mt ?_ | refine r_tr ?_ | refine r_ss ?_ | refine r_dict0 ?_ | refine r_yes ?_ | refine r_isi ?_ | refine r_ty (by with_unfolding_all rfl) ?_ | refine r_ixT (by with_unfolding_all rfl) ?_ | refine r_ixE (by with_unfolding_all rfl) (by with_unfolding_all rfl) ?_ | refine r_ixL (by assumption) (by with_unfolding_all rfl) ?_ | refine r_addI ?_ | refine r_intF ?_ | refine r_intCF (by first | decide | exact cmul_r (by decide) | exact cmul_l (by decide)) ?_ | refine r_eqI ?_ | refine r_neI ?_ | refine r_eqS ?_ | refine r_neS ?_ | refine r_eqB ?_ | refine r_neB ?_ | refine r_int ?_ | refine r_drop ?_ | refine r_sub ?_ | refine r_gTp (by with_unfolding_all rfl) ?_ | refine r_gsCons ?_ | refine r_gsNil ?_ | refine r_for ?_ | refine r_lc ?_ | refine r_dc ?_ | refine r_iRg1 ?_ | refine r_inT (by with_unfolding_all rfl) (by with_unfolding_all rfl) ?_)
      refine ite_b (fun hb => ?_) (fun hb => ?_)
      · (repeat with_reducible first | refine r_seq ?_ | refine r_asg ?_ | refine r_nm ?_ | refine r_var (by with_unfolding_all rfl) ?_ | refine r_c ?_ | refine r_aCons ?_ | refine r_aNil ?_ | refine r_op ?_ | refine r_call ?_ | refine r_val ?_ | refine r_bl ?_ | refine r_if ?_ | refine r_ret ?_ | refine r_next ?_ | refine r_ifT (by first | decide | (with_unfolding_all rfl)) ?_ | refine r_ifF (by first | decide | (with_unfolding_all rfl)) ?_ | refine r_tup ?_ | refine r_lst ?_ | refine r_le (Nat.le_of_ble_eq_true (by with_unfolding_all rfl)) ?_ | refine r_cb ?_ | refine r_and ?_ | refine r_or ?_ | refine r_not ?_ | refine r_eIf ?_ | refine r_eAnd ?_ | refine r_eOr ?_ | refine r_eNot ?_ | refine r_isN ?_ | refine r_mt ?_ | refine r_tr ?_ | refine r_ss ?_ | refine r_dict0 ?_ | refine r_yes ?_ | refine r_isi ?_ | refine r_ty (by with_unfolding_all rfl) ?_ | refine r_ixT (by with_unfolding_all rfl) ?_ | refine r_ixE (by with_unfolding_all rfl) (by with_unfolding_all rfl) ?_ | refine r_ixL (by assumption) (by with_unfolding_all rfl) ?_ | refine r_addI ?_ | refine r_intF ?_ | refine r_intCF (by first | decide | exact cmul_r (by decide) | exact cmul_l (by decide)) ?_ | refine r_eqI ?_ | refine r_neI ?_ | refine r_eqS ?_ | refine r_neS ?_ | refine r_eqB ?_ | refine r_neB ?_ | refine r_int ?_ | refine r_drop ?_ | refine r_sub ?_ | refine r_gTp (by with_unfolding_all rfl) ?_ | refine r_gsCons ?_ | refine r_gsNil ?_ | refine r_for ?_ | refine r_lc ?_ | refine r_dc ?_ | refine r_iRg1 ?_ | refine r_inT (by with_unfolding_all rfl) (by with_unfolding_all rfl) ?_)
        refine draw_spec P (by decide) (by decide) fun S1 r hr P1 o1 => ?_
        (repeat with_reducible first | refine r_seq ?_ | refine r_asg ?_ | refine r_nm ?_ | refine r_var (by with_unfolding_all rfl) ?_ | refine r_c ?_ | refine r_aCons ?_ | refine r_aNil ?_ | refine r_op ?_ | refine r_call ?_ | refine r_val ?_ | refine r_bl ?_ | refine r_if ?_ | refine r_ret ?_ | refine r_next ?_ | refine r_ifT (by first | decide | (with_unfolding_all rfl)) ?_ | refine r_ifF (by first | decide | (with_unfolding_all rfl)) ?_ | refine r_tup ?_ | refine r_lst ?_ | refine r_le (Nat.le_of_ble_eq_true (by with_unfolding_all rfl)) ?_ | refine r_cb ?_ | refine r_and ?_ | refine r_or ?_ | refine r_not ?_ | refine r_eIf ?_ | refine r_eAnd ?_ | refine r_eOr ?_ | refine r_eNot ?_ | refine r_isN ?_ | refine r_mt ?_ | refine r_tr ?_ | refine r_ss ?_ | refine r_dict0 ?_ | refine r_yes ?_ | refine r_isi ?_ | refine r_ty (by with_unfolding_all rfl) ?_ | refine r_ixT (by with_unfolding_all rfl) ?_ | refine r_ixE (by with_unfolding_all rfl) (by with_unfolding_all rfl) ?_ | refine r_ixL (by assumption) (by with_unfolding_all rfl) ?_ | refine r_addI ?_ | refine r_intF ?_ | refine r_intCF (by first | decide | exact cmul_r (by decide) | exact cmul_l (by decide)) ?_ | refine r_eqI ?_ | refine r_neI ?_ | refine r_eqS ?_ | refine r_neS ?_ | refine r_eqB ?_ | refine r_neB ?_ | refine r_int ?_ | refine r_drop ?_ | refine r_sub ?_ | refine r_gTp (by with_unfolding_all rfl) ?_ | refine r_gsCons ?_ | refine r_gsNil ?_ | refine r_for ?_ | refine r_lc ?_ | refine r_dc ?_ | refine r_iRg1 ?_ | refine r_inT (by with_unfolding_all rfl) (by with_unfolding_all rfl) ?_)
        have hb := of_decide_eq_true hb
        exact hT _ _ ⟨r, rfl, by omega, by omega, P1, o1⟩
      · (repeat with_reducible first | refine r_seq ?_ | refine r_asg ?_ | refine r_nm ?_ | refine r_var (by with_unfolding_all rfl) ?_ | refine r_c ?_ | refine r_aCons ?_ | refine r_aNil ?_ | refine r_op ?_ | refine r_call ?_ | refine r_val ?_ | refine r_bl ?_ | refine r_if ?_ | refine r_ret ?_ | refine r_next ?_ | refine r_ifT (by first | decide | (with_unfolding_all rfl)) ?_ | refine r_ifF (by first | decide | (with_unfolding_all rfl)) ?_ | refine r_tup ?_ | refine r_lst ?_ | refine r_le (Nat.le_of_ble_eq_true (by with_unfolding_all rfl)) ?_ | refine r_cb ?_ | refine r_and ?_ | refine r_or ?_ | refine r_not ?_ | refine r_eIf ?_ | refine r_eAnd ?_ | refine r_eOr ?_ | refine r_eNot ?_ | refine r_isN ?_ | refine r_mt ?_ | refine r_tr ?_ | refine r_ss ?_ | refine r_dict0 ?_ | refine r_yes ?_ | refine r_isi ?_ | refine r_ty (by with_unfolding_all rfl) ?_ | refine r_ixT (by with_unfolding_all rfl) ?_ | refine r_ixE (by with_unfolding_all rfl) (by with_unfolding_all rfl) ?_ | refine r_ixL (by assumption) (by with_unfolding_all rfl) ?_ | refine r_addI ?_ | refine r_intF ?_ | refine r_intCF (by first | decide | exact cmul_r (by decide) | exact cmul_l (by decide)) ?_ | refine r_eqI ?_ | refine r_neI ?_ | refine r_eqS ?_ | refine r_neS ?_ | refine r_eqB ?_ | refine r_neB ?_ | refine r_int ?_ | refine r_drop ?_ | refine r_sub ?_ | refine r_gTp (by with_unfolding_all rfl) ?_ | refine r_gsCons ?_ | refine r_gsNil ?_ | refine r_for ?_ | refine r_lc ?_ | refine r_dc ?_ | refine r_iRg1 ?_ | refine r_inT (by with_unfolding_all rfl) (by with_unfolding_all rfl) ?_)
        refine draw_spec P (by decide) (by decide) fun S1 r hr P1 o1 => ?_
        (repeat with_reducible first | refine r_seq ?_ | refine r_asg ?_ | refine r_nm ?_ | refine r_var (by with_unfolding_all rfl) ?_ | refine r_c ?_ | refine r_aCons ?_ | refine r_aNil ?_ | refine r_op ?_ | refine r_call ?_ | refine r_val ?_ | refine r_bl ?_ | refine r_if ?_ | refine r_ret ?_ | refine r_next ?_ | refine r_ifT (by first | decide | (with_unfolding_all rfl)) ?_ | refine r_ifF (by first | decide | (with_unfolding_all rfl)) ?_ | refine r_tup ?_ | refine r_lst ?_ | refine r_le (Nat.le_of_ble_eq_true (by with_unfolding_all rfl)) ?_ | refine r_cb ?_ | refine r_and ?_ | refine r_or ?_ | refine r_not ?_ | refine r_eIf ?_ | refine r_eAnd ?_ | refine r_eOr ?_ | refine r_eNot ?_ | refine r_isN ?_ | refine r_mt ?_ | refine r_tr ?_ | refine r_ss ?_ | refine r_dict0 ?_ | refine r_yes ?_ | refine r_isi ?_ | refine r_ty (by with_unfolding_all rfl) ?_ | refine r_ixT (by with_unfolding_all rfl) ?_ | refine r_ixE (by with_unfolding_all rfl) (by with_unfolding_all rfl) ?_ | refine r_ixL (by assumption) (by with_unfolding_all rfl) ?_ | refine r_addI ?_ | refine r_intF ?_ | refine r_intCF (by first | decide | exact cmul_r (by decide) | exact cmul_l (by decide)) ?_ | refine r_eqI ?_ | refine r_neI ?_ | refine r_eqS ?_ | refine r_neS ?_ | refine r_eqB ?_ | refine r_neB ?_ | refine r_int ?_ | refine r_drop ?_ | refine r_sub ?_ | refine r_gTp (by with_unfolding_all rfl) ?_ | refine r_gsCons ?_ | refine r_gsNil ?_ | refine r_for ?_ | refine r_lc ?_ | refine r_dc ?_ | refine r_iRg1 ?_ | refine r_inT (by with_unfolding_all rfl) (by with_unfolding_all rfl) ?_)
        exact hT _ _ ⟨r, rfl, by omega, by omega, P1, o1⟩
end PG
/-! SP4: drawn worlds. -/
namespace PG
open PySem L2 SD
structure Wd where
  n : Nat
  marks : List (List Nat)
  ways : List (List (List Nat))
def encR (r : List (List Nat)) : D := .tup (r.map encP)
def encW (w : Wd) : D := .tup [.int (w.n : Nat), .tup (w.marks.map encP), .tup (w.ways.map encR)]
def OkSub (n : Nat) (ks : List Nat) : Prop := ks.Pairwise (· < ·) ∧ ∀ k ∈ ks, k < n
structure OkW (L0 L1 : Nat) (w : Wd) : Prop where
  pos : 1 ≤ w.n
  marks : w.marks.length = L0
  mark : ∀ m ∈ w.marks, OkSub w.n m
  ways : w.ways.length = L1
  rows : ∀ r ∈ w.ways, r.length = w.n
  row : ∀ r ∈ w.ways, ∀ ks ∈ r, OkSub w.n ks
theorem OkSub.le {n : Nat} {ks : List Nat} (h : OkSub n ks) : ks.length ≤ n := by
  have nd : ks.Nodup := h.1.imp fun a => Nat.ne_of_lt a
  have := subset_len (ls := List.range n) nd fun j hj => List.mem_range.mpr (h.2 j hj)
  simpa using this
/-- [k for k in range(n) if draw(m) == 0] -/
theorem sub_spec {σ : Slots} {n p q m pv iv : Nat} {em : FE} {S : Store} {R : Store → Prop} (hp : ∀ d : D, (σ.set iv (some d))[pv]? = some (some (.ref p))) (hv : ∀ d : D, (σ.set iv (some d))[iv]? = some (some d))
    (hem : ∀ (d : D) (S : Store) (Q : PD), Q (.int (m : Nat)) S → em (σ.set iv (some d)) S Q) (m0 : 0 < m) (m1 : m < 1000000) (hn : n ≤ 1000) (P : PoolOk p q S)
    (h : ∀ S' ks, OkSub n ks → PoolOk p q S' → ExtB [p] S S' → S'[S.length]? = some (.lst (ks.map fun k : Nat => .int (k : Nat))) → R S') :
    lcD Always (gNm iv) (tVal (eOp (eqF false) (eCall F__law_draw (aCons (eVar pv) (aCons em aNil))) (eC (.int 0)))) (eVar iv) S.length R σ (rngD 0 n) (S ++ [.lst []]) := by
  have hpl := P.lt
  refine lc_inv (fun i acc S' => PoolOk p q S' ∧ ExtB [p] S S' ∧ ∃ ks : List Nat, acc = ks.map (fun k : Nat => D.int (k : Nat)) ∧ OkSub i ks) (by rw [rng_len]; simp [sizeLine]; omega) (new_at S _) ⟨P.ext (Ext.app S _), (Ext.app S _).b _, [], rfl, .nil, by simp⟩ ?_ ?_
  · rintro i x acc S1 R1 hx h1 hl ⟨P1, e1, ks, rfl, hk1, hk2⟩ hR
    obtain ⟨hi, rfl⟩ := rng_at hx
    refine ⟨trivial, ?_⟩
    (repeat with_reducible first | refine r_seq ?_ | refine r_asg ?_ | refine r_nm ?_ | refine r_var (by with_unfolding_all rfl) ?_ | refine r_c ?_ | refine r_aCons ?_ | refine r_aNil ?_ | refine r_op ?_ | refine r_call ?_ | refine r_val ?_ | refine r_bl ?_ | refine r_if ?_ | refine r_ret ?_ | refine r_next ?_ | refine r_ifT (by first | decide | (with_unfolding_all rfl)) ?_ | refine r_ifF (by first | decide | (with_unfolding_all rfl)) ?_ | refine r_tup ?_ | refine r_lst ?_ | refine r_le (Nat.le_of_ble_eq_true (by with_unfolding_all rfl)) ?_ | refine r_cb ?_ | refine r_and ?_ | refine r_or ?_ | refine r_not ?_ | refine r_eIf ?_ | refine r_eAnd ?_ | refine r_eOr ?_ | refine r_eNot ?_ | refine r_isN ?_ | refine r_mt ?_ | refine r_tr ?_ | refine r_ss ?_ | refine r_dict0 ?_ | refine r_yes ?_ | refine r_isi ?_ | refine r_ty (by with_unfolding_all rfl) ?_ | refine r_ixT (by with_unfolding_all rfl) ?_ | refine r_ixE (by with_unfolding_all rfl) (by with_unfolding_all rfl) ?_ | refine r_ixL (by assumption) (by with_unfolding_all rfl) ?_ | refine r_addI ?_ | refine r_intF ?_ | refine r_intCF (by first | decide | exact cmul_r (by decide) | exact cmul_l (by decide)) ?_ | refine r_eqI ?_ | refine r_neI ?_ | refine r_eqS ?_ | refine r_neS ?_ | refine r_eqB ?_ | refine r_neB ?_ | refine r_int ?_ | refine r_drop ?_ | refine r_sub ?_ | refine r_gTp (by with_unfolding_all rfl) ?_ | refine r_gsCons ?_ | refine r_gsNil ?_ | refine r_for ?_ | refine r_lc ?_ | refine r_dc ?_ | refine r_iRg1 ?_ | refine r_inT (by with_unfolding_all rfl) (by with_unfolding_all rfl) ?_)
    refine r_var (hp _) ?_
    (repeat with_reducible first | refine r_seq ?_ | refine r_asg ?_ | refine r_nm ?_ | refine r_var (by with_unfolding_all rfl) ?_ | refine r_c ?_ | refine r_aCons ?_ | refine r_aNil ?_ | refine r_op ?_ | refine r_call ?_ | refine r_val ?_ | refine r_bl ?_ | refine r_if ?_ | refine r_ret ?_ | refine r_next ?_ | refine r_ifT (by first | decide | (with_unfolding_all rfl)) ?_ | refine r_ifF (by first | decide | (with_unfolding_all rfl)) ?_ | refine r_tup ?_ | refine r_lst ?_ | refine r_le (Nat.le_of_ble_eq_true (by with_unfolding_all rfl)) ?_ | refine r_cb ?_ | refine r_and ?_ | refine r_or ?_ | refine r_not ?_ | refine r_eIf ?_ | refine r_eAnd ?_ | refine r_eOr ?_ | refine r_eNot ?_ | refine r_isN ?_ | refine r_mt ?_ | refine r_tr ?_ | refine r_ss ?_ | refine r_dict0 ?_ | refine r_yes ?_ | refine r_isi ?_ | refine r_ty (by with_unfolding_all rfl) ?_ | refine r_ixT (by with_unfolding_all rfl) ?_ | refine r_ixE (by with_unfolding_all rfl) (by with_unfolding_all rfl) ?_ | refine r_ixL (by assumption) (by with_unfolding_all rfl) ?_ | refine r_addI ?_ | refine r_intF ?_ | refine r_intCF (by first | decide | exact cmul_r (by decide) | exact cmul_l (by decide)) ?_ | refine r_eqI ?_ | refine r_neI ?_ | refine r_eqS ?_ | refine r_neS ?_ | refine r_eqB ?_ | refine r_neB ?_ | refine r_int ?_ | refine r_drop ?_ | refine r_sub ?_ | refine r_gTp (by with_unfolding_all rfl) ?_ | refine r_gsCons ?_ | refine r_gsNil ?_ | refine r_for ?_ | refine r_lc ?_ | refine r_dc ?_ | refine r_iRg1 ?_ | refine r_inT (by with_unfolding_all rfl) (by with_unfolding_all rfl) ?_)
    refine hem _ _ _ ?_
    (repeat with_reducible first | refine r_seq ?_ | refine r_asg ?_ | refine r_nm ?_ | refine r_var (by with_unfolding_all rfl) ?_ | refine r_c ?_ | refine r_aCons ?_ | refine r_aNil ?_ | refine r_op ?_ | refine r_call ?_ | refine r_val ?_ | refine r_bl ?_ | refine r_if ?_ | refine r_ret ?_ | refine r_next ?_ | refine r_ifT (by first | decide | (with_unfolding_all rfl)) ?_ | refine r_ifF (by first | decide | (with_unfolding_all rfl)) ?_ | refine r_tup ?_ | refine r_lst ?_ | refine r_le (Nat.le_of_ble_eq_true (by with_unfolding_all rfl)) ?_ | refine r_cb ?_ | refine r_and ?_ | refine r_or ?_ | refine r_not ?_ | refine r_eIf ?_ | refine r_eAnd ?_ | refine r_eOr ?_ | refine r_eNot ?_ | refine r_isN ?_ | refine r_mt ?_ | refine r_tr ?_ | refine r_ss ?_ | refine r_dict0 ?_ | refine r_yes ?_ | refine r_isi ?_ | refine r_ty (by with_unfolding_all rfl) ?_ | refine r_ixT (by with_unfolding_all rfl) ?_ | refine r_ixE (by with_unfolding_all rfl) (by with_unfolding_all rfl) ?_ | refine r_ixL (by assumption) (by with_unfolding_all rfl) ?_ | refine r_addI ?_ | refine r_intF ?_ | refine r_intCF (by first | decide | exact cmul_r (by decide) | exact cmul_l (by decide)) ?_ | refine r_eqI ?_ | refine r_neI ?_ | refine r_eqS ?_ | refine r_neS ?_ | refine r_eqB ?_ | refine r_neB ?_ | refine r_int ?_ | refine r_drop ?_ | refine r_sub ?_ | refine r_gTp (by with_unfolding_all rfl) ?_ | refine r_gsCons ?_ | refine r_gsNil ?_ | refine r_for ?_ | refine r_lc ?_ | refine r_dc ?_ | refine r_iRg1 ?_ | refine r_inT (by with_unfolding_all rfl) (by with_unfolding_all rfl) ?_)
    refine draw_spec P1 (by omega) (by omega) fun S2 r hr P2 o2 => ?_
    have h1' := o2.ne (Nat.ne_of_gt hpl) h1
    (repeat with_reducible first | refine r_seq ?_ | refine r_asg ?_ | refine r_nm ?_ | refine r_var (by with_unfolding_all rfl) ?_ | refine r_c ?_ | refine r_aCons ?_ | refine r_aNil ?_ | refine r_op ?_ | refine r_call ?_ | refine r_val ?_ | refine r_bl ?_ | refine r_if ?_ | refine r_ret ?_ | refine r_next ?_ | refine r_ifT (by first | decide | (with_unfolding_all rfl)) ?_ | refine r_ifF (by first | decide | (with_unfolding_all rfl)) ?_ | refine r_tup ?_ | refine r_lst ?_ | refine r_le (Nat.le_of_ble_eq_true (by with_unfolding_all rfl)) ?_ | refine r_cb ?_ | refine r_and ?_ | refine r_or ?_ | refine r_not ?_ | refine r_eIf ?_ | refine r_eAnd ?_ | refine r_eOr ?_ | refine r_eNot ?_ | refine r_isN ?_ | refine r_mt ?_ | refine r_tr ?_ | refine r_ss ?_ | refine r_dict0 ?_ | refine r_yes ?_ | refine r_isi ?_ | refine r_ty (by with_unfolding_all rfl) ?_ | refine r_ixT (by with_unfolding_all rfl) ?_ | refine r_ixE (by with_unfolding_all rfl) (by with_unfolding_all rfl) ?_ | refine r_ixL (by assumption) (by with_unfolding_all rfl) ?_ | refine r_addI ?_ | refine r_intF ?_ | refine r_intCF (by first | decide | exact cmul_r (by decide) | exact cmul_l (by decide)) ?_ | refine r_eqI ?_ | refine r_neI ?_ | refine r_eqS ?_ | refine r_neS ?_ | refine r_eqB ?_ | refine r_neB ?_ | refine r_int ?_ | refine r_drop ?_ | refine r_sub ?_ | refine r_gTp (by with_unfolding_all rfl) ?_ | refine r_gsCons ?_ | refine r_gsNil ?_ | refine r_for ?_ | refine r_lc ?_ | refine r_dc ?_ | refine r_iRg1 ?_ | refine r_inT (by with_unfolding_all rfl) (by with_unfolding_all rfl) ?_)
    refine ite_b (fun hb => ?_) (fun hb => ?_)
    · refine r_var (hv _) ?_
      refine ⟨_, h1', by rw [List.length_map] at hl ⊢; simp [sizeLine]; omega, ?_⟩
      refine hR _ _ (set_at h1') (by simpa using hl) ⟨P2.extB ((Off.set S.length S2 _).b (l := [S.length]) (by simp)) (by simp; exact Nat.ne_of_lt hpl) (by simp; exact Nat.ne_of_lt P.lt2), (e1.trans (o2.b (by simp))).put (.inr (Nat.le_refl _)), ks ++ [i], by simp, ?_, ?_⟩
      · rw [List.pairwise_append]
        exact ⟨hk1, by simp, fun a ha b hb => by simp at hb; subst hb; exact hk2 a ha⟩
      · intro k hk
        simp at hk
        rcases hk with hk | rfl
        · have := hk2 k hk; omega
        · omega
    · refine hR _ _ h1' (by omega) ⟨P2, e1.trans (o2.b (by simp)), ks, rfl, hk1, fun k hk => by have := hk2 k hk; omega⟩
  · rintro acc S1 h1 hl ⟨P1, e1, ks, rfl, hk⟩
    rw [rng_len] at hk
    exact ⟨trivial, h S1 ks hk P1 e1 h1⟩
/-- [tuple([k for k in range(n) if draw(m) == 0]) for _ in range(c)] -/
theorem rows_spec {σ : Slots} {n p q m c pv iv nv ov : Nat} {em : FE} {S : Store} {R : Store → Prop} (hp : ∀ d e : D, ((wipeD (σ.set ov (some e)) [iv]).set iv (some d))[pv]? = some (some (.ref p))) (hv : ∀ d e : D, ((wipeD (σ.set ov (some e)) [iv]).set iv (some d))[iv]? = some (some d))
    (hn : ∀ e : D, (σ.set ov (some e))[nv]? = some (some (.int (n : Nat))))
    (hem : ∀ (d e : D) (S : Store) (Q : PD), Q (.int (m : Nat)) S → em ((wipeD (σ.set ov (some e)) [iv]).set iv (some d)) S Q) (m0 : 0 < m) (m1 : m < 1000000) (hn1 : n ≤ 1000) (hc : c ≤ 1000) (P : PoolOk p q S)
    (h : ∀ S' (rs : List (List Nat)), rs.length = c → (∀ r ∈ rs, OkSub n r) → PoolOk p q S' → ExtB [p] S S' → S'[S.length]? = some (.lst (rs.map encP)) → R S') :
    lcD Always (gNm ov) tYesD (eCB tupleF (aCons (eLc (iRg1 (aCons (eVar nv) aNil)) (gNm iv) (tVal (eOp (eqF false) (eCall F__law_draw (aCons (eVar pv) (aCons em aNil))) (eC (.int 0)))) (eVar iv) [iv]) aNil)) S.length R σ (rngD 0 c) (S ++ [.lst []]) := by
  have hpl := P.lt
  refine lc_inv (fun i acc S' => PoolOk p q S' ∧ ExtB [p] S S' ∧ ∃ rs : List (List Nat), acc = rs.map encP ∧ rs.length = i ∧ ∀ r ∈ rs, OkSub n r) (by rw [rng_len]; simp [sizeLine]; omega) (new_at S _) ⟨P.ext (Ext.app S _), (Ext.app S _).b _, [], rfl, rfl, by simp⟩ ?_ ?_
  · rintro i x acc S1 R1 hx h1 hl ⟨P1, e1, rs, rfl, hr1, hr2⟩ hR
    obtain ⟨hi, rfl⟩ := rng_at hx
    refine ⟨trivial, ?_⟩
    (repeat with_reducible first | refine r_seq ?_ | refine r_asg ?_ | refine r_nm ?_ | refine r_var (by with_unfolding_all rfl) ?_ | refine r_c ?_ | refine r_aCons ?_ | refine r_aNil ?_ | refine r_op ?_ | refine r_call ?_ | refine r_val ?_ | refine r_bl ?_ | refine r_if ?_ | refine r_ret ?_ | refine r_next ?_ | refine r_ifT (by first | decide | (with_unfolding_all rfl)) ?_ | refine r_ifF (by first | decide | (with_unfolding_all rfl)) ?_ | refine r_tup ?_ | refine r_lst ?_ | refine r_le (Nat.le_of_ble_eq_true (by with_unfolding_all rfl)) ?_ | refine r_cb ?_ | refine r_and ?_ | refine r_or ?_ | refine r_not ?_ | refine r_eIf ?_ | refine r_eAnd ?_ | refine r_eOr ?_ | refine r_eNot ?_ | refine r_isN ?_ | refine r_mt ?_ | refine r_tr ?_ | refine r_ss ?_ | refine r_dict0 ?_ | refine r_yes ?_ | refine r_isi ?_ | refine r_ty (by with_unfolding_all rfl) ?_ | refine r_ixT (by with_unfolding_all rfl) ?_ | refine r_ixE (by with_unfolding_all rfl) (by with_unfolding_all rfl) ?_ | refine r_ixL (by assumption) (by with_unfolding_all rfl) ?_ | refine r_addI ?_ | refine r_intF ?_ | refine r_intCF (by first | decide | exact cmul_r (by decide) | exact cmul_l (by decide)) ?_ | refine r_eqI ?_ | refine r_neI ?_ | refine r_eqS ?_ | refine r_neS ?_ | refine r_eqB ?_ | refine r_neB ?_ | refine r_int ?_ | refine r_drop ?_ | refine r_sub ?_ | refine r_gTp (by with_unfolding_all rfl) ?_ | refine r_gsCons ?_ | refine r_gsNil ?_ | refine r_for ?_ | refine r_lc ?_ | refine r_dc ?_ | refine r_iRg1 ?_ | refine r_inT (by with_unfolding_all rfl) (by with_unfolding_all rfl) ?_)
    refine r_var (hn _) ?_
    (repeat with_reducible first | refine r_seq ?_ | refine r_asg ?_ | refine r_nm ?_ | refine r_var (by with_unfolding_all rfl) ?_ | refine r_c ?_ | refine r_aCons ?_ | refine r_aNil ?_ | refine r_op ?_ | refine r_call ?_ | refine r_val ?_ | refine r_bl ?_ | refine r_if ?_ | refine r_ret ?_ | refine r_next ?_ | refine r_ifT (by first | decide | (with_unfolding_all rfl)) ?_ | refine r_ifF (by first | decide | (with_unfolding_all rfl)) ?_ | refine r_tup ?_ | refine r_lst ?_ | refine r_le (Nat.le_of_ble_eq_true (by with_unfolding_all rfl)) ?_ | refine r_cb ?_ | refine r_and ?_ | refine r_or ?_ | refine r_not ?_ | refine r_eIf ?_ | refine r_eAnd ?_ | refine r_eOr ?_ | refine r_eNot ?_ | refine r_isN ?_ | refine r_mt ?_ | refine r_tr ?_ | refine r_ss ?_ | refine r_dict0 ?_ | refine r_yes ?_ | refine r_isi ?_ | refine r_ty (by with_unfolding_all rfl) ?_ | refine r_ixT (by with_unfolding_all rfl) ?_ | refine r_ixE (by with_unfolding_all rfl) (by with_unfolding_all rfl) ?_ | refine r_ixL (by assumption) (by with_unfolding_all rfl) ?_ | refine r_addI ?_ | refine r_intF ?_ | refine r_intCF (by first | decide | exact cmul_r (by decide) | exact cmul_l (by decide)) ?_ | refine r_eqI ?_ | refine r_neI ?_ | refine r_eqS ?_ | refine r_neS ?_ | refine r_eqB ?_ | refine r_neB ?_ | refine r_int ?_ | refine r_drop ?_ | refine r_sub ?_ | refine r_gTp (by with_unfolding_all rfl) ?_ | refine r_gsCons ?_ | refine r_gsNil ?_ | refine r_for ?_ | refine r_lc ?_ | refine r_dc ?_ | refine r_iRg1 ?_ | refine r_inT (by with_unfolding_all rfl) (by with_unfolding_all rfl) ?_)
    refine r_rg (by omega) (by omega) fun few => ?_
    rw [Int.toNat_natCast]
    refine sub_spec (hp · _) (hv · _) (hem · _) m0 m1 hn1 P1 fun S2 ks hk P2 e2 h2 => ?_
    (repeat with_reducible first | refine r_seq ?_ | refine r_asg ?_ | refine r_nm ?_ | refine r_var (by with_unfolding_all rfl) ?_ | refine r_c ?_ | refine r_aCons ?_ | refine r_aNil ?_ | refine r_op ?_ | refine r_call ?_ | refine r_val ?_ | refine r_bl ?_ | refine r_if ?_ | refine r_ret ?_ | refine r_next ?_ | refine r_ifT (by first | decide | (with_unfolding_all rfl)) ?_ | refine r_ifF (by first | decide | (with_unfolding_all rfl)) ?_ | refine r_tup ?_ | refine r_lst ?_ | refine r_le (Nat.le_of_ble_eq_true (by with_unfolding_all rfl)) ?_ | refine r_cb ?_ | refine r_and ?_ | refine r_or ?_ | refine r_not ?_ | refine r_eIf ?_ | refine r_eAnd ?_ | refine r_eOr ?_ | refine r_eNot ?_ | refine r_isN ?_ | refine r_mt ?_ | refine r_tr ?_ | refine r_ss ?_ | refine r_dict0 ?_ | refine r_yes ?_ | refine r_isi ?_ | refine r_ty (by with_unfolding_all rfl) ?_ | refine r_ixT (by with_unfolding_all rfl) ?_ | refine r_ixE (by with_unfolding_all rfl) (by with_unfolding_all rfl) ?_ | refine r_ixL (by assumption) (by with_unfolding_all rfl) ?_ | refine r_addI ?_ | refine r_intF ?_ | refine r_intCF (by first | decide | exact cmul_r (by decide) | exact cmul_l (by decide)) ?_ | refine r_eqI ?_ | refine r_neI ?_ | refine r_eqS ?_ | refine r_neS ?_ | refine r_eqB ?_ | refine r_neB ?_ | refine r_int ?_ | refine r_drop ?_ | refine r_sub ?_ | refine r_gTp (by with_unfolding_all rfl) ?_ | refine r_gsCons ?_ | refine r_gsNil ?_ | refine r_for ?_ | refine r_lc ?_ | refine r_dc ?_ | refine r_iRg1 ?_ | refine r_inT (by with_unfolding_all rfl) (by with_unfolding_all rfl) ?_)
    refine r_tuple (by show seqC S2[S1.length]? = _; rw [h2]; rfl) ?_
    have h1' := e2.2 _ (by simp; exact Nat.ne_of_gt hpl) _ h1
    refine ⟨_, h1', by rw [List.length_map]; simp [sizeLine]; omega, ?_⟩
    refine hR _ _ (set_at h1') (by simpa using hl) ⟨P2.extB ((Off.set S.length S2 _).b (l := [S.length]) (by simp)) (by simp; exact Nat.ne_of_lt hpl) (by simp; exact Nat.ne_of_lt P.lt2), (e1.trans e2).put (.inr (Nat.le_refl _)), rs ++ [ks], by simp [encP], by simp [hr1], ?_⟩
    intro r hr
    simp at hr
    rcases hr with hr | rfl
    · exact hr2 r hr
    · exact hk
  · rintro acc S1 h1 hl ⟨P1, e1, rs, rfl, hr1, hr2⟩
    rw [rng_len] at hr1
    exact ⟨trivial, h S1 rs hr1 hr2 P1 e1 h1⟩
theorem world_spec {p q L0 L1 most : Nat} {S : Store} {Q : PD} (P : PoolOk p q S) (l0 : L0 ≤ 1000) (l1 : L1 ≤ 1000) (m0 : 1 ≤ most) (m1 : most ≤ 900)
    (h : ∀ S' w, OkW L0 L1 w → w.n ≤ most → PoolOk p q S' → ExtB [p] S S' → Q (encW w) S') : F__law_world [.ref p, .tup [.int (L0 : Nat), .int (L1 : Nat)], .int (most : Nat)] S Q := by
  refine r_fn rfl ?_
  unfold b__law_world
  (repeat with_reducible first | refine r_seq ?_ | refine r_asg ?_ | refine r_nm ?_ | refine r_var (by with_unfolding_all rfl) ?_ | refine r_c ?_ | refine r_aCons ?_ | refine r_aNil ?_ | refine r_op ?_ | refine r_call ?_ | refine r_val ?_ | refine r_bl ?_ | refine r_if ?_ | refine r_ret ?_ | refine r_next ?_ | refine r_ifT (by first | decide | (with_unfolding_all rfl)) ?_ | refine r_ifF (by first | decide | (with_unfolding_all rfl)) ?_ | refine r_tup ?_ | refine r_lst ?_ | refine r_le (Nat.le_of_ble_eq_true (by with_unfolding_all rfl)) ?_ | refine r_cb ?_ | refine r_and ?_ | refine r_or ?_ | refine r_not ?_ | refine r_eIf ?_ | refine r_eAnd ?_ | refine r_eOr ?_ | refine r_eNot ?_ | refine r_isN ?_ | refine r_mt ?_ | refine r_tr ?_ | refine r_ss ?_ | refine r_dict0 ?_ | refine r_yes ?_ | refine r_isi ?_ | refine r_ty (by with_unfolding_all rfl) ?_ | refine r_ixT (by with_unfolding_all rfl) ?_ | refine r_ixE (by with_unfolding_all rfl) (by with_unfolding_all rfl) ?_ | refine r_ixL (by assumption) (by with_unfolding_all rfl) ?_ | refine r_addI ?_ | refine r_intF ?_ | refine r_intCF (by first | decide | exact cmul_r (by decide) | exact cmul_l (by decide)) ?_ | refine r_eqI ?_ | refine r_neI ?_ | refine r_eqS ?_ | refine r_neS ?_ | refine r_eqB ?_ | refine r_neB ?_ | refine r_int ?_ | refine r_drop ?_ | refine r_sub ?_ | refine r_gTp (by with_unfolding_all rfl) ?_ | refine r_gsCons ?_ | refine r_gsNil ?_ | refine r_for ?_ | refine r_lc ?_ | refine r_dc ?_ | refine r_iRg1 ?_ | refine r_inT (by with_unfolding_all rfl) (by with_unfolding_all rfl) ?_)
  refine draw_spec P (by omega) (by omega) fun S1 n0 hn P1 o1 => ?_
  (repeat with_reducible first | refine r_seq ?_ | refine r_asg ?_ | refine r_nm ?_ | refine r_var (by with_unfolding_all rfl) ?_ | refine r_c ?_ | refine r_aCons ?_ | refine r_aNil ?_ | refine r_op ?_ | refine r_call ?_ | refine r_val ?_ | refine r_bl ?_ | refine r_if ?_ | refine r_ret ?_ | refine r_next ?_ | refine r_ifT (by first | decide | (with_unfolding_all rfl)) ?_ | refine r_ifF (by first | decide | (with_unfolding_all rfl)) ?_ | refine r_tup ?_ | refine r_lst ?_ | refine r_le (Nat.le_of_ble_eq_true (by with_unfolding_all rfl)) ?_ | refine r_cb ?_ | refine r_and ?_ | refine r_or ?_ | refine r_not ?_ | refine r_eIf ?_ | refine r_eAnd ?_ | refine r_eOr ?_ | refine r_eNot ?_ | refine r_isN ?_ | refine r_mt ?_ | refine r_tr ?_ | refine r_ss ?_ | refine r_dict0 ?_ | refine r_yes ?_ | refine r_isi ?_ | refine r_ty (by with_unfolding_all rfl) ?_ | refine r_ixT (by with_unfolding_all rfl) ?_ | refine r_ixE (by with_unfolding_all rfl) (by with_unfolding_all rfl) ?_ | refine r_ixL (by assumption) (by with_unfolding_all rfl) ?_ | refine r_addI ?_ | refine r_intF ?_ | refine r_intCF (by first | decide | exact cmul_r (by decide) | exact cmul_l (by decide)) ?_ | refine r_eqI ?_ | refine r_neI ?_ | refine r_eqS ?_ | refine r_neS ?_ | refine r_eqB ?_ | refine r_neB ?_ | refine r_int ?_ | refine r_drop ?_ | refine r_sub ?_ | refine r_gTp (by with_unfolding_all rfl) ?_ | refine r_gsCons ?_ | refine r_gsNil ?_ | refine r_for ?_ | refine r_lc ?_ | refine r_dc ?_ | refine r_iRg1 ?_ | refine r_inT (by with_unfolding_all rfl) (by with_unfolding_all rfl) ?_)
  have e : (1 : Int) + (n0 : Nat) = ((1 + n0 : Nat) : Int) := by omega
  rw [e]
  generalize hN : 1 + n0 = n
  refine r_rg (by omega) (by omega) fun few => ?_
  rw [Int.toNat_natCast]
  refine rows_spec (fun _ _ => rfl) (fun _ _ => rfl) (fun _ => rfl) (fun _ _ _ _ q => r_c q) (m := 2) (by decide) (by decide) (by omega) l0 P1 fun S2 ms hm1 hm2 P2 e2 h2 => ?_
  (repeat with_reducible first | refine r_seq ?_ | refine r_asg ?_ | refine r_nm ?_ | refine r_var (by with_unfolding_all rfl) ?_ | refine r_c ?_ | refine r_aCons ?_ | refine r_aNil ?_ | refine r_op ?_ | refine r_call ?_ | refine r_val ?_ | refine r_bl ?_ | refine r_if ?_ | refine r_ret ?_ | refine r_next ?_ | refine r_ifT (by first | decide | (with_unfolding_all rfl)) ?_ | refine r_ifF (by first | decide | (with_unfolding_all rfl)) ?_ | refine r_tup ?_ | refine r_lst ?_ | refine r_le (Nat.le_of_ble_eq_true (by with_unfolding_all rfl)) ?_ | refine r_cb ?_ | refine r_and ?_ | refine r_or ?_ | refine r_not ?_ | refine r_eIf ?_ | refine r_eAnd ?_ | refine r_eOr ?_ | refine r_eNot ?_ | refine r_isN ?_ | refine r_mt ?_ | refine r_tr ?_ | refine r_ss ?_ | refine r_dict0 ?_ | refine r_yes ?_ | refine r_isi ?_ | refine r_ty (by with_unfolding_all rfl) ?_ | refine r_ixT (by with_unfolding_all rfl) ?_ | refine r_ixE (by with_unfolding_all rfl) (by with_unfolding_all rfl) ?_ | refine r_ixL (by assumption) (by with_unfolding_all rfl) ?_ | refine r_addI ?_ | refine r_intF ?_ | refine r_intCF (by first | decide | exact cmul_r (by decide) | exact cmul_l (by decide)) ?_ | refine r_eqI ?_ | refine r_neI ?_ | refine r_eqS ?_ | refine r_neS ?_ | refine r_eqB ?_ | refine r_neB ?_ | refine r_int ?_ | refine r_drop ?_ | refine r_sub ?_ | refine r_gTp (by with_unfolding_all rfl) ?_ | refine r_gsCons ?_ | refine r_gsNil ?_ | refine r_for ?_ | refine r_lc ?_ | refine r_dc ?_ | refine r_iRg1 ?_ | refine r_inT (by with_unfolding_all rfl) (by with_unfolding_all rfl) ?_)
  refine r_tuple (by show seqC S2[S1.length]? = _; rw [h2]; rfl) ?_
  (repeat with_reducible first | refine r_seq ?_ | refine r_asg ?_ | refine r_nm ?_ | refine r_var (by with_unfolding_all rfl) ?_ | refine r_c ?_ | refine r_aCons ?_ | refine r_aNil ?_ | refine r_op ?_ | refine r_call ?_ | refine r_val ?_ | refine r_bl ?_ | refine r_if ?_ | refine r_ret ?_ | refine r_next ?_ | refine r_ifT (by first | decide | (with_unfolding_all rfl)) ?_ | refine r_ifF (by first | decide | (with_unfolding_all rfl)) ?_ | refine r_tup ?_ | refine r_lst ?_ | refine r_le (Nat.le_of_ble_eq_true (by with_unfolding_all rfl)) ?_ | refine r_cb ?_ | refine r_and ?_ | refine r_or ?_ | refine r_not ?_ | refine r_eIf ?_ | refine r_eAnd ?_ | refine r_eOr ?_ | refine r_eNot ?_ | refine r_isN ?_ | refine r_mt ?_ | refine r_tr ?_ | refine r_ss ?_ | refine r_dict0 ?_ | refine r_yes ?_ | refine r_isi ?_ | refine r_ty (by with_unfolding_all rfl) ?_ | refine r_ixT (by with_unfolding_all rfl) ?_ | refine r_ixE (by with_unfolding_all rfl) (by with_unfolding_all rfl) ?_ | refine r_ixL (by assumption) (by with_unfolding_all rfl) ?_ | refine r_addI ?_ | refine r_intF ?_ | refine r_intCF (by first | decide | exact cmul_r (by decide) | exact cmul_l (by decide)) ?_ | refine r_eqI ?_ | refine r_neI ?_ | refine r_eqS ?_ | refine r_neS ?_ | refine r_eqB ?_ | refine r_neB ?_ | refine r_int ?_ | refine r_drop ?_ | refine r_sub ?_ | refine r_gTp (by with_unfolding_all rfl) ?_ | refine r_gsCons ?_ | refine r_gsNil ?_ | refine r_for ?_ | refine r_lc ?_ | refine r_dc ?_ | refine r_iRg1 ?_ | refine r_inT (by with_unfolding_all rfl) (by with_unfolding_all rfl) ?_)
  refine draw_spec P2 (by omega) (by omega) fun S3 d0 hd P3 o3 => ?_
  (repeat with_reducible first | refine r_seq ?_ | refine r_asg ?_ | refine r_nm ?_ | refine r_var (by with_unfolding_all rfl) ?_ | refine r_c ?_ | refine r_aCons ?_ | refine r_aNil ?_ | refine r_op ?_ | refine r_call ?_ | refine r_val ?_ | refine r_bl ?_ | refine r_if ?_ | refine r_ret ?_ | refine r_next ?_ | refine r_ifT (by first | decide | (with_unfolding_all rfl)) ?_ | refine r_ifF (by first | decide | (with_unfolding_all rfl)) ?_ | refine r_tup ?_ | refine r_lst ?_ | refine r_le (Nat.le_of_ble_eq_true (by with_unfolding_all rfl)) ?_ | refine r_cb ?_ | refine r_and ?_ | refine r_or ?_ | refine r_not ?_ | refine r_eIf ?_ | refine r_eAnd ?_ | refine r_eOr ?_ | refine r_eNot ?_ | refine r_isN ?_ | refine r_mt ?_ | refine r_tr ?_ | refine r_ss ?_ | refine r_dict0 ?_ | refine r_yes ?_ | refine r_isi ?_ | refine r_ty (by with_unfolding_all rfl) ?_ | refine r_ixT (by with_unfolding_all rfl) ?_ | refine r_ixE (by with_unfolding_all rfl) (by with_unfolding_all rfl) ?_ | refine r_ixL (by assumption) (by with_unfolding_all rfl) ?_ | refine r_addI ?_ | refine r_intF ?_ | refine r_intCF (by first | decide | exact cmul_r (by decide) | exact cmul_l (by decide)) ?_ | refine r_eqI ?_ | refine r_neI ?_ | refine r_eqS ?_ | refine r_neS ?_ | refine r_eqB ?_ | refine r_neB ?_ | refine r_int ?_ | refine r_drop ?_ | refine r_sub ?_ | refine r_gTp (by with_unfolding_all rfl) ?_ | refine r_gsCons ?_ | refine r_gsNil ?_ | refine r_for ?_ | refine r_lc ?_ | refine r_dc ?_ | refine r_iRg1 ?_ | refine r_inT (by with_unfolding_all rfl) (by with_unfolding_all rfl) ?_)
  have e : (2 : Int) + (d0 : Nat) = ((2 + d0 : Nat) : Int) := by omega
  rw [e]
  refine r_rg (by omega) (by omega) ?_
  rw [Int.toNat_natCast]
  refine for_inv (fun i σ S' => PoolOk p q S' ∧ ExtB [p] S S' ∧ ∃ (ws : List (List (List Nat))) (s7 : Option D), ws.length = i ∧ (∀ r ∈ ws, r.length = n) ∧ (∀ r ∈ ws, ∀ ks ∈ r, OkSub n ks) ∧
    σ = [some (.ref p), some (.tup [.int (L0 : Nat), .int (L1 : Nat)]), some (.int (most : Nat)), some (.int (n : Nat)), some (.tup (ms.map encP)), some (.int ((2 + d0 : Nat) : Int)), some (.tup (ws.map encR)), s7, none, none, none]) ?_ ?_ ?_
  · exact ⟨P3, ((o1.b (by simp)).trans e2).trans (o3.b (by simp)), [], _, rfl, by simp, by simp, rfl⟩
  · rintro i x σ S4 R hx ⟨P4, e4, ws, s7, w1, w2, w3, rfl⟩ hR
    obtain ⟨hi, rfl⟩ := rng_at hx
    refine ⟨trivial, ?_⟩
    (repeat with_reducible first | refine r_seq ?_ | refine r_asg ?_ | refine r_nm ?_ | refine r_var (by with_unfolding_all rfl) ?_ | refine r_c ?_ | refine r_aCons ?_ | refine r_aNil ?_ | refine r_op ?_ | refine r_call ?_ | refine r_val ?_ | refine r_bl ?_ | refine r_if ?_ | refine r_ret ?_ | refine r_next ?_ | refine r_ifT (by first | decide | (with_unfolding_all rfl)) ?_ | refine r_ifF (by first | decide | (with_unfolding_all rfl)) ?_ | refine r_tup ?_ | refine r_lst ?_ | refine r_le (Nat.le_of_ble_eq_true (by with_unfolding_all rfl)) ?_ | refine r_cb ?_ | refine r_and ?_ | refine r_or ?_ | refine r_not ?_ | refine r_eIf ?_ | refine r_eAnd ?_ | refine r_eOr ?_ | refine r_eNot ?_ | refine r_isN ?_ | refine r_mt ?_ | refine r_tr ?_ | refine r_ss ?_ | refine r_dict0 ?_ | refine r_yes ?_ | refine r_isi ?_ | refine r_ty (by with_unfolding_all rfl) ?_ | refine r_ixT (by with_unfolding_all rfl) ?_ | refine r_ixE (by with_unfolding_all rfl) (by with_unfolding_all rfl) ?_ | refine r_ixL (by assumption) (by with_unfolding_all rfl) ?_ | refine r_addI ?_ | refine r_intF ?_ | refine r_intCF (by first | decide | exact cmul_r (by decide) | exact cmul_l (by decide)) ?_ | refine r_eqI ?_ | refine r_neI ?_ | refine r_eqS ?_ | refine r_neS ?_ | refine r_eqB ?_ | refine r_neB ?_ | refine r_int ?_ | refine r_drop ?_ | refine r_sub ?_ | refine r_gTp (by with_unfolding_all rfl) ?_ | refine r_gsCons ?_ | refine r_gsNil ?_ | refine r_for ?_ | refine r_lc ?_ | refine r_dc ?_ | refine r_iRg1 ?_ | refine r_inT (by with_unfolding_all rfl) (by with_unfolding_all rfl) ?_)
    refine r_rg (by omega) (by omega) fun few => ?_
    rw [Int.toNat_natCast]
    refine rows_spec (fun _ _ => rfl) (fun _ _ => rfl) (fun _ => rfl) (fun _ _ _ _ q => r_var rfl q) (m := 2 + d0) (by omega) (by omega) (by omega) (by omega) P4 fun S5 rs hr1 hr2 P5 e5 h5 => ?_
    (repeat with_reducible first | refine r_seq ?_ | refine r_asg ?_ | refine r_nm ?_ | refine r_var (by with_unfolding_all rfl) ?_ | refine r_c ?_ | refine r_aCons ?_ | refine r_aNil ?_ | refine r_op ?_ | refine r_call ?_ | refine r_val ?_ | refine r_bl ?_ | refine r_if ?_ | refine r_ret ?_ | refine r_next ?_ | refine r_ifT (by first | decide | (with_unfolding_all rfl)) ?_ | refine r_ifF (by first | decide | (with_unfolding_all rfl)) ?_ | refine r_tup ?_ | refine r_lst ?_ | refine r_le (Nat.le_of_ble_eq_true (by with_unfolding_all rfl)) ?_ | refine r_cb ?_ | refine r_and ?_ | refine r_or ?_ | refine r_not ?_ | refine r_eIf ?_ | refine r_eAnd ?_ | refine r_eOr ?_ | refine r_eNot ?_ | refine r_isN ?_ | refine r_mt ?_ | refine r_tr ?_ | refine r_ss ?_ | refine r_dict0 ?_ | refine r_yes ?_ | refine r_isi ?_ | refine r_ty (by with_unfolding_all rfl) ?_ | refine r_ixT (by with_unfolding_all rfl) ?_ | refine r_ixE (by with_unfolding_all rfl) (by with_unfolding_all rfl) ?_ | refine r_ixL (by assumption) (by with_unfolding_all rfl) ?_ | refine r_addI ?_ | refine r_intF ?_ | refine r_intCF (by first | decide | exact cmul_r (by decide) | exact cmul_l (by decide)) ?_ | refine r_eqI ?_ | refine r_neI ?_ | refine r_eqS ?_ | refine r_neS ?_ | refine r_eqB ?_ | refine r_neB ?_ | refine r_int ?_ | refine r_drop ?_ | refine r_sub ?_ | refine r_gTp (by with_unfolding_all rfl) ?_ | refine r_gsCons ?_ | refine r_gsNil ?_ | refine r_for ?_ | refine r_lc ?_ | refine r_dc ?_ | refine r_iRg1 ?_ | refine r_inT (by with_unfolding_all rfl) (by with_unfolding_all rfl) ?_)
    refine r_tuple (by show seqC S5[S4.length]? = _; rw [h5]; rfl) ?_
    (repeat with_reducible first | refine r_seq ?_ | refine r_asg ?_ | refine r_nm ?_ | refine r_var (by with_unfolding_all rfl) ?_ | refine r_c ?_ | refine r_aCons ?_ | refine r_aNil ?_ | refine r_op ?_ | refine r_call ?_ | refine r_val ?_ | refine r_bl ?_ | refine r_if ?_ | refine r_ret ?_ | refine r_next ?_ | refine r_ifT (by first | decide | (with_unfolding_all rfl)) ?_ | refine r_ifF (by first | decide | (with_unfolding_all rfl)) ?_ | refine r_tup ?_ | refine r_lst ?_ | refine r_le (Nat.le_of_ble_eq_true (by with_unfolding_all rfl)) ?_ | refine r_cb ?_ | refine r_and ?_ | refine r_or ?_ | refine r_not ?_ | refine r_eIf ?_ | refine r_eAnd ?_ | refine r_eOr ?_ | refine r_eNot ?_ | refine r_isN ?_ | refine r_mt ?_ | refine r_tr ?_ | refine r_ss ?_ | refine r_dict0 ?_ | refine r_yes ?_ | refine r_isi ?_ | refine r_ty (by with_unfolding_all rfl) ?_ | refine r_ixT (by with_unfolding_all rfl) ?_ | refine r_ixE (by with_unfolding_all rfl) (by with_unfolding_all rfl) ?_ | refine r_ixL (by assumption) (by with_unfolding_all rfl) ?_ | refine r_addI ?_ | refine r_intF ?_ | refine r_intCF (by first | decide | exact cmul_r (by decide) | exact cmul_l (by decide)) ?_ | refine r_eqI ?_ | refine r_neI ?_ | refine r_eqS ?_ | refine r_neS ?_ | refine r_eqB ?_ | refine r_neB ?_ | refine r_int ?_ | refine r_drop ?_ | refine r_sub ?_ | refine r_gTp (by with_unfolding_all rfl) ?_ | refine r_gsCons ?_ | refine r_gsNil ?_ | refine r_for ?_ | refine r_lc ?_ | refine r_dc ?_ | refine r_iRg1 ?_ | refine r_inT (by with_unfolding_all rfl) (by with_unfolding_all rfl) ?_)
    refine r_addT (by simp [sizeLine]; omega) ?_
    (repeat with_reducible first | refine r_seq ?_ | refine r_asg ?_ | refine r_nm ?_ | refine r_var (by with_unfolding_all rfl) ?_ | refine r_c ?_ | refine r_aCons ?_ | refine r_aNil ?_ | refine r_op ?_ | refine r_call ?_ | refine r_val ?_ | refine r_bl ?_ | refine r_if ?_ | refine r_ret ?_ | refine r_next ?_ | refine r_ifT (by first | decide | (with_unfolding_all rfl)) ?_ | refine r_ifF (by first | decide | (with_unfolding_all rfl)) ?_ | refine r_tup ?_ | refine r_lst ?_ | refine r_le (Nat.le_of_ble_eq_true (by with_unfolding_all rfl)) ?_ | refine r_cb ?_ | refine r_and ?_ | refine r_or ?_ | refine r_not ?_ | refine r_eIf ?_ | refine r_eAnd ?_ | refine r_eOr ?_ | refine r_eNot ?_ | refine r_isN ?_ | refine r_mt ?_ | refine r_tr ?_ | refine r_ss ?_ | refine r_dict0 ?_ | refine r_yes ?_ | refine r_isi ?_ | refine r_ty (by with_unfolding_all rfl) ?_ | refine r_ixT (by with_unfolding_all rfl) ?_ | refine r_ixE (by with_unfolding_all rfl) (by with_unfolding_all rfl) ?_ | refine r_ixL (by assumption) (by with_unfolding_all rfl) ?_ | refine r_addI ?_ | refine r_intF ?_ | refine r_intCF (by first | decide | exact cmul_r (by decide) | exact cmul_l (by decide)) ?_ | refine r_eqI ?_ | refine r_neI ?_ | refine r_eqS ?_ | refine r_neS ?_ | refine r_eqB ?_ | refine r_neB ?_ | refine r_int ?_ | refine r_drop ?_ | refine r_sub ?_ | refine r_gTp (by with_unfolding_all rfl) ?_ | refine r_gsCons ?_ | refine r_gsNil ?_ | refine r_for ?_ | refine r_lc ?_ | refine r_dc ?_ | refine r_iRg1 ?_ | refine r_inT (by with_unfolding_all rfl) (by with_unfolding_all rfl) ?_)
    refine hR _ _ ⟨P5, e4.trans e5, ws ++ [rs], _, by simp [w1], ?_, ?_, by simp [encR]; rfl⟩
    · intro r hr
      simp at hr
      rcases hr with hr | rfl
      · exact w2 r hr
      · exact hr1
    · intro r hr
      simp at hr
      rcases hr with hr | rfl
      · exact w3 r hr
      · exact hr2
  · rintro σ S4 ⟨P4, e4, ws, s7, w1, w2, w3, rfl⟩
    rw [rng_len] at w1
    refine ⟨trivial, ?_⟩
    (repeat with_reducible first | refine r_seq ?_ | refine r_asg ?_ | refine r_nm ?_ | refine r_var (by with_unfolding_all rfl) ?_ | refine r_c ?_ | refine r_aCons ?_ | refine r_aNil ?_ | refine r_op ?_ | refine r_call ?_ | refine r_val ?_ | refine r_bl ?_ | refine r_if ?_ | refine r_ret ?_ | refine r_next ?_ | refine r_ifT (by first | decide | (with_unfolding_all rfl)) ?_ | refine r_ifF (by first | decide | (with_unfolding_all rfl)) ?_ | refine r_tup ?_ | refine r_lst ?_ | refine r_le (Nat.le_of_ble_eq_true (by with_unfolding_all rfl)) ?_ | refine r_cb ?_ | refine r_and ?_ | refine r_or ?_ | refine r_not ?_ | refine r_eIf ?_ | refine r_eAnd ?_ | refine r_eOr ?_ | refine r_eNot ?_ | refine r_isN ?_ | refine r_mt ?_ | refine r_tr ?_ | refine r_ss ?_ | refine r_dict0 ?_ | refine r_yes ?_ | refine r_isi ?_ | refine r_ty (by with_unfolding_all rfl) ?_ | refine r_ixT (by with_unfolding_all rfl) ?_ | refine r_ixE (by with_unfolding_all rfl) (by with_unfolding_all rfl) ?_ | refine r_ixL (by assumption) (by with_unfolding_all rfl) ?_ | refine r_addI ?_ | refine r_intF ?_ | refine r_intCF (by first | decide | exact cmul_r (by decide) | exact cmul_l (by decide)) ?_ | refine r_eqI ?_ | refine r_neI ?_ | refine r_eqS ?_ | refine r_neS ?_ | refine r_eqB ?_ | refine r_neB ?_ | refine r_int ?_ | refine r_drop ?_ | refine r_sub ?_ | refine r_gTp (by with_unfolding_all rfl) ?_ | refine r_gsCons ?_ | refine r_gsNil ?_ | refine r_for ?_ | refine r_lc ?_ | refine r_dc ?_ | refine r_iRg1 ?_ | refine r_inT (by with_unfolding_all rfl) (by with_unfolding_all rfl) ?_)
    exact h S4 ⟨n, ms, ws⟩ ⟨by show 1 ≤ n; omega, hm1, hm2, w1, w2, w3⟩ (by show n ≤ most; omega) P4 e4
end PG
/-! SM1: what a saying says, in plain words. -/
namespace PG
theorem sub_ext {n : Nat} : ∀ {xs ys : List Nat}, xs.Pairwise (· < ·) → ys.Pairwise (· < ·) → (∀ j, j ∈ xs ↔ j ∈ ys) → xs = ys
  | [], [], _, _, _ => rfl
  | [], y :: ys, _, _, h => absurd ((h y).mpr List.mem_cons_self) (by simp)
  | x :: xs, [], _, _, h => absurd ((h x).mp List.mem_cons_self) (by simp)
  | x :: xs, y :: ys, hx, hy, h => by
    rw [List.pairwise_cons] at hx hy
    have e : x = y := by
      have h1 := (h x).mp List.mem_cons_self
      have h2 := (h y).mpr List.mem_cons_self
      rw [List.mem_cons] at h1 h2
      rcases h1 with h1 | h1
      · exact h1
      · rcases h2 with h2 | h2
        · exact h2.symm
        · have := hy.1 x h1
          have := hx.1 y h2
          omega
    subst e
    rw [sub_ext (n := n) hx.2 hy.2 fun j => ?_]
    have hj := h j
    rw [List.mem_cons, List.mem_cons] at hj
    constructor
    · intro q
      rcases hj.mp (.inr q) with e | e
      · have := hx.1 j q; omega
      · exact e
    · intro q
      rcases hj.mpr (.inr q) with e | e
      · have := hy.1 j q; omega
      · exact e
theorem OkSub.ext {n : Nat} {xs ys : List Nat} (hx : OkSub n xs) (hy : OkSub n ys) (h : ∀ j, j ∈ xs ↔ j ∈ ys) : xs = ys := sub_ext (n := n) hx.1 hy.1 h
theorem OkSub.nodup {n : Nat} {xs : List Nat} (h : OkSub n xs) : xs.Nodup := h.1.imp fun a => Nat.ne_of_lt a
/-- those below n of which p is so -/
def canon (n : Nat) (p : Nat → Bool) : List Nat := (List.range n).filter p
theorem mem_canon {n : Nat} {p : Nat → Bool} {k : Nat} : k ∈ canon n p ↔ k < n ∧ p k = true := by
  unfold canon; rw [List.mem_filter, List.mem_range]
theorem canon_ok (n : Nat) (p : Nat → Bool) : OkSub n (canon n p) := ⟨List.Pairwise.sublist List.filter_sublist List.pairwise_lt_range, fun k hk => (mem_canon.mp hk).1⟩
theorem range_ok (n : Nat) : OkSub n (List.range n) := ⟨List.pairwise_lt_range, fun k hk => List.mem_range.mp hk⟩
theorem nil_ok (n : Nat) : OkSub n [] := ⟨.nil, by simp⟩
def it {α : Type} (f : α → α) : Nat → α → α
  | 0, x => x
  | n + 1, x => f (it f n x)
theorem it_at {α : Type} {f : α → α} {x : α} {t : Nat} (h : it f (t + 1) x = it f t x) : ∀ m, t ≤ m → it f m x = it f t x := by
  intro m hm
  induction m with
  | zero => have : t = 0 := by omega
            subst this; rfl
  | succ m ih =>
    by_cases e : t = m + 1
    · rw [e]
    · show f (it f m x) = _
      rw [ih (by omega)]; exact h
/-- what grows at each step but so far comes to rest -/
theorem it_rest {α : Type} [DecidableEq α] {f : α → α} {x : α} (μ : α → Nat) {n : Nat} (hb : ∀ t, μ (it f t x) ≤ n) (hs : ∀ t, it f (t + 1) x ≠ it f t x → μ (it f t x) < μ (it f (t + 1) x)) : it f (n + 1) x = it f n x := by
  have key : ∀ t, (∃ s, s < t ∧ it f (s + 1) x = it f s x) ∨ t ≤ μ (it f t x) := by
    intro t
    induction t with
    | zero => exact .inr (Nat.zero_le _)
    | succ t ih =>
      rcases ih with ⟨s, h1, h2⟩ | h
      · exact .inl ⟨s, by omega, h2⟩
      · by_cases e : it f (t + 1) x = it f t x
        · exact .inl ⟨t, by omega, e⟩
        · have := hs t e
          exact .inr (by omega)
  rcases key (n + 1) with ⟨s, h1, h2⟩ | h
  · rw [it_at h2 (n + 1) (by omega), it_at h2 n (by omega)]
  · have := hb (n + 1)
    omega
def Sub (xs ys : List Nat) : Prop := ∀ k, k ∈ xs → k ∈ ys
abbrev Env := Nat → List Nat
def up (ρ : Env) (x : Nat) (X : List Nat) : Env := fun y => if y = x then X else ρ y
theorem up_self (ρ : Env) (x : Nat) (X : List Nat) : up ρ x X x = X := if_pos rfl
theorem up_ne (ρ : Env) {x y : Nat} (X : List Nat) (h : y ≠ x) : up ρ x X y = ρ y := if_neg h
def EnvOk (n : Nat) (ρ : Env) : Prop := ∀ x, OkSub n (ρ x)
theorem EnvOk.up {n : Nat} {ρ : Env} (h : EnvOk n ρ) {X : List Nat} (hX : OkSub n X) (x : Nat) : EnvOk n (up ρ x X) := fun y => by
  unfold PG.up; split
  · exact hX
  · exact h y
def Wd.way (w : Wd) (j k : Nat) : List Nat := (w.ways.getD j []).getD k []
def sem (w : Wd) : Fm → Env → List Nat
  | .yes, _ => List.range w.n
  | .no, _ => []
  | .is i, _ => canon w.n fun k => decide (k ∈ w.marks.getD i [])
  | .isnt i, _ => canon w.n fun k => !decide (k ∈ w.marks.getD i [])
  | .name x, ρ => ρ x
  | .both a b, ρ => canon w.n fun k => decide (k ∈ sem w a ρ) && decide (k ∈ sem w b ρ)
  | .either a b, ρ => canon w.n fun k => decide (k ∈ sem w a ρ) || decide (k ∈ sem w b ρ)
  | .some j a, ρ => canon w.n fun k => (w.way j k).any fun g => decide (g ∈ sem w a ρ)
  | .all j a, ρ => canon w.n fun k => (w.way j k).all fun g => decide (g ∈ sem w a ρ)
  | .least x a, ρ => it (fun X => sem w a (up ρ x X)) w.n []
  | .greatest x a, ρ => it (fun X => sem w a (up ρ x X)) w.n (List.range w.n)
theorem it_ok {n : Nat} {f : List Nat → List Nat} (hf : ∀ X, OkSub n X → OkSub n (f X)) {x : List Nat} (hx : OkSub n x) : ∀ t, OkSub n (it f t x)
  | 0 => hx
  | t + 1 => hf _ (it_ok hf hx t)
theorem sem_ok (w : Wd) : ∀ (f : Fm) (ρ : Env), EnvOk w.n ρ → OkSub w.n (sem w f ρ)
  | .yes, _, _ => range_ok _
  | .no, _, _ => nil_ok _
  | .is _, _, _ => canon_ok _ _
  | .isnt _, _, _ => canon_ok _ _
  | .name x, _, h => h x
  | .both _ _, _, _ => canon_ok _ _
  | .either _ _, _, _ => canon_ok _ _
  | .some _ _, _, _ => canon_ok _ _
  | .all _ _, _, _ => canon_ok _ _
  | .least x a, ρ, h => it_ok (fun X hX => sem_ok w a _ (h.up hX x)) (nil_ok _) _
  | .greatest x a, ρ, h => it_ok (fun X hX => sem_ok w a _ (h.up hX x)) (range_ok _) _
theorem it_mono {f g : List Nat → List Nat} (h : ∀ X Y, Sub X Y → Sub (f X) (g Y)) {x y : List Nat} (hx : Sub x y) : ∀ t, Sub (it f t x) (it g t y)
  | 0 => hx
  | t + 1 => h _ _ (it_mono h hx t)
theorem up_mono {ρ ρ' : Env} (h : ∀ x, Sub (ρ x) (ρ' x)) {X Y : List Nat} (hX : Sub X Y) (x y : Nat) : Sub (up ρ x X y) (up ρ' x Y y) := by
  unfold up; split
  · exact hX
  · exact h y
theorem sem_mono (w : Wd) : ∀ (f : Fm) (ρ ρ' : Env), (∀ x, Sub (ρ x) (ρ' x)) → Sub (sem w f ρ) (sem w f ρ')
  | .yes, _, _, _ => fun _ h => h
  | .no, _, _, _ => fun _ h => h
  | .is _, _, _, _ => fun _ h => h
  | .isnt _, _, _, _ => fun _ h => h
  | .name x, _, _, h => h x
  | .both a b, ρ, ρ', h => fun k hk => by
    have ha := sem_mono w a ρ ρ' h k
    have hb := sem_mono w b ρ ρ' h k
    simp only [sem, mem_canon, Bool.and_eq_true, decide_eq_true_eq] at hk ⊢
    exact ⟨hk.1, ha hk.2.1, hb hk.2.2⟩
  | .either a b, ρ, ρ', h => fun k hk => by
    have ha := sem_mono w a ρ ρ' h k
    have hb := sem_mono w b ρ ρ' h k
    simp only [sem, mem_canon, Bool.or_eq_true, decide_eq_true_eq] at hk ⊢
    exact ⟨hk.1, hk.2.imp ha hb⟩
  | .some j a, ρ, ρ', h => fun k hk => by
    have ha := sem_mono w a ρ ρ' h
    simp only [sem, mem_canon, List.any_eq_true, decide_eq_true_eq] at hk ⊢
    obtain ⟨h1, g, h2, h3⟩ := hk
    exact ⟨h1, g, h2, ha g h3⟩
  | .all j a, ρ, ρ', h => fun k hk => by
    have ha := sem_mono w a ρ ρ' h
    simp only [sem, mem_canon, List.all_eq_true, decide_eq_true_eq] at hk ⊢
    exact ⟨hk.1, fun g hg => ha g (hk.2 g hg)⟩
  | .least x a, ρ, ρ', h => it_mono (fun X Y hX => sem_mono w a _ _ (up_mono h hX x)) (fun _ h => h) _
  | .greatest x a, ρ, ρ', h => it_mono (fun X Y hX => sem_mono w a _ _ (up_mono h hX x)) (fun _ h => h) _
/-- one round of a fixed point -/
def rnd (w : Wd) (a : Fm) (ρ : Env) (x : Nat) (X : List Nat) : List Nat := sem w a (up ρ x X)
theorem rnd_mono (w : Wd) (a : Fm) (ρ : Env) (x : Nat) {X Y : List Nat} (h : Sub X Y) : Sub (rnd w a ρ x X) (rnd w a ρ x Y) := sem_mono w a _ _ (up_mono (fun _ _ h => h) h x)
theorem rnd_ok {w : Wd} {a : Fm} {ρ : Env} (hρ : EnvOk w.n ρ) (x : Nat) {X : List Nat} (h : OkSub w.n X) : OkSub w.n (rnd w a ρ x X) := sem_ok w a _ (hρ.up h x)
theorem Sub.len {n : Nat} {xs ys : List Nat} (hx : OkSub n xs) (h : Sub xs ys) : xs.length ≤ ys.length := SD.subset_len hx.nodup h
theorem Sub.eq {n : Nat} {xs ys : List Nat} (hx : OkSub n xs) (hy : OkSub n ys) (h : Sub xs ys) (l : ys.length ≤ xs.length) : xs = ys :=
  hx.ext hy fun j => ⟨h j, SD.subset_back hx.nodup h (Nat.le_antisymm (h.len hx) l) j⟩
section
variable {n : Nat} {f : List Nat → List Nat}
theorem it_up (hm : ∀ X Y, Sub X Y → Sub (f X) (f Y)) (t : Nat) : Sub (it f t []) (it f (t + 1) []) := by
  induction t with
  | zero => exact fun k hk => by cases hk
  | succ t ih => exact hm _ _ ih
theorem it_down (hm : ∀ X Y, Sub X Y → Sub (f X) (f Y)) (ho : ∀ X, OkSub n X → OkSub n (f X)) (t : Nat) : Sub (it f (t + 1) (List.range n)) (it f t (List.range n)) := by
  induction t with
  | zero => exact fun k hk => List.mem_range.mpr ((ho _ (range_ok n)).2 k hk)
  | succ t ih => exact hm _ _ ih
theorem up_rest (hm : ∀ X Y, Sub X Y → Sub (f X) (f Y)) (ho : ∀ X, OkSub n X → OkSub n (f X)) : it f (n + 1) [] = it f n [] := by
  refine it_rest List.length (fun t => (it_ok ho (nil_ok n) t).le) fun t h => ?_
  have a := it_ok ho (nil_ok n) t
  have b := it_ok ho (nil_ok n) (t + 1)
  have s := it_up hm t
  rcases Nat.lt_or_ge (it f t []).length (it f (t + 1) []).length with q | q
  · exact q
  · exact absurd (s.eq a b q).symm h
theorem down_rest (hm : ∀ X Y, Sub X Y → Sub (f X) (f Y)) (ho : ∀ X, OkSub n X → OkSub n (f X)) : it f (n + 1) (List.range n) = it f n (List.range n) := by
  refine it_rest (fun X => n - X.length) (fun t => Nat.sub_le _ _) fun t h => ?_
  have a := it_ok ho (range_ok n) t
  have b := it_ok ho (range_ok n) (t + 1)
  have s := it_down hm ho t
  have := a.le
  rcases Nat.lt_or_ge (it f (t + 1) (List.range n)).length (it f t (List.range n)).length with q | q
  · omega
  · exact absurd (s.eq b a q) h
/-- the least is below all that the round makes no greater -/
theorem it_least (hm : ∀ X Y, Sub X Y → Sub (f X) (f Y)) {X : List Nat} (h : Sub (f X) X) (t : Nat) : Sub (it f t []) X := by
  induction t with
  | zero => exact fun k hk => by cases hk
  | succ t ih => exact fun k hk => h k (hm _ _ ih k hk)
theorem it_great (hm : ∀ X Y, Sub X Y → Sub (f X) (f Y)) {X : List Nat} (hX : OkSub n X) (h : Sub X (f X)) (t : Nat) : Sub X (it f t (List.range n)) := by
  induction t with
  | zero => exact fun k hk => List.mem_range.mpr (hX.2 k hk)
  | succ t ih => exact fun k hk => hm _ _ ih k (h k hk)
end
/-- all names of a saying are in sc -/
def Sc (L0 L1 : Nat) : List Nat → Fm → Prop
  | _, .yes => True
  | _, .no => True
  | _, .is i => i < L0
  | _, .isnt i => i < L0
  | sc, .name x => x ∈ sc
  | sc, .both a b => Sc L0 L1 sc a ∧ Sc L0 L1 sc b
  | sc, .either a b => Sc L0 L1 sc a ∧ Sc L0 L1 sc b
  | sc, .some j a => j < L1 ∧ Sc L0 L1 sc a
  | sc, .all j a => j < L1 ∧ Sc L0 L1 sc a
  | sc, .least x a => Sc L0 L1 (x :: sc) a
  | sc, .greatest x a => Sc L0 L1 (x :: sc) a
theorem OkF.sc {L0 L1 : Nat} : ∀ (f : Fm) (kn fr sc : List Nat), OkF L0 L1 kn fr f → (∀ x ∈ kn, x ∈ sc) → (∀ x ∈ fr, x ∈ sc) → Sc L0 L1 sc f
  | .yes, _, _, _, _, _, _ => trivial
  | .no, _, _, _, _, _, _ => trivial
  | .is _, _, _, _, h, _, _ => h
  | .isnt _, _, _, _, h, _, _ => h
  | .name x, _, _, _, h, _, h2 => h2 x h
  | .both a b, kn, fr, sc, h, h1, h2 => ⟨OkF.sc a kn fr sc h.1 h1 h2, OkF.sc b kn fr sc h.2 h1 h2⟩
  | .either a b, kn, fr, sc, h, h1, h2 => ⟨OkF.sc a kn fr sc h.1 h1 h2, OkF.sc b kn fr sc h.2 h1 h2⟩
  | .some j a, kn, fr, sc, h, h1, h2 => ⟨h.1, OkF.sc a kn kn sc h.2 h1 h1⟩
  | .all j a, kn, fr, sc, h, h1, h2 => ⟨h.1, OkF.sc a kn kn sc h.2 h1 h1⟩
  | .least x a, kn, fr, sc, h, h1, h2 => OkF.sc a (kn ++ [x]) fr (x :: sc) h (fun y hy => by
      rw [List.mem_append, List.mem_singleton] at hy
      exact hy.elim (fun q => List.mem_cons_of_mem _ (h1 y q)) fun q => q ▸ List.mem_cons_self) fun y hy => List.mem_cons_of_mem _ (h2 y hy)
  | .greatest x a, kn, fr, sc, h, h1, h2 => OkF.sc a (kn ++ [x]) fr (x :: sc) h (fun y hy => by
      rw [List.mem_append, List.mem_singleton] at hy
      exact hy.elim (fun q => List.mem_cons_of_mem _ (h1 y q)) fun q => q ▸ List.mem_cons_self) fun y hy => List.mem_cons_of_mem _ (h2 y hy)
end PG
/-! SP5: found_places computes what a saying says. -/
namespace PG
open PySem L2 SD
theorem enc_at {xs : List Nat} {k : Nat} (h : k < xs.length) : atI (xs.map fun k : Nat => D.int (k : Nat)) (k : Int) = some (.int (xs[k] : Nat)) := by
  rw [atI_n, List.getElem?_map, List.getElem?_eq_getElem h]; rfl
theorem mark_at {L0 L1 : Nat} {w : Wd} (h : OkW L0 L1 w) {i : Nat} (hi : i < L0) : atI (w.marks.map encP) (i : Int) = some (encP (w.marks.getD i [])) ∧ OkSub w.n (w.marks.getD i []) := by
  have hl : i < w.marks.length := by rw [h.marks]; exact hi
  refine ⟨?_, ?_⟩
  · rw [atI_n, List.getElem?_map, List.getElem?_eq_getElem hl, List.getD_eq_getElem?_getD, List.getElem?_eq_getElem hl]; rfl
  · rw [List.getD_eq_getElem?_getD, List.getElem?_eq_getElem hl]; exact h.mark _ (List.getElem_mem hl)
theorem way_at {L0 L1 : Nat} {w : Wd} (h : OkW L0 L1 w) {j : Nat} (hj : j < L1) : ∃ r, atI (w.ways.map encR) (j : Int) = some (encR r) ∧ r.length = w.n ∧ ∀ k, k < w.n → atI (r.map encP) (k : Int) = some (encP (w.way j k)) ∧ OkSub w.n (w.way j k) := by
  have hl : j < w.ways.length := by rw [h.ways]; exact hj
  refine ⟨w.ways[j], ?_, h.rows _ (List.getElem_mem hl), fun k hk => ?_⟩
  · rw [atI_n, List.getElem?_map, List.getElem?_eq_getElem hl]; rfl
  · have hk' : k < w.ways[j].length := by rw [h.rows _ (List.getElem_mem hl)]; exact hk
    have e : w.way j k = w.ways[j][k] := by
      unfold Wd.way
      rw [List.getD_eq_getElem?_getD, List.getD_eq_getElem?_getD, List.getElem?_eq_getElem hl]
      show (w.ways[j][k]?).getD [] = _
      rw [List.getElem?_eq_getElem hk']; rfl
    rw [e, atI_n, List.getElem?_map, List.getElem?_eq_getElem hk']
    exact ⟨rfl, h.row _ (List.getElem_mem hl) _ (List.getElem_mem hk')⟩
theorem flat_nat (xs : List Nat) : (xs.map fun k : Nat => D.int (k : Nat)).all flatD = true := by
  rw [List.all_eq_true]
  intro x hx
  obtain ⟨k, _, rfl⟩ := List.mem_map.mp hx
  rfl
theorem mem_nat {xs : List Nat} {k : Nat} : decide (D.int (k : Nat) ∈ xs.map fun k : Nat => D.int (k : Nat)) = decide (k ∈ xs) := by
  rw [decide_eq_decide, List.mem_map]
  constructor
  · rintro ⟨j, hj, e⟩
    have : j = k := by injection e with e; omega
    exact this ▸ hj
  · exact fun h => ⟨k, h, rfl⟩
theorem dict_ext {S S' : Store} (e : Ext S S') {r : Nat} {kvs : List (D × D)} (h : dictD S (.ref r) = some kvs) : dictD S' (.ref r) = some kvs := by
  show dicC S'[r]? = _
  rcases dicC_or h with a | a <;> rw [e _ _ a] <;> rfl
/-- a set in the store -/
theorem setD_in {S : Store} {n : Nat} {ks : List Nat} (e : S[n]? = some (.dct (setD ks))) : dictD S (.ref n) = some (setD ks) := by
  show dicC S[n]? = _
  rw [e]; rfl
theorem leads_spec {gs ks : List Nat} {n : Nat} {b : Bool} {S : Store} {Q : PD} (hg : gs.length ≤ 100000) (e : S[n]? = some (.dct (setD ks))) (h : ∀ S', Ext S S' → Q (.bl (if b = true then gs.any fun g => decide (g ∈ ks) else gs.all fun g => decide (g ∈ ks))) S') :
    F_leads [encP gs, .ref n, .bl b] S Q := by
  refine r_fn rfl ?_
  unfold b_leads
  have lc : ∀ (R : Store → Prop), (∀ S', Ext S S' → S'[S.length]? = some (.lst (gs.map fun g => .bl (decide (g ∈ ks)))) → R S') → (gs.map fun k : Nat => D.int (k : Nat)).length ≤ sizeLine →
      lcD Always (gNm 3) tYesD (eOp (inF false) (eVar 3) (eVar 1)) S.length R [some (encP gs), some (.ref n), some (.bl b), none] (gs.map fun k : Nat => D.int (k : Nat)) (S ++ [.lst []]) := fun R hR few => by
    refine lc_map (fun x => match x with | .int i => .bl (decide (i.toNat ∈ ks)) | _ => .non) few (fun _ _ => trivial) ?_ ?_
    · intro x hx S1 P e1 hP
      obtain ⟨g, hg, rfl⟩ := List.mem_map.mp hx
      (repeat with_reducible first | refine r_seq ?_ | refine r_asg ?_ | refine r_nm ?_ | refine r_var (by with_unfolding_all rfl) ?_ | refine r_c ?_ | refine r_aCons ?_ | refine r_aNil ?_ | refine r_op ?_ | refine r_call ?_ | refine r_val ?_ | refine r_bl ?_ | refine r_if ?_ | refine r_ret ?_ | refine r_next ?_ | refine r_ifT (by first | decide | (with_unfolding_all rfl)) ?_ | refine r_ifF (by first | decide | (with_unfolding_all rfl)) ?_ | refine r_tup ?_ | refine r_lst ?_ | refine r_le (Nat.le_of_ble_eq_true (by with_unfolding_all rfl)) ?_ | refine r_cb ?_ | refine r_and ?_ | refine r_or ?_ | refine r_not ?_ | refine r_eIf ?_ | refine r_eAnd ?_ | refine r_eOr ?_ | refine r_eNot ?_ | refine r_isN ?_ | refine r_mt ?_ | refine r_tr ?_ | refine r_ss ?_ | refine r_dict0 ?_ | refine r_yes ?_ | refine r_isi ?_ | refine r_ty (by with_unfolding_all rfl) ?_ | refine r_ixT (by with_unfolding_all rfl) ?_ | refine r_ixE (by with_unfolding_all rfl) (by with_unfolding_all rfl) ?_ | refine r_ixL (by assumption) (by with_unfolding_all rfl) ?_ | refine r_addI ?_ | refine r_intF ?_ | refine r_intCF (by first | decide | exact cmul_r (by decide) | exact cmul_l (by decide)) ?_ | refine r_eqI ?_ | refine r_neI ?_ | refine r_eqS ?_ | refine r_neS ?_ | refine r_eqB ?_ | refine r_neB ?_ | refine r_int ?_ | refine r_drop ?_ | refine r_sub ?_ | refine r_gTp (by with_unfolding_all rfl) ?_ | refine r_gsCons ?_ | refine r_gsNil ?_ | refine r_for ?_ | refine r_lc ?_ | refine r_dc ?_ | refine r_iRg1 ?_ | refine r_inT (by with_unfolding_all rfl) (by with_unfolding_all rfl) ?_)
      refine r_inD (setD_in (e1 _ _ e)) rfl ?_
      rw [Bool.xor_false, setD_val]
      exact hP S1 (.refl _)
    · intro S1 e1 h1
      rw [List.map_map] at h1
      refine hR S1 e1 ?_
      exact h1
  (repeat with_reducible first | refine r_seq ?_ | refine r_asg ?_ | refine r_nm ?_ | refine r_var (by with_unfolding_all rfl) ?_ | refine r_c ?_ | refine r_aCons ?_ | refine r_aNil ?_ | refine r_op ?_ | refine r_call ?_ | refine r_val ?_ | refine r_bl ?_ | refine r_if ?_ | refine r_ret ?_ | refine r_next ?_ | refine r_ifT (by first | decide | (with_unfolding_all rfl)) ?_ | refine r_ifF (by first | decide | (with_unfolding_all rfl)) ?_ | refine r_tup ?_ | refine r_lst ?_ | refine r_le (Nat.le_of_ble_eq_true (by with_unfolding_all rfl)) ?_ | refine r_cb ?_ | refine r_and ?_ | refine r_or ?_ | refine r_not ?_ | refine r_eIf ?_ | refine r_eAnd ?_ | refine r_eOr ?_ | refine r_eNot ?_ | refine r_isN ?_ | refine r_mt ?_ | refine r_tr ?_ | refine r_ss ?_ | refine r_dict0 ?_ | refine r_yes ?_ | refine r_isi ?_ | refine r_ty (by with_unfolding_all rfl) ?_ | refine r_ixT (by with_unfolding_all rfl) ?_ | refine r_ixE (by with_unfolding_all rfl) (by with_unfolding_all rfl) ?_ | refine r_ixL (by assumption) (by with_unfolding_all rfl) ?_ | refine r_addI ?_ | refine r_intF ?_ | refine r_intCF (by first | decide | exact cmul_r (by decide) | exact cmul_l (by decide)) ?_ | refine r_eqI ?_ | refine r_neI ?_ | refine r_eqS ?_ | refine r_neS ?_ | refine r_eqB ?_ | refine r_neB ?_ | refine r_int ?_ | refine r_drop ?_ | refine r_sub ?_ | refine r_gTp (by with_unfolding_all rfl) ?_ | refine r_gsCons ?_ | refine r_gsNil ?_ | refine r_for ?_ | refine r_lc ?_ | refine r_dc ?_ | refine r_iRg1 ?_ | refine r_inT (by with_unfolding_all rfl) (by with_unfolding_all rfl) ?_)
  refine ite_b (fun hb => ?_) (fun hb => ?_)
  · subst hb
    (repeat with_reducible first | refine r_seq ?_ | refine r_asg ?_ | refine r_nm ?_ | refine r_var (by with_unfolding_all rfl) ?_ | refine r_c ?_ | refine r_aCons ?_ | refine r_aNil ?_ | refine r_op ?_ | refine r_call ?_ | refine r_val ?_ | refine r_bl ?_ | refine r_if ?_ | refine r_ret ?_ | refine r_next ?_ | refine r_ifT (by first | decide | (with_unfolding_all rfl)) ?_ | refine r_ifF (by first | decide | (with_unfolding_all rfl)) ?_ | refine r_tup ?_ | refine r_lst ?_ | refine r_le (Nat.le_of_ble_eq_true (by with_unfolding_all rfl)) ?_ | refine r_cb ?_ | refine r_and ?_ | refine r_or ?_ | refine r_not ?_ | refine r_eIf ?_ | refine r_eAnd ?_ | refine r_eOr ?_ | refine r_eNot ?_ | refine r_isN ?_ | refine r_mt ?_ | refine r_tr ?_ | refine r_ss ?_ | refine r_dict0 ?_ | refine r_yes ?_ | refine r_isi ?_ | refine r_ty (by with_unfolding_all rfl) ?_ | refine r_ixT (by with_unfolding_all rfl) ?_ | refine r_ixE (by with_unfolding_all rfl) (by with_unfolding_all rfl) ?_ | refine r_ixL (by assumption) (by with_unfolding_all rfl) ?_ | refine r_addI ?_ | refine r_intF ?_ | refine r_intCF (by first | decide | exact cmul_r (by decide) | exact cmul_l (by decide)) ?_ | refine r_eqI ?_ | refine r_neI ?_ | refine r_eqS ?_ | refine r_neS ?_ | refine r_eqB ?_ | refine r_neB ?_ | refine r_int ?_ | refine r_drop ?_ | refine r_sub ?_ | refine r_gTp (by with_unfolding_all rfl) ?_ | refine r_gsCons ?_ | refine r_gsNil ?_ | refine r_for ?_ | refine r_lc ?_ | refine r_dc ?_ | refine r_iRg1 ?_ | refine r_inT (by with_unfolding_all rfl) (by with_unfolding_all rfl) ?_)
    refine r_iTup ?_
    (repeat with_reducible first | refine r_seq ?_ | refine r_asg ?_ | refine r_nm ?_ | refine r_var (by with_unfolding_all rfl) ?_ | refine r_c ?_ | refine r_aCons ?_ | refine r_aNil ?_ | refine r_op ?_ | refine r_call ?_ | refine r_val ?_ | refine r_bl ?_ | refine r_if ?_ | refine r_ret ?_ | refine r_next ?_ | refine r_ifT (by first | decide | (with_unfolding_all rfl)) ?_ | refine r_ifF (by first | decide | (with_unfolding_all rfl)) ?_ | refine r_tup ?_ | refine r_lst ?_ | refine r_le (Nat.le_of_ble_eq_true (by with_unfolding_all rfl)) ?_ | refine r_cb ?_ | refine r_and ?_ | refine r_or ?_ | refine r_not ?_ | refine r_eIf ?_ | refine r_eAnd ?_ | refine r_eOr ?_ | refine r_eNot ?_ | refine r_isN ?_ | refine r_mt ?_ | refine r_tr ?_ | refine r_ss ?_ | refine r_dict0 ?_ | refine r_yes ?_ | refine r_isi ?_ | refine r_ty (by with_unfolding_all rfl) ?_ | refine r_ixT (by with_unfolding_all rfl) ?_ | refine r_ixE (by with_unfolding_all rfl) (by with_unfolding_all rfl) ?_ | refine r_ixL (by assumption) (by with_unfolding_all rfl) ?_ | refine r_addI ?_ | refine r_intF ?_ | refine r_intCF (by first | decide | exact cmul_r (by decide) | exact cmul_l (by decide)) ?_ | refine r_eqI ?_ | refine r_neI ?_ | refine r_eqS ?_ | refine r_neS ?_ | refine r_eqB ?_ | refine r_neB ?_ | refine r_int ?_ | refine r_drop ?_ | refine r_sub ?_ | refine r_gTp (by with_unfolding_all rfl) ?_ | refine r_gsCons ?_ | refine r_gsNil ?_ | refine r_for ?_ | refine r_lc ?_ | refine r_dc ?_ | refine r_iRg1 ?_ | refine r_inT (by with_unfolding_all rfl) (by with_unfolding_all rfl) ?_)
    refine ⟨_, rfl, ?_⟩
    intro few
    refine lc _ (fun S' e1 h1 => ?_) few
    (repeat with_reducible first | refine r_seq ?_ | refine r_asg ?_ | refine r_nm ?_ | refine r_var (by with_unfolding_all rfl) ?_ | refine r_c ?_ | refine r_aCons ?_ | refine r_aNil ?_ | refine r_op ?_ | refine r_call ?_ | refine r_val ?_ | refine r_bl ?_ | refine r_if ?_ | refine r_ret ?_ | refine r_next ?_ | refine r_ifT (by first | decide | (with_unfolding_all rfl)) ?_ | refine r_ifF (by first | decide | (with_unfolding_all rfl)) ?_ | refine r_tup ?_ | refine r_lst ?_ | refine r_le (Nat.le_of_ble_eq_true (by with_unfolding_all rfl)) ?_ | refine r_cb ?_ | refine r_and ?_ | refine r_or ?_ | refine r_not ?_ | refine r_eIf ?_ | refine r_eAnd ?_ | refine r_eOr ?_ | refine r_eNot ?_ | refine r_isN ?_ | refine r_mt ?_ | refine r_tr ?_ | refine r_ss ?_ | refine r_dict0 ?_ | refine r_yes ?_ | refine r_isi ?_ | refine r_ty (by with_unfolding_all rfl) ?_ | refine r_ixT (by with_unfolding_all rfl) ?_ | refine r_ixE (by with_unfolding_all rfl) (by with_unfolding_all rfl) ?_ | refine r_ixL (by assumption) (by with_unfolding_all rfl) ?_ | refine r_addI ?_ | refine r_intF ?_ | refine r_intCF (by first | decide | exact cmul_r (by decide) | exact cmul_l (by decide)) ?_ | refine r_eqI ?_ | refine r_neI ?_ | refine r_eqS ?_ | refine r_neS ?_ | refine r_eqB ?_ | refine r_neB ?_ | refine r_int ?_ | refine r_drop ?_ | refine r_sub ?_ | refine r_gTp (by with_unfolding_all rfl) ?_ | refine r_gsCons ?_ | refine r_gsNil ?_ | refine r_for ?_ | refine r_lc ?_ | refine r_dc ?_ | refine r_iRg1 ?_ | refine r_inT (by with_unfolding_all rfl) (by with_unfolding_all rfl) ?_)
    refine ⟨gs.map fun g => decide (g ∈ ks), by show seqC S'[S.length]? = _; rw [h1, List.map_map]; rfl, ⟨_, rfl⟩, ?_⟩
    have := h S' e1
    rw [if_pos rfl] at this
    rw [show (gs.any fun g => decide (g ∈ ks)) = (gs.map fun g => decide (g ∈ ks)).any id by rw [List.any_map]; rfl] at this
    exact this
  · subst hb
    (repeat with_reducible first | refine r_seq ?_ | refine r_asg ?_ | refine r_nm ?_ | refine r_var (by with_unfolding_all rfl) ?_ | refine r_c ?_ | refine r_aCons ?_ | refine r_aNil ?_ | refine r_op ?_ | refine r_call ?_ | refine r_val ?_ | refine r_bl ?_ | refine r_if ?_ | refine r_ret ?_ | refine r_next ?_ | refine r_ifT (by first | decide | (with_unfolding_all rfl)) ?_ | refine r_ifF (by first | decide | (with_unfolding_all rfl)) ?_ | refine r_tup ?_ | refine r_lst ?_ | refine r_le (Nat.le_of_ble_eq_true (by with_unfolding_all rfl)) ?_ | refine r_cb ?_ | refine r_and ?_ | refine r_or ?_ | refine r_not ?_ | refine r_eIf ?_ | refine r_eAnd ?_ | refine r_eOr ?_ | refine r_eNot ?_ | refine r_isN ?_ | refine r_mt ?_ | refine r_tr ?_ | refine r_ss ?_ | refine r_dict0 ?_ | refine r_yes ?_ | refine r_isi ?_ | refine r_ty (by with_unfolding_all rfl) ?_ | refine r_ixT (by with_unfolding_all rfl) ?_ | refine r_ixE (by with_unfolding_all rfl) (by with_unfolding_all rfl) ?_ | refine r_ixL (by assumption) (by with_unfolding_all rfl) ?_ | refine r_addI ?_ | refine r_intF ?_ | refine r_intCF (by first | decide | exact cmul_r (by decide) | exact cmul_l (by decide)) ?_ | refine r_eqI ?_ | refine r_neI ?_ | refine r_eqS ?_ | refine r_neS ?_ | refine r_eqB ?_ | refine r_neB ?_ | refine r_int ?_ | refine r_drop ?_ | refine r_sub ?_ | refine r_gTp (by with_unfolding_all rfl) ?_ | refine r_gsCons ?_ | refine r_gsNil ?_ | refine r_for ?_ | refine r_lc ?_ | refine r_dc ?_ | refine r_iRg1 ?_ | refine r_inT (by with_unfolding_all rfl) (by with_unfolding_all rfl) ?_)
    refine r_iTup ?_
    (repeat with_reducible first | refine r_seq ?_ | refine r_asg ?_ | refine r_nm ?_ | refine r_var (by with_unfolding_all rfl) ?_ | refine r_c ?_ | refine r_aCons ?_ | refine r_aNil ?_ | refine r_op ?_ | refine r_call ?_ | refine r_val ?_ | refine r_bl ?_ | refine r_if ?_ | refine r_ret ?_ | refine r_next ?_ | refine r_ifT (by first | decide | (with_unfolding_all rfl)) ?_ | refine r_ifF (by first | decide | (with_unfolding_all rfl)) ?_ | refine r_tup ?_ | refine r_lst ?_ | refine r_le (Nat.le_of_ble_eq_true (by with_unfolding_all rfl)) ?_ | refine r_cb ?_ | refine r_and ?_ | refine r_or ?_ | refine r_not ?_ | refine r_eIf ?_ | refine r_eAnd ?_ | refine r_eOr ?_ | refine r_eNot ?_ | refine r_isN ?_ | refine r_mt ?_ | refine r_tr ?_ | refine r_ss ?_ | refine r_dict0 ?_ | refine r_yes ?_ | refine r_isi ?_ | refine r_ty (by with_unfolding_all rfl) ?_ | refine r_ixT (by with_unfolding_all rfl) ?_ | refine r_ixE (by with_unfolding_all rfl) (by with_unfolding_all rfl) ?_ | refine r_ixL (by assumption) (by with_unfolding_all rfl) ?_ | refine r_addI ?_ | refine r_intF ?_ | refine r_intCF (by first | decide | exact cmul_r (by decide) | exact cmul_l (by decide)) ?_ | refine r_eqI ?_ | refine r_neI ?_ | refine r_eqS ?_ | refine r_neS ?_ | refine r_eqB ?_ | refine r_neB ?_ | refine r_int ?_ | refine r_drop ?_ | refine r_sub ?_ | refine r_gTp (by with_unfolding_all rfl) ?_ | refine r_gsCons ?_ | refine r_gsNil ?_ | refine r_for ?_ | refine r_lc ?_ | refine r_dc ?_ | refine r_iRg1 ?_ | refine r_inT (by with_unfolding_all rfl) (by with_unfolding_all rfl) ?_)
    refine ⟨_, rfl, ?_⟩
    intro few
    refine lc _ (fun S' e1 h1 => ?_) few
    (repeat with_reducible first | refine r_seq ?_ | refine r_asg ?_ | refine r_nm ?_ | refine r_var (by with_unfolding_all rfl) ?_ | refine r_c ?_ | refine r_aCons ?_ | refine r_aNil ?_ | refine r_op ?_ | refine r_call ?_ | refine r_val ?_ | refine r_bl ?_ | refine r_if ?_ | refine r_ret ?_ | refine r_next ?_ | refine r_ifT (by first | decide | (with_unfolding_all rfl)) ?_ | refine r_ifF (by first | decide | (with_unfolding_all rfl)) ?_ | refine r_tup ?_ | refine r_lst ?_ | refine r_le (Nat.le_of_ble_eq_true (by with_unfolding_all rfl)) ?_ | refine r_cb ?_ | refine r_and ?_ | refine r_or ?_ | refine r_not ?_ | refine r_eIf ?_ | refine r_eAnd ?_ | refine r_eOr ?_ | refine r_eNot ?_ | refine r_isN ?_ | refine r_mt ?_ | refine r_tr ?_ | refine r_ss ?_ | refine r_dict0 ?_ | refine r_yes ?_ | refine r_isi ?_ | refine r_ty (by with_unfolding_all rfl) ?_ | refine r_ixT (by with_unfolding_all rfl) ?_ | refine r_ixE (by with_unfolding_all rfl) (by with_unfolding_all rfl) ?_ | refine r_ixL (by assumption) (by with_unfolding_all rfl) ?_ | refine r_addI ?_ | refine r_intF ?_ | refine r_intCF (by first | decide | exact cmul_r (by decide) | exact cmul_l (by decide)) ?_ | refine r_eqI ?_ | refine r_neI ?_ | refine r_eqS ?_ | refine r_neS ?_ | refine r_eqB ?_ | refine r_neB ?_ | refine r_int ?_ | refine r_drop ?_ | refine r_sub ?_ | refine r_gTp (by with_unfolding_all rfl) ?_ | refine r_gsCons ?_ | refine r_gsNil ?_ | refine r_for ?_ | refine r_lc ?_ | refine r_dc ?_ | refine r_iRg1 ?_ | refine r_inT (by with_unfolding_all rfl) (by with_unfolding_all rfl) ?_)
    refine ⟨gs.map fun g => decide (g ∈ ks), by show seqC S'[S.length]? = _; rw [h1, List.map_map]; rfl, ⟨_, rfl⟩, ?_⟩
    have := h S' e1
    rw [if_neg (by decide)] at this
    rw [show (gs.all fun g => decide (g ∈ ks)) = (gs.map fun g => decide (g ∈ ks)).all id by rw [List.all_map]; rfl] at this
    exact this
/-- the names' places in a dict -/
def Names (kvs : List (D × D)) (sc : List Nat) (ρ : Env) : Prop := ∀ x ∈ sc, valD kvs (.int (x : Nat)) = some (encP (ρ x))
/-- the wish for a set -/
def Wish (S : Store) (X : List Nat) (Q : PD) : Prop := ∀ S' r ks, Ext S S' → S.length ≤ r → S'[r]? = some (.dct (setD ks)) → ks.Nodup → (∀ j, j ∈ ks ↔ j ∈ X) → Q (.ref r) S'
theorem ext_set2 {S S1 : Store} {n : Nat} {c : Cell} (e : Ext S S1) (h : S.length ≤ n) : Ext S (S1.set n c) := e.put h
theorem it_end {α : Type} {g : α → α} {x : α} {t n : Nat} (h : it g (t + 1) x = it g t x) (hr : it g (n + 1) x = it g n x) : it g n x = it g t x := by
  rcases Nat.le_total t n with q | q
  · exact it_at h n q
  · exact (it_at hr t q).symm
theorem fix_loop {n : Nat} {g : List Nat → List Nat} {X0 : List Nat} (ho : ∀ X, OkSub n X → OkSub n (g X)) (h0 : OkSub n X0) (hr : it g (n + 1) X0 = it g n X0) {F : FnD} {dw da dpl ds : D} {df : D} {x : Nat} (hdf : df = .tup [ds, .int (x : Nat), da])
    {kvs0 : List (D × D)} (KV : List (D × D) → Prop) (hK0 : KV kvs0) (hKp : ∀ kv X, KV kv → KV (putD kv (.int (x : Nat)) (encP X))) (hKl : ∀ kv, KV kv → kv.length < 10000)
    (hF : ∀ S kn kv X Q, OkSub n X → S[kn]? = some (.dct kv) → KV kv → valD kv (.int (x : Nat)) = some (encP X) → Wish S (g X) Q → F [dw, da, .ref kn] S Q)
    {S0 S : Store} {kn rn : Nat} {ks : List Nat} (e0 : Ext S0 S) (l1 : S0.length ≤ kn) (hk : S[kn]? = some (.dct kvs0)) (l2 : S0.length ≤ rn) (hr0 : S[rn]? = some (.dct (setD ks))) (ne : rn ≠ kn) (nd : ks.Nodup) (hks : ∀ j, j ∈ ks ↔ j ∈ X0) {Q : PD} (hQ : Wish S0 (it g n X0) Q) {E : EndsD} (hE : E.rt = Q) :
    sSeq (sWhile (tVal (eOp (eqF true) (eVar 8) (eVar 9))) (sSeq (sAsg (eVar 8) (gNm 9))
  (sSeq (sAsg (eCB tupleF (aCons (eCB sortedF (aCons (eCB listF (aCons (eVar 8) aNil)) aNil)) aNil)) (gSubD (eVar 7) (eOp ixF (eVar 1) (eC (.int 1)))))
  (sAsg (eCall F (aCons (eVar 0) (aCons (eOp ixF (eVar 1) (eC (.int 2))) (aCons (eVar 7) aNil)))) (gNm 8)))))
  (sRet (eVar 8)) E [some dw, some df, some dpl, some ds, none, none, none, some (.ref kn), some (.ref rn), some .non, none] S := by
  subst hdf hE
  refine r_seq ?_
  have key : ∀ σ S', (∃ rn ks b t, σ = [some dw, some (.tup [ds, .int (x : Nat), da]), some dpl, some ds, none, none, none, some (.ref kn), some (.ref rn), some b, none] ∧ Ext S0 S' ∧ S0.length ≤ rn ∧ S'[rn]? = some (.dct (setD ks)) ∧ ks.Nodup ∧ (∀ j, j ∈ ks ↔ j ∈ it g t X0) ∧ it g n X0 = it g t X0) → sRet (eVar 8) E σ S' := by
    rintro σ S' ⟨rn, ks, b, t, rfl, e1, l3, h1, h2, h3, h4⟩
    (repeat with_reducible first | refine r_seq ?_ | refine r_asg ?_ | refine r_nm ?_ | refine r_var (by with_unfolding_all rfl) ?_ | refine r_c ?_ | refine r_aCons ?_ | refine r_aNil ?_ | refine r_op ?_ | refine r_call ?_ | refine r_val ?_ | refine r_bl ?_ | refine r_if ?_ | refine r_ret ?_ | refine r_next ?_ | refine r_ifT (by first | decide | (with_unfolding_all rfl)) ?_ | refine r_ifF (by first | decide | (with_unfolding_all rfl)) ?_ | refine r_tup ?_ | refine r_lst ?_ | refine r_le (Nat.le_of_ble_eq_true (by with_unfolding_all rfl)) ?_ | refine r_cb ?_ | refine r_and ?_ | refine r_or ?_ | refine r_not ?_ | refine r_eIf ?_ | refine r_eAnd ?_ | refine r_eOr ?_ | refine r_eNot ?_ | refine r_isN ?_ | refine r_mt ?_ | refine r_tr ?_ | refine r_ss ?_ | refine r_dict0 ?_ | refine r_yes ?_ | refine r_isi ?_ | refine r_ty (by with_unfolding_all rfl) ?_ | refine r_ixT (by with_unfolding_all rfl) ?_ | refine r_ixE (by with_unfolding_all rfl) (by with_unfolding_all rfl) ?_ | refine r_ixL (by assumption) (by with_unfolding_all rfl) ?_ | refine r_addI ?_ | refine r_intF ?_ | refine r_intCF (by first | decide | exact cmul_r (by decide) | exact cmul_l (by decide)) ?_ | refine r_eqI ?_ | refine r_neI ?_ | refine r_eqS ?_ | refine r_neS ?_ | refine r_eqB ?_ | refine r_neB ?_ | refine r_int ?_ | refine r_drop ?_ | refine r_sub ?_ | refine r_gTp (by with_unfolding_all rfl) ?_ | refine r_gsCons ?_ | refine r_gsNil ?_ | refine r_for ?_ | refine r_lc ?_ | refine r_dc ?_ | refine r_iRg1 ?_ | refine r_inT (by with_unfolding_all rfl) (by with_unfolding_all rfl) ?_)
    refine hQ _ _ ks e1 l3 h1 h2 ?_
    rw [h4]; exact h3
  refine while_inv (fun k σ S' => ∃ t rn ks b kv, t + k = n + 2 ∧ σ = [some dw, some (.tup [ds, .int (x : Nat), da]), some dpl, some ds, none, none, none, some (.ref kn), some (.ref rn), some b, none] ∧ Ext S0 S' ∧ S0.length ≤ rn ∧ S'[rn]? = some (.dct (setD ks)) ∧ rn ≠ kn ∧ ks.Nodup ∧ (∀ j, j ∈ ks ↔ j ∈ it g t X0) ∧
    S'[kn]? = some (.dct kv) ∧ KV kv ∧ ((t = 0 ∧ b = .non) ∨ ∃ t' rb kb, t = t' + 1 ∧ b = .ref rb ∧ S'[rb]? = some (.dct (setD kb)) ∧ kb.Nodup ∧ ∀ j, j ∈ kb ↔ j ∈ it g t' X0)) (n + 2) ⟨0, rn, ks, .non, kvs0, by omega, rfl, e0, l2, hr0, ne, nd, hks, hk, hK0, .inl ⟨rfl, rfl⟩⟩ ?_
  rintro k σ S1 R ⟨t, rn, ks, b, kv, htk, rfl, e1, l3, h1, ne1, n1, i1, hk1, hkv, hb⟩ hR
  have body : 0 < k → (sSeq (sAsg (eVar 8) (gNm 9))
  (sSeq (sAsg (eCB tupleF (aCons (eCB sortedF (aCons (eCB listF (aCons (eVar 8) aNil)) aNil)) aNil)) (gSubD (eVar 7) (eOp ixF (eVar 1) (eC (.int 1)))))
  (sAsg (eCall F (aCons (eVar 0) (aCons (eOp ixF (eVar 1) (eC (.int 2))) (aCons (eVar 7) aNil)))) (gNm 8)))) { nx := R, rt := E.rt, bk := sRet (eVar 8) E, ct := R } [some dw, some (.tup [ds, .int (x : Nat), da]), some dpl, some ds, none, none, none, some (.ref kn), some (.ref rn), some b, none] S1 := by
    intro hk0
    (repeat with_reducible first | refine r_seq ?_ | refine r_asg ?_ | refine r_nm ?_ | refine r_var (by with_unfolding_all rfl) ?_ | refine r_c ?_ | refine r_aCons ?_ | refine r_aNil ?_ | refine r_op ?_ | refine r_call ?_ | refine r_val ?_ | refine r_bl ?_ | refine r_if ?_ | refine r_ret ?_ | refine r_next ?_ | refine r_ifT (by first | decide | (with_unfolding_all rfl)) ?_ | refine r_ifF (by first | decide | (with_unfolding_all rfl)) ?_ | refine r_tup ?_ | refine r_lst ?_ | refine r_le (Nat.le_of_ble_eq_true (by with_unfolding_all rfl)) ?_ | refine r_cb ?_ | refine r_and ?_ | refine r_or ?_ | refine r_not ?_ | refine r_eIf ?_ | refine r_eAnd ?_ | refine r_eOr ?_ | refine r_eNot ?_ | refine r_isN ?_ | refine r_mt ?_ | refine r_tr ?_ | refine r_ss ?_ | refine r_dict0 ?_ | refine r_yes ?_ | refine r_isi ?_ | refine r_ty (by with_unfolding_all rfl) ?_ | refine r_ixT (by with_unfolding_all rfl) ?_ | refine r_ixE (by with_unfolding_all rfl) (by with_unfolding_all rfl) ?_ | refine r_ixL (by assumption) (by with_unfolding_all rfl) ?_ | refine r_addI ?_ | refine r_intF ?_ | refine r_intCF (by first | decide | exact cmul_r (by decide) | exact cmul_l (by decide)) ?_ | refine r_eqI ?_ | refine r_neI ?_ | refine r_eqS ?_ | refine r_neS ?_ | refine r_eqB ?_ | refine r_neB ?_ | refine r_int ?_ | refine r_drop ?_ | refine r_sub ?_ | refine r_gTp (by with_unfolding_all rfl) ?_ | refine r_gsCons ?_ | refine r_gsNil ?_ | refine r_for ?_ | refine r_lc ?_ | refine r_dc ?_ | refine r_iRg1 ?_ | refine r_inT (by with_unfolding_all rfl) (by with_unfolding_all rfl) ?_)
    refine r_listD h1 ?_
    rw [setD_keys]
    (repeat with_reducible first | refine r_seq ?_ | refine r_asg ?_ | refine r_nm ?_ | refine r_var (by with_unfolding_all rfl) ?_ | refine r_c ?_ | refine r_aCons ?_ | refine r_aNil ?_ | refine r_op ?_ | refine r_call ?_ | refine r_val ?_ | refine r_bl ?_ | refine r_if ?_ | refine r_ret ?_ | refine r_next ?_ | refine r_ifT (by first | decide | (with_unfolding_all rfl)) ?_ | refine r_ifF (by first | decide | (with_unfolding_all rfl)) ?_ | refine r_tup ?_ | refine r_lst ?_ | refine r_le (Nat.le_of_ble_eq_true (by with_unfolding_all rfl)) ?_ | refine r_cb ?_ | refine r_and ?_ | refine r_or ?_ | refine r_not ?_ | refine r_eIf ?_ | refine r_eAnd ?_ | refine r_eOr ?_ | refine r_eNot ?_ | refine r_isN ?_ | refine r_mt ?_ | refine r_tr ?_ | refine r_ss ?_ | refine r_dict0 ?_ | refine r_yes ?_ | refine r_isi ?_ | refine r_ty (by with_unfolding_all rfl) ?_ | refine r_ixT (by with_unfolding_all rfl) ?_ | refine r_ixE (by with_unfolding_all rfl) (by with_unfolding_all rfl) ?_ | refine r_ixL (by assumption) (by with_unfolding_all rfl) ?_ | refine r_addI ?_ | refine r_intF ?_ | refine r_intCF (by first | decide | exact cmul_r (by decide) | exact cmul_l (by decide)) ?_ | refine r_eqI ?_ | refine r_neI ?_ | refine r_eqS ?_ | refine r_neS ?_ | refine r_eqB ?_ | refine r_neB ?_ | refine r_int ?_ | refine r_drop ?_ | refine r_sub ?_ | refine r_gTp (by with_unfolding_all rfl) ?_ | refine r_gsCons ?_ | refine r_gsNil ?_ | refine r_for ?_ | refine r_lc ?_ | refine r_dc ?_ | refine r_iRg1 ?_ | refine r_inT (by with_unfolding_all rfl) (by with_unfolding_all rfl) ?_)
    refine r_sorted (by show seqC (S1 ++ _)[S1.length]? = _; rw [new_at]; rfl) n1 fun ls s1 s2 => ?_
    have xe : ls = it g t X0 := by
      refine sub_ext (n := n) s1 (it_ok ho h0 t).1 fun j => ?_
      rw [s2, i1]
    subst xe
    (repeat with_reducible first | refine r_seq ?_ | refine r_asg ?_ | refine r_nm ?_ | refine r_var (by with_unfolding_all rfl) ?_ | refine r_c ?_ | refine r_aCons ?_ | refine r_aNil ?_ | refine r_op ?_ | refine r_call ?_ | refine r_val ?_ | refine r_bl ?_ | refine r_if ?_ | refine r_ret ?_ | refine r_next ?_ | refine r_ifT (by first | decide | (with_unfolding_all rfl)) ?_ | refine r_ifF (by first | decide | (with_unfolding_all rfl)) ?_ | refine r_tup ?_ | refine r_lst ?_ | refine r_le (Nat.le_of_ble_eq_true (by with_unfolding_all rfl)) ?_ | refine r_cb ?_ | refine r_and ?_ | refine r_or ?_ | refine r_not ?_ | refine r_eIf ?_ | refine r_eAnd ?_ | refine r_eOr ?_ | refine r_eNot ?_ | refine r_isN ?_ | refine r_mt ?_ | refine r_tr ?_ | refine r_ss ?_ | refine r_dict0 ?_ | refine r_yes ?_ | refine r_isi ?_ | refine r_ty (by with_unfolding_all rfl) ?_ | refine r_ixT (by with_unfolding_all rfl) ?_ | refine r_ixE (by with_unfolding_all rfl) (by with_unfolding_all rfl) ?_ | refine r_ixL (by assumption) (by with_unfolding_all rfl) ?_ | refine r_addI ?_ | refine r_intF ?_ | refine r_intCF (by first | decide | exact cmul_r (by decide) | exact cmul_l (by decide)) ?_ | refine r_eqI ?_ | refine r_neI ?_ | refine r_eqS ?_ | refine r_neS ?_ | refine r_eqB ?_ | refine r_neB ?_ | refine r_int ?_ | refine r_drop ?_ | refine r_sub ?_ | refine r_gTp (by with_unfolding_all rfl) ?_ | refine r_gsCons ?_ | refine r_gsNil ?_ | refine r_for ?_ | refine r_lc ?_ | refine r_dc ?_ | refine r_iRg1 ?_ | refine r_inT (by with_unfolding_all rfl) (by with_unfolding_all rfl) ?_)
    refine r_tuple (by show seqC ((S1 ++ _) ++ _)[(S1 ++ _).length]? = _; rw [new_at]; rfl) ?_
    (repeat with_reducible first | refine r_seq ?_ | refine r_asg ?_ | refine r_nm ?_ | refine r_var (by with_unfolding_all rfl) ?_ | refine r_c ?_ | refine r_aCons ?_ | refine r_aNil ?_ | refine r_op ?_ | refine r_call ?_ | refine r_val ?_ | refine r_bl ?_ | refine r_if ?_ | refine r_ret ?_ | refine r_next ?_ | refine r_ifT (by first | decide | (with_unfolding_all rfl)) ?_ | refine r_ifF (by first | decide | (with_unfolding_all rfl)) ?_ | refine r_tup ?_ | refine r_lst ?_ | refine r_le (Nat.le_of_ble_eq_true (by with_unfolding_all rfl)) ?_ | refine r_cb ?_ | refine r_and ?_ | refine r_or ?_ | refine r_not ?_ | refine r_eIf ?_ | refine r_eAnd ?_ | refine r_eOr ?_ | refine r_eNot ?_ | refine r_isN ?_ | refine r_mt ?_ | refine r_tr ?_ | refine r_ss ?_ | refine r_dict0 ?_ | refine r_yes ?_ | refine r_isi ?_ | refine r_ty (by with_unfolding_all rfl) ?_ | refine r_ixT (by with_unfolding_all rfl) ?_ | refine r_ixE (by with_unfolding_all rfl) (by with_unfolding_all rfl) ?_ | refine r_ixL (by assumption) (by with_unfolding_all rfl) ?_ | refine r_addI ?_ | refine r_intF ?_ | refine r_intCF (by first | decide | exact cmul_r (by decide) | exact cmul_l (by decide)) ?_ | refine r_eqI ?_ | refine r_neI ?_ | refine r_eqS ?_ | refine r_neS ?_ | refine r_eqB ?_ | refine r_neB ?_ | refine r_int ?_ | refine r_drop ?_ | refine r_sub ?_ | refine r_gTp (by with_unfolding_all rfl) ?_ | refine r_gsCons ?_ | refine r_gsNil ?_ | refine r_for ?_ | refine r_lc ?_ | refine r_dc ?_ | refine r_iRg1 ?_ | refine r_inT (by with_unfolding_all rfl) (by with_unfolding_all rfl) ?_)
    have e2 : Ext S1 ((S1 ++ [Cell.lst (ks.map fun k : Nat => D.int (k : Nat))]) ++ [Cell.lst ((it g t X0).map fun k : Nat => D.int (k : Nat))]) := (Ext.app _ _).trans (Ext.app _ _)
    refine r_setD1 (e2 _ _ hk1) rfl (by have := hKl kv hkv; simp [sizeLine]; omega) fun S2 q2 o2 => ?_
    (repeat with_reducible first | refine r_seq ?_ | refine r_asg ?_ | refine r_nm ?_ | refine r_var (by with_unfolding_all rfl) ?_ | refine r_c ?_ | refine r_aCons ?_ | refine r_aNil ?_ | refine r_op ?_ | refine r_call ?_ | refine r_val ?_ | refine r_bl ?_ | refine r_if ?_ | refine r_ret ?_ | refine r_next ?_ | refine r_ifT (by first | decide | (with_unfolding_all rfl)) ?_ | refine r_ifF (by first | decide | (with_unfolding_all rfl)) ?_ | refine r_tup ?_ | refine r_lst ?_ | refine r_le (Nat.le_of_ble_eq_true (by with_unfolding_all rfl)) ?_ | refine r_cb ?_ | refine r_and ?_ | refine r_or ?_ | refine r_not ?_ | refine r_eIf ?_ | refine r_eAnd ?_ | refine r_eOr ?_ | refine r_eNot ?_ | refine r_isN ?_ | refine r_mt ?_ | refine r_tr ?_ | refine r_ss ?_ | refine r_dict0 ?_ | refine r_yes ?_ | refine r_isi ?_ | refine r_ty (by with_unfolding_all rfl) ?_ | refine r_ixT (by with_unfolding_all rfl) ?_ | refine r_ixE (by with_unfolding_all rfl) (by with_unfolding_all rfl) ?_ | refine r_ixL (by assumption) (by with_unfolding_all rfl) ?_ | refine r_addI ?_ | refine r_intF ?_ | refine r_intCF (by first | decide | exact cmul_r (by decide) | exact cmul_l (by decide)) ?_ | refine r_eqI ?_ | refine r_neI ?_ | refine r_eqS ?_ | refine r_neS ?_ | refine r_eqB ?_ | refine r_neB ?_ | refine r_int ?_ | refine r_drop ?_ | refine r_sub ?_ | refine r_gTp (by with_unfolding_all rfl) ?_ | refine r_gsCons ?_ | refine r_gsNil ?_ | refine r_for ?_ | refine r_lc ?_ | refine r_dc ?_ | refine r_iRg1 ?_ | refine r_inT (by with_unfolding_all rfl) (by with_unfolding_all rfl) ?_)
    refine hF S2 kn _ (it g t X0) _ (it_ok ho h0 t) q2 (hKp kv _ hkv) (putD_self _ _ _) ?_
    intro S3 r3 k3 e3 l4 h3 n3 i3
    (repeat with_reducible first | refine r_seq ?_ | refine r_asg ?_ | refine r_nm ?_ | refine r_var (by with_unfolding_all rfl) ?_ | refine r_c ?_ | refine r_aCons ?_ | refine r_aNil ?_ | refine r_op ?_ | refine r_call ?_ | refine r_val ?_ | refine r_bl ?_ | refine r_if ?_ | refine r_ret ?_ | refine r_next ?_ | refine r_ifT (by first | decide | (with_unfolding_all rfl)) ?_ | refine r_ifF (by first | decide | (with_unfolding_all rfl)) ?_ | refine r_tup ?_ | refine r_lst ?_ | refine r_le (Nat.le_of_ble_eq_true (by with_unfolding_all rfl)) ?_ | refine r_cb ?_ | refine r_and ?_ | refine r_or ?_ | refine r_not ?_ | refine r_eIf ?_ | refine r_eAnd ?_ | refine r_eOr ?_ | refine r_eNot ?_ | refine r_isN ?_ | refine r_mt ?_ | refine r_tr ?_ | refine r_ss ?_ | refine r_dict0 ?_ | refine r_yes ?_ | refine r_isi ?_ | refine r_ty (by with_unfolding_all rfl) ?_ | refine r_ixT (by with_unfolding_all rfl) ?_ | refine r_ixE (by with_unfolding_all rfl) (by with_unfolding_all rfl) ?_ | refine r_ixL (by assumption) (by with_unfolding_all rfl) ?_ | refine r_addI ?_ | refine r_intF ?_ | refine r_intCF (by first | decide | exact cmul_r (by decide) | exact cmul_l (by decide)) ?_ | refine r_eqI ?_ | refine r_neI ?_ | refine r_eqS ?_ | refine r_neS ?_ | refine r_eqB ?_ | refine r_neB ?_ | refine r_int ?_ | refine r_drop ?_ | refine r_sub ?_ | refine r_gTp (by with_unfolding_all rfl) ?_ | refine r_gsCons ?_ | refine r_gsNil ?_ | refine r_for ?_ | refine r_lc ?_ | refine r_dc ?_ | refine r_iRg1 ?_ | refine r_inT (by with_unfolding_all rfl) (by with_unfolding_all rfl) ?_)
    have e4 : Ext S0 S2 := fun i c hi => by
      have : i < S0.length := (List.getElem?_eq_some_iff.mp hi).1
      rw [o2.off i (by omega)]
      exact e2 _ _ (e1 _ _ hi)
    have l5 : S1.length ≤ S2.length := by rw [o2.len]; exact e2.le
    have hkl : kn < S1.length := (List.getElem?_eq_some_iff.mp hk1).1
    have hrl : rn < S1.length := (List.getElem?_eq_some_iff.mp h1).1
    refine hR (k - 1) _ _ (by omega) ⟨t + 1, r3, k3, .ref rn, _, by omega, rfl, e4.trans e3, Nat.le_trans e4.le l4, h3, by omega, n3, i3, e3 _ _ q2, hKp kv _ hkv, .inr ⟨t, rn, ks, rfl, rfl, e3 _ _ ?_, n1, i1⟩⟩
    rw [o2.off rn ne1]
    exact e2 _ _ h1
  (repeat with_reducible first | refine r_seq ?_ | refine r_asg ?_ | refine r_nm ?_ | refine r_var (by with_unfolding_all rfl) ?_ | refine r_c ?_ | refine r_aCons ?_ | refine r_aNil ?_ | refine r_op ?_ | refine r_call ?_ | refine r_val ?_ | refine r_bl ?_ | refine r_if ?_ | refine r_ret ?_ | refine r_next ?_ | refine r_ifT (by first | decide | (with_unfolding_all rfl)) ?_ | refine r_ifF (by first | decide | (with_unfolding_all rfl)) ?_ | refine r_tup ?_ | refine r_lst ?_ | refine r_le (Nat.le_of_ble_eq_true (by with_unfolding_all rfl)) ?_ | refine r_cb ?_ | refine r_and ?_ | refine r_or ?_ | refine r_not ?_ | refine r_eIf ?_ | refine r_eAnd ?_ | refine r_eOr ?_ | refine r_eNot ?_ | refine r_isN ?_ | refine r_mt ?_ | refine r_tr ?_ | refine r_ss ?_ | refine r_dict0 ?_ | refine r_yes ?_ | refine r_isi ?_ | refine r_ty (by with_unfolding_all rfl) ?_ | refine r_ixT (by with_unfolding_all rfl) ?_ | refine r_ixE (by with_unfolding_all rfl) (by with_unfolding_all rfl) ?_ | refine r_ixL (by assumption) (by with_unfolding_all rfl) ?_ | refine r_addI ?_ | refine r_intF ?_ | refine r_intCF (by first | decide | exact cmul_r (by decide) | exact cmul_l (by decide)) ?_ | refine r_eqI ?_ | refine r_neI ?_ | refine r_eqS ?_ | refine r_neS ?_ | refine r_eqB ?_ | refine r_neB ?_ | refine r_int ?_ | refine r_drop ?_ | refine r_sub ?_ | refine r_gTp (by with_unfolding_all rfl) ?_ | refine r_gsCons ?_ | refine r_gsNil ?_ | refine r_for ?_ | refine r_lc ?_ | refine r_dc ?_ | refine r_iRg1 ?_ | refine r_inT (by with_unfolding_all rfl) (by with_unfolding_all rfl) ?_)
  rcases hb with ⟨rfl, rfl⟩ | ⟨t', rb, kb, rfl, rfl, h2, n2, i2⟩
  · refine r_neDN h1 ?_
    exact r_bl (r_ifT rfl (body (by omega)))
  · refine r_neDD h1 h2 (.inl fun p hp => ?_) ?_
    · rw [List.mem_append] at hp
      exact hp.elim (setD_hom _ p) (setD_hom _ p)
    (repeat with_reducible first | refine r_seq ?_ | refine r_asg ?_ | refine r_nm ?_ | refine r_var (by with_unfolding_all rfl) ?_ | refine r_c ?_ | refine r_aCons ?_ | refine r_aNil ?_ | refine r_op ?_ | refine r_call ?_ | refine r_val ?_ | refine r_bl ?_ | refine r_if ?_ | refine r_ret ?_ | refine r_next ?_ | refine r_ifT (by first | decide | (with_unfolding_all rfl)) ?_ | refine r_ifF (by first | decide | (with_unfolding_all rfl)) ?_ | refine r_tup ?_ | refine r_lst ?_ | refine r_le (Nat.le_of_ble_eq_true (by with_unfolding_all rfl)) ?_ | refine r_cb ?_ | refine r_and ?_ | refine r_or ?_ | refine r_not ?_ | refine r_eIf ?_ | refine r_eAnd ?_ | refine r_eOr ?_ | refine r_eNot ?_ | refine r_isN ?_ | refine r_mt ?_ | refine r_tr ?_ | refine r_ss ?_ | refine r_dict0 ?_ | refine r_yes ?_ | refine r_isi ?_ | refine r_ty (by with_unfolding_all rfl) ?_ | refine r_ixT (by with_unfolding_all rfl) ?_ | refine r_ixE (by with_unfolding_all rfl) (by with_unfolding_all rfl) ?_ | refine r_ixL (by assumption) (by with_unfolding_all rfl) ?_ | refine r_addI ?_ | refine r_intF ?_ | refine r_intCF (by first | decide | exact cmul_r (by decide) | exact cmul_l (by decide)) ?_ | refine r_eqI ?_ | refine r_neI ?_ | refine r_eqS ?_ | refine r_neS ?_ | refine r_eqB ?_ | refine r_neB ?_ | refine r_int ?_ | refine r_drop ?_ | refine r_sub ?_ | refine r_gTp (by with_unfolding_all rfl) ?_ | refine r_gsCons ?_ | refine r_gsNil ?_ | refine r_for ?_ | refine r_lc ?_ | refine r_dc ?_ | refine r_iRg1 ?_ | refine r_inT (by with_unfolding_all rfl) (by with_unfolding_all rfl) ?_)
    have same : sameD (setD ks) (setD kb) = true ↔ it g (t' + 1) X0 = it g t' X0 := by
      rw [setD_same n1 n2]
      constructor
      · intro h
        exact (it_ok ho h0 _).ext (it_ok ho h0 _) fun j => by rw [← i1, ← i2]; exact h j
      · intro h j
        rw [i1, i2, h]
    refine ite_b (fun hb => ?_) (fun hb => ?_)
    · refine body ?_
      by_cases hk : k = 0
      · subst hk
        have e1 := it_at hr (t' + 1) (by omega)
        have e2 := it_at hr t' (by omega)
        have := same.mpr (e1.trans e2.symm)
        rw [this] at hb
        cases hb
      · omega
    · have hb : sameD (setD ks) (setD kb) = true := by simpa using hb
      have := same.mp hb
      refine key _ _ ⟨rn, ks, _, t' + 1, rfl, e1, l3, h1, n1, i1, ?_⟩
      rw [it_end this hr, this]
theorem found_spec {L0 L1 : Nat} {w : Wd} (hw : OkW L0 L1 w) (hn : w.n ≤ 1000) : ∀ (k : Nat) (f : Fm) (sc : List Nat) (ρ : Env) (S : Store) (pl : Nat) (kvs : List (D × D)) (Q : PD), f.dp ≤ k → Sc L0 L1 sc f → EnvOk w.n ρ → dictD S (.ref pl) = some kvs → kvs.length + k ≤ 1000 → Names kvs sc ρ →
    Wish S (sem w f ρ) Q → F_found_places k [encW w, encF f, .ref pl] S Q
  | 0, f, _, _, _, _, _, _, hd, _, _, _, _, _, _ => by cases f <;> simp [Fm.dp] at hd
  | k + 1, f, sc, ρ, S, pl, kvs, Q, hd, hs, hρ, hpl, hk, hN, hQ => by
    refine r_fn rfl ?_
    unfold b_found_places
    cases f with
    | yes =>
      (repeat with_reducible first | refine r_seq ?_ | refine r_asg ?_ | refine r_nm ?_ | refine r_var (by with_unfolding_all rfl) ?_ | refine r_c ?_ | refine r_aCons ?_ | refine r_aNil ?_ | refine r_op ?_ | refine r_call ?_ | refine r_val ?_ | refine r_bl ?_ | refine r_if ?_ | refine r_ret ?_ | refine r_next ?_ | refine r_ifT (by first | decide | (with_unfolding_all rfl)) ?_ | refine r_ifF (by first | decide | (with_unfolding_all rfl)) ?_ | refine r_tup ?_ | refine r_lst ?_ | refine r_le (Nat.le_of_ble_eq_true (by with_unfolding_all rfl)) ?_ | refine r_cb ?_ | refine r_and ?_ | refine r_or ?_ | refine r_not ?_ | refine r_eIf ?_ | refine r_eAnd ?_ | refine r_eOr ?_ | refine r_eNot ?_ | refine r_isN ?_ | refine r_mt ?_ | refine r_tr ?_ | refine r_ss ?_ | refine r_dict0 ?_ | refine r_yes ?_ | refine r_isi ?_ | refine r_ty (by with_unfolding_all rfl) ?_ | refine r_ixT (by with_unfolding_all rfl) ?_ | refine r_ixE (by with_unfolding_all rfl) (by with_unfolding_all rfl) ?_ | refine r_ixL (by assumption) (by with_unfolding_all rfl) ?_ | refine r_addI ?_ | refine r_intF ?_ | refine r_intCF (by first | decide | exact cmul_r (by decide) | exact cmul_l (by decide)) ?_ | refine r_eqI ?_ | refine r_neI ?_ | refine r_eqS ?_ | refine r_neS ?_ | refine r_eqB ?_ | refine r_neB ?_ | refine r_int ?_ | refine r_drop ?_ | refine r_sub ?_ | refine r_gTp (by with_unfolding_all rfl) ?_ | refine r_gsCons ?_ | refine r_gsNil ?_ | refine r_for ?_ | refine r_lc ?_ | refine r_dc ?_ | refine r_iRg1 ?_ | refine r_inT (by with_unfolding_all rfl) (by with_unfolding_all rfl) ?_)
      refine r_rg (by omega) (by omega) fun few => ?_
      rw [rng_map']
      refine dc_set (List.range w.n) (fun _ => true) (by simp [sizeLine]; omega) (fun _ => rfl) (fun _ _ => trivial) (fun x hx S1 P e1 hP => ?_) fun S1 ks e1 h1 h2 h3 => ?_
      · (repeat with_reducible first | refine r_seq ?_ | refine r_asg ?_ | refine r_nm ?_ | refine r_var (by with_unfolding_all rfl) ?_ | refine r_c ?_ | refine r_aCons ?_ | refine r_aNil ?_ | refine r_op ?_ | refine r_call ?_ | refine r_val ?_ | refine r_bl ?_ | refine r_if ?_ | refine r_ret ?_ | refine r_next ?_ | refine r_ifT (by first | decide | (with_unfolding_all rfl)) ?_ | refine r_ifF (by first | decide | (with_unfolding_all rfl)) ?_ | refine r_tup ?_ | refine r_lst ?_ | refine r_le (Nat.le_of_ble_eq_true (by with_unfolding_all rfl)) ?_ | refine r_cb ?_ | refine r_and ?_ | refine r_or ?_ | refine r_not ?_ | refine r_eIf ?_ | refine r_eAnd ?_ | refine r_eOr ?_ | refine r_eNot ?_ | refine r_isN ?_ | refine r_mt ?_ | refine r_tr ?_ | refine r_ss ?_ | refine r_dict0 ?_ | refine r_yes ?_ | refine r_isi ?_ | refine r_ty (by with_unfolding_all rfl) ?_ | refine r_ixT (by with_unfolding_all rfl) ?_ | refine r_ixE (by with_unfolding_all rfl) (by with_unfolding_all rfl) ?_ | refine r_ixL (by assumption) (by with_unfolding_all rfl) ?_ | refine r_addI ?_ | refine r_intF ?_ | refine r_intCF (by first | decide | exact cmul_r (by decide) | exact cmul_l (by decide)) ?_ | refine r_eqI ?_ | refine r_neI ?_ | refine r_eqS ?_ | refine r_neS ?_ | refine r_eqB ?_ | refine r_neB ?_ | refine r_int ?_ | refine r_drop ?_ | refine r_sub ?_ | refine r_gTp (by with_unfolding_all rfl) ?_ | refine r_gsCons ?_ | refine r_gsNil ?_ | refine r_for ?_ | refine r_lc ?_ | refine r_dc ?_ | refine r_iRg1 ?_ | refine r_inT (by with_unfolding_all rfl) (by with_unfolding_all rfl) ?_)
        exact hP _ (.refl _)
      · (repeat with_reducible first | refine r_seq ?_ | refine r_asg ?_ | refine r_nm ?_ | refine r_var (by with_unfolding_all rfl) ?_ | refine r_c ?_ | refine r_aCons ?_ | refine r_aNil ?_ | refine r_op ?_ | refine r_call ?_ | refine r_val ?_ | refine r_bl ?_ | refine r_if ?_ | refine r_ret ?_ | refine r_next ?_ | refine r_ifT (by first | decide | (with_unfolding_all rfl)) ?_ | refine r_ifF (by first | decide | (with_unfolding_all rfl)) ?_ | refine r_tup ?_ | refine r_lst ?_ | refine r_le (Nat.le_of_ble_eq_true (by with_unfolding_all rfl)) ?_ | refine r_cb ?_ | refine r_and ?_ | refine r_or ?_ | refine r_not ?_ | refine r_eIf ?_ | refine r_eAnd ?_ | refine r_eOr ?_ | refine r_eNot ?_ | refine r_isN ?_ | refine r_mt ?_ | refine r_tr ?_ | refine r_ss ?_ | refine r_dict0 ?_ | refine r_yes ?_ | refine r_isi ?_ | refine r_ty (by with_unfolding_all rfl) ?_ | refine r_ixT (by with_unfolding_all rfl) ?_ | refine r_ixE (by with_unfolding_all rfl) (by with_unfolding_all rfl) ?_ | refine r_ixL (by assumption) (by with_unfolding_all rfl) ?_ | refine r_addI ?_ | refine r_intF ?_ | refine r_intCF (by first | decide | exact cmul_r (by decide) | exact cmul_l (by decide)) ?_ | refine r_eqI ?_ | refine r_neI ?_ | refine r_eqS ?_ | refine r_neS ?_ | refine r_eqB ?_ | refine r_neB ?_ | refine r_int ?_ | refine r_drop ?_ | refine r_sub ?_ | refine r_gTp (by with_unfolding_all rfl) ?_ | refine r_gsCons ?_ | refine r_gsNil ?_ | refine r_for ?_ | refine r_lc ?_ | refine r_dc ?_ | refine r_iRg1 ?_ | refine r_inT (by with_unfolding_all rfl) (by with_unfolding_all rfl) ?_)
        exact hQ S1 _ ks e1 (Nat.le_refl _) h1 h2 fun j => by rw [h3]; simp [sem]
    | no =>
      (repeat with_reducible first | refine r_seq ?_ | refine r_asg ?_ | refine r_nm ?_ | refine r_var (by with_unfolding_all rfl) ?_ | refine r_c ?_ | refine r_aCons ?_ | refine r_aNil ?_ | refine r_op ?_ | refine r_call ?_ | refine r_val ?_ | refine r_bl ?_ | refine r_if ?_ | refine r_ret ?_ | refine r_next ?_ | refine r_ifT (by first | decide | (with_unfolding_all rfl)) ?_ | refine r_ifF (by first | decide | (with_unfolding_all rfl)) ?_ | refine r_tup ?_ | refine r_lst ?_ | refine r_le (Nat.le_of_ble_eq_true (by with_unfolding_all rfl)) ?_ | refine r_cb ?_ | refine r_and ?_ | refine r_or ?_ | refine r_not ?_ | refine r_eIf ?_ | refine r_eAnd ?_ | refine r_eOr ?_ | refine r_eNot ?_ | refine r_isN ?_ | refine r_mt ?_ | refine r_tr ?_ | refine r_ss ?_ | refine r_dict0 ?_ | refine r_yes ?_ | refine r_isi ?_ | refine r_ty (by with_unfolding_all rfl) ?_ | refine r_ixT (by with_unfolding_all rfl) ?_ | refine r_ixE (by with_unfolding_all rfl) (by with_unfolding_all rfl) ?_ | refine r_ixL (by assumption) (by with_unfolding_all rfl) ?_ | refine r_addI ?_ | refine r_intF ?_ | refine r_intCF (by first | decide | exact cmul_r (by decide) | exact cmul_l (by decide)) ?_ | refine r_eqI ?_ | refine r_neI ?_ | refine r_eqS ?_ | refine r_neS ?_ | refine r_eqB ?_ | refine r_neB ?_ | refine r_int ?_ | refine r_drop ?_ | refine r_sub ?_ | refine r_gTp (by with_unfolding_all rfl) ?_ | refine r_gsCons ?_ | refine r_gsNil ?_ | refine r_for ?_ | refine r_lc ?_ | refine r_dc ?_ | refine r_iRg1 ?_ | refine r_inT (by with_unfolding_all rfl) (by with_unfolding_all rfl) ?_)
      refine r_rg (by omega) (by omega) fun few => ?_
      rw [rng_map']
      refine dc_set (List.range w.n) (fun _ => false) (by simp [sizeLine]; omega) (fun _ => rfl) (fun _ _ => trivial) (fun x hx S1 P e1 hP => ?_) fun S1 ks e1 h1 h2 h3 => ?_
      · (repeat with_reducible first | refine r_seq ?_ | refine r_asg ?_ | refine r_nm ?_ | refine r_var (by with_unfolding_all rfl) ?_ | refine r_c ?_ | refine r_aCons ?_ | refine r_aNil ?_ | refine r_op ?_ | refine r_call ?_ | refine r_val ?_ | refine r_bl ?_ | refine r_if ?_ | refine r_ret ?_ | refine r_next ?_ | refine r_ifT (by first | decide | (with_unfolding_all rfl)) ?_ | refine r_ifF (by first | decide | (with_unfolding_all rfl)) ?_ | refine r_tup ?_ | refine r_lst ?_ | refine r_le (Nat.le_of_ble_eq_true (by with_unfolding_all rfl)) ?_ | refine r_cb ?_ | refine r_and ?_ | refine r_or ?_ | refine r_not ?_ | refine r_eIf ?_ | refine r_eAnd ?_ | refine r_eOr ?_ | refine r_eNot ?_ | refine r_isN ?_ | refine r_mt ?_ | refine r_tr ?_ | refine r_ss ?_ | refine r_dict0 ?_ | refine r_yes ?_ | refine r_isi ?_ | refine r_ty (by with_unfolding_all rfl) ?_ | refine r_ixT (by with_unfolding_all rfl) ?_ | refine r_ixE (by with_unfolding_all rfl) (by with_unfolding_all rfl) ?_ | refine r_ixL (by assumption) (by with_unfolding_all rfl) ?_ | refine r_addI ?_ | refine r_intF ?_ | refine r_intCF (by first | decide | exact cmul_r (by decide) | exact cmul_l (by decide)) ?_ | refine r_eqI ?_ | refine r_neI ?_ | refine r_eqS ?_ | refine r_neS ?_ | refine r_eqB ?_ | refine r_neB ?_ | refine r_int ?_ | refine r_drop ?_ | refine r_sub ?_ | refine r_gTp (by with_unfolding_all rfl) ?_ | refine r_gsCons ?_ | refine r_gsNil ?_ | refine r_for ?_ | refine r_lc ?_ | refine r_dc ?_ | refine r_iRg1 ?_ | refine r_inT (by with_unfolding_all rfl) (by with_unfolding_all rfl) ?_)
        exact hP _ (.refl _)
      · (repeat with_reducible first | refine r_seq ?_ | refine r_asg ?_ | refine r_nm ?_ | refine r_var (by with_unfolding_all rfl) ?_ | refine r_c ?_ | refine r_aCons ?_ | refine r_aNil ?_ | refine r_op ?_ | refine r_call ?_ | refine r_val ?_ | refine r_bl ?_ | refine r_if ?_ | refine r_ret ?_ | refine r_next ?_ | refine r_ifT (by first | decide | (with_unfolding_all rfl)) ?_ | refine r_ifF (by first | decide | (with_unfolding_all rfl)) ?_ | refine r_tup ?_ | refine r_lst ?_ | refine r_le (Nat.le_of_ble_eq_true (by with_unfolding_all rfl)) ?_ | refine r_cb ?_ | refine r_and ?_ | refine r_or ?_ | refine r_not ?_ | refine r_eIf ?_ | refine r_eAnd ?_ | refine r_eOr ?_ | refine r_eNot ?_ | refine r_isN ?_ | refine r_mt ?_ | refine r_tr ?_ | refine r_ss ?_ | refine r_dict0 ?_ | refine r_yes ?_ | refine r_isi ?_ | refine r_ty (by with_unfolding_all rfl) ?_ | refine r_ixT (by with_unfolding_all rfl) ?_ | refine r_ixE (by with_unfolding_all rfl) (by with_unfolding_all rfl) ?_ | refine r_ixL (by assumption) (by with_unfolding_all rfl) ?_ | refine r_addI ?_ | refine r_intF ?_ | refine r_intCF (by first | decide | exact cmul_r (by decide) | exact cmul_l (by decide)) ?_ | refine r_eqI ?_ | refine r_neI ?_ | refine r_eqS ?_ | refine r_neS ?_ | refine r_eqB ?_ | refine r_neB ?_ | refine r_int ?_ | refine r_drop ?_ | refine r_sub ?_ | refine r_gTp (by with_unfolding_all rfl) ?_ | refine r_gsCons ?_ | refine r_gsNil ?_ | refine r_for ?_ | refine r_lc ?_ | refine r_dc ?_ | refine r_iRg1 ?_ | refine r_inT (by with_unfolding_all rfl) (by with_unfolding_all rfl) ?_)
        exact hQ S1 _ ks e1 (Nat.le_refl _) h1 h2 fun j => by rw [h3]; simp [sem]
    | is i =>
      obtain ⟨m1, m2⟩ := mark_at hw hs
      (repeat with_reducible first | refine r_seq ?_ | refine r_asg ?_ | refine r_nm ?_ | refine r_var (by with_unfolding_all rfl) ?_ | refine r_c ?_ | refine r_aCons ?_ | refine r_aNil ?_ | refine r_op ?_ | refine r_call ?_ | refine r_val ?_ | refine r_bl ?_ | refine r_if ?_ | refine r_ret ?_ | refine r_next ?_ | refine r_ifT (by first | decide | (with_unfolding_all rfl)) ?_ | refine r_ifF (by first | decide | (with_unfolding_all rfl)) ?_ | refine r_tup ?_ | refine r_lst ?_ | refine r_le (Nat.le_of_ble_eq_true (by with_unfolding_all rfl)) ?_ | refine r_cb ?_ | refine r_and ?_ | refine r_or ?_ | refine r_not ?_ | refine r_eIf ?_ | refine r_eAnd ?_ | refine r_eOr ?_ | refine r_eNot ?_ | refine r_isN ?_ | refine r_mt ?_ | refine r_tr ?_ | refine r_ss ?_ | refine r_dict0 ?_ | refine r_yes ?_ | refine r_isi ?_ | refine r_ty (by with_unfolding_all rfl) ?_ | refine r_ixT (by with_unfolding_all rfl) ?_ | refine r_ixE (by with_unfolding_all rfl) (by with_unfolding_all rfl) ?_ | refine r_ixL (by assumption) (by with_unfolding_all rfl) ?_ | refine r_addI ?_ | refine r_intF ?_ | refine r_intCF (by first | decide | exact cmul_r (by decide) | exact cmul_l (by decide)) ?_ | refine r_eqI ?_ | refine r_neI ?_ | refine r_eqS ?_ | refine r_neS ?_ | refine r_eqB ?_ | refine r_neB ?_ | refine r_int ?_ | refine r_drop ?_ | refine r_sub ?_ | refine r_gTp (by with_unfolding_all rfl) ?_ | refine r_gsCons ?_ | refine r_gsNil ?_ | refine r_for ?_ | refine r_lc ?_ | refine r_dc ?_ | refine r_iRg1 ?_ | refine r_inT (by with_unfolding_all rfl) (by with_unfolding_all rfl) ?_)
      refine r_rg (by omega) (by omega) fun few => ?_
      rw [rng_map']
      refine dc_set (List.range w.n) (fun k => decide (k ∈ w.marks.getD i [])) (by simp [sizeLine]; omega) (fun _ => rfl) (fun _ _ => trivial) (fun x hx S1 P e1 hP => ?_) fun S1 ks e1 h1 h2 h3 => ?_
      · (repeat with_reducible first | refine r_seq ?_ | refine r_asg ?_ | refine r_nm ?_ | refine r_var (by with_unfolding_all rfl) ?_ | refine r_c ?_ | refine r_aCons ?_ | refine r_aNil ?_ | refine r_op ?_ | refine r_call ?_ | refine r_val ?_ | refine r_bl ?_ | refine r_if ?_ | refine r_ret ?_ | refine r_next ?_ | refine r_ifT (by first | decide | (with_unfolding_all rfl)) ?_ | refine r_ifF (by first | decide | (with_unfolding_all rfl)) ?_ | refine r_tup ?_ | refine r_lst ?_ | refine r_le (Nat.le_of_ble_eq_true (by with_unfolding_all rfl)) ?_ | refine r_cb ?_ | refine r_and ?_ | refine r_or ?_ | refine r_not ?_ | refine r_eIf ?_ | refine r_eAnd ?_ | refine r_eOr ?_ | refine r_eNot ?_ | refine r_isN ?_ | refine r_mt ?_ | refine r_tr ?_ | refine r_ss ?_ | refine r_dict0 ?_ | refine r_yes ?_ | refine r_isi ?_ | refine r_ty (by with_unfolding_all rfl) ?_ | refine r_ixT (by with_unfolding_all rfl) ?_ | refine r_ixE (by with_unfolding_all rfl) (by with_unfolding_all rfl) ?_ | refine r_ixL (by assumption) (by with_unfolding_all rfl) ?_ | refine r_addI ?_ | refine r_intF ?_ | refine r_intCF (by first | decide | exact cmul_r (by decide) | exact cmul_l (by decide)) ?_ | refine r_eqI ?_ | refine r_neI ?_ | refine r_eqS ?_ | refine r_neS ?_ | refine r_eqB ?_ | refine r_neB ?_ | refine r_int ?_ | refine r_drop ?_ | refine r_sub ?_ | refine r_gTp (by with_unfolding_all rfl) ?_ | refine r_gsCons ?_ | refine r_gsNil ?_ | refine r_for ?_ | refine r_lc ?_ | refine r_dc ?_ | refine r_iRg1 ?_ | refine r_inT (by with_unfolding_all rfl) (by with_unfolding_all rfl) ?_)
        refine r_ixT m1 ?_
        refine r_inT rfl (flat_nat _) ?_
        rw [mem_nat]
        (repeat with_reducible first | refine r_seq ?_ | refine r_asg ?_ | refine r_nm ?_ | refine r_var (by with_unfolding_all rfl) ?_ | refine r_c ?_ | refine r_aCons ?_ | refine r_aNil ?_ | refine r_op ?_ | refine r_call ?_ | refine r_val ?_ | refine r_bl ?_ | refine r_if ?_ | refine r_ret ?_ | refine r_next ?_ | refine r_ifT (by first | decide | (with_unfolding_all rfl)) ?_ | refine r_ifF (by first | decide | (with_unfolding_all rfl)) ?_ | refine r_tup ?_ | refine r_lst ?_ | refine r_le (Nat.le_of_ble_eq_true (by with_unfolding_all rfl)) ?_ | refine r_cb ?_ | refine r_and ?_ | refine r_or ?_ | refine r_not ?_ | refine r_eIf ?_ | refine r_eAnd ?_ | refine r_eOr ?_ | refine r_eNot ?_ | refine r_isN ?_ | refine r_mt ?_ | refine r_tr ?_ | refine r_ss ?_ | refine r_dict0 ?_ | refine r_yes ?_ | refine r_isi ?_ | refine r_ty (by with_unfolding_all rfl) ?_ | refine r_ixT (by with_unfolding_all rfl) ?_ | refine r_ixE (by with_unfolding_all rfl) (by with_unfolding_all rfl) ?_ | refine r_ixL (by assumption) (by with_unfolding_all rfl) ?_ | refine r_addI ?_ | refine r_intF ?_ | refine r_intCF (by first | decide | exact cmul_r (by decide) | exact cmul_l (by decide)) ?_ | refine r_eqI ?_ | refine r_neI ?_ | refine r_eqS ?_ | refine r_neS ?_ | refine r_eqB ?_ | refine r_neB ?_ | refine r_int ?_ | refine r_drop ?_ | refine r_sub ?_ | refine r_gTp (by with_unfolding_all rfl) ?_ | refine r_gsCons ?_ | refine r_gsNil ?_ | refine r_for ?_ | refine r_lc ?_ | refine r_dc ?_ | refine r_iRg1 ?_ | refine r_inT (by with_unfolding_all rfl) (by with_unfolding_all rfl) ?_)
        have := hP S1 (.refl _)
        simpa using this
      · (repeat with_reducible first | refine r_seq ?_ | refine r_asg ?_ | refine r_nm ?_ | refine r_var (by with_unfolding_all rfl) ?_ | refine r_c ?_ | refine r_aCons ?_ | refine r_aNil ?_ | refine r_op ?_ | refine r_call ?_ | refine r_val ?_ | refine r_bl ?_ | refine r_if ?_ | refine r_ret ?_ | refine r_next ?_ | refine r_ifT (by first | decide | (with_unfolding_all rfl)) ?_ | refine r_ifF (by first | decide | (with_unfolding_all rfl)) ?_ | refine r_tup ?_ | refine r_lst ?_ | refine r_le (Nat.le_of_ble_eq_true (by with_unfolding_all rfl)) ?_ | refine r_cb ?_ | refine r_and ?_ | refine r_or ?_ | refine r_not ?_ | refine r_eIf ?_ | refine r_eAnd ?_ | refine r_eOr ?_ | refine r_eNot ?_ | refine r_isN ?_ | refine r_mt ?_ | refine r_tr ?_ | refine r_ss ?_ | refine r_dict0 ?_ | refine r_yes ?_ | refine r_isi ?_ | refine r_ty (by with_unfolding_all rfl) ?_ | refine r_ixT (by with_unfolding_all rfl) ?_ | refine r_ixE (by with_unfolding_all rfl) (by with_unfolding_all rfl) ?_ | refine r_ixL (by assumption) (by with_unfolding_all rfl) ?_ | refine r_addI ?_ | refine r_intF ?_ | refine r_intCF (by first | decide | exact cmul_r (by decide) | exact cmul_l (by decide)) ?_ | refine r_eqI ?_ | refine r_neI ?_ | refine r_eqS ?_ | refine r_neS ?_ | refine r_eqB ?_ | refine r_neB ?_ | refine r_int ?_ | refine r_drop ?_ | refine r_sub ?_ | refine r_gTp (by with_unfolding_all rfl) ?_ | refine r_gsCons ?_ | refine r_gsNil ?_ | refine r_for ?_ | refine r_lc ?_ | refine r_dc ?_ | refine r_iRg1 ?_ | refine r_inT (by with_unfolding_all rfl) (by with_unfolding_all rfl) ?_)
        exact hQ S1 _ ks e1 (Nat.le_refl _) h1 h2 fun j => by rw [h3]; simp [sem, mem_canon]
    | isnt i =>
      obtain ⟨m1, m2⟩ := mark_at hw hs
      (repeat with_reducible first | refine r_seq ?_ | refine r_asg ?_ | refine r_nm ?_ | refine r_var (by with_unfolding_all rfl) ?_ | refine r_c ?_ | refine r_aCons ?_ | refine r_aNil ?_ | refine r_op ?_ | refine r_call ?_ | refine r_val ?_ | refine r_bl ?_ | refine r_if ?_ | refine r_ret ?_ | refine r_next ?_ | refine r_ifT (by first | decide | (with_unfolding_all rfl)) ?_ | refine r_ifF (by first | decide | (with_unfolding_all rfl)) ?_ | refine r_tup ?_ | refine r_lst ?_ | refine r_le (Nat.le_of_ble_eq_true (by with_unfolding_all rfl)) ?_ | refine r_cb ?_ | refine r_and ?_ | refine r_or ?_ | refine r_not ?_ | refine r_eIf ?_ | refine r_eAnd ?_ | refine r_eOr ?_ | refine r_eNot ?_ | refine r_isN ?_ | refine r_mt ?_ | refine r_tr ?_ | refine r_ss ?_ | refine r_dict0 ?_ | refine r_yes ?_ | refine r_isi ?_ | refine r_ty (by with_unfolding_all rfl) ?_ | refine r_ixT (by with_unfolding_all rfl) ?_ | refine r_ixE (by with_unfolding_all rfl) (by with_unfolding_all rfl) ?_ | refine r_ixL (by assumption) (by with_unfolding_all rfl) ?_ | refine r_addI ?_ | refine r_intF ?_ | refine r_intCF (by first | decide | exact cmul_r (by decide) | exact cmul_l (by decide)) ?_ | refine r_eqI ?_ | refine r_neI ?_ | refine r_eqS ?_ | refine r_neS ?_ | refine r_eqB ?_ | refine r_neB ?_ | refine r_int ?_ | refine r_drop ?_ | refine r_sub ?_ | refine r_gTp (by with_unfolding_all rfl) ?_ | refine r_gsCons ?_ | refine r_gsNil ?_ | refine r_for ?_ | refine r_lc ?_ | refine r_dc ?_ | refine r_iRg1 ?_ | refine r_inT (by with_unfolding_all rfl) (by with_unfolding_all rfl) ?_)
      refine r_rg (by omega) (by omega) fun few => ?_
      rw [rng_map']
      refine dc_set (List.range w.n) (fun k => !decide (k ∈ w.marks.getD i [])) (by simp [sizeLine]; omega) (fun _ => rfl) (fun _ _ => trivial) (fun x hx S1 P e1 hP => ?_) fun S1 ks e1 h1 h2 h3 => ?_
      · (repeat with_reducible first | refine r_seq ?_ | refine r_asg ?_ | refine r_nm ?_ | refine r_var (by with_unfolding_all rfl) ?_ | refine r_c ?_ | refine r_aCons ?_ | refine r_aNil ?_ | refine r_op ?_ | refine r_call ?_ | refine r_val ?_ | refine r_bl ?_ | refine r_if ?_ | refine r_ret ?_ | refine r_next ?_ | refine r_ifT (by first | decide | (with_unfolding_all rfl)) ?_ | refine r_ifF (by first | decide | (with_unfolding_all rfl)) ?_ | refine r_tup ?_ | refine r_lst ?_ | refine r_le (Nat.le_of_ble_eq_true (by with_unfolding_all rfl)) ?_ | refine r_cb ?_ | refine r_and ?_ | refine r_or ?_ | refine r_not ?_ | refine r_eIf ?_ | refine r_eAnd ?_ | refine r_eOr ?_ | refine r_eNot ?_ | refine r_isN ?_ | refine r_mt ?_ | refine r_tr ?_ | refine r_ss ?_ | refine r_dict0 ?_ | refine r_yes ?_ | refine r_isi ?_ | refine r_ty (by with_unfolding_all rfl) ?_ | refine r_ixT (by with_unfolding_all rfl) ?_ | refine r_ixE (by with_unfolding_all rfl) (by with_unfolding_all rfl) ?_ | refine r_ixL (by assumption) (by with_unfolding_all rfl) ?_ | refine r_addI ?_ | refine r_intF ?_ | refine r_intCF (by first | decide | exact cmul_r (by decide) | exact cmul_l (by decide)) ?_ | refine r_eqI ?_ | refine r_neI ?_ | refine r_eqS ?_ | refine r_neS ?_ | refine r_eqB ?_ | refine r_neB ?_ | refine r_int ?_ | refine r_drop ?_ | refine r_sub ?_ | refine r_gTp (by with_unfolding_all rfl) ?_ | refine r_gsCons ?_ | refine r_gsNil ?_ | refine r_for ?_ | refine r_lc ?_ | refine r_dc ?_ | refine r_iRg1 ?_ | refine r_inT (by with_unfolding_all rfl) (by with_unfolding_all rfl) ?_)
        refine r_ixT m1 ?_
        refine r_inT rfl (flat_nat _) ?_
        rw [mem_nat]
        (repeat with_reducible first | refine r_seq ?_ | refine r_asg ?_ | refine r_nm ?_ | refine r_var (by with_unfolding_all rfl) ?_ | refine r_c ?_ | refine r_aCons ?_ | refine r_aNil ?_ | refine r_op ?_ | refine r_call ?_ | refine r_val ?_ | refine r_bl ?_ | refine r_if ?_ | refine r_ret ?_ | refine r_next ?_ | refine r_ifT (by first | decide | (with_unfolding_all rfl)) ?_ | refine r_ifF (by first | decide | (with_unfolding_all rfl)) ?_ | refine r_tup ?_ | refine r_lst ?_ | refine r_le (Nat.le_of_ble_eq_true (by with_unfolding_all rfl)) ?_ | refine r_cb ?_ | refine r_and ?_ | refine r_or ?_ | refine r_not ?_ | refine r_eIf ?_ | refine r_eAnd ?_ | refine r_eOr ?_ | refine r_eNot ?_ | refine r_isN ?_ | refine r_mt ?_ | refine r_tr ?_ | refine r_ss ?_ | refine r_dict0 ?_ | refine r_yes ?_ | refine r_isi ?_ | refine r_ty (by with_unfolding_all rfl) ?_ | refine r_ixT (by with_unfolding_all rfl) ?_ | refine r_ixE (by with_unfolding_all rfl) (by with_unfolding_all rfl) ?_ | refine r_ixL (by assumption) (by with_unfolding_all rfl) ?_ | refine r_addI ?_ | refine r_intF ?_ | refine r_intCF (by first | decide | exact cmul_r (by decide) | exact cmul_l (by decide)) ?_ | refine r_eqI ?_ | refine r_neI ?_ | refine r_eqS ?_ | refine r_neS ?_ | refine r_eqB ?_ | refine r_neB ?_ | refine r_int ?_ | refine r_drop ?_ | refine r_sub ?_ | refine r_gTp (by with_unfolding_all rfl) ?_ | refine r_gsCons ?_ | refine r_gsNil ?_ | refine r_for ?_ | refine r_lc ?_ | refine r_dc ?_ | refine r_iRg1 ?_ | refine r_inT (by with_unfolding_all rfl) (by with_unfolding_all rfl) ?_)
        have := hP S1 (.refl _)
        simpa [show (Str.ofString "isnt" = Str.ofString "is") = False from by simp; decide] using this
      · (repeat with_reducible first | refine r_seq ?_ | refine r_asg ?_ | refine r_nm ?_ | refine r_var (by with_unfolding_all rfl) ?_ | refine r_c ?_ | refine r_aCons ?_ | refine r_aNil ?_ | refine r_op ?_ | refine r_call ?_ | refine r_val ?_ | refine r_bl ?_ | refine r_if ?_ | refine r_ret ?_ | refine r_next ?_ | refine r_ifT (by first | decide | (with_unfolding_all rfl)) ?_ | refine r_ifF (by first | decide | (with_unfolding_all rfl)) ?_ | refine r_tup ?_ | refine r_lst ?_ | refine r_le (Nat.le_of_ble_eq_true (by with_unfolding_all rfl)) ?_ | refine r_cb ?_ | refine r_and ?_ | refine r_or ?_ | refine r_not ?_ | refine r_eIf ?_ | refine r_eAnd ?_ | refine r_eOr ?_ | refine r_eNot ?_ | refine r_isN ?_ | refine r_mt ?_ | refine r_tr ?_ | refine r_ss ?_ | refine r_dict0 ?_ | refine r_yes ?_ | refine r_isi ?_ | refine r_ty (by with_unfolding_all rfl) ?_ | refine r_ixT (by with_unfolding_all rfl) ?_ | refine r_ixE (by with_unfolding_all rfl) (by with_unfolding_all rfl) ?_ | refine r_ixL (by assumption) (by with_unfolding_all rfl) ?_ | refine r_addI ?_ | refine r_intF ?_ | refine r_intCF (by first | decide | exact cmul_r (by decide) | exact cmul_l (by decide)) ?_ | refine r_eqI ?_ | refine r_neI ?_ | refine r_eqS ?_ | refine r_neS ?_ | refine r_eqB ?_ | refine r_neB ?_ | refine r_int ?_ | refine r_drop ?_ | refine r_sub ?_ | refine r_gTp (by with_unfolding_all rfl) ?_ | refine r_gsCons ?_ | refine r_gsNil ?_ | refine r_for ?_ | refine r_lc ?_ | refine r_dc ?_ | refine r_iRg1 ?_ | refine r_inT (by with_unfolding_all rfl) (by with_unfolding_all rfl) ?_)
        exact hQ S1 _ ks e1 (Nat.le_refl _) h1 h2 fun j => by rw [h3]; simp [sem, mem_canon]
    | name x =>
      have hx := (hρ x).le
      (repeat with_reducible first | refine r_seq ?_ | refine r_asg ?_ | refine r_nm ?_ | refine r_var (by with_unfolding_all rfl) ?_ | refine r_c ?_ | refine r_aCons ?_ | refine r_aNil ?_ | refine r_op ?_ | refine r_call ?_ | refine r_val ?_ | refine r_bl ?_ | refine r_if ?_ | refine r_ret ?_ | refine r_next ?_ | refine r_ifT (by first | decide | (with_unfolding_all rfl)) ?_ | refine r_ifF (by first | decide | (with_unfolding_all rfl)) ?_ | refine r_tup ?_ | refine r_lst ?_ | refine r_le (Nat.le_of_ble_eq_true (by with_unfolding_all rfl)) ?_ | refine r_cb ?_ | refine r_and ?_ | refine r_or ?_ | refine r_not ?_ | refine r_eIf ?_ | refine r_eAnd ?_ | refine r_eOr ?_ | refine r_eNot ?_ | refine r_isN ?_ | refine r_mt ?_ | refine r_tr ?_ | refine r_ss ?_ | refine r_dict0 ?_ | refine r_yes ?_ | refine r_isi ?_ | refine r_ty (by with_unfolding_all rfl) ?_ | refine r_ixT (by with_unfolding_all rfl) ?_ | refine r_ixE (by with_unfolding_all rfl) (by with_unfolding_all rfl) ?_ | refine r_ixL (by assumption) (by with_unfolding_all rfl) ?_ | refine r_addI ?_ | refine r_intF ?_ | refine r_intCF (by first | decide | exact cmul_r (by decide) | exact cmul_l (by decide)) ?_ | refine r_eqI ?_ | refine r_neI ?_ | refine r_eqS ?_ | refine r_neS ?_ | refine r_eqB ?_ | refine r_neB ?_ | refine r_int ?_ | refine r_drop ?_ | refine r_sub ?_ | refine r_gTp (by with_unfolding_all rfl) ?_ | refine r_gsCons ?_ | refine r_gsNil ?_ | refine r_for ?_ | refine r_lc ?_ | refine r_dc ?_ | refine r_iRg1 ?_ | refine r_inT (by with_unfolding_all rfl) (by with_unfolding_all rfl) ?_)
      refine r_iTup ?_
      (repeat with_reducible first | refine r_seq ?_ | refine r_asg ?_ | refine r_nm ?_ | refine r_var (by with_unfolding_all rfl) ?_ | refine r_c ?_ | refine r_aCons ?_ | refine r_aNil ?_ | refine r_op ?_ | refine r_call ?_ | refine r_val ?_ | refine r_bl ?_ | refine r_if ?_ | refine r_ret ?_ | refine r_next ?_ | refine r_ifT (by first | decide | (with_unfolding_all rfl)) ?_ | refine r_ifF (by first | decide | (with_unfolding_all rfl)) ?_ | refine r_tup ?_ | refine r_lst ?_ | refine r_le (Nat.le_of_ble_eq_true (by with_unfolding_all rfl)) ?_ | refine r_cb ?_ | refine r_and ?_ | refine r_or ?_ | refine r_not ?_ | refine r_eIf ?_ | refine r_eAnd ?_ | refine r_eOr ?_ | refine r_eNot ?_ | refine r_isN ?_ | refine r_mt ?_ | refine r_tr ?_ | refine r_ss ?_ | refine r_dict0 ?_ | refine r_yes ?_ | refine r_isi ?_ | refine r_ty (by with_unfolding_all rfl) ?_ | refine r_ixT (by with_unfolding_all rfl) ?_ | refine r_ixE (by with_unfolding_all rfl) (by with_unfolding_all rfl) ?_ | refine r_ixL (by assumption) (by with_unfolding_all rfl) ?_ | refine r_addI ?_ | refine r_intF ?_ | refine r_intCF (by first | decide | exact cmul_r (by decide) | exact cmul_l (by decide)) ?_ | refine r_eqI ?_ | refine r_neI ?_ | refine r_eqS ?_ | refine r_neS ?_ | refine r_eqB ?_ | refine r_neB ?_ | refine r_int ?_ | refine r_drop ?_ | refine r_sub ?_ | refine r_gTp (by with_unfolding_all rfl) ?_ | refine r_gsCons ?_ | refine r_gsNil ?_ | refine r_for ?_ | refine r_lc ?_ | refine r_dc ?_ | refine r_iRg1 ?_ | refine r_inT (by with_unfolding_all rfl) (by with_unfolding_all rfl) ?_)
      refine r_ixD hpl rfl (hN x hs) ?_
      refine ⟨_, rfl, ?_⟩
      intro few
      refine dc_set (ρ x) (fun _ => true) (by simp [sizeLine]; omega) (fun _ => rfl) (fun _ _ => trivial) (fun x hx S1 P e1 hP => ?_) fun S1 ks e1 h1 h2 h3 => ?_
      · (repeat with_reducible first | refine r_seq ?_ | refine r_asg ?_ | refine r_nm ?_ | refine r_var (by with_unfolding_all rfl) ?_ | refine r_c ?_ | refine r_aCons ?_ | refine r_aNil ?_ | refine r_op ?_ | refine r_call ?_ | refine r_val ?_ | refine r_bl ?_ | refine r_if ?_ | refine r_ret ?_ | refine r_next ?_ | refine r_ifT (by first | decide | (with_unfolding_all rfl)) ?_ | refine r_ifF (by first | decide | (with_unfolding_all rfl)) ?_ | refine r_tup ?_ | refine r_lst ?_ | refine r_le (Nat.le_of_ble_eq_true (by with_unfolding_all rfl)) ?_ | refine r_cb ?_ | refine r_and ?_ | refine r_or ?_ | refine r_not ?_ | refine r_eIf ?_ | refine r_eAnd ?_ | refine r_eOr ?_ | refine r_eNot ?_ | refine r_isN ?_ | refine r_mt ?_ | refine r_tr ?_ | refine r_ss ?_ | refine r_dict0 ?_ | refine r_yes ?_ | refine r_isi ?_ | refine r_ty (by with_unfolding_all rfl) ?_ | refine r_ixT (by with_unfolding_all rfl) ?_ | refine r_ixE (by with_unfolding_all rfl) (by with_unfolding_all rfl) ?_ | refine r_ixL (by assumption) (by with_unfolding_all rfl) ?_ | refine r_addI ?_ | refine r_intF ?_ | refine r_intCF (by first | decide | exact cmul_r (by decide) | exact cmul_l (by decide)) ?_ | refine r_eqI ?_ | refine r_neI ?_ | refine r_eqS ?_ | refine r_neS ?_ | refine r_eqB ?_ | refine r_neB ?_ | refine r_int ?_ | refine r_drop ?_ | refine r_sub ?_ | refine r_gTp (by with_unfolding_all rfl) ?_ | refine r_gsCons ?_ | refine r_gsNil ?_ | refine r_for ?_ | refine r_lc ?_ | refine r_dc ?_ | refine r_iRg1 ?_ | refine r_inT (by with_unfolding_all rfl) (by with_unfolding_all rfl) ?_)
        exact hP _ (.refl _)
      · (repeat with_reducible first | refine r_seq ?_ | refine r_asg ?_ | refine r_nm ?_ | refine r_var (by with_unfolding_all rfl) ?_ | refine r_c ?_ | refine r_aCons ?_ | refine r_aNil ?_ | refine r_op ?_ | refine r_call ?_ | refine r_val ?_ | refine r_bl ?_ | refine r_if ?_ | refine r_ret ?_ | refine r_next ?_ | refine r_ifT (by first | decide | (with_unfolding_all rfl)) ?_ | refine r_ifF (by first | decide | (with_unfolding_all rfl)) ?_ | refine r_tup ?_ | refine r_lst ?_ | refine r_le (Nat.le_of_ble_eq_true (by with_unfolding_all rfl)) ?_ | refine r_cb ?_ | refine r_and ?_ | refine r_or ?_ | refine r_not ?_ | refine r_eIf ?_ | refine r_eAnd ?_ | refine r_eOr ?_ | refine r_eNot ?_ | refine r_isN ?_ | refine r_mt ?_ | refine r_tr ?_ | refine r_ss ?_ | refine r_dict0 ?_ | refine r_yes ?_ | refine r_isi ?_ | refine r_ty (by with_unfolding_all rfl) ?_ | refine r_ixT (by with_unfolding_all rfl) ?_ | refine r_ixE (by with_unfolding_all rfl) (by with_unfolding_all rfl) ?_ | refine r_ixL (by assumption) (by with_unfolding_all rfl) ?_ | refine r_addI ?_ | refine r_intF ?_ | refine r_intCF (by first | decide | exact cmul_r (by decide) | exact cmul_l (by decide)) ?_ | refine r_eqI ?_ | refine r_neI ?_ | refine r_eqS ?_ | refine r_neS ?_ | refine r_eqB ?_ | refine r_neB ?_ | refine r_int ?_ | refine r_drop ?_ | refine r_sub ?_ | refine r_gTp (by with_unfolding_all rfl) ?_ | refine r_gsCons ?_ | refine r_gsNil ?_ | refine r_for ?_ | refine r_lc ?_ | refine r_dc ?_ | refine r_iRg1 ?_ | refine r_inT (by with_unfolding_all rfl) (by with_unfolding_all rfl) ?_)
        exact hQ S1 _ ks e1 (Nat.le_refl _) h1 h2 fun j => by rw [h3]; simp [sem]
    | both a b =>
      have hd' : max a.dp b.dp + 1 ≤ k + 1 := hd
      (repeat with_reducible first | refine r_seq ?_ | refine r_asg ?_ | refine r_nm ?_ | refine r_var (by with_unfolding_all rfl) ?_ | refine r_c ?_ | refine r_aCons ?_ | refine r_aNil ?_ | refine r_op ?_ | refine r_call ?_ | refine r_val ?_ | refine r_bl ?_ | refine r_if ?_ | refine r_ret ?_ | refine r_next ?_ | refine r_ifT (by first | decide | (with_unfolding_all rfl)) ?_ | refine r_ifF (by first | decide | (with_unfolding_all rfl)) ?_ | refine r_tup ?_ | refine r_lst ?_ | refine r_le (Nat.le_of_ble_eq_true (by with_unfolding_all rfl)) ?_ | refine r_cb ?_ | refine r_and ?_ | refine r_or ?_ | refine r_not ?_ | refine r_eIf ?_ | refine r_eAnd ?_ | refine r_eOr ?_ | refine r_eNot ?_ | refine r_isN ?_ | refine r_mt ?_ | refine r_tr ?_ | refine r_ss ?_ | refine r_dict0 ?_ | refine r_yes ?_ | refine r_isi ?_ | refine r_ty (by with_unfolding_all rfl) ?_ | refine r_ixT (by with_unfolding_all rfl) ?_ | refine r_ixE (by with_unfolding_all rfl) (by with_unfolding_all rfl) ?_ | refine r_ixL (by assumption) (by with_unfolding_all rfl) ?_ | refine r_addI ?_ | refine r_intF ?_ | refine r_intCF (by first | decide | exact cmul_r (by decide) | exact cmul_l (by decide)) ?_ | refine r_eqI ?_ | refine r_neI ?_ | refine r_eqS ?_ | refine r_neS ?_ | refine r_eqB ?_ | refine r_neB ?_ | refine r_int ?_ | refine r_drop ?_ | refine r_sub ?_ | refine r_gTp (by with_unfolding_all rfl) ?_ | refine r_gsCons ?_ | refine r_gsNil ?_ | refine r_for ?_ | refine r_lc ?_ | refine r_dc ?_ | refine r_iRg1 ?_ | refine r_inT (by with_unfolding_all rfl) (by with_unfolding_all rfl) ?_)
      refine found_spec hw hn k a sc ρ S pl kvs _ (by omega) hs.1 hρ hpl (by omega) hN fun S1 r1 k1 e1 l1 h1 n1 i1 => ?_
      (repeat with_reducible first | refine r_seq ?_ | refine r_asg ?_ | refine r_nm ?_ | refine r_var (by with_unfolding_all rfl) ?_ | refine r_c ?_ | refine r_aCons ?_ | refine r_aNil ?_ | refine r_op ?_ | refine r_call ?_ | refine r_val ?_ | refine r_bl ?_ | refine r_if ?_ | refine r_ret ?_ | refine r_next ?_ | refine r_ifT (by first | decide | (with_unfolding_all rfl)) ?_ | refine r_ifF (by first | decide | (with_unfolding_all rfl)) ?_ | refine r_tup ?_ | refine r_lst ?_ | refine r_le (Nat.le_of_ble_eq_true (by with_unfolding_all rfl)) ?_ | refine r_cb ?_ | refine r_and ?_ | refine r_or ?_ | refine r_not ?_ | refine r_eIf ?_ | refine r_eAnd ?_ | refine r_eOr ?_ | refine r_eNot ?_ | refine r_isN ?_ | refine r_mt ?_ | refine r_tr ?_ | refine r_ss ?_ | refine r_dict0 ?_ | refine r_yes ?_ | refine r_isi ?_ | refine r_ty (by with_unfolding_all rfl) ?_ | refine r_ixT (by with_unfolding_all rfl) ?_ | refine r_ixE (by with_unfolding_all rfl) (by with_unfolding_all rfl) ?_ | refine r_ixL (by assumption) (by with_unfolding_all rfl) ?_ | refine r_addI ?_ | refine r_intF ?_ | refine r_intCF (by first | decide | exact cmul_r (by decide) | exact cmul_l (by decide)) ?_ | refine r_eqI ?_ | refine r_neI ?_ | refine r_eqS ?_ | refine r_neS ?_ | refine r_eqB ?_ | refine r_neB ?_ | refine r_int ?_ | refine r_drop ?_ | refine r_sub ?_ | refine r_gTp (by with_unfolding_all rfl) ?_ | refine r_gsCons ?_ | refine r_gsNil ?_ | refine r_for ?_ | refine r_lc ?_ | refine r_dc ?_ | refine r_iRg1 ?_ | refine r_inT (by with_unfolding_all rfl) (by with_unfolding_all rfl) ?_)
      refine found_spec hw hn k b sc ρ S1 pl kvs _ (by omega) hs.2 hρ (dict_ext e1 hpl) (by omega) hN fun S2 r2 k2 e2 l2 h2 n2 i2 => ?_
      (repeat with_reducible first | refine r_seq ?_ | refine r_asg ?_ | refine r_nm ?_ | refine r_var (by with_unfolding_all rfl) ?_ | refine r_c ?_ | refine r_aCons ?_ | refine r_aNil ?_ | refine r_op ?_ | refine r_call ?_ | refine r_val ?_ | refine r_bl ?_ | refine r_if ?_ | refine r_ret ?_ | refine r_next ?_ | refine r_ifT (by first | decide | (with_unfolding_all rfl)) ?_ | refine r_ifF (by first | decide | (with_unfolding_all rfl)) ?_ | refine r_tup ?_ | refine r_lst ?_ | refine r_le (Nat.le_of_ble_eq_true (by with_unfolding_all rfl)) ?_ | refine r_cb ?_ | refine r_and ?_ | refine r_or ?_ | refine r_not ?_ | refine r_eIf ?_ | refine r_eAnd ?_ | refine r_eOr ?_ | refine r_eNot ?_ | refine r_isN ?_ | refine r_mt ?_ | refine r_tr ?_ | refine r_ss ?_ | refine r_dict0 ?_ | refine r_yes ?_ | refine r_isi ?_ | refine r_ty (by with_unfolding_all rfl) ?_ | refine r_ixT (by with_unfolding_all rfl) ?_ | refine r_ixE (by with_unfolding_all rfl) (by with_unfolding_all rfl) ?_ | refine r_ixL (by assumption) (by with_unfolding_all rfl) ?_ | refine r_addI ?_ | refine r_intF ?_ | refine r_intCF (by first | decide | exact cmul_r (by decide) | exact cmul_l (by decide)) ?_ | refine r_eqI ?_ | refine r_neI ?_ | refine r_eqS ?_ | refine r_neS ?_ | refine r_eqB ?_ | refine r_neB ?_ | refine r_int ?_ | refine r_drop ?_ | refine r_sub ?_ | refine r_gTp (by with_unfolding_all rfl) ?_ | refine r_gsCons ?_ | refine r_gsNil ?_ | refine r_for ?_ | refine r_lc ?_ | refine r_dc ?_ | refine r_iRg1 ?_ | refine r_inT (by with_unfolding_all rfl) (by with_unfolding_all rfl) ?_)
      have h1' := e2 _ _ h1
      have ne : r1 ≠ r2 := fun e => by
        have := (List.getElem?_eq_some_iff.mp h1).1
        omega
      refine ⟨r1, _, rfl, h1', ?_⟩
      have sub1 : ∀ j ∈ k1, j < w.n := fun j hj => (sem_ok w a ρ hρ).2 j ((i1 j).mp hj)
      have hk1 : k1.length ≤ w.n := by
        have := subset_len (ls := List.range w.n) n1 fun j hj => List.mem_range.mpr (sub1 j hj)
        simpa using this
      refine ⟨r1, _, rfl, set_at h1', ?_⟩
      rw [setD_keys]
      intro few
      refine dc_set k1 (fun j => decide (j ∈ k2)) (by simp [sizeLine]; omega) (fun _ => rfl) (fun S3 e3 => e3 _ _ (set_at h1')) (fun x hx S3 P e3 hP => ?_) fun S3 ks e3 h3 n3 i3 => ?_
      · (repeat with_reducible first | refine r_seq ?_ | refine r_asg ?_ | refine r_nm ?_ | refine r_var (by with_unfolding_all rfl) ?_ | refine r_c ?_ | refine r_aCons ?_ | refine r_aNil ?_ | refine r_op ?_ | refine r_call ?_ | refine r_val ?_ | refine r_bl ?_ | refine r_if ?_ | refine r_ret ?_ | refine r_next ?_ | refine r_ifT (by first | decide | (with_unfolding_all rfl)) ?_ | refine r_ifF (by first | decide | (with_unfolding_all rfl)) ?_ | refine r_tup ?_ | refine r_lst ?_ | refine r_le (Nat.le_of_ble_eq_true (by with_unfolding_all rfl)) ?_ | refine r_cb ?_ | refine r_and ?_ | refine r_or ?_ | refine r_not ?_ | refine r_eIf ?_ | refine r_eAnd ?_ | refine r_eOr ?_ | refine r_eNot ?_ | refine r_isN ?_ | refine r_mt ?_ | refine r_tr ?_ | refine r_ss ?_ | refine r_dict0 ?_ | refine r_yes ?_ | refine r_isi ?_ | refine r_ty (by with_unfolding_all rfl) ?_ | refine r_ixT (by with_unfolding_all rfl) ?_ | refine r_ixE (by with_unfolding_all rfl) (by with_unfolding_all rfl) ?_ | refine r_ixL (by assumption) (by with_unfolding_all rfl) ?_ | refine r_addI ?_ | refine r_intF ?_ | refine r_intCF (by first | decide | exact cmul_r (by decide) | exact cmul_l (by decide)) ?_ | refine r_eqI ?_ | refine r_neI ?_ | refine r_eqS ?_ | refine r_neS ?_ | refine r_eqB ?_ | refine r_neB ?_ | refine r_int ?_ | refine r_drop ?_ | refine r_sub ?_ | refine r_gTp (by with_unfolding_all rfl) ?_ | refine r_gsCons ?_ | refine r_gsNil ?_ | refine r_for ?_ | refine r_lc ?_ | refine r_dc ?_ | refine r_iRg1 ?_ | refine r_inT (by with_unfolding_all rfl) (by with_unfolding_all rfl) ?_)
        have q : S3[r2]? = some (.dct (setD k2)) := e3 _ _ ((set_off ne).trans h2)
        refine r_inD (setD_in q) rfl ?_
        rw [Bool.xor_false, setD_val]
        (repeat with_reducible first | refine r_seq ?_ | refine r_asg ?_ | refine r_nm ?_ | refine r_var (by with_unfolding_all rfl) ?_ | refine r_c ?_ | refine r_aCons ?_ | refine r_aNil ?_ | refine r_op ?_ | refine r_call ?_ | refine r_val ?_ | refine r_bl ?_ | refine r_if ?_ | refine r_ret ?_ | refine r_next ?_ | refine r_ifT (by first | decide | (with_unfolding_all rfl)) ?_ | refine r_ifF (by first | decide | (with_unfolding_all rfl)) ?_ | refine r_tup ?_ | refine r_lst ?_ | refine r_le (Nat.le_of_ble_eq_true (by with_unfolding_all rfl)) ?_ | refine r_cb ?_ | refine r_and ?_ | refine r_or ?_ | refine r_not ?_ | refine r_eIf ?_ | refine r_eAnd ?_ | refine r_eOr ?_ | refine r_eNot ?_ | refine r_isN ?_ | refine r_mt ?_ | refine r_tr ?_ | refine r_ss ?_ | refine r_dict0 ?_ | refine r_yes ?_ | refine r_isi ?_ | refine r_ty (by with_unfolding_all rfl) ?_ | refine r_ixT (by with_unfolding_all rfl) ?_ | refine r_ixE (by with_unfolding_all rfl) (by with_unfolding_all rfl) ?_ | refine r_ixL (by assumption) (by with_unfolding_all rfl) ?_ | refine r_addI ?_ | refine r_intF ?_ | refine r_intCF (by first | decide | exact cmul_r (by decide) | exact cmul_l (by decide)) ?_ | refine r_eqI ?_ | refine r_neI ?_ | refine r_eqS ?_ | refine r_neS ?_ | refine r_eqB ?_ | refine r_neB ?_ | refine r_int ?_ | refine r_drop ?_ | refine r_sub ?_ | refine r_gTp (by with_unfolding_all rfl) ?_ | refine r_gsCons ?_ | refine r_gsNil ?_ | refine r_for ?_ | refine r_lc ?_ | refine r_dc ?_ | refine r_iRg1 ?_ | refine r_inT (by with_unfolding_all rfl) (by with_unfolding_all rfl) ?_)
        exact hP _ (.refl _)
      · have l3 : (S2.set r1 (.lck (setD k1))).length = S2.length := List.length_set
        refine ⟨e3 _ _ (set_at h1'), ?_⟩
        (repeat with_reducible first | refine r_seq ?_ | refine r_asg ?_ | refine r_nm ?_ | refine r_var (by with_unfolding_all rfl) ?_ | refine r_c ?_ | refine r_aCons ?_ | refine r_aNil ?_ | refine r_op ?_ | refine r_call ?_ | refine r_val ?_ | refine r_bl ?_ | refine r_if ?_ | refine r_ret ?_ | refine r_next ?_ | refine r_ifT (by first | decide | (with_unfolding_all rfl)) ?_ | refine r_ifF (by first | decide | (with_unfolding_all rfl)) ?_ | refine r_tup ?_ | refine r_lst ?_ | refine r_le (Nat.le_of_ble_eq_true (by with_unfolding_all rfl)) ?_ | refine r_cb ?_ | refine r_and ?_ | refine r_or ?_ | refine r_not ?_ | refine r_eIf ?_ | refine r_eAnd ?_ | refine r_eOr ?_ | refine r_eNot ?_ | refine r_isN ?_ | refine r_mt ?_ | refine r_tr ?_ | refine r_ss ?_ | refine r_dict0 ?_ | refine r_yes ?_ | refine r_isi ?_ | refine r_ty (by with_unfolding_all rfl) ?_ | refine r_ixT (by with_unfolding_all rfl) ?_ | refine r_ixE (by with_unfolding_all rfl) (by with_unfolding_all rfl) ?_ | refine r_ixL (by assumption) (by with_unfolding_all rfl) ?_ | refine r_addI ?_ | refine r_intF ?_ | refine r_intCF (by first | decide | exact cmul_r (by decide) | exact cmul_l (by decide)) ?_ | refine r_eqI ?_ | refine r_neI ?_ | refine r_eqS ?_ | refine r_neS ?_ | refine r_eqB ?_ | refine r_neB ?_ | refine r_int ?_ | refine r_drop ?_ | refine r_sub ?_ | refine r_gTp (by with_unfolding_all rfl) ?_ | refine r_gsCons ?_ | refine r_gsNil ?_ | refine r_for ?_ | refine r_lc ?_ | refine r_dc ?_ | refine r_iRg1 ?_ | refine r_inT (by with_unfolding_all rfl) (by with_unfolding_all rfl) ?_)
        have e4 : Ext S (S3.set r1 (.dct (setD k1))) := by
          refine Ext.put (fun i c hi => ?_) l1
          have hi' : i ≠ r1 := fun e => by
            have := (List.getElem?_eq_some_iff.mp hi).1
            omega
          exact e3 _ _ ((set_off (Ne.symm hi')).trans (e2 _ _ (e1 _ _ hi)))
        refine hQ _ _ ks e4 ?_ ?_ n3 fun j => ?_
        · rw [l3]; exact (e1.trans e2).le
        · rw [l3] at h3 ⊢
          have : r1 < S2.length := (List.getElem?_eq_some_iff.mp h1').1
          rw [set_off (by omega)]
          exact h3
        · rw [i3, i1]
          simp only [sem, mem_canon, Bool.and_eq_true, decide_eq_true_eq, i2]
          exact ⟨fun ⟨u, v⟩ => ⟨(sem_ok w a ρ hρ).2 j u, u, v⟩, fun ⟨_, u, v⟩ => ⟨u, v⟩⟩
    | either a b =>
      have hd' : max a.dp b.dp + 1 ≤ k + 1 := hd
      (repeat with_reducible first | refine r_seq ?_ | refine r_asg ?_ | refine r_nm ?_ | refine r_var (by with_unfolding_all rfl) ?_ | refine r_c ?_ | refine r_aCons ?_ | refine r_aNil ?_ | refine r_op ?_ | refine r_call ?_ | refine r_val ?_ | refine r_bl ?_ | refine r_if ?_ | refine r_ret ?_ | refine r_next ?_ | refine r_ifT (by first | decide | (with_unfolding_all rfl)) ?_ | refine r_ifF (by first | decide | (with_unfolding_all rfl)) ?_ | refine r_tup ?_ | refine r_lst ?_ | refine r_le (Nat.le_of_ble_eq_true (by with_unfolding_all rfl)) ?_ | refine r_cb ?_ | refine r_and ?_ | refine r_or ?_ | refine r_not ?_ | refine r_eIf ?_ | refine r_eAnd ?_ | refine r_eOr ?_ | refine r_eNot ?_ | refine r_isN ?_ | refine r_mt ?_ | refine r_tr ?_ | refine r_ss ?_ | refine r_dict0 ?_ | refine r_yes ?_ | refine r_isi ?_ | refine r_ty (by with_unfolding_all rfl) ?_ | refine r_ixT (by with_unfolding_all rfl) ?_ | refine r_ixE (by with_unfolding_all rfl) (by with_unfolding_all rfl) ?_ | refine r_ixL (by assumption) (by with_unfolding_all rfl) ?_ | refine r_addI ?_ | refine r_intF ?_ | refine r_intCF (by first | decide | exact cmul_r (by decide) | exact cmul_l (by decide)) ?_ | refine r_eqI ?_ | refine r_neI ?_ | refine r_eqS ?_ | refine r_neS ?_ | refine r_eqB ?_ | refine r_neB ?_ | refine r_int ?_ | refine r_drop ?_ | refine r_sub ?_ | refine r_gTp (by with_unfolding_all rfl) ?_ | refine r_gsCons ?_ | refine r_gsNil ?_ | refine r_for ?_ | refine r_lc ?_ | refine r_dc ?_ | refine r_iRg1 ?_ | refine r_inT (by with_unfolding_all rfl) (by with_unfolding_all rfl) ?_)
      refine found_spec hw hn k a sc ρ S pl kvs _ (by omega) hs.1 hρ hpl (by omega) hN fun S1 r1 k1 e1 l1 h1 n1 i1 => ?_
      (repeat with_reducible first | refine r_seq ?_ | refine r_asg ?_ | refine r_nm ?_ | refine r_var (by with_unfolding_all rfl) ?_ | refine r_c ?_ | refine r_aCons ?_ | refine r_aNil ?_ | refine r_op ?_ | refine r_call ?_ | refine r_val ?_ | refine r_bl ?_ | refine r_if ?_ | refine r_ret ?_ | refine r_next ?_ | refine r_ifT (by first | decide | (with_unfolding_all rfl)) ?_ | refine r_ifF (by first | decide | (with_unfolding_all rfl)) ?_ | refine r_tup ?_ | refine r_lst ?_ | refine r_le (Nat.le_of_ble_eq_true (by with_unfolding_all rfl)) ?_ | refine r_cb ?_ | refine r_and ?_ | refine r_or ?_ | refine r_not ?_ | refine r_eIf ?_ | refine r_eAnd ?_ | refine r_eOr ?_ | refine r_eNot ?_ | refine r_isN ?_ | refine r_mt ?_ | refine r_tr ?_ | refine r_ss ?_ | refine r_dict0 ?_ | refine r_yes ?_ | refine r_isi ?_ | refine r_ty (by with_unfolding_all rfl) ?_ | refine r_ixT (by with_unfolding_all rfl) ?_ | refine r_ixE (by with_unfolding_all rfl) (by with_unfolding_all rfl) ?_ | refine r_ixL (by assumption) (by with_unfolding_all rfl) ?_ | refine r_addI ?_ | refine r_intF ?_ | refine r_intCF (by first | decide | exact cmul_r (by decide) | exact cmul_l (by decide)) ?_ | refine r_eqI ?_ | refine r_neI ?_ | refine r_eqS ?_ | refine r_neS ?_ | refine r_eqB ?_ | refine r_neB ?_ | refine r_int ?_ | refine r_drop ?_ | refine r_sub ?_ | refine r_gTp (by with_unfolding_all rfl) ?_ | refine r_gsCons ?_ | refine r_gsNil ?_ | refine r_for ?_ | refine r_lc ?_ | refine r_dc ?_ | refine r_iRg1 ?_ | refine r_inT (by with_unfolding_all rfl) (by with_unfolding_all rfl) ?_)
      refine found_spec hw hn k b sc ρ S1 pl kvs _ (by omega) hs.2 hρ (dict_ext e1 hpl) (by omega) hN fun S2 r2 k2 e2 l2 h2 n2 i2 => ?_
      (repeat with_reducible first | refine r_seq ?_ | refine r_asg ?_ | refine r_nm ?_ | refine r_var (by with_unfolding_all rfl) ?_ | refine r_c ?_ | refine r_aCons ?_ | refine r_aNil ?_ | refine r_op ?_ | refine r_call ?_ | refine r_val ?_ | refine r_bl ?_ | refine r_if ?_ | refine r_ret ?_ | refine r_next ?_ | refine r_ifT (by first | decide | (with_unfolding_all rfl)) ?_ | refine r_ifF (by first | decide | (with_unfolding_all rfl)) ?_ | refine r_tup ?_ | refine r_lst ?_ | refine r_le (Nat.le_of_ble_eq_true (by with_unfolding_all rfl)) ?_ | refine r_cb ?_ | refine r_and ?_ | refine r_or ?_ | refine r_not ?_ | refine r_eIf ?_ | refine r_eAnd ?_ | refine r_eOr ?_ | refine r_eNot ?_ | refine r_isN ?_ | refine r_mt ?_ | refine r_tr ?_ | refine r_ss ?_ | refine r_dict0 ?_ | refine r_yes ?_ | refine r_isi ?_ | refine r_ty (by with_unfolding_all rfl) ?_ | refine r_ixT (by with_unfolding_all rfl) ?_ | refine r_ixE (by with_unfolding_all rfl) (by with_unfolding_all rfl) ?_ | refine r_ixL (by assumption) (by with_unfolding_all rfl) ?_ | refine r_addI ?_ | refine r_intF ?_ | refine r_intCF (by first | decide | exact cmul_r (by decide) | exact cmul_l (by decide)) ?_ | refine r_eqI ?_ | refine r_neI ?_ | refine r_eqS ?_ | refine r_neS ?_ | refine r_eqB ?_ | refine r_neB ?_ | refine r_int ?_ | refine r_drop ?_ | refine r_sub ?_ | refine r_gTp (by with_unfolding_all rfl) ?_ | refine r_gsCons ?_ | refine r_gsNil ?_ | refine r_for ?_ | refine r_lc ?_ | refine r_dc ?_ | refine r_iRg1 ?_ | refine r_inT (by with_unfolding_all rfl) (by with_unfolding_all rfl) ?_)
      have h1' := e2 _ _ h1
      have ne : r1 ≠ r2 := fun e => by
        have := (List.getElem?_eq_some_iff.mp h1).1
        omega
      refine r_tyDc h2 ?_
      (repeat with_reducible first | refine r_seq ?_ | refine r_asg ?_ | refine r_nm ?_ | refine r_var (by with_unfolding_all rfl) ?_ | refine r_c ?_ | refine r_aCons ?_ | refine r_aNil ?_ | refine r_op ?_ | refine r_call ?_ | refine r_val ?_ | refine r_bl ?_ | refine r_if ?_ | refine r_ret ?_ | refine r_next ?_ | refine r_ifT (by first | decide | (with_unfolding_all rfl)) ?_ | refine r_ifF (by first | decide | (with_unfolding_all rfl)) ?_ | refine r_tup ?_ | refine r_lst ?_ | refine r_le (Nat.le_of_ble_eq_true (by with_unfolding_all rfl)) ?_ | refine r_cb ?_ | refine r_and ?_ | refine r_or ?_ | refine r_not ?_ | refine r_eIf ?_ | refine r_eAnd ?_ | refine r_eOr ?_ | refine r_eNot ?_ | refine r_isN ?_ | refine r_mt ?_ | refine r_tr ?_ | refine r_ss ?_ | refine r_dict0 ?_ | refine r_yes ?_ | refine r_isi ?_ | refine r_ty (by with_unfolding_all rfl) ?_ | refine r_ixT (by with_unfolding_all rfl) ?_ | refine r_ixE (by with_unfolding_all rfl) (by with_unfolding_all rfl) ?_ | refine r_ixL (by assumption) (by with_unfolding_all rfl) ?_ | refine r_addI ?_ | refine r_intF ?_ | refine r_intCF (by first | decide | exact cmul_r (by decide) | exact cmul_l (by decide)) ?_ | refine r_eqI ?_ | refine r_neI ?_ | refine r_eqS ?_ | refine r_neS ?_ | refine r_eqB ?_ | refine r_neB ?_ | refine r_int ?_ | refine r_drop ?_ | refine r_sub ?_ | refine r_gTp (by with_unfolding_all rfl) ?_ | refine r_gsCons ?_ | refine r_gsNil ?_ | refine r_for ?_ | refine r_lc ?_ | refine r_dc ?_ | refine r_iRg1 ?_ | refine r_inT (by with_unfolding_all rfl) (by with_unfolding_all rfl) ?_)
      have hk1 : k1.length ≤ w.n := by
        have := subset_len (ls := List.range w.n) n1 fun j hj => List.mem_range.mpr ((sem_ok w a ρ hρ).2 j ((i1 j).mp hj))
        simpa using this
      have hk2 : k2.length ≤ w.n := by
        have := subset_len (ls := List.range w.n) n2 fun j hj => List.mem_range.mpr ((sem_ok w b ρ hρ).2 j ((i2 j).mp hj))
        simpa using this
      obtain ⟨ms, g1, g2, g3⟩ := setD_merge k2 k1
      refine ⟨r2, r1, _, _, rfl, rfl, Ne.symm ne, h2, setD_in h1', by rw [setD_length, setD_length]; simp [sizeLine]; omega, ?_⟩
      rw [g1]
      (repeat with_reducible first | refine r_seq ?_ | refine r_asg ?_ | refine r_nm ?_ | refine r_var (by with_unfolding_all rfl) ?_ | refine r_c ?_ | refine r_aCons ?_ | refine r_aNil ?_ | refine r_op ?_ | refine r_call ?_ | refine r_val ?_ | refine r_bl ?_ | refine r_if ?_ | refine r_ret ?_ | refine r_next ?_ | refine r_ifT (by first | decide | (with_unfolding_all rfl)) ?_ | refine r_ifF (by first | decide | (with_unfolding_all rfl)) ?_ | refine r_tup ?_ | refine r_lst ?_ | refine r_le (Nat.le_of_ble_eq_true (by with_unfolding_all rfl)) ?_ | refine r_cb ?_ | refine r_and ?_ | refine r_or ?_ | refine r_not ?_ | refine r_eIf ?_ | refine r_eAnd ?_ | refine r_eOr ?_ | refine r_eNot ?_ | refine r_isN ?_ | refine r_mt ?_ | refine r_tr ?_ | refine r_ss ?_ | refine r_dict0 ?_ | refine r_yes ?_ | refine r_isi ?_ | refine r_ty (by with_unfolding_all rfl) ?_ | refine r_ixT (by with_unfolding_all rfl) ?_ | refine r_ixE (by with_unfolding_all rfl) (by with_unfolding_all rfl) ?_ | refine r_ixL (by assumption) (by with_unfolding_all rfl) ?_ | refine r_addI ?_ | refine r_intF ?_ | refine r_intCF (by first | decide | exact cmul_r (by decide) | exact cmul_l (by decide)) ?_ | refine r_eqI ?_ | refine r_neI ?_ | refine r_eqS ?_ | refine r_neS ?_ | refine r_eqB ?_ | refine r_neB ?_ | refine r_int ?_ | refine r_drop ?_ | refine r_sub ?_ | refine r_gTp (by with_unfolding_all rfl) ?_ | refine r_gsCons ?_ | refine r_gsNil ?_ | refine r_for ?_ | refine r_lc ?_ | refine r_dc ?_ | refine r_iRg1 ?_ | refine r_inT (by with_unfolding_all rfl) (by with_unfolding_all rfl) ?_)
      refine hQ _ _ ms ((e1.trans e2).put (Nat.le_trans e1.le l2)) (Nat.le_trans e1.le l2) (set_at h2) (g2 n2) fun j => ?_
      rw [g3, i1, i2]
      simp only [sem, mem_canon, Bool.or_eq_true, decide_eq_true_eq]
      constructor
      · rintro (u | u)
        · exact ⟨(sem_ok w b ρ hρ).2 j u, .inr u⟩
        · exact ⟨(sem_ok w a ρ hρ).2 j u, .inl u⟩
      · rintro ⟨_, u | u⟩
        · exact .inr u
        · exact .inl u
    | some jj a =>
      obtain ⟨rr, m1, m2, m3⟩ := way_at hw hs.1
      have hd' : a.dp + 1 ≤ k + 1 := hd
      (repeat with_reducible first | refine r_seq ?_ | refine r_asg ?_ | refine r_nm ?_ | refine r_var (by with_unfolding_all rfl) ?_ | refine r_c ?_ | refine r_aCons ?_ | refine r_aNil ?_ | refine r_op ?_ | refine r_call ?_ | refine r_val ?_ | refine r_bl ?_ | refine r_if ?_ | refine r_ret ?_ | refine r_next ?_ | refine r_ifT (by first | decide | (with_unfolding_all rfl)) ?_ | refine r_ifF (by first | decide | (with_unfolding_all rfl)) ?_ | refine r_tup ?_ | refine r_lst ?_ | refine r_le (Nat.le_of_ble_eq_true (by with_unfolding_all rfl)) ?_ | refine r_cb ?_ | refine r_and ?_ | refine r_or ?_ | refine r_not ?_ | refine r_eIf ?_ | refine r_eAnd ?_ | refine r_eOr ?_ | refine r_eNot ?_ | refine r_isN ?_ | refine r_mt ?_ | refine r_tr ?_ | refine r_ss ?_ | refine r_dict0 ?_ | refine r_yes ?_ | refine r_isi ?_ | refine r_ty (by with_unfolding_all rfl) ?_ | refine r_ixT (by with_unfolding_all rfl) ?_ | refine r_ixE (by with_unfolding_all rfl) (by with_unfolding_all rfl) ?_ | refine r_ixL (by assumption) (by with_unfolding_all rfl) ?_ | refine r_addI ?_ | refine r_intF ?_ | refine r_intCF (by first | decide | exact cmul_r (by decide) | exact cmul_l (by decide)) ?_ | refine r_eqI ?_ | refine r_neI ?_ | refine r_eqS ?_ | refine r_neS ?_ | refine r_eqB ?_ | refine r_neB ?_ | refine r_int ?_ | refine r_drop ?_ | refine r_sub ?_ | refine r_gTp (by with_unfolding_all rfl) ?_ | refine r_gsCons ?_ | refine r_gsNil ?_ | refine r_for ?_ | refine r_lc ?_ | refine r_dc ?_ | refine r_iRg1 ?_ | refine r_inT (by with_unfolding_all rfl) (by with_unfolding_all rfl) ?_)
      refine found_spec hw hn k a sc ρ S pl kvs _ (by omega) hs.2 hρ hpl (by omega) hN fun S1 r1 k1 e1 l1 h1 n1 i1 => ?_
      (repeat with_reducible first | refine r_seq ?_ | refine r_asg ?_ | refine r_nm ?_ | refine r_var (by with_unfolding_all rfl) ?_ | refine r_c ?_ | refine r_aCons ?_ | refine r_aNil ?_ | refine r_op ?_ | refine r_call ?_ | refine r_val ?_ | refine r_bl ?_ | refine r_if ?_ | refine r_ret ?_ | refine r_next ?_ | refine r_ifT (by first | decide | (with_unfolding_all rfl)) ?_ | refine r_ifF (by first | decide | (with_unfolding_all rfl)) ?_ | refine r_tup ?_ | refine r_lst ?_ | refine r_le (Nat.le_of_ble_eq_true (by with_unfolding_all rfl)) ?_ | refine r_cb ?_ | refine r_and ?_ | refine r_or ?_ | refine r_not ?_ | refine r_eIf ?_ | refine r_eAnd ?_ | refine r_eOr ?_ | refine r_eNot ?_ | refine r_isN ?_ | refine r_mt ?_ | refine r_tr ?_ | refine r_ss ?_ | refine r_dict0 ?_ | refine r_yes ?_ | refine r_isi ?_ | refine r_ty (by with_unfolding_all rfl) ?_ | refine r_ixT (by with_unfolding_all rfl) ?_ | refine r_ixE (by with_unfolding_all rfl) (by with_unfolding_all rfl) ?_ | refine r_ixL (by assumption) (by with_unfolding_all rfl) ?_ | refine r_addI ?_ | refine r_intF ?_ | refine r_intCF (by first | decide | exact cmul_r (by decide) | exact cmul_l (by decide)) ?_ | refine r_eqI ?_ | refine r_neI ?_ | refine r_eqS ?_ | refine r_neS ?_ | refine r_eqB ?_ | refine r_neB ?_ | refine r_int ?_ | refine r_drop ?_ | refine r_sub ?_ | refine r_gTp (by with_unfolding_all rfl) ?_ | refine r_gsCons ?_ | refine r_gsNil ?_ | refine r_for ?_ | refine r_lc ?_ | refine r_dc ?_ | refine r_iRg1 ?_ | refine r_inT (by with_unfolding_all rfl) (by with_unfolding_all rfl) ?_)
      refine r_rg (by omega) (by omega) fun few => ?_
      rw [rng_map']
      refine dc_set (List.range w.n) (fun k => (w.way jj k).any fun g => decide (g ∈ sem w a ρ)) (by simp [sizeLine]; omega) (fun _ => rfl) (fun _ _ => trivial) (fun x hx S2 P e2 hP => ?_) fun S2 ks e2 h2 n2 i2 => ?_
      · have hx := List.mem_range.mp hx
        obtain ⟨m4, m5⟩ := m3 x hx
        (repeat with_reducible first | refine r_seq ?_ | refine r_asg ?_ | refine r_nm ?_ | refine r_var (by with_unfolding_all rfl) ?_ | refine r_c ?_ | refine r_aCons ?_ | refine r_aNil ?_ | refine r_op ?_ | refine r_call ?_ | refine r_val ?_ | refine r_bl ?_ | refine r_if ?_ | refine r_ret ?_ | refine r_next ?_ | refine r_ifT (by first | decide | (with_unfolding_all rfl)) ?_ | refine r_ifF (by first | decide | (with_unfolding_all rfl)) ?_ | refine r_tup ?_ | refine r_lst ?_ | refine r_le (Nat.le_of_ble_eq_true (by with_unfolding_all rfl)) ?_ | refine r_cb ?_ | refine r_and ?_ | refine r_or ?_ | refine r_not ?_ | refine r_eIf ?_ | refine r_eAnd ?_ | refine r_eOr ?_ | refine r_eNot ?_ | refine r_isN ?_ | refine r_mt ?_ | refine r_tr ?_ | refine r_ss ?_ | refine r_dict0 ?_ | refine r_yes ?_ | refine r_isi ?_ | refine r_ty (by with_unfolding_all rfl) ?_ | refine r_ixT (by with_unfolding_all rfl) ?_ | refine r_ixE (by with_unfolding_all rfl) (by with_unfolding_all rfl) ?_ | refine r_ixL (by assumption) (by with_unfolding_all rfl) ?_ | refine r_addI ?_ | refine r_intF ?_ | refine r_intCF (by first | decide | exact cmul_r (by decide) | exact cmul_l (by decide)) ?_ | refine r_eqI ?_ | refine r_neI ?_ | refine r_eqS ?_ | refine r_neS ?_ | refine r_eqB ?_ | refine r_neB ?_ | refine r_int ?_ | refine r_drop ?_ | refine r_sub ?_ | refine r_gTp (by with_unfolding_all rfl) ?_ | refine r_gsCons ?_ | refine r_gsNil ?_ | refine r_for ?_ | refine r_lc ?_ | refine r_dc ?_ | refine r_iRg1 ?_ | refine r_inT (by with_unfolding_all rfl) (by with_unfolding_all rfl) ?_)
        refine r_ixT m1 ?_
        (repeat with_reducible first | refine r_seq ?_ | refine r_asg ?_ | refine r_nm ?_ | refine r_var (by with_unfolding_all rfl) ?_ | refine r_c ?_ | refine r_aCons ?_ | refine r_aNil ?_ | refine r_op ?_ | refine r_call ?_ | refine r_val ?_ | refine r_bl ?_ | refine r_if ?_ | refine r_ret ?_ | refine r_next ?_ | refine r_ifT (by first | decide | (with_unfolding_all rfl)) ?_ | refine r_ifF (by first | decide | (with_unfolding_all rfl)) ?_ | refine r_tup ?_ | refine r_lst ?_ | refine r_le (Nat.le_of_ble_eq_true (by with_unfolding_all rfl)) ?_ | refine r_cb ?_ | refine r_and ?_ | refine r_or ?_ | refine r_not ?_ | refine r_eIf ?_ | refine r_eAnd ?_ | refine r_eOr ?_ | refine r_eNot ?_ | refine r_isN ?_ | refine r_mt ?_ | refine r_tr ?_ | refine r_ss ?_ | refine r_dict0 ?_ | refine r_yes ?_ | refine r_isi ?_ | refine r_ty (by with_unfolding_all rfl) ?_ | refine r_ixT (by with_unfolding_all rfl) ?_ | refine r_ixE (by with_unfolding_all rfl) (by with_unfolding_all rfl) ?_ | refine r_ixL (by assumption) (by with_unfolding_all rfl) ?_ | refine r_addI ?_ | refine r_intF ?_ | refine r_intCF (by first | decide | exact cmul_r (by decide) | exact cmul_l (by decide)) ?_ | refine r_eqI ?_ | refine r_neI ?_ | refine r_eqS ?_ | refine r_neS ?_ | refine r_eqB ?_ | refine r_neB ?_ | refine r_int ?_ | refine r_drop ?_ | refine r_sub ?_ | refine r_gTp (by with_unfolding_all rfl) ?_ | refine r_gsCons ?_ | refine r_gsNil ?_ | refine r_for ?_ | refine r_lc ?_ | refine r_dc ?_ | refine r_iRg1 ?_ | refine r_inT (by with_unfolding_all rfl) (by with_unfolding_all rfl) ?_)
        refine r_ixT m4 ?_
        (repeat with_reducible first | refine r_seq ?_ | refine r_asg ?_ | refine r_nm ?_ | refine r_var (by with_unfolding_all rfl) ?_ | refine r_c ?_ | refine r_aCons ?_ | refine r_aNil ?_ | refine r_op ?_ | refine r_call ?_ | refine r_val ?_ | refine r_bl ?_ | refine r_if ?_ | refine r_ret ?_ | refine r_next ?_ | refine r_ifT (by first | decide | (with_unfolding_all rfl)) ?_ | refine r_ifF (by first | decide | (with_unfolding_all rfl)) ?_ | refine r_tup ?_ | refine r_lst ?_ | refine r_le (Nat.le_of_ble_eq_true (by with_unfolding_all rfl)) ?_ | refine r_cb ?_ | refine r_and ?_ | refine r_or ?_ | refine r_not ?_ | refine r_eIf ?_ | refine r_eAnd ?_ | refine r_eOr ?_ | refine r_eNot ?_ | refine r_isN ?_ | refine r_mt ?_ | refine r_tr ?_ | refine r_ss ?_ | refine r_dict0 ?_ | refine r_yes ?_ | refine r_isi ?_ | refine r_ty (by with_unfolding_all rfl) ?_ | refine r_ixT (by with_unfolding_all rfl) ?_ | refine r_ixE (by with_unfolding_all rfl) (by with_unfolding_all rfl) ?_ | refine r_ixL (by assumption) (by with_unfolding_all rfl) ?_ | refine r_addI ?_ | refine r_intF ?_ | refine r_intCF (by first | decide | exact cmul_r (by decide) | exact cmul_l (by decide)) ?_ | refine r_eqI ?_ | refine r_neI ?_ | refine r_eqS ?_ | refine r_neS ?_ | refine r_eqB ?_ | refine r_neB ?_ | refine r_int ?_ | refine r_drop ?_ | refine r_sub ?_ | refine r_gTp (by with_unfolding_all rfl) ?_ | refine r_gsCons ?_ | refine r_gsNil ?_ | refine r_for ?_ | refine r_lc ?_ | refine r_dc ?_ | refine r_iRg1 ?_ | refine r_inT (by with_unfolding_all rfl) (by with_unfolding_all rfl) ?_)
        refine leads_spec (by have := m5.le; omega) (e2 _ _ h1) fun S3 e3 => ?_
        (repeat with_reducible first | refine r_seq ?_ | refine r_asg ?_ | refine r_nm ?_ | refine r_var (by with_unfolding_all rfl) ?_ | refine r_c ?_ | refine r_aCons ?_ | refine r_aNil ?_ | refine r_op ?_ | refine r_call ?_ | refine r_val ?_ | refine r_bl ?_ | refine r_if ?_ | refine r_ret ?_ | refine r_next ?_ | refine r_ifT (by first | decide | (with_unfolding_all rfl)) ?_ | refine r_ifF (by first | decide | (with_unfolding_all rfl)) ?_ | refine r_tup ?_ | refine r_lst ?_ | refine r_le (Nat.le_of_ble_eq_true (by with_unfolding_all rfl)) ?_ | refine r_cb ?_ | refine r_and ?_ | refine r_or ?_ | refine r_not ?_ | refine r_eIf ?_ | refine r_eAnd ?_ | refine r_eOr ?_ | refine r_eNot ?_ | refine r_isN ?_ | refine r_mt ?_ | refine r_tr ?_ | refine r_ss ?_ | refine r_dict0 ?_ | refine r_yes ?_ | refine r_isi ?_ | refine r_ty (by with_unfolding_all rfl) ?_ | refine r_ixT (by with_unfolding_all rfl) ?_ | refine r_ixE (by with_unfolding_all rfl) (by with_unfolding_all rfl) ?_ | refine r_ixL (by assumption) (by with_unfolding_all rfl) ?_ | refine r_addI ?_ | refine r_intF ?_ | refine r_intCF (by first | decide | exact cmul_r (by decide) | exact cmul_l (by decide)) ?_ | refine r_eqI ?_ | refine r_neI ?_ | refine r_eqS ?_ | refine r_neS ?_ | refine r_eqB ?_ | refine r_neB ?_ | refine r_int ?_ | refine r_drop ?_ | refine r_sub ?_ | refine r_gTp (by with_unfolding_all rfl) ?_ | refine r_gsCons ?_ | refine r_gsNil ?_ | refine r_for ?_ | refine r_lc ?_ | refine r_dc ?_ | refine r_iRg1 ?_ | refine r_inT (by with_unfolding_all rfl) (by with_unfolding_all rfl) ?_)
        have := hP S3 e3
        have q : (w.way jj x).any (fun g => decide (g ∈ k1)) = (w.way jj x).any fun g => decide (g ∈ sem w a ρ) := by
          congr 1
          funext g
          rw [decide_eq_decide]
          exact i1 g
        rw [if_pos (by decide)]
        rw [q]
        exact this
      · (repeat with_reducible first | refine r_seq ?_ | refine r_asg ?_ | refine r_nm ?_ | refine r_var (by with_unfolding_all rfl) ?_ | refine r_c ?_ | refine r_aCons ?_ | refine r_aNil ?_ | refine r_op ?_ | refine r_call ?_ | refine r_val ?_ | refine r_bl ?_ | refine r_if ?_ | refine r_ret ?_ | refine r_next ?_ | refine r_ifT (by first | decide | (with_unfolding_all rfl)) ?_ | refine r_ifF (by first | decide | (with_unfolding_all rfl)) ?_ | refine r_tup ?_ | refine r_lst ?_ | refine r_le (Nat.le_of_ble_eq_true (by with_unfolding_all rfl)) ?_ | refine r_cb ?_ | refine r_and ?_ | refine r_or ?_ | refine r_not ?_ | refine r_eIf ?_ | refine r_eAnd ?_ | refine r_eOr ?_ | refine r_eNot ?_ | refine r_isN ?_ | refine r_mt ?_ | refine r_tr ?_ | refine r_ss ?_ | refine r_dict0 ?_ | refine r_yes ?_ | refine r_isi ?_ | refine r_ty (by with_unfolding_all rfl) ?_ | refine r_ixT (by with_unfolding_all rfl) ?_ | refine r_ixE (by with_unfolding_all rfl) (by with_unfolding_all rfl) ?_ | refine r_ixL (by assumption) (by with_unfolding_all rfl) ?_ | refine r_addI ?_ | refine r_intF ?_ | refine r_intCF (by first | decide | exact cmul_r (by decide) | exact cmul_l (by decide)) ?_ | refine r_eqI ?_ | refine r_neI ?_ | refine r_eqS ?_ | refine r_neS ?_ | refine r_eqB ?_ | refine r_neB ?_ | refine r_int ?_ | refine r_drop ?_ | refine r_sub ?_ | refine r_gTp (by with_unfolding_all rfl) ?_ | refine r_gsCons ?_ | refine r_gsNil ?_ | refine r_for ?_ | refine r_lc ?_ | refine r_dc ?_ | refine r_iRg1 ?_ | refine r_inT (by with_unfolding_all rfl) (by with_unfolding_all rfl) ?_)
        refine hQ _ _ ks (e1.trans e2) e1.le h2 n2 fun j => ?_
        rw [i2]
        simp only [sem, mem_canon, List.mem_range]
    | all jj a =>
      obtain ⟨rr, m1, m2, m3⟩ := way_at hw hs.1
      have hd' : a.dp + 1 ≤ k + 1 := hd
      (repeat with_reducible first | refine r_seq ?_ | refine r_asg ?_ | refine r_nm ?_ | refine r_var (by with_unfolding_all rfl) ?_ | refine r_c ?_ | refine r_aCons ?_ | refine r_aNil ?_ | refine r_op ?_ | refine r_call ?_ | refine r_val ?_ | refine r_bl ?_ | refine r_if ?_ | refine r_ret ?_ | refine r_next ?_ | refine r_ifT (by first | decide | (with_unfolding_all rfl)) ?_ | refine r_ifF (by first | decide | (with_unfolding_all rfl)) ?_ | refine r_tup ?_ | refine r_lst ?_ | refine r_le (Nat.le_of_ble_eq_true (by with_unfolding_all rfl)) ?_ | refine r_cb ?_ | refine r_and ?_ | refine r_or ?_ | refine r_not ?_ | refine r_eIf ?_ | refine r_eAnd ?_ | refine r_eOr ?_ | refine r_eNot ?_ | refine r_isN ?_ | refine r_mt ?_ | refine r_tr ?_ | refine r_ss ?_ | refine r_dict0 ?_ | refine r_yes ?_ | refine r_isi ?_ | refine r_ty (by with_unfolding_all rfl) ?_ | refine r_ixT (by with_unfolding_all rfl) ?_ | refine r_ixE (by with_unfolding_all rfl) (by with_unfolding_all rfl) ?_ | refine r_ixL (by assumption) (by with_unfolding_all rfl) ?_ | refine r_addI ?_ | refine r_intF ?_ | refine r_intCF (by first | decide | exact cmul_r (by decide) | exact cmul_l (by decide)) ?_ | refine r_eqI ?_ | refine r_neI ?_ | refine r_eqS ?_ | refine r_neS ?_ | refine r_eqB ?_ | refine r_neB ?_ | refine r_int ?_ | refine r_drop ?_ | refine r_sub ?_ | refine r_gTp (by with_unfolding_all rfl) ?_ | refine r_gsCons ?_ | refine r_gsNil ?_ | refine r_for ?_ | refine r_lc ?_ | refine r_dc ?_ | refine r_iRg1 ?_ | refine r_inT (by with_unfolding_all rfl) (by with_unfolding_all rfl) ?_)
      refine found_spec hw hn k a sc ρ S pl kvs _ (by omega) hs.2 hρ hpl (by omega) hN fun S1 r1 k1 e1 l1 h1 n1 i1 => ?_
      (repeat with_reducible first | refine r_seq ?_ | refine r_asg ?_ | refine r_nm ?_ | refine r_var (by with_unfolding_all rfl) ?_ | refine r_c ?_ | refine r_aCons ?_ | refine r_aNil ?_ | refine r_op ?_ | refine r_call ?_ | refine r_val ?_ | refine r_bl ?_ | refine r_if ?_ | refine r_ret ?_ | refine r_next ?_ | refine r_ifT (by first | decide | (with_unfolding_all rfl)) ?_ | refine r_ifF (by first | decide | (with_unfolding_all rfl)) ?_ | refine r_tup ?_ | refine r_lst ?_ | refine r_le (Nat.le_of_ble_eq_true (by with_unfolding_all rfl)) ?_ | refine r_cb ?_ | refine r_and ?_ | refine r_or ?_ | refine r_not ?_ | refine r_eIf ?_ | refine r_eAnd ?_ | refine r_eOr ?_ | refine r_eNot ?_ | refine r_isN ?_ | refine r_mt ?_ | refine r_tr ?_ | refine r_ss ?_ | refine r_dict0 ?_ | refine r_yes ?_ | refine r_isi ?_ | refine r_ty (by with_unfolding_all rfl) ?_ | refine r_ixT (by with_unfolding_all rfl) ?_ | refine r_ixE (by with_unfolding_all rfl) (by with_unfolding_all rfl) ?_ | refine r_ixL (by assumption) (by with_unfolding_all rfl) ?_ | refine r_addI ?_ | refine r_intF ?_ | refine r_intCF (by first | decide | exact cmul_r (by decide) | exact cmul_l (by decide)) ?_ | refine r_eqI ?_ | refine r_neI ?_ | refine r_eqS ?_ | refine r_neS ?_ | refine r_eqB ?_ | refine r_neB ?_ | refine r_int ?_ | refine r_drop ?_ | refine r_sub ?_ | refine r_gTp (by with_unfolding_all rfl) ?_ | refine r_gsCons ?_ | refine r_gsNil ?_ | refine r_for ?_ | refine r_lc ?_ | refine r_dc ?_ | refine r_iRg1 ?_ | refine r_inT (by with_unfolding_all rfl) (by with_unfolding_all rfl) ?_)
      refine r_rg (by omega) (by omega) fun few => ?_
      rw [rng_map']
      refine dc_set (List.range w.n) (fun k => (w.way jj k).all fun g => decide (g ∈ sem w a ρ)) (by simp [sizeLine]; omega) (fun _ => rfl) (fun _ _ => trivial) (fun x hx S2 P e2 hP => ?_) fun S2 ks e2 h2 n2 i2 => ?_
      · have hx := List.mem_range.mp hx
        obtain ⟨m4, m5⟩ := m3 x hx
        (repeat with_reducible first | refine r_seq ?_ | refine r_asg ?_ | refine r_nm ?_ | refine r_var (by with_unfolding_all rfl) ?_ | refine r_c ?_ | refine r_aCons ?_ | refine r_aNil ?_ | refine r_op ?_ | refine r_call ?_ | refine r_val ?_ | refine r_bl ?_ | refine r_if ?_ | refine r_ret ?_ | refine r_next ?_ | refine r_ifT (by first | decide | (with_unfolding_all rfl)) ?_ | refine r_ifF (by first | decide | (with_unfolding_all rfl)) ?_ | refine r_tup ?_ | refine r_lst ?_ | refine r_le (Nat.le_of_ble_eq_true (by with_unfolding_all rfl)) ?_ | refine r_cb ?_ | refine r_and ?_ | refine r_or ?_ | refine r_not ?_ | refine r_eIf ?_ | refine r_eAnd ?_ | refine r_eOr ?_ | refine r_eNot ?_ | refine r_isN ?_ | refine r_mt ?_ | refine r_tr ?_ | refine r_ss ?_ | refine r_dict0 ?_ | refine r_yes ?_ | refine r_isi ?_ | refine r_ty (by with_unfolding_all rfl) ?_ | refine r_ixT (by with_unfolding_all rfl) ?_ | refine r_ixE (by with_unfolding_all rfl) (by with_unfolding_all rfl) ?_ | refine r_ixL (by assumption) (by with_unfolding_all rfl) ?_ | refine r_addI ?_ | refine r_intF ?_ | refine r_intCF (by first | decide | exact cmul_r (by decide) | exact cmul_l (by decide)) ?_ | refine r_eqI ?_ | refine r_neI ?_ | refine r_eqS ?_ | refine r_neS ?_ | refine r_eqB ?_ | refine r_neB ?_ | refine r_int ?_ | refine r_drop ?_ | refine r_sub ?_ | refine r_gTp (by with_unfolding_all rfl) ?_ | refine r_gsCons ?_ | refine r_gsNil ?_ | refine r_for ?_ | refine r_lc ?_ | refine r_dc ?_ | refine r_iRg1 ?_ | refine r_inT (by with_unfolding_all rfl) (by with_unfolding_all rfl) ?_)
        refine r_ixT m1 ?_
        (repeat with_reducible first | refine r_seq ?_ | refine r_asg ?_ | refine r_nm ?_ | refine r_var (by with_unfolding_all rfl) ?_ | refine r_c ?_ | refine r_aCons ?_ | refine r_aNil ?_ | refine r_op ?_ | refine r_call ?_ | refine r_val ?_ | refine r_bl ?_ | refine r_if ?_ | refine r_ret ?_ | refine r_next ?_ | refine r_ifT (by first | decide | (with_unfolding_all rfl)) ?_ | refine r_ifF (by first | decide | (with_unfolding_all rfl)) ?_ | refine r_tup ?_ | refine r_lst ?_ | refine r_le (Nat.le_of_ble_eq_true (by with_unfolding_all rfl)) ?_ | refine r_cb ?_ | refine r_and ?_ | refine r_or ?_ | refine r_not ?_ | refine r_eIf ?_ | refine r_eAnd ?_ | refine r_eOr ?_ | refine r_eNot ?_ | refine r_isN ?_ | refine r_mt ?_ | refine r_tr ?_ | refine r_ss ?_ | refine r_dict0 ?_ | refine r_yes ?_ | refine r_isi ?_ | refine r_ty (by with_unfolding_all rfl) ?_ | refine r_ixT (by with_unfolding_all rfl) ?_ | refine r_ixE (by with_unfolding_all rfl) (by with_unfolding_all rfl) ?_ | refine r_ixL (by assumption) (by with_unfolding_all rfl) ?_ | refine r_addI ?_ | refine r_intF ?_ | refine r_intCF (by first | decide | exact cmul_r (by decide) | exact cmul_l (by decide)) ?_ | refine r_eqI ?_ | refine r_neI ?_ | refine r_eqS ?_ | refine r_neS ?_ | refine r_eqB ?_ | refine r_neB ?_ | refine r_int ?_ | refine r_drop ?_ | refine r_sub ?_ | refine r_gTp (by with_unfolding_all rfl) ?_ | refine r_gsCons ?_ | refine r_gsNil ?_ | refine r_for ?_ | refine r_lc ?_ | refine r_dc ?_ | refine r_iRg1 ?_ | refine r_inT (by with_unfolding_all rfl) (by with_unfolding_all rfl) ?_)
        refine r_ixT m4 ?_
        (repeat with_reducible first | refine r_seq ?_ | refine r_asg ?_ | refine r_nm ?_ | refine r_var (by with_unfolding_all rfl) ?_ | refine r_c ?_ | refine r_aCons ?_ | refine r_aNil ?_ | refine r_op ?_ | refine r_call ?_ | refine r_val ?_ | refine r_bl ?_ | refine r_if ?_ | refine r_ret ?_ | refine r_next ?_ | refine r_ifT (by first | decide | (with_unfolding_all rfl)) ?_ | refine r_ifF (by first | decide | (with_unfolding_all rfl)) ?_ | refine r_tup ?_ | refine r_lst ?_ | refine r_le (Nat.le_of_ble_eq_true (by with_unfolding_all rfl)) ?_ | refine r_cb ?_ | refine r_and ?_ | refine r_or ?_ | refine r_not ?_ | refine r_eIf ?_ | refine r_eAnd ?_ | refine r_eOr ?_ | refine r_eNot ?_ | refine r_isN ?_ | refine r_mt ?_ | refine r_tr ?_ | refine r_ss ?_ | refine r_dict0 ?_ | refine r_yes ?_ | refine r_isi ?_ | refine r_ty (by with_unfolding_all rfl) ?_ | refine r_ixT (by with_unfolding_all rfl) ?_ | refine r_ixE (by with_unfolding_all rfl) (by with_unfolding_all rfl) ?_ | refine r_ixL (by assumption) (by with_unfolding_all rfl) ?_ | refine r_addI ?_ | refine r_intF ?_ | refine r_intCF (by first | decide | exact cmul_r (by decide) | exact cmul_l (by decide)) ?_ | refine r_eqI ?_ | refine r_neI ?_ | refine r_eqS ?_ | refine r_neS ?_ | refine r_eqB ?_ | refine r_neB ?_ | refine r_int ?_ | refine r_drop ?_ | refine r_sub ?_ | refine r_gTp (by with_unfolding_all rfl) ?_ | refine r_gsCons ?_ | refine r_gsNil ?_ | refine r_for ?_ | refine r_lc ?_ | refine r_dc ?_ | refine r_iRg1 ?_ | refine r_inT (by with_unfolding_all rfl) (by with_unfolding_all rfl) ?_)
        refine leads_spec (by have := m5.le; omega) (e2 _ _ h1) fun S3 e3 => ?_
        (repeat with_reducible first | refine r_seq ?_ | refine r_asg ?_ | refine r_nm ?_ | refine r_var (by with_unfolding_all rfl) ?_ | refine r_c ?_ | refine r_aCons ?_ | refine r_aNil ?_ | refine r_op ?_ | refine r_call ?_ | refine r_val ?_ | refine r_bl ?_ | refine r_if ?_ | refine r_ret ?_ | refine r_next ?_ | refine r_ifT (by first | decide | (with_unfolding_all rfl)) ?_ | refine r_ifF (by first | decide | (with_unfolding_all rfl)) ?_ | refine r_tup ?_ | refine r_lst ?_ | refine r_le (Nat.le_of_ble_eq_true (by with_unfolding_all rfl)) ?_ | refine r_cb ?_ | refine r_and ?_ | refine r_or ?_ | refine r_not ?_ | refine r_eIf ?_ | refine r_eAnd ?_ | refine r_eOr ?_ | refine r_eNot ?_ | refine r_isN ?_ | refine r_mt ?_ | refine r_tr ?_ | refine r_ss ?_ | refine r_dict0 ?_ | refine r_yes ?_ | refine r_isi ?_ | refine r_ty (by with_unfolding_all rfl) ?_ | refine r_ixT (by with_unfolding_all rfl) ?_ | refine r_ixE (by with_unfolding_all rfl) (by with_unfolding_all rfl) ?_ | refine r_ixL (by assumption) (by with_unfolding_all rfl) ?_ | refine r_addI ?_ | refine r_intF ?_ | refine r_intCF (by first | decide | exact cmul_r (by decide) | exact cmul_l (by decide)) ?_ | refine r_eqI ?_ | refine r_neI ?_ | refine r_eqS ?_ | refine r_neS ?_ | refine r_eqB ?_ | refine r_neB ?_ | refine r_int ?_ | refine r_drop ?_ | refine r_sub ?_ | refine r_gTp (by with_unfolding_all rfl) ?_ | refine r_gsCons ?_ | refine r_gsNil ?_ | refine r_for ?_ | refine r_lc ?_ | refine r_dc ?_ | refine r_iRg1 ?_ | refine r_inT (by with_unfolding_all rfl) (by with_unfolding_all rfl) ?_)
        have := hP S3 e3
        have q : (w.way jj x).all (fun g => decide (g ∈ k1)) = (w.way jj x).all fun g => decide (g ∈ sem w a ρ) := by
          congr 1
          funext g
          rw [decide_eq_decide]
          exact i1 g
        rw [if_neg (by decide)]
        rw [q]
        exact this
      · (repeat with_reducible first | refine r_seq ?_ | refine r_asg ?_ | refine r_nm ?_ | refine r_var (by with_unfolding_all rfl) ?_ | refine r_c ?_ | refine r_aCons ?_ | refine r_aNil ?_ | refine r_op ?_ | refine r_call ?_ | refine r_val ?_ | refine r_bl ?_ | refine r_if ?_ | refine r_ret ?_ | refine r_next ?_ | refine r_ifT (by first | decide | (with_unfolding_all rfl)) ?_ | refine r_ifF (by first | decide | (with_unfolding_all rfl)) ?_ | refine r_tup ?_ | refine r_lst ?_ | refine r_le (Nat.le_of_ble_eq_true (by with_unfolding_all rfl)) ?_ | refine r_cb ?_ | refine r_and ?_ | refine r_or ?_ | refine r_not ?_ | refine r_eIf ?_ | refine r_eAnd ?_ | refine r_eOr ?_ | refine r_eNot ?_ | refine r_isN ?_ | refine r_mt ?_ | refine r_tr ?_ | refine r_ss ?_ | refine r_dict0 ?_ | refine r_yes ?_ | refine r_isi ?_ | refine r_ty (by with_unfolding_all rfl) ?_ | refine r_ixT (by with_unfolding_all rfl) ?_ | refine r_ixE (by with_unfolding_all rfl) (by with_unfolding_all rfl) ?_ | refine r_ixL (by assumption) (by with_unfolding_all rfl) ?_ | refine r_addI ?_ | refine r_intF ?_ | refine r_intCF (by first | decide | exact cmul_r (by decide) | exact cmul_l (by decide)) ?_ | refine r_eqI ?_ | refine r_neI ?_ | refine r_eqS ?_ | refine r_neS ?_ | refine r_eqB ?_ | refine r_neB ?_ | refine r_int ?_ | refine r_drop ?_ | refine r_sub ?_ | refine r_gTp (by with_unfolding_all rfl) ?_ | refine r_gsCons ?_ | refine r_gsNil ?_ | refine r_for ?_ | refine r_lc ?_ | refine r_dc ?_ | refine r_iRg1 ?_ | refine r_inT (by with_unfolding_all rfl) (by with_unfolding_all rfl) ?_)
        refine hQ _ _ ks (e1.trans e2) e1.le h2 n2 fun j => ?_
        rw [i2]
        simp only [sem, mem_canon, List.mem_range]
    | least x a =>
      have hd' : a.dp + 1 ≤ k + 1 := hd
      have hm : ∀ X Y, Sub X Y → Sub (sem w a (up ρ x X)) (sem w a (up ρ x Y)) := fun X Y h => rnd_mono w a ρ x h
      have ho : ∀ X, OkSub w.n X → OkSub w.n (sem w a (up ρ x X)) := fun X h => rnd_ok hρ x h
      have hF : ∀ S kn kv X Q, OkSub w.n X → S[kn]? = some (.dct kv) → ((∀ y ∈ sc, y ≠ x → valD kv (.int (y : Nat)) = some (encP (ρ y))) ∧ (kv.length ≤ kvs.length ∨ ((valD kv (.int (x : Nat))).isSome = true ∧ kv.length ≤ kvs.length + 1))) → valD kv (.int (x : Nat)) = some (encP X) → Wish S (sem w a (up ρ x X)) Q → F_found_places k [encW w, encF a, .ref kn] S Q := fun S kn kv X Q h1 h2 h3 h4 h5 => by
        refine found_spec hw hn k a (x :: sc) (up ρ x X) S kn kv Q (by omega) hs (hρ.up h1 x) (by show dicC S[kn]? = _; rw [h2]; rfl) (by have := h3.2; omega) ?_ h5
        intro y hy
        by_cases e : y = x
        · subst e; rw [up_self]; exact h4
        · rw [up_ne _ _ e]
          rw [List.mem_cons] at hy
          exact h3.1 y (hy.resolve_left e) e
      have hKp : ∀ kv X, ((∀ y ∈ sc, y ≠ x → valD kv (.int (y : Nat)) = some (encP (ρ y))) ∧ (kv.length ≤ kvs.length ∨ ((valD kv (.int (x : Nat))).isSome = true ∧ kv.length ≤ kvs.length + 1))) → ((∀ y ∈ sc, y ≠ x → valD (putD kv (.int (x : Nat)) (encP X)) (.int (y : Nat)) = some (encP (ρ y))) ∧ ((putD kv (.int (x : Nat)) (encP X)).length ≤ kvs.length ∨ ((valD (putD kv (.int (x : Nat)) (encP X)) (.int (x : Nat))).isSome = true ∧ (putD kv (.int (x : Nat)) (encP X)).length ≤ kvs.length + 1))) := fun kv X h => by
        refine ⟨fun y hy e => ?_, .inr ⟨by rw [putD_self]; rfl, ?_⟩⟩
        · rw [putD_ne _ _ (by intro q; injection q with q; omega)]
          exact h.1 y hy e
        · rcases h.2 with q | ⟨q1, q2⟩
          · have := length_putD kv (.int (x : Nat)) (encP X); omega
          · rw [putD_len_in q1]; exact q2
      (repeat with_reducible first | refine r_seq ?_ | refine r_asg ?_ | refine r_nm ?_ | refine r_var (by with_unfolding_all rfl) ?_ | refine r_c ?_ | refine r_aCons ?_ | refine r_aNil ?_ | refine r_op ?_ | refine r_call ?_ | refine r_val ?_ | refine r_bl ?_ | refine r_if ?_ | refine r_ret ?_ | refine r_next ?_ | refine r_ifT (by first | decide | (with_unfolding_all rfl)) ?_ | refine r_ifF (by first | decide | (with_unfolding_all rfl)) ?_ | refine r_tup ?_ | refine r_lst ?_ | refine r_le (Nat.le_of_ble_eq_true (by with_unfolding_all rfl)) ?_ | refine r_cb ?_ | refine r_and ?_ | refine r_or ?_ | refine r_not ?_ | refine r_eIf ?_ | refine r_eAnd ?_ | refine r_eOr ?_ | refine r_eNot ?_ | refine r_isN ?_ | refine r_mt ?_ | refine r_tr ?_ | refine r_ss ?_ | refine r_dict0 ?_ | refine r_yes ?_ | refine r_isi ?_ | refine r_ty (by with_unfolding_all rfl) ?_ | refine r_ixT (by with_unfolding_all rfl) ?_ | refine r_ixE (by with_unfolding_all rfl) (by with_unfolding_all rfl) ?_ | refine r_ixL (by assumption) (by with_unfolding_all rfl) ?_ | refine r_addI ?_ | refine r_intF ?_ | refine r_intCF (by first | decide | exact cmul_r (by decide) | exact cmul_l (by decide)) ?_ | refine r_eqI ?_ | refine r_neI ?_ | refine r_eqS ?_ | refine r_neS ?_ | refine r_eqB ?_ | refine r_neB ?_ | refine r_int ?_ | refine r_drop ?_ | refine r_sub ?_ | refine r_gTp (by with_unfolding_all rfl) ?_ | refine r_gsCons ?_ | refine r_gsNil ?_ | refine r_for ?_ | refine r_lc ?_ | refine r_dc ?_ | refine r_iRg1 ?_ | refine r_inT (by with_unfolding_all rfl) (by with_unfolding_all rfl) ?_)
      refine r_dictF hpl ?_
      (repeat with_reducible first | refine r_seq ?_ | refine r_asg ?_ | refine r_nm ?_ | refine r_var (by with_unfolding_all rfl) ?_ | refine r_c ?_ | refine r_aCons ?_ | refine r_aNil ?_ | refine r_op ?_ | refine r_call ?_ | refine r_val ?_ | refine r_bl ?_ | refine r_if ?_ | refine r_ret ?_ | refine r_next ?_ | refine r_ifT (by first | decide | (with_unfolding_all rfl)) ?_ | refine r_ifF (by first | decide | (with_unfolding_all rfl)) ?_ | refine r_tup ?_ | refine r_lst ?_ | refine r_le (Nat.le_of_ble_eq_true (by with_unfolding_all rfl)) ?_ | refine r_cb ?_ | refine r_and ?_ | refine r_or ?_ | refine r_not ?_ | refine r_eIf ?_ | refine r_eAnd ?_ | refine r_eOr ?_ | refine r_eNot ?_ | refine r_isN ?_ | refine r_mt ?_ | refine r_tr ?_ | refine r_ss ?_ | refine r_dict0 ?_ | refine r_yes ?_ | refine r_isi ?_ | refine r_ty (by with_unfolding_all rfl) ?_ | refine r_ixT (by with_unfolding_all rfl) ?_ | refine r_ixE (by with_unfolding_all rfl) (by with_unfolding_all rfl) ?_ | refine r_ixL (by assumption) (by with_unfolding_all rfl) ?_ | refine r_addI ?_ | refine r_intF ?_ | refine r_intCF (by first | decide | exact cmul_r (by decide) | exact cmul_l (by decide)) ?_ | refine r_eqI ?_ | refine r_neI ?_ | refine r_eqS ?_ | refine r_neS ?_ | refine r_eqB ?_ | refine r_neB ?_ | refine r_int ?_ | refine r_drop ?_ | refine r_sub ?_ | refine r_gTp (by with_unfolding_all rfl) ?_ | refine r_gsCons ?_ | refine r_gsNil ?_ | refine r_for ?_ | refine r_lc ?_ | refine r_dc ?_ | refine r_iRg1 ?_ | refine r_inT (by with_unfolding_all rfl) (by with_unfolding_all rfl) ?_)
      have hr := up_rest hm ho
      refine fix_loop (ds := .str "least") (x := x) (da := encF a) ho (nil_ok _) hr rfl _ ⟨fun y hy _ => hN y hy, .inl (Nat.le_refl _)⟩ hKp (fun kv h => by have := h.2; omega) hF (e0 := (Ext.app S _).trans (Ext.app _ _)) (Nat.le_refl _) (Ext.app _ _ _ _ (new_at S _)) (by simp) (new_at _ (.dct (setD []))) (by simp) .nil (by simp) hQ rfl
    | greatest x a =>
      have hd' : a.dp + 1 ≤ k + 1 := hd
      have hm : ∀ X Y, Sub X Y → Sub (sem w a (up ρ x X)) (sem w a (up ρ x Y)) := fun X Y h => rnd_mono w a ρ x h
      have ho : ∀ X, OkSub w.n X → OkSub w.n (sem w a (up ρ x X)) := fun X h => rnd_ok hρ x h
      have hF : ∀ S kn kv X Q, OkSub w.n X → S[kn]? = some (.dct kv) → ((∀ y ∈ sc, y ≠ x → valD kv (.int (y : Nat)) = some (encP (ρ y))) ∧ (kv.length ≤ kvs.length ∨ ((valD kv (.int (x : Nat))).isSome = true ∧ kv.length ≤ kvs.length + 1))) → valD kv (.int (x : Nat)) = some (encP X) → Wish S (sem w a (up ρ x X)) Q → F_found_places k [encW w, encF a, .ref kn] S Q := fun S kn kv X Q h1 h2 h3 h4 h5 => by
        refine found_spec hw hn k a (x :: sc) (up ρ x X) S kn kv Q (by omega) hs (hρ.up h1 x) (by show dicC S[kn]? = _; rw [h2]; rfl) (by have := h3.2; omega) ?_ h5
        intro y hy
        by_cases e : y = x
        · subst e; rw [up_self]; exact h4
        · rw [up_ne _ _ e]
          rw [List.mem_cons] at hy
          exact h3.1 y (hy.resolve_left e) e
      have hKp : ∀ kv X, ((∀ y ∈ sc, y ≠ x → valD kv (.int (y : Nat)) = some (encP (ρ y))) ∧ (kv.length ≤ kvs.length ∨ ((valD kv (.int (x : Nat))).isSome = true ∧ kv.length ≤ kvs.length + 1))) → ((∀ y ∈ sc, y ≠ x → valD (putD kv (.int (x : Nat)) (encP X)) (.int (y : Nat)) = some (encP (ρ y))) ∧ ((putD kv (.int (x : Nat)) (encP X)).length ≤ kvs.length ∨ ((valD (putD kv (.int (x : Nat)) (encP X)) (.int (x : Nat))).isSome = true ∧ (putD kv (.int (x : Nat)) (encP X)).length ≤ kvs.length + 1))) := fun kv X h => by
        refine ⟨fun y hy e => ?_, .inr ⟨by rw [putD_self]; rfl, ?_⟩⟩
        · rw [putD_ne _ _ (by intro q; injection q with q; omega)]
          exact h.1 y hy e
        · rcases h.2 with q | ⟨q1, q2⟩
          · have := length_putD kv (.int (x : Nat)) (encP X); omega
          · rw [putD_len_in q1]; exact q2
      (repeat with_reducible first | refine r_seq ?_ | refine r_asg ?_ | refine r_nm ?_ | refine r_var (by with_unfolding_all rfl) ?_ | refine r_c ?_ | refine r_aCons ?_ | refine r_aNil ?_ | refine r_op ?_ | refine r_call ?_ | refine r_val ?_ | refine r_bl ?_ | refine r_if ?_ | refine r_ret ?_ | refine r_next ?_ | refine r_ifT (by first | decide | (with_unfolding_all rfl)) ?_ | refine r_ifF (by first | decide | (with_unfolding_all rfl)) ?_ | refine r_tup ?_ | refine r_lst ?_ | refine r_le (Nat.le_of_ble_eq_true (by with_unfolding_all rfl)) ?_ | refine r_cb ?_ | refine r_and ?_ | refine r_or ?_ | refine r_not ?_ | refine r_eIf ?_ | refine r_eAnd ?_ | refine r_eOr ?_ | refine r_eNot ?_ | refine r_isN ?_ | refine r_mt ?_ | refine r_tr ?_ | refine r_ss ?_ | refine r_dict0 ?_ | refine r_yes ?_ | refine r_isi ?_ | refine r_ty (by with_unfolding_all rfl) ?_ | refine r_ixT (by with_unfolding_all rfl) ?_ | refine r_ixE (by with_unfolding_all rfl) (by with_unfolding_all rfl) ?_ | refine r_ixL (by assumption) (by with_unfolding_all rfl) ?_ | refine r_addI ?_ | refine r_intF ?_ | refine r_intCF (by first | decide | exact cmul_r (by decide) | exact cmul_l (by decide)) ?_ | refine r_eqI ?_ | refine r_neI ?_ | refine r_eqS ?_ | refine r_neS ?_ | refine r_eqB ?_ | refine r_neB ?_ | refine r_int ?_ | refine r_drop ?_ | refine r_sub ?_ | refine r_gTp (by with_unfolding_all rfl) ?_ | refine r_gsCons ?_ | refine r_gsNil ?_ | refine r_for ?_ | refine r_lc ?_ | refine r_dc ?_ | refine r_iRg1 ?_ | refine r_inT (by with_unfolding_all rfl) (by with_unfolding_all rfl) ?_)
      refine r_dictF hpl ?_
      (repeat with_reducible first | refine r_seq ?_ | refine r_asg ?_ | refine r_nm ?_ | refine r_var (by with_unfolding_all rfl) ?_ | refine r_c ?_ | refine r_aCons ?_ | refine r_aNil ?_ | refine r_op ?_ | refine r_call ?_ | refine r_val ?_ | refine r_bl ?_ | refine r_if ?_ | refine r_ret ?_ | refine r_next ?_ | refine r_ifT (by first | decide | (with_unfolding_all rfl)) ?_ | refine r_ifF (by first | decide | (with_unfolding_all rfl)) ?_ | refine r_tup ?_ | refine r_lst ?_ | refine r_le (Nat.le_of_ble_eq_true (by with_unfolding_all rfl)) ?_ | refine r_cb ?_ | refine r_and ?_ | refine r_or ?_ | refine r_not ?_ | refine r_eIf ?_ | refine r_eAnd ?_ | refine r_eOr ?_ | refine r_eNot ?_ | refine r_isN ?_ | refine r_mt ?_ | refine r_tr ?_ | refine r_ss ?_ | refine r_dict0 ?_ | refine r_yes ?_ | refine r_isi ?_ | refine r_ty (by with_unfolding_all rfl) ?_ | refine r_ixT (by with_unfolding_all rfl) ?_ | refine r_ixE (by with_unfolding_all rfl) (by with_unfolding_all rfl) ?_ | refine r_ixL (by assumption) (by with_unfolding_all rfl) ?_ | refine r_addI ?_ | refine r_intF ?_ | refine r_intCF (by first | decide | exact cmul_r (by decide) | exact cmul_l (by decide)) ?_ | refine r_eqI ?_ | refine r_neI ?_ | refine r_eqS ?_ | refine r_neS ?_ | refine r_eqB ?_ | refine r_neB ?_ | refine r_int ?_ | refine r_drop ?_ | refine r_sub ?_ | refine r_gTp (by with_unfolding_all rfl) ?_ | refine r_gsCons ?_ | refine r_gsNil ?_ | refine r_for ?_ | refine r_lc ?_ | refine r_dc ?_ | refine r_iRg1 ?_ | refine r_inT (by with_unfolding_all rfl) (by with_unfolding_all rfl) ?_)
      refine r_rg (by omega) (by omega) fun few => ?_
      rw [rng_map']
      have hr := down_rest hm ho
      refine dc_set (List.range w.n) (fun _ => true) (by simp [sizeLine]; omega) (fun _ => rfl) (fun _ _ => trivial) (fun x hx S1 P e1 hP => ?_) fun S1 ks e1 h1 h2 h3 => ?_
      · (repeat with_reducible first | refine r_seq ?_ | refine r_asg ?_ | refine r_nm ?_ | refine r_var (by with_unfolding_all rfl) ?_ | refine r_c ?_ | refine r_aCons ?_ | refine r_aNil ?_ | refine r_op ?_ | refine r_call ?_ | refine r_val ?_ | refine r_bl ?_ | refine r_if ?_ | refine r_ret ?_ | refine r_next ?_ | refine r_ifT (by first | decide | (with_unfolding_all rfl)) ?_ | refine r_ifF (by first | decide | (with_unfolding_all rfl)) ?_ | refine r_tup ?_ | refine r_lst ?_ | refine r_le (Nat.le_of_ble_eq_true (by with_unfolding_all rfl)) ?_ | refine r_cb ?_ | refine r_and ?_ | refine r_or ?_ | refine r_not ?_ | refine r_eIf ?_ | refine r_eAnd ?_ | refine r_eOr ?_ | refine r_eNot ?_ | refine r_isN ?_ | refine r_mt ?_ | refine r_tr ?_ | refine r_ss ?_ | refine r_dict0 ?_ | refine r_yes ?_ | refine r_isi ?_ | refine r_ty (by with_unfolding_all rfl) ?_ | refine r_ixT (by with_unfolding_all rfl) ?_ | refine r_ixE (by with_unfolding_all rfl) (by with_unfolding_all rfl) ?_ | refine r_ixL (by assumption) (by with_unfolding_all rfl) ?_ | refine r_addI ?_ | refine r_intF ?_ | refine r_intCF (by first | decide | exact cmul_r (by decide) | exact cmul_l (by decide)) ?_ | refine r_eqI ?_ | refine r_neI ?_ | refine r_eqS ?_ | refine r_neS ?_ | refine r_eqB ?_ | refine r_neB ?_ | refine r_int ?_ | refine r_drop ?_ | refine r_sub ?_ | refine r_gTp (by with_unfolding_all rfl) ?_ | refine r_gsCons ?_ | refine r_gsNil ?_ | refine r_for ?_ | refine r_lc ?_ | refine r_dc ?_ | refine r_iRg1 ?_ | refine r_inT (by with_unfolding_all rfl) (by with_unfolding_all rfl) ?_)
        exact hP _ (.refl _)
      · (repeat with_reducible first | refine r_seq ?_ | refine r_asg ?_ | refine r_nm ?_ | refine r_var (by with_unfolding_all rfl) ?_ | refine r_c ?_ | refine r_aCons ?_ | refine r_aNil ?_ | refine r_op ?_ | refine r_call ?_ | refine r_val ?_ | refine r_bl ?_ | refine r_if ?_ | refine r_ret ?_ | refine r_next ?_ | refine r_ifT (by first | decide | (with_unfolding_all rfl)) ?_ | refine r_ifF (by first | decide | (with_unfolding_all rfl)) ?_ | refine r_tup ?_ | refine r_lst ?_ | refine r_le (Nat.le_of_ble_eq_true (by with_unfolding_all rfl)) ?_ | refine r_cb ?_ | refine r_and ?_ | refine r_or ?_ | refine r_not ?_ | refine r_eIf ?_ | refine r_eAnd ?_ | refine r_eOr ?_ | refine r_eNot ?_ | refine r_isN ?_ | refine r_mt ?_ | refine r_tr ?_ | refine r_ss ?_ | refine r_dict0 ?_ | refine r_yes ?_ | refine r_isi ?_ | refine r_ty (by with_unfolding_all rfl) ?_ | refine r_ixT (by with_unfolding_all rfl) ?_ | refine r_ixE (by with_unfolding_all rfl) (by with_unfolding_all rfl) ?_ | refine r_ixL (by assumption) (by with_unfolding_all rfl) ?_ | refine r_addI ?_ | refine r_intF ?_ | refine r_intCF (by first | decide | exact cmul_r (by decide) | exact cmul_l (by decide)) ?_ | refine r_eqI ?_ | refine r_neI ?_ | refine r_eqS ?_ | refine r_neS ?_ | refine r_eqB ?_ | refine r_neB ?_ | refine r_int ?_ | refine r_drop ?_ | refine r_sub ?_ | refine r_gTp (by with_unfolding_all rfl) ?_ | refine r_gsCons ?_ | refine r_gsNil ?_ | refine r_for ?_ | refine r_lc ?_ | refine r_dc ?_ | refine r_iRg1 ?_ | refine r_inT (by with_unfolding_all rfl) (by with_unfolding_all rfl) ?_)
        refine fix_loop (ds := .str "greatest") (x := x) (da := encF a) ho (range_ok _) hr rfl _ ⟨fun y hy _ => hN y hy, .inl (Nat.le_refl _)⟩ hKp (fun kv h => by have := h.2; omega) hF (e0 := (Ext.app S _).trans e1) (Nat.le_refl _) (e1 _ _ (new_at S _)) (by simp) h1 (by simp) h2 (fun j => by rw [h3]; simp) hQ rfl
end PG
/-! SP6: worth, places_where, round_places. -/
namespace PG
open PySem L2 SD
theorem worth_spec {L0 L1 : Nat} {w : Wd} (hw : OkW L0 L1 w) (hn : w.n ≤ 1000) {f : Fm} {sc : List Nat} {ρ : Env} {S : Store} {pl : Nat} {kvs : List (D × D)} {Q : PD} (hd : f.dp ≤ 12) (hs : Sc L0 L1 sc f) (hρ : EnvOk w.n ρ) (hpl : dictD S (.ref pl) = some kvs) (hk : kvs.length ≤ 900) (hN : Names kvs sc ρ)
    (hQ : ∀ S', Ext S S' → Q (encP (sem w f ρ)) S') : F_worth [encW w, encF f, .ref pl] S Q := by
  refine r_fn rfl ?_
  unfold b_worth
  (repeat with_reducible first | refine r_seq ?_ | refine r_asg ?_ | refine r_nm ?_ | refine r_var (by with_unfolding_all rfl) ?_ | refine r_c ?_ | refine r_aCons ?_ | refine r_aNil ?_ | refine r_op ?_ | refine r_call ?_ | refine r_val ?_ | refine r_bl ?_ | refine r_if ?_ | refine r_ret ?_ | refine r_next ?_ | refine r_ifT (by first | decide | (with_unfolding_all rfl)) ?_ | refine r_ifF (by first | decide | (with_unfolding_all rfl)) ?_ | refine r_tup ?_ | refine r_lst ?_ | refine r_le (Nat.le_of_ble_eq_true (by with_unfolding_all rfl)) ?_ | refine r_cb ?_ | refine r_and ?_ | refine r_or ?_ | refine r_not ?_ | refine r_eIf ?_ | refine r_eAnd ?_ | refine r_eOr ?_ | refine r_eNot ?_ | refine r_isN ?_ | refine r_mt ?_ | refine r_tr ?_ | refine r_ss ?_ | refine r_dict0 ?_ | refine r_yes ?_ | refine r_isi ?_ | refine r_ty (by with_unfolding_all rfl) ?_ | refine r_ixT (by with_unfolding_all rfl) ?_ | refine r_ixE (by with_unfolding_all rfl) (by with_unfolding_all rfl) ?_ | refine r_ixL (by assumption) (by with_unfolding_all rfl) ?_ | refine r_addI ?_ | refine r_intF ?_ | refine r_intCF (by first | decide | exact cmul_r (by decide) | exact cmul_l (by decide)) ?_ | refine r_eqI ?_ | refine r_neI ?_ | refine r_eqS ?_ | refine r_neS ?_ | refine r_eqB ?_ | refine r_neB ?_ | refine r_int ?_ | refine r_drop ?_ | refine r_sub ?_ | refine r_gTp (by with_unfolding_all rfl) ?_ | refine r_gsCons ?_ | refine r_gsNil ?_ | refine r_for ?_ | refine r_lc ?_ | refine r_dc ?_ | refine r_iRg1 ?_ | refine r_inT (by with_unfolding_all rfl) (by with_unfolding_all rfl) ?_)
  refine found_spec hw hn 12 f sc ρ S pl kvs _ hd hs hρ hpl (by omega) hN fun S1 r ks e1 l1 h1 n1 i1 => ?_
  (repeat with_reducible first | refine r_seq ?_ | refine r_asg ?_ | refine r_nm ?_ | refine r_var (by with_unfolding_all rfl) ?_ | refine r_c ?_ | refine r_aCons ?_ | refine r_aNil ?_ | refine r_op ?_ | refine r_call ?_ | refine r_val ?_ | refine r_bl ?_ | refine r_if ?_ | refine r_ret ?_ | refine r_next ?_ | refine r_ifT (by first | decide | (with_unfolding_all rfl)) ?_ | refine r_ifF (by first | decide | (with_unfolding_all rfl)) ?_ | refine r_tup ?_ | refine r_lst ?_ | refine r_le (Nat.le_of_ble_eq_true (by with_unfolding_all rfl)) ?_ | refine r_cb ?_ | refine r_and ?_ | refine r_or ?_ | refine r_not ?_ | refine r_eIf ?_ | refine r_eAnd ?_ | refine r_eOr ?_ | refine r_eNot ?_ | refine r_isN ?_ | refine r_mt ?_ | refine r_tr ?_ | refine r_ss ?_ | refine r_dict0 ?_ | refine r_yes ?_ | refine r_isi ?_ | refine r_ty (by with_unfolding_all rfl) ?_ | refine r_ixT (by with_unfolding_all rfl) ?_ | refine r_ixE (by with_unfolding_all rfl) (by with_unfolding_all rfl) ?_ | refine r_ixL (by assumption) (by with_unfolding_all rfl) ?_ | refine r_addI ?_ | refine r_intF ?_ | refine r_intCF (by first | decide | exact cmul_r (by decide) | exact cmul_l (by decide)) ?_ | refine r_eqI ?_ | refine r_neI ?_ | refine r_eqS ?_ | refine r_neS ?_ | refine r_eqB ?_ | refine r_neB ?_ | refine r_int ?_ | refine r_drop ?_ | refine r_sub ?_ | refine r_gTp (by with_unfolding_all rfl) ?_ | refine r_gsCons ?_ | refine r_gsNil ?_ | refine r_for ?_ | refine r_lc ?_ | refine r_dc ?_ | refine r_iRg1 ?_ | refine r_inT (by with_unfolding_all rfl) (by with_unfolding_all rfl) ?_)
  refine r_listD h1 ?_
  rw [setD_keys]
  (repeat with_reducible first | refine r_seq ?_ | refine r_asg ?_ | refine r_nm ?_ | refine r_var (by with_unfolding_all rfl) ?_ | refine r_c ?_ | refine r_aCons ?_ | refine r_aNil ?_ | refine r_op ?_ | refine r_call ?_ | refine r_val ?_ | refine r_bl ?_ | refine r_if ?_ | refine r_ret ?_ | refine r_next ?_ | refine r_ifT (by first | decide | (with_unfolding_all rfl)) ?_ | refine r_ifF (by first | decide | (with_unfolding_all rfl)) ?_ | refine r_tup ?_ | refine r_lst ?_ | refine r_le (Nat.le_of_ble_eq_true (by with_unfolding_all rfl)) ?_ | refine r_cb ?_ | refine r_and ?_ | refine r_or ?_ | refine r_not ?_ | refine r_eIf ?_ | refine r_eAnd ?_ | refine r_eOr ?_ | refine r_eNot ?_ | refine r_isN ?_ | refine r_mt ?_ | refine r_tr ?_ | refine r_ss ?_ | refine r_dict0 ?_ | refine r_yes ?_ | refine r_isi ?_ | refine r_ty (by with_unfolding_all rfl) ?_ | refine r_ixT (by with_unfolding_all rfl) ?_ | refine r_ixE (by with_unfolding_all rfl) (by with_unfolding_all rfl) ?_ | refine r_ixL (by assumption) (by with_unfolding_all rfl) ?_ | refine r_addI ?_ | refine r_intF ?_ | refine r_intCF (by first | decide | exact cmul_r (by decide) | exact cmul_l (by decide)) ?_ | refine r_eqI ?_ | refine r_neI ?_ | refine r_eqS ?_ | refine r_neS ?_ | refine r_eqB ?_ | refine r_neB ?_ | refine r_int ?_ | refine r_drop ?_ | refine r_sub ?_ | refine r_gTp (by with_unfolding_all rfl) ?_ | refine r_gsCons ?_ | refine r_gsNil ?_ | refine r_for ?_ | refine r_lc ?_ | refine r_dc ?_ | refine r_iRg1 ?_ | refine r_inT (by with_unfolding_all rfl) (by with_unfolding_all rfl) ?_)
  refine r_sorted (by show seqC (S1 ++ _)[S1.length]? = _; rw [new_at]; rfl) n1 fun ls s1 s2 => ?_
  have xe : ls = sem w f ρ := by
    refine sub_ext (n := w.n) s1 (sem_ok w f ρ hρ).1 fun j => ?_
    rw [s2, i1]
  subst xe
  (repeat with_reducible first | refine r_seq ?_ | refine r_asg ?_ | refine r_nm ?_ | refine r_var (by with_unfolding_all rfl) ?_ | refine r_c ?_ | refine r_aCons ?_ | refine r_aNil ?_ | refine r_op ?_ | refine r_call ?_ | refine r_val ?_ | refine r_bl ?_ | refine r_if ?_ | refine r_ret ?_ | refine r_next ?_ | refine r_ifT (by first | decide | (with_unfolding_all rfl)) ?_ | refine r_ifF (by first | decide | (with_unfolding_all rfl)) ?_ | refine r_tup ?_ | refine r_lst ?_ | refine r_le (Nat.le_of_ble_eq_true (by with_unfolding_all rfl)) ?_ | refine r_cb ?_ | refine r_and ?_ | refine r_or ?_ | refine r_not ?_ | refine r_eIf ?_ | refine r_eAnd ?_ | refine r_eOr ?_ | refine r_eNot ?_ | refine r_isN ?_ | refine r_mt ?_ | refine r_tr ?_ | refine r_ss ?_ | refine r_dict0 ?_ | refine r_yes ?_ | refine r_isi ?_ | refine r_ty (by with_unfolding_all rfl) ?_ | refine r_ixT (by with_unfolding_all rfl) ?_ | refine r_ixE (by with_unfolding_all rfl) (by with_unfolding_all rfl) ?_ | refine r_ixL (by assumption) (by with_unfolding_all rfl) ?_ | refine r_addI ?_ | refine r_intF ?_ | refine r_intCF (by first | decide | exact cmul_r (by decide) | exact cmul_l (by decide)) ?_ | refine r_eqI ?_ | refine r_neI ?_ | refine r_eqS ?_ | refine r_neS ?_ | refine r_eqB ?_ | refine r_neB ?_ | refine r_int ?_ | refine r_drop ?_ | refine r_sub ?_ | refine r_gTp (by with_unfolding_all rfl) ?_ | refine r_gsCons ?_ | refine r_gsNil ?_ | refine r_for ?_ | refine r_lc ?_ | refine r_dc ?_ | refine r_iRg1 ?_ | refine r_inT (by with_unfolding_all rfl) (by with_unfolding_all rfl) ?_)
  refine r_tuple (by show seqC ((S1 ++ _) ++ _)[(S1 ++ _).length]? = _; rw [new_at]; rfl) ?_
  (repeat with_reducible first | refine r_seq ?_ | refine r_asg ?_ | refine r_nm ?_ | refine r_var (by with_unfolding_all rfl) ?_ | refine r_c ?_ | refine r_aCons ?_ | refine r_aNil ?_ | refine r_op ?_ | refine r_call ?_ | refine r_val ?_ | refine r_bl ?_ | refine r_if ?_ | refine r_ret ?_ | refine r_next ?_ | refine r_ifT (by first | decide | (with_unfolding_all rfl)) ?_ | refine r_ifF (by first | decide | (with_unfolding_all rfl)) ?_ | refine r_tup ?_ | refine r_lst ?_ | refine r_le (Nat.le_of_ble_eq_true (by with_unfolding_all rfl)) ?_ | refine r_cb ?_ | refine r_and ?_ | refine r_or ?_ | refine r_not ?_ | refine r_eIf ?_ | refine r_eAnd ?_ | refine r_eOr ?_ | refine r_eNot ?_ | refine r_isN ?_ | refine r_mt ?_ | refine r_tr ?_ | refine r_ss ?_ | refine r_dict0 ?_ | refine r_yes ?_ | refine r_isi ?_ | refine r_ty (by with_unfolding_all rfl) ?_ | refine r_ixT (by with_unfolding_all rfl) ?_ | refine r_ixE (by with_unfolding_all rfl) (by with_unfolding_all rfl) ?_ | refine r_ixL (by assumption) (by with_unfolding_all rfl) ?_ | refine r_addI ?_ | refine r_intF ?_ | refine r_intCF (by first | decide | exact cmul_r (by decide) | exact cmul_l (by decide)) ?_ | refine r_eqI ?_ | refine r_neI ?_ | refine r_eqS ?_ | refine r_neS ?_ | refine r_eqB ?_ | refine r_neB ?_ | refine r_int ?_ | refine r_drop ?_ | refine r_sub ?_ | refine r_gTp (by with_unfolding_all rfl) ?_ | refine r_gsCons ?_ | refine r_gsNil ?_ | refine r_for ?_ | refine r_lc ?_ | refine r_dc ?_ | refine r_iRg1 ?_ | refine r_inT (by with_unfolding_all rfl) (by with_unfolding_all rfl) ?_)
  exact hQ _ ((e1.trans (Ext.app _ _)).trans (Ext.app _ _))
def ρ0 : Env := fun _ => []
theorem ρ0_ok (n : Nat) : EnvOk n ρ0 := fun _ => nil_ok n
theorem where_spec {L0 L1 : Nat} {w : Wd} (hw : OkW L0 L1 w) (hn : w.n ≤ 1000) {f : Fm} {S : Store} {Q : PD} (hd : f.dp ≤ 12) (hs : Sc L0 L1 [] f) (hQ : ∀ S', Ext S S' → Q (encP (sem w f ρ0)) S') : F_places_where [encW w, encF f] S Q := by
  refine r_fn rfl ?_
  unfold b_places_where
  (repeat with_reducible first | refine r_seq ?_ | refine r_asg ?_ | refine r_nm ?_ | refine r_var (by with_unfolding_all rfl) ?_ | refine r_c ?_ | refine r_aCons ?_ | refine r_aNil ?_ | refine r_op ?_ | refine r_call ?_ | refine r_val ?_ | refine r_bl ?_ | refine r_if ?_ | refine r_ret ?_ | refine r_next ?_ | refine r_ifT (by first | decide | (with_unfolding_all rfl)) ?_ | refine r_ifF (by first | decide | (with_unfolding_all rfl)) ?_ | refine r_tup ?_ | refine r_lst ?_ | refine r_le (Nat.le_of_ble_eq_true (by with_unfolding_all rfl)) ?_ | refine r_cb ?_ | refine r_and ?_ | refine r_or ?_ | refine r_not ?_ | refine r_eIf ?_ | refine r_eAnd ?_ | refine r_eOr ?_ | refine r_eNot ?_ | refine r_isN ?_ | refine r_mt ?_ | refine r_tr ?_ | refine r_ss ?_ | refine r_dict0 ?_ | refine r_yes ?_ | refine r_isi ?_ | refine r_ty (by with_unfolding_all rfl) ?_ | refine r_ixT (by with_unfolding_all rfl) ?_ | refine r_ixE (by with_unfolding_all rfl) (by with_unfolding_all rfl) ?_ | refine r_ixL (by assumption) (by with_unfolding_all rfl) ?_ | refine r_addI ?_ | refine r_intF ?_ | refine r_intCF (by first | decide | exact cmul_r (by decide) | exact cmul_l (by decide)) ?_ | refine r_eqI ?_ | refine r_neI ?_ | refine r_eqS ?_ | refine r_neS ?_ | refine r_eqB ?_ | refine r_neB ?_ | refine r_int ?_ | refine r_drop ?_ | refine r_sub ?_ | refine r_gTp (by with_unfolding_all rfl) ?_ | refine r_gsCons ?_ | refine r_gsNil ?_ | refine r_for ?_ | refine r_lc ?_ | refine r_dc ?_ | refine r_iRg1 ?_ | refine r_inT (by with_unfolding_all rfl) (by with_unfolding_all rfl) ?_)
  refine worth_spec hw hn hd hs (ρ0_ok _) (kvs := []) (by show dicC (S ++ _)[S.length]? = _; rw [new_at]; rfl) (by decide) (fun x hx => by cases hx) fun S' e => ?_
  exact hQ S' ((Ext.app _ _).trans e)
/-- {x: places} -/
theorem disp_spec {σ : Slots} {fk fv : FE} {x : Nat} {X : List Nat} {S : Store} {Q : PD} (hk : ∀ S P, P (.int (x : Nat)) S → fk σ S P) (hv : ∀ S1 P, Ext S S1 → P (encP X) S1 → fv σ S1 P)
    (h : ∀ S', Ext S S' → S'[S.length]? = some (.dct [(.int (x : Nat), encP X)]) → Q (.ref S.length) S') : eDispD [(fk, fv)] σ S Q := by
  show fk σ (S ++ [.dct []]) _
  refine hk _ _ ?_
  refine hv _ _ (Ext.app S _) ?_
  show _ ∧ _
  refine ⟨new_at S _, by simp, ?_, ?_⟩
  · intro p hp
    rw [List.mem_singleton] at hp
    subst hp; rfl
  · exact h _ ((Ext.app S _).put (Nat.le_refl _)) (set_at (new_at S _))
theorem one_name (x : Nat) (X : List Nat) : Names [(.int (x : Nat), encP X)] [x] (up ρ0 x X) := fun y hy => by
  rw [List.mem_singleton] at hy
  subst hy
  rw [up_self]
  unfold valD
  rw [List.find?_cons_of_pos (by simp)]; rfl
theorem worth1_spec {L0 L1 : Nat} {w : Wd} (hw : OkW L0 L1 w) (hn : w.n ≤ 1000) {f : Fm} {x : Nat} {X : List Nat} (hX : OkSub w.n X) {S : Store} {pl : Nat} {Q : PD} (hd : f.dp ≤ 12) (hs : Sc L0 L1 [x] f) (hpl : S[pl]? = some (.dct [(.int (x : Nat), encP X)]))
    (hQ : ∀ S', Ext S S' → Q (encP (rnd w f ρ0 x X)) S') : F_worth [encW w, encF f, .ref pl] S Q :=
  worth_spec hw hn hd hs ((ρ0_ok _).up hX x) (by show dicC S[pl]? = _; rw [hpl]; rfl) (by simp) (one_name x X) hQ
theorem depthAll_nats (xs : List Nat) : PyData.depthAll (toPys (xs.map fun k : Nat => D.int (k : Nat))) ≤ 1 := by
  induction xs with
  | nil => simp [toPys, PyData.depthAll]
  | cons x xs ih =>
    simp only [List.map_cons, toPys, toPy, PyData.depthAll, PyData.depth]
    omega
theorem okDs_nats (xs : List Nat) : okDs (xs.map fun k : Nat => D.int (k : Nat)) = true := by
  induction xs with
  | nil => rfl
  | cons x xs ih => rw [List.map_cons, okDs, okD, ih]; rfl
theorem plain_nats (xs : List Nat) : plainD (encP xs) = true := by
  unfold plainD encP
  rw [Bool.and_eq_true, decide_eq_true_eq]
  refine ⟨okDs_nats xs, ?_⟩
  have := depthAll_nats xs
  simp only [toPy, PyData.depth]
  omega
theorem pl_nats {xs : List Nat} (k : Nat) (h : xs.length ≤ 1000000) : Pl (k + 2) (encP xs) := .tup _ _ (by rw [List.length_map]; exact h) fun x hx => by
  obtain ⟨j, _, rfl⟩ := List.mem_map.mp hx
  exact .int _ _
theorem nats_inj : ∀ {xs ys : List Nat}, (xs.map fun k : Nat => D.int (k : Nat)) = (ys.map fun k : Nat => D.int (k : Nat)) → xs = ys
  | [], [], _ => rfl
  | [], _ :: _, h => by simp at h
  | _ :: _, [], h => by simp at h
  | x :: xs, y :: ys, h => by
    rw [List.map_cons, List.map_cons] at h
    injection h with h1 h2
    injection h1 with h1
    rw [nats_inj h2, Int.ofNat.inj h1]
theorem encP_eq {xs ys : List Nat} : decide (encP xs = encP ys) = decide (xs = ys) := by
  rw [decide_eq_decide]
  exact ⟨fun h => by unfold encP at h; injection h with h; exact nats_inj h, fun h => by rw [h]⟩
/-- [x for x in A if x not in B] -/
theorem notin_spec {σ : Slots} {bv iv : Nat} {A B : List Nat} {S : Store} {R : Store → Prop} (hb : ∀ d : D, (σ.set iv (some d))[bv]? = some (some (encP B))) (hi : ∀ d : D, (σ.set iv (some d))[iv]? = some (some d)) (hA : A.length ≤ 100000)
    (h : ∀ S', Ext S S' → S'[S.length]? = some (.lst ((A.filter fun x => !decide (x ∈ B)).map fun k : Nat => .int (k : Nat))) → R S') :
    lcD Always (gNm iv) (tVal (eOp (inF true) (eVar iv) (eVar bv))) (eVar iv) S.length R σ (A.map fun k : Nat => .int (k : Nat)) (S ++ [.lst []]) := by
  refine lc_filter (fun x => match x with | .int i => !decide (i.toNat ∈ B) | _ => false) id (by simp [sizeLine]; omega) (fun _ _ => trivial) ?_ ?_ ?_
  · intro x hx S1 P e1 hP
    obtain ⟨k, hk, rfl⟩ := List.mem_map.mp hx
    (repeat with_reducible first | refine r_seq ?_ | refine r_asg ?_ | refine r_nm ?_ | refine r_var (by with_unfolding_all rfl) ?_ | refine r_c ?_ | refine r_aCons ?_ | refine r_aNil ?_ | refine r_op ?_ | refine r_call ?_ | refine r_val ?_ | refine r_bl ?_ | refine r_if ?_ | refine r_ret ?_ | refine r_next ?_ | refine r_ifT (by first | decide | (with_unfolding_all rfl)) ?_ | refine r_ifF (by first | decide | (with_unfolding_all rfl)) ?_ | refine r_tup ?_ | refine r_lst ?_ | refine r_le (Nat.le_of_ble_eq_true (by with_unfolding_all rfl)) ?_ | refine r_cb ?_ | refine r_and ?_ | refine r_or ?_ | refine r_not ?_ | refine r_eIf ?_ | refine r_eAnd ?_ | refine r_eOr ?_ | refine r_eNot ?_ | refine r_isN ?_ | refine r_mt ?_ | refine r_tr ?_ | refine r_ss ?_ | refine r_dict0 ?_ | refine r_yes ?_ | refine r_isi ?_ | refine r_ty (by with_unfolding_all rfl) ?_ | refine r_ixT (by with_unfolding_all rfl) ?_ | refine r_ixE (by with_unfolding_all rfl) (by with_unfolding_all rfl) ?_ | refine r_ixL (by assumption) (by with_unfolding_all rfl) ?_ | refine r_addI ?_ | refine r_intF ?_ | refine r_intCF (by first | decide | exact cmul_r (by decide) | exact cmul_l (by decide)) ?_ | refine r_eqI ?_ | refine r_neI ?_ | refine r_eqS ?_ | refine r_neS ?_ | refine r_eqB ?_ | refine r_neB ?_ | refine r_int ?_ | refine r_drop ?_ | refine r_sub ?_ | refine r_gTp (by with_unfolding_all rfl) ?_ | refine r_gsCons ?_ | refine r_gsNil ?_ | refine r_for ?_ | refine r_lc ?_ | refine r_dc ?_ | refine r_iRg1 ?_ | refine r_inT (by with_unfolding_all rfl) (by with_unfolding_all rfl) ?_)
    refine r_var (hi _) ?_
    refine r_var (hb _) ?_
    refine r_ninT rfl (flat_nat _) ?_
    rw [mem_nat]
    (repeat with_reducible first | refine r_seq ?_ | refine r_asg ?_ | refine r_nm ?_ | refine r_var (by with_unfolding_all rfl) ?_ | refine r_c ?_ | refine r_aCons ?_ | refine r_aNil ?_ | refine r_op ?_ | refine r_call ?_ | refine r_val ?_ | refine r_bl ?_ | refine r_if ?_ | refine r_ret ?_ | refine r_next ?_ | refine r_ifT (by first | decide | (with_unfolding_all rfl)) ?_ | refine r_ifF (by first | decide | (with_unfolding_all rfl)) ?_ | refine r_tup ?_ | refine r_lst ?_ | refine r_le (Nat.le_of_ble_eq_true (by with_unfolding_all rfl)) ?_ | refine r_cb ?_ | refine r_and ?_ | refine r_or ?_ | refine r_not ?_ | refine r_eIf ?_ | refine r_eAnd ?_ | refine r_eOr ?_ | refine r_eNot ?_ | refine r_isN ?_ | refine r_mt ?_ | refine r_tr ?_ | refine r_ss ?_ | refine r_dict0 ?_ | refine r_yes ?_ | refine r_isi ?_ | refine r_ty (by with_unfolding_all rfl) ?_ | refine r_ixT (by with_unfolding_all rfl) ?_ | refine r_ixE (by with_unfolding_all rfl) (by with_unfolding_all rfl) ?_ | refine r_ixL (by assumption) (by with_unfolding_all rfl) ?_ | refine r_addI ?_ | refine r_intF ?_ | refine r_intCF (by first | decide | exact cmul_r (by decide) | exact cmul_l (by decide)) ?_ | refine r_eqI ?_ | refine r_neI ?_ | refine r_eqS ?_ | refine r_neS ?_ | refine r_eqB ?_ | refine r_neB ?_ | refine r_int ?_ | refine r_drop ?_ | refine r_sub ?_ | refine r_gTp (by with_unfolding_all rfl) ?_ | refine r_gsCons ?_ | refine r_gsNil ?_ | refine r_for ?_ | refine r_lc ?_ | refine r_dc ?_ | refine r_iRg1 ?_ | refine r_inT (by with_unfolding_all rfl) (by with_unfolding_all rfl) ?_)
    exact hP S1 (.refl _)
  · intro x hx S1 P e1 hP
    exact r_var (hi _) (hP S1 (.refl _))
  · intro S1 e1 h1
    refine h S1 e1 ?_
    rw [h1, List.map_id, List.filter_map]
    rfl
theorem diff_none {A B : List Nat} (h : Sub A B) : ((A.filter fun x => !decide (x ∈ B)).map fun k : Nat => D.int (k : Nat)).length = 0 := by
  rw [List.length_map, List.length_eq_zero_iff, List.filter_eq_nil_iff]
  intro x hx
  simpa using h x hx
theorem diff_sub {A B : List Nat} (h : ((A.filter fun x => !decide (x ∈ B)).map fun k : Nat => D.int (k : Nat)).length = 0) : Sub A B := by
  rw [List.length_map, List.length_eq_zero_iff, List.filter_eq_nil_iff] at h
  intro x hx
  simpa using h x hx
end PG
namespace K28
open PySem L2 SD PG
/-! ### law -/
def b_law (G_worth : FnD) (G_round_places : FnD) (G__law_draw : FnD) (G__law_same : FnD) (G_places_where : FnD) (G__law_world : FnD) (G__law_saying : FnD) (G__law_land : FnD) (G__law_pool : FnD) : FS :=
  (sSeq (sAsg (eCall G__law_pool (aCons (eVar 0) aNil)) (gNm 1))
  (sSeq (sAsg (eCall G__law_land (aCons (eVar 1) aNil)) (gNm 2))
  (sSeq (sAsg (eOp ixF (eTup (aCons (eC (.str "least")) (aCons (eC (.str "greatest")) aNil))) (eCall G__law_draw (aCons (eVar 1) (aCons (eC (.int 2)) aNil)))) (gNm 3))
  (sSeq (sAsg (eCall G__law_saying (aCons (eVar 1) (aCons (eVar 2) (aCons (eC (.int 2)) (aCons (eLst (aCons (eC (.int 0)) aNil)) (aCons (eTup (aCons (eC (.int 15)) aNil)) (aCons (eTup (aCons (eC (.int 15)) aNil)) aNil))))))) (gNm 4))
  (sSeq (sAsg (eTup (aCons (eVar 3) (aCons (eC (.int 15)) (aCons (eVar 4) aNil)))) (gNm 5))
  (sSeq (sAsg (eCall G__law_world (aCons (eVar 1) (aCons (eVar 2) (aCons (eC (.int 4)) aNil)))) (gNm 6))
  (sSeq (sAsg (eOp ixF (eVar 6) (eC (.int 0))) (gNm 7))
  (sSeq (sAsg (eCall G_places_where (aCons (eVar 6) (aCons (eVar 5) aNil))) (gNm 8))
  (sSeq (sIf (tNotD (tVal (eCall G__law_same (aCons (eCall G_worth (aCons (eVar 6) (aCons (eVar 4) (aCons (eDispD (((eC (.int 15)), (eVar 8)) :: [])) aNil)))) (aCons (eVar 8) aNil))))) (sRet (eC (.bl false))) sNext)
  (sSeq (sFor (iRg1 (aCons (eC (.int 6)) aNil)) (gNm 9) (sSeq (sAsg (eCB tupleF (aCons (eLc (iRg1 (aCons (eVar 7) aNil)) (gNm 15) (tVal (eOp (eqF false) (eCall G__law_draw (aCons (eVar 1) (aCons (eC (.int 2)) aNil))) (eC (.int 0)))) (eVar 15) [15]) aNil)) (gNm 10))
  (sSeq (sAsg (eCB tupleF (aCons (eSortSet (eOp addF (eCB listF (aCons (eVar 10) aNil)) (eLc (iRg1 (aCons (eVar 7) aNil)) (gNm 15) (tVal (eOp (eqF false) (eCall G__law_draw (aCons (eVar 1) (aCons (eC (.int 3)) aNil))) (eC (.int 0)))) (eVar 15) [15]))) aNil)) (gNm 11))
  (sSeq (sAsg (eTup (aCons (eCall G_worth (aCons (eVar 6) (aCons (eVar 4) (aCons (eDispD (((eC (.int 15)), (eVar 10)) :: [])) aNil)))) (aCons (eCall G_worth (aCons (eVar 6) (aCons (eVar 4) (aCons (eDispD (((eC (.int 15)), (eVar 11)) :: [])) aNil)))) aNil))) (gTp 2 (gsCons (gNm 12) (gsCons (gNm 13) gsNil))))
  (sSeq (sIf (tVal (eOp (intF fun i j => .bl (decide (j < i))) (eCB lenF (aCons (eLc (iSeqD (eVar 12)) (gNm 15) (tVal (eOp (inF true) (eVar 15) (eVar 13))) (eVar 15) [15]) aNil)) (eC (.int 0)))) (sRet (eC (.bl false))) sNext)
  (sSeq (sIf (tAndD (tVal (eOp (eqF false) (eVar 3) (eC (.str "least")))) (tAndD (tVal (eOp (eqF false) (eCB lenF (aCons (eLc (iSeqD (eVar 12)) (gNm 15) (tVal (eOp (inF true) (eVar 15) (eVar 10))) (eVar 15) [15]) aNil)) (eC (.int 0)))) (tVal (eOp (intF fun i j => .bl (decide (j < i))) (eCB lenF (aCons (eLc (iSeqD (eVar 8)) (gNm 15) (tVal (eOp (inF true) (eVar 15) (eVar 10))) (eVar 15) [15]) aNil)) (eC (.int 0)))))) (sRet (eC (.bl false))) sNext)
  (sIf (tAndD (tVal (eOp (eqF false) (eVar 3) (eC (.str "greatest")))) (tAndD (tVal (eOp (eqF false) (eCB lenF (aCons (eLc (iSeqD (eVar 10)) (gNm 15) (tVal (eOp (inF true) (eVar 15) (eVar 12))) (eVar 15) [15]) aNil)) (eC (.int 0)))) (tVal (eOp (intF fun i j => .bl (decide (j < i))) (eCB lenF (aCons (eLc (iSeqD (eVar 10)) (gNm 15) (tVal (eOp (inF true) (eVar 15) (eVar 8))) (eVar 15) [15]) aNil)) (eC (.int 0)))))) (sRet (eC (.bl false))) sNext)))))))
  (sSeq (sAsg (eLc (iRg1 (aCons (eOp addF (eVar 7) (eC (.int 2))) aNil)) (gNm 9) tYesD (eCall G_round_places (aCons (eVar 6) (aCons (eVar 5) (aCons (eVar 9) aNil)))) [9]) (gNm 14))
  (sSeq (sIf (tOrD (tVal (eOp (eqF true) (eOp ixF (eVar 14) (eC (.int 0))) (eIf (tVal (eOp (eqF false) (eVar 3) (eC (.str "least")))) (eTup aNil) (eTupRg1 (eVar 7))))) (tOrD (tVal (eOp (eqF true) (eOp ixF (eVar 14) (eVar 7)) (eVar 8))) (tVal (eOp (eqF true) (eOp ixF (eVar 14) (eOp addF (eVar 7) (eC (.int 1)))) (eVar 8))))) (sRet (eC (.bl false))) sNext)
  (sRet (eOp (eqF false) (eCB lenF (aCons (eLc (iRg1 (aCons (eOp addF (eVar 7) (eC (.int 1))) aNil)) (gNm 9) (tVal (eOp (eqF true) (eOp ixF (eVar 14) (eOp addF (eVar 9) (eC (.int 1)))) (eCall G_worth (aCons (eVar 6) (aCons (eVar 4) (aCons (eDispD (((eC (.int 15)), (eOp ixF (eVar 14) (eVar 9))) :: [])) aNil)))))) (eVar 9) [9]) aNil)) (eC (.int 0))))))))))))))))
def F_law : FnD := fnD 1 16 (b_law F_worth F_round_places F__law_draw (F__law_same 4) F_places_where F__law_world (F__law_saying 8) F__law_land F__law_pool)

end K28
namespace K28
open PySem L2 SD PG
/-! ### the text by places -/
def top (i : Nat) : Stmt := PySem.Challenge.pw_sayingsdown_k28_whole_least_and_greatest.main.body.getD i (.Pass ⟨0, 0, 0, 0⟩)
abbrev s_leads : Stmt := top 1
abbrev s_found_places : Stmt := top 2
abbrev s_worth : Stmt := top 3
abbrev s_places_where : Stmt := top 4
abbrev s_round_places : Stmt := top 6
abbrev s__law_same : Stmt := top 8
abbrev s__law_pool : Stmt := top 9
abbrev s__law_spread : Stmt := top 10
abbrev s__law_draw : Stmt := top 11
abbrev s__law_pick : Stmt := top 12
abbrev s__law_land : Stmt := top 13
abbrev s__law_saying : Stmt := top 14
abbrev s__law_world : Stmt := top 15
abbrev s_law : Stmt := top 16
structure Txt (mg : Str → Option Value) : Prop where
  all : mg "all" = none
  any : mg "any" = none
  bool : mg "bool" = none
  dict : mg "dict" = none
  int : mg "int" = none
  isinstance : mg "isinstance" = none
  len : mg "len" = none
  list : mg "list" = none
  range : mg "range" = none
  set_ : mg "set" = none
  sorted : mg "sorted" = none
  str : mg "str" = none
  tuple : mg "tuple" = none
structure Got (K : PySem.W.Frag) (mg : Str → Option Value) (x : Str) (st : Stmt) (ps : List Str) : Prop where
  ex : ∃ f fd, Fun K x x st f fd ∧ mg x = some (.ref f) ∧ Binds K fd ps []
theorem sc_leads : FnScope ["goals", "inner", "some", "goal"] ["goals", "inner", "some"] (defScope s_leads) := ⟨rfl, rfl, rfl, by decide +kernel, rfl, by decide +kernel, by decide +kernel⟩
theorem sc_found_places : FnScope ["world", "saying", "places", "name", "one", "two", "inner", "known", "now", "before", "k"] ["world", "saying", "places"] (defScope s_found_places) := ⟨rfl, rfl, rfl, by decide +kernel, rfl, by decide +kernel, by decide +kernel⟩
theorem sc_worth : FnScope ["world", "saying", "places"] ["world", "saying", "places"] (defScope s_worth) := ⟨rfl, rfl, rfl, by decide +kernel, rfl, by decide +kernel, by decide +kernel⟩
theorem sc_places_where : FnScope ["world", "saying"] ["world", "saying"] (defScope s_places_where) := ⟨rfl, rfl, rfl, by decide +kernel, rfl, by decide +kernel, by decide +kernel⟩
theorem sc_round_places : FnScope ["world", "saying", "k", "now", "_"] ["world", "saying", "k"] (defScope s_round_places) := ⟨rfl, rfl, rfl, by decide +kernel, rfl, by decide +kernel, by decide +kernel⟩
theorem sc__law_same : FnScope ["actual", "due", "k"] ["actual", "due"] (defScope s__law_same) := ⟨rfl, rfl, rfl, by decide +kernel, rfl, by decide +kernel, by decide +kernel⟩
theorem sc__law_pool : FnScope ["script", "salt", "cell"] ["script"] (defScope s__law_pool) := ⟨rfl, rfl, rfl, by decide +kernel, rfl, by decide +kernel, by decide +kernel⟩
theorem sc__law_spread : FnScope ["cell", "mixed", "total", "k"] ["cell"] (defScope s__law_spread) := ⟨rfl, rfl, rfl, by decide +kernel, rfl, by decide +kernel, by decide +kernel⟩
theorem sc__law_draw : FnScope ["pool", "many", "cell", "mixed", "value"] ["pool", "many"] (defScope s__law_draw) := ⟨rfl, rfl, rfl, by decide +kernel, rfl, by decide +kernel, by decide +kernel⟩
theorem sc__law_pick : FnScope ["pool", "items"] ["pool", "items"] (defScope s__law_pick) := ⟨rfl, rfl, rfl, by decide +kernel, rfl, by decide +kernel, by decide +kernel⟩
theorem sc__law_land : FnScope ["pool"] ["pool"] (defScope s__law_land) := ⟨rfl, rfl, rfl, by decide +kernel, rfl, by decide +kernel, by decide +kernel⟩
theorem sc__law_saying : FnScope ["pool", "land", "deep", "state", "known", "free", "turn", "x"] ["pool", "land", "deep", "state", "known", "free"] (defScope s__law_saying) := ⟨rfl, rfl, rfl, by decide +kernel, rfl, by decide +kernel, by decide +kernel⟩
theorem sc__law_world : FnScope ["pool", "land", "most", "n", "marks", "dense", "ways", "j", "i", "k", "place"] ["pool", "land", "most"] (defScope s__law_world) := ⟨rfl, rfl, rfl, by decide +kernel, rfl, by decide +kernel, by decide +kernel⟩
theorem sc_law : FnScope ["script", "pool", "land", "name", "inner", "f", "world", "n", "own", "k", "small", "great", "one", "two", "rows", "place"] ["script"] (defScope s_law) := ⟨rfl, rfl, rfl, by decide +kernel, rfl, by decide +kernel, by decide +kernel⟩
section
variable {P : Program} {w : World} {K : PySem.W.Frag} {mg : Str → Option Value} {base : Heap}
set_option maxHeartbeats 4000000 in
theorem ok_leads (T : Txt mg) (g : Got K mg "leads" s_leads ["goals", "inner", "some"])  : DefOk P w K mg base 1 "leads" F_leads := by
  obtain ⟨f, fd, F, h1, h2⟩ := g.ex
  exact ⟨f, fd, ["goals", "inner", "some"], fn_ok (k := 0) F sc_leads fun cdv A outer s H E hr =>
  (rs_cons (rs_if (rt_val (re_var 2)) (rs_one (rs_ret (re_callB (cd_any rfl) (by rfl) T.any bt_any (ra_cons (re_lc (own := [("goal", 3)]) rfl sc_leads.nd (ri_seq (re_var 0)) (blkOk_by (by kernel_rfl)) (pgd_name 3) (fun _ _ _ _ _ => (pg_name sc_leads.nd rfl (Or.inl rfl))) (fun _ _ _ _ _ => rts_nil) (fun _ _ _ _ _ => (re_cmp (od_in (hu_of hr)) (re_var 3) (re_var 1) (by rfl)))) ra_nil)))) rs_nil)
  (rs_one (rs_ret (re_callB (cd_all rfl) (by rfl) T.all bt_all (ra_cons (re_lc (own := [("goal", 3)]) rfl sc_leads.nd (ri_seq (re_var 0)) (blkOk_by (by kernel_rfl)) (pgd_name 3) (fun _ _ _ _ _ => (pg_name sc_leads.nd rfl (Or.inl rfl))) (fun _ _ _ _ _ => rts_nil) (fun _ _ _ _ _ => (re_cmp (od_in (hu_of hr)) (re_var 3) (re_var 1) (by rfl)))) ra_nil))))), h1, F.kp, h2⟩
set_option maxHeartbeats 4000000 in
theorem ok_found_places (T : Txt mg) (g : Got K mg "found_places" s_found_places ["world", "saying", "places"]) (h_leads : DefOk P w K mg base 1 "leads" F_leads) : ∀ k, DefOk P w K mg base (1 + k) "found_places" (F_found_places k)
  | 0 => by
    obtain ⟨f, fd, F, h1, h2⟩ := g.ex
    exact ⟨f, fd, _, fn_none, h1, F.kp, h2⟩
  | k + 1 => by
    have h_found_places := ok_found_places T g h_leads k
    obtain ⟨f, fd, F, h1, h2⟩ := g.ex
    exact ⟨f, fd, ["world", "saying", "places"], fn_ok (k := 1 + k) F sc_found_places fun cdv A outer s H E hr =>
  (rs_cons (rs_set (i := 3) sc_found_places.nd (re_ix (id_ix (hu_of hr)) (re_var 1) re_int))
  (rs_cons (rs_if (rt_cmp (od_in (hu_of hr)) (re_var 3) (re_tup (ra_cons re_str (ra_cons re_str ra_nil))) (by rfl)) (rs_one (rs_ret (re_dc (own := [("k", 10)]) rfl sc_found_places.nd (ri_range1 T.range (ra_cons (re_ix (id_ix (hu_of hr)) (re_var 0) re_int) ra_nil)) (blkOk_by (by kernel_rfl)) (pgd_name 10) (fun _ _ _ _ _ => (pg_name sc_found_places.nd rfl (Or.inl rfl))) (fun _ _ _ _ _ => (rts_one (rt_cmp (od_eq hr.units) (re_var 3) re_str (nomark _)))) (fun _ _ _ _ _ => (re_var 10)) (fun _ _ _ _ _ => re_bl)))) rs_nil)
  (rs_cons (rs_if (rt_cmp (od_in (hu_of hr)) (re_var 3) (re_tup (ra_cons re_str (ra_cons re_str ra_nil))) (by rfl)) (rs_one (rs_ret (re_dc (own := [("k", 10)]) rfl sc_found_places.nd (ri_range1 T.range (ra_cons (re_ix (id_ix (hu_of hr)) (re_var 0) re_int) ra_nil)) (blkOk_by (by kernel_rfl)) (pgd_name 10) (fun _ _ _ _ _ => (pg_name sc_found_places.nd rfl (Or.inl rfl))) (fun _ _ _ _ _ => (rts_one (rt_cmp (od_eq hr.units) (re_cmp (od_in (hu_of hr)) (re_var 10) (re_ix (id_ix (hu_of hr)) (re_ix (id_ix (hu_of hr)) (re_var 0) re_int) (re_ix (id_ix (hu_of hr)) (re_var 1) re_int)) (by rfl)) (re_cmp (od_eq hr.units) (re_var 3) re_str (nomark _)) (nomark _)))) (fun _ _ _ _ _ => (re_var 10)) (fun _ _ _ _ _ => re_bl)))) rs_nil)
  (rs_cons (rs_if (rt_cmp (od_eq hr.units) (re_var 3) re_str (nomark _)) (rs_one (rs_ret (re_dc (own := [("k", 10)]) rfl sc_found_places.nd (ri_seq (re_ix (id_ix (hu_of hr)) (re_var 2) (re_ix (id_ix (hu_of hr)) (re_var 1) re_int))) (blkOk_by (by kernel_rfl)) (pgd_name 10) (fun _ _ _ _ _ => (pg_name sc_found_places.nd rfl (Or.inl rfl))) (fun _ _ _ _ _ => rts_nil) (fun _ _ _ _ _ => (re_var 10)) (fun _ _ _ _ _ => re_bl)))) rs_nil)
  (rs_cons (rs_if (rt_cmp (od_in (hu_of hr)) (re_var 3) (re_tup (ra_cons re_str (ra_cons re_str ra_nil))) (by rfl)) (rs_cons (rs_asg (re_tup (ra_cons (re_call h_found_places hr (ra_cons (re_var 0) (ra_cons (re_ix (id_ix (hu_of hr)) (re_var 1) re_int) (ra_cons (re_var 2) ra_nil)))) (ra_cons (re_call h_found_places hr (ra_cons (re_var 0) (ra_cons (re_ix (id_ix (hu_of hr)) (re_var 1) re_int) (ra_cons (re_var 2) ra_nil)))) ra_nil))) (rg_tup rfl (rgs_cons (rg_name sc_found_places.nd (i := 4)) (rgs_cons (rg_name sc_found_places.nd (i := 5)) rgs_nil))))
  (rs_cons (rs_if (rt_cmp (od_eq hr.units) (re_var 3) re_str (nomark _)) (rs_one (rs_ret (re_lock 4 (re_dc (own := [("k", 10)]) rfl sc_found_places.nd (ri_keys 4) (blkOk_by (by kernel_rfl)) (pgd_name 10) (fun _ _ _ _ _ => (pg_name sc_found_places.nd rfl (Or.inl rfl))) (fun _ _ _ _ _ => (rts_one (rt_cmp (od_in (hu_of hr)) (re_var 10) (re_var 5) (by rfl)))) (fun _ _ _ _ _ => (re_var 10)) (fun _ _ _ _ _ => re_bl))))) rs_nil)
  (rs_cons (rs_expr (re_mt PySem.F.plainAttrs_dict PySem.F.slot_dict_update PySem.F.type_dict_update md_update (re_var 5) (ra_cons (re_var 4) ra_nil)))
  (rs_one (rs_ret (re_var 5)))))) rs_nil)
  (rs_cons (rs_if (rt_cmp (od_in (hu_of hr)) (re_var 3) (re_tup (ra_cons re_str (ra_cons re_str ra_nil))) (by rfl)) (rs_cons (rs_set (i := 6) sc_found_places.nd (re_call h_found_places hr (ra_cons (re_var 0) (ra_cons (re_ix (id_ix (hu_of hr)) (re_var 1) re_int) (ra_cons (re_var 2) ra_nil)))))
  (rs_one (rs_ret (re_dc (own := [("k", 10)]) rfl sc_found_places.nd (ri_range1 T.range (ra_cons (re_ix (id_ix (hu_of hr)) (re_var 0) re_int) ra_nil)) (blkOk_by (by kernel_rfl)) (pgd_name 10) (fun _ _ _ _ _ => (pg_name sc_found_places.nd rfl (Or.inl rfl))) (fun _ _ _ _ _ => (rts_one (rt_val (re_call h_leads hr (ra_cons (re_ix (id_ix (hu_of hr)) (re_ix (id_ix (hu_of hr)) (re_ix (id_ix (hu_of hr)) (re_var 0) re_int) (re_ix (id_ix (hu_of hr)) (re_var 1) re_int)) (re_var 10)) (ra_cons (re_var 6) (ra_cons (re_cmp (od_eq hr.units) (re_var 3) re_str (nomark _)) ra_nil))))))) (fun _ _ _ _ _ => (re_var 10)) (fun _ _ _ _ _ => re_bl))))) rs_nil)
  (rs_cons (rs_set (i := 7) sc_found_places.nd (re_callTy cd_dict (by rfl) T.dict bt_dict (ra_cons (re_var 2) ra_nil)))
  (rs_cons (rs_set (i := 8) sc_found_places.nd (re_if (rt_cmp (od_eq hr.units) (re_var 3) re_str (nomark _)) re_dict0 (re_dc (own := [("k", 10)]) rfl sc_found_places.nd (ri_range1 T.range (ra_cons (re_ix (id_ix (hu_of hr)) (re_var 0) re_int) ra_nil)) (blkOk_by (by kernel_rfl)) (pgd_name 10) (fun _ _ _ _ _ => (pg_name sc_found_places.nd rfl (Or.inl rfl))) (fun _ _ _ _ _ => rts_nil) (fun _ _ _ _ _ => (re_var 10)) (fun _ _ _ _ _ => re_bl))))
  (rs_cons (rs_set (i := 9) sc_found_places.nd re_non)
  (rs_cons (rs_while PassesOwn.never (rt_cmp (od_ne hr.units) (re_var 8) (re_var 9) (nomark _)) (rs_cons (rs_set (i := 9) sc_found_places.nd (re_var 8))
  (rs_cons (rs_asg (re_callTy cd_tuple (by rfl) T.tuple bt_tuple (ra_cons (re_callB cd_sorted (by rfl) T.sorted bt_sorted (ra_cons (re_callTy (cd_list rfl) (by rfl) T.list bt_list (ra_cons (re_var 8) ra_nil)) ra_nil)) ra_nil)) (rg_sub (hu_of hr) (re_var 7) (re_ix (id_ix (hu_of hr)) (re_var 1) re_int)))
  (rs_one (rs_set (i := 8) sc_found_places.nd (re_call h_found_places hr (ra_cons (re_var 0) (ra_cons (re_ix (id_ix (hu_of hr)) (re_var 1) re_int) (ra_cons (re_var 7) ra_nil)))))))))
  (rs_one (rs_ret (re_var 8))))))))))))), h1, F.kp, h2⟩
set_option maxHeartbeats 4000000 in
theorem ok_worth (T : Txt mg) (g : Got K mg "worth" s_worth ["world", "saying", "places"]) (h_found_places : DefOk P w K mg base 13 "found_places" (F_found_places 12)) : DefOk P w K mg base 14 "worth" F_worth := by
  obtain ⟨f, fd, F, h1, h2⟩ := g.ex
  exact ⟨f, fd, ["world", "saying", "places"], fn_ok (k := 13) F sc_worth fun cdv A outer s H E hr =>
  (rs_one (rs_ret (re_callTy cd_tuple (by rfl) T.tuple bt_tuple (ra_cons (re_callB cd_sorted (by rfl) T.sorted bt_sorted (ra_cons (re_callTy (cd_list rfl) (by rfl) T.list bt_list (ra_cons (re_call h_found_places hr (ra_cons (re_var 0) (ra_cons (re_var 1) (ra_cons (re_var 2) ra_nil)))) ra_nil)) ra_nil)) ra_nil)))), h1, F.kp, h2⟩
set_option maxHeartbeats 4000000 in
theorem ok_places_where (T : Txt mg) (g : Got K mg "places_where" s_places_where ["world", "saying"]) (h_worth : DefOk P w K mg base 14 "worth" F_worth) : DefOk P w K mg base 15 "places_where" F_places_where := by
  obtain ⟨f, fd, F, h1, h2⟩ := g.ex
  exact ⟨f, fd, ["world", "saying"], fn_ok (k := 14) F sc_places_where fun cdv A outer s H E hr =>
  (rs_one (rs_ret (re_call h_worth hr (ra_cons (re_var 0) (ra_cons (re_var 1) (ra_cons re_dict0 ra_nil)))))), h1, F.kp, h2⟩
set_option maxHeartbeats 4000000 in
theorem ok_round_places (T : Txt mg) (g : Got K mg "round_places" s_round_places ["world", "saying", "k"]) (h_worth : DefOk P w K mg base 14 "worth" F_worth) : DefOk P w K mg base 15 "round_places" F_round_places := by
  obtain ⟨f, fd, F, h1, h2⟩ := g.ex
  exact ⟨f, fd, ["world", "saying", "k"], fn_ok (k := 14) F sc_round_places fun cdv A outer s H E hr =>
  (rs_cons (rs_set (i := 3) sc_round_places.nd (re_if (rt_cmp (od_eq hr.units) (re_ix (id_ix (hu_of hr)) (re_var 1) re_int) re_str (nomark _)) (re_tup ra_nil) (re_tupRg1 rfl T.tuple T.range (re_ix (id_ix (hu_of hr)) (re_var 0) re_int))))
  (rs_cons (rs_for PassesOwn.never rfl (ri_range1 T.range (ra_cons (re_var 2) ra_nil)) (rg_name sc_round_places.nd (i := 4)) (rs_one (rs_set (i := 3) sc_round_places.nd (re_call h_worth hr (ra_cons (re_var 0) (ra_cons (re_ix (id_ix (hu_of hr)) (re_var 1) re_int) (ra_cons (re_disp (rps_cons (re_ix (id_ix (hu_of hr)) (re_var 1) re_int) (re_var 3) rps_nil)) ra_nil)))))))
  (rs_one (rs_ret (re_var 3))))), h1, F.kp, h2⟩
set_option maxHeartbeats 4000000 in
theorem ok__law_same (T : Txt mg) (g : Got K mg "_law_same" s__law_same ["actual", "due"])  : ∀ k, DefOk P w K mg base (0 + k) "_law_same" (F__law_same k)
  | 0 => by
    obtain ⟨f, fd, F, h1, h2⟩ := g.ex
    exact ⟨f, fd, _, fn_none, h1, F.kp, h2⟩
  | k + 1 => by
    have h__law_same := ok__law_same T g  k
    obtain ⟨f, fd, F, h1, h2⟩ := g.ex
    exact ⟨f, fd, ["actual", "due"], fn_ok (k := 0 + k) F sc__law_same fun cdv A outer s H E hr =>
  (rs_cons (rs_if (rt_w (rw_or (rt_val (re_isi (T := "tuple") (by decide) rfl bt_tuple T.isinstance T.tuple (re_var 1))) (rw_or1 (rt_val (re_isi (T := "list") (by decide) rfl bt_list T.isinstance T.list (re_var 1)))))) (rs_cons (rs_if (rt_w (rw_or (rt_cmp (od_ne hr.units) (re_isi (T := "tuple") (by decide) rfl bt_tuple T.isinstance T.tuple (re_var 1)) (re_isi (T := "tuple") (by decide) rfl bt_tuple T.isinstance T.tuple (re_var 0)) (nomark _)) (rw_or (rt_cmp (od_ne hr.units) (re_isi (T := "list") (by decide) rfl bt_list T.isinstance T.list (re_var 1)) (re_isi (T := "list") (by decide) rfl bt_list T.isinstance T.list (re_var 0)) (nomark _)) (rw_or1 (rt_cmp (od_ne hr.units) (re_callB cd_len (by rfl) T.len bt_len (ra_cons (re_var 0) ra_nil)) (re_callB cd_len (by rfl) T.len bt_len (ra_cons (re_var 1) ra_nil)) (nomark _)))))) (rs_one (rs_ret re_bl)) rs_nil)
  (rs_one (rs_ret (re_cmp (od_eq hr.units) (re_callB cd_len (by rfl) T.len bt_len (ra_cons (re_lc (own := [("k", 2)]) rfl sc__law_same.nd (ri_range1 T.range (ra_cons (re_callB cd_len (by rfl) T.len bt_len (ra_cons (re_var 1) ra_nil)) ra_nil)) (blkOk_by (by kernel_rfl)) (pgd_name 2) (fun _ _ _ _ _ => (pg_name sc__law_same.nd rfl (Or.inl rfl))) (fun _ _ _ _ _ => (rts_one (rt_not (rt_val (re_call h__law_same hr (ra_cons (re_ix (id_ix (hu_of hr)) (re_var 0) (re_var 2)) (ra_cons (re_ix (id_ix (hu_of hr)) (re_var 1) (re_var 2)) ra_nil))))))) (fun _ _ _ _ _ => (re_var 2))) ra_nil)) re_int (nomark _))))) rs_nil)
  (rs_cons (rs_if (rt_isN (re_var 1)) (rs_one (rs_ret (re_isN (re_var 0)))) rs_nil)
  (rs_cons (rs_if (rt_w (rw_or (rt_val (re_isi (T := "bool") (by decide) rfl bt_bool T.isinstance T.bool (re_var 1))) (rw_or1 (rt_val (re_isi (T := "bool") (by decide) rfl bt_bool T.isinstance T.bool (re_var 0)))))) (rs_one (rs_ret (re_and (re_isi (T := "bool") (by decide) rfl bt_bool T.isinstance T.bool (re_var 1)) (re_and (re_isi (T := "bool") (by decide) rfl bt_bool T.isinstance T.bool (re_var 0)) (re_one (re_cmp (od_eq hr.units) (re_var 0) (re_var 1) (nomark _))))))) rs_nil)
  (rs_cons (rs_if (rt_val (re_isi (T := "int") (by decide) rfl bt_int T.isinstance T.int (re_var 1))) (rs_one (rs_ret (re_and (re_isi (T := "int") (by decide) rfl bt_int T.isinstance T.int (re_var 0)) (re_one (re_cmp (od_eq hr.units) (re_var 0) (re_var 1) (nomark _)))))) rs_nil)
  (rs_one (rs_ret (re_and (re_isi (T := "str") (by decide) rfl bt_str T.isinstance T.str (re_var 0)) (re_one (re_cmp (od_eq hr.units) (re_var 0) (re_var 1) (nomark _)))))))))), h1, F.kp, h2⟩
set_option maxHeartbeats 4000000 in
theorem ok__law_pool (T : Txt mg) (g : Got K mg "_law_pool" s__law_pool ["script"])  : DefOk P w K mg base 1 "_law_pool" F__law_pool := by
  obtain ⟨f, fd, F, h1, h2⟩ := g.ex
  exact ⟨f, fd, ["script"], fn_ok (k := 0) F sc__law_pool fun cdv A outer s H E hr =>
  (rs_cons (rs_set (i := 1) sc__law_pool.nd re_int)
  (rs_cons (rs_for PassesOwn.never rfl (ri_seq (re_sl (re_var 0) ro_none (ro_some re_int))) (rg_name sc__law_pool.nd (i := 2)) (rs_one (rs_set (i := 1) sc__law_pool.nd (re_op od_mod (re_callTy cd_int (by rfl) T.int bt_int (ra_cons (re_op od_add (re_op od_mul (re_var 1) re_int) (re_var 2)) ra_nil)) re_int))))
  (rs_one (rs_ret (re_lst (ra_cons (re_callTy (cd_list rfl) (by rfl) T.list bt_list (ra_cons (re_var 0) ra_nil)) (ra_cons re_int (ra_cons re_int (ra_cons re_int (ra_cons (re_var 1) ra_nil)))))))))), h1, F.kp, h2⟩
set_option maxHeartbeats 4000000 in
theorem ok__law_spread (T : Txt mg) (g : Got K mg "_law_spread" s__law_spread ["cell"])  : DefOk P w K mg base 1 "_law_spread" F__law_spread := by
  obtain ⟨f, fd, F, h1, h2⟩ := g.ex
  exact ⟨f, fd, ["cell"], fn_ok (k := 0) F sc__law_spread fun cdv A outer s H E hr =>
  (rs_cons (rs_set (i := 1) sc__law_spread.nd (re_op od_mod (re_callTy cd_int (by rfl) T.int bt_int (ra_cons (re_var 0) ra_nil)) re_int))
  (rs_cons (rs_set (i := 2) sc__law_spread.nd re_int)
  (rs_cons (rs_for PassesOwn.never rfl (ri_range1 T.range (ra_cons re_int ra_nil)) (rg_name sc__law_spread.nd (i := 3)) (rs_cons (rs_set (i := 1) sc__law_spread.nd (re_op od_mod (re_callTy cd_int (by rfl) T.int bt_int (ra_cons (re_op od_add (re_op od_add (re_op od_mul (re_var 1) re_int) re_int) (re_var 3)) ra_nil)) re_int))
  (rs_one (rs_set (i := 2) sc__law_spread.nd (re_op od_add (re_op od_mul (re_var 2) re_int) (re_var 1))))))
  (rs_one (rs_ret (re_var 2)))))), h1, F.kp, h2⟩
set_option maxHeartbeats 4000000 in
theorem ok__law_draw (T : Txt mg) (g : Got K mg "_law_draw" s__law_draw ["pool", "many"]) (h__law_spread : DefOk P w K mg base 1 "_law_spread" F__law_spread) : DefOk P w K mg base 2 "_law_draw" F__law_draw := by
  obtain ⟨f, fd, F, h1, h2⟩ := g.ex
  exact ⟨f, fd, ["pool", "many"], fn_ok (k := 1) F sc__law_draw fun cdv A outer s H E hr =>
  (rs_cons (rs_if (rt_w (rw_and (rt_cmp od_le (re_ix (id_ix (hu_of hr)) (re_var 0) re_int) re_int (nomark _)) (rw_and1 (rt_cmp od_lt (re_ix (id_ix (hu_of hr)) (re_var 0) re_int) (re_callB cd_len (by rfl) T.len bt_len (ra_cons (re_ix (id_ix (hu_of hr)) (re_var 0) re_int) ra_nil)) (nomark _))))) (rs_cons (rs_set (i := 2) sc__law_draw.nd (re_ix (id_ix (hu_of hr)) (re_ix (id_ix (hu_of hr)) (re_var 0) re_int) (re_ix (id_ix (hu_of hr)) (re_var 0) re_int)))
  (rs_cons (rs_asg (re_op od_add (re_ix (id_ix (hu_of hr)) (re_var 0) re_int) re_int) (rg_sub (hu_of hr) (re_var 0) re_int))
  (rs_cons (rs_asg (re_var 2) (rg_sub (hu_of hr) (re_var 0) re_int))
  (rs_one (rs_if (rt_cmp od_lt (re_var 2) re_int (nomark _)) (rs_one (rs_asg (re_call h__law_spread hr (ra_cons (re_var 2) ra_nil)) (rg_sub (hu_of hr) (re_var 0) re_int))) rs_nil))))) rs_nil)
  (rs_cons (rs_asg (re_op od_add (re_ix (id_ix (hu_of hr)) (re_var 0) re_int) re_int) (rg_sub (hu_of hr) (re_var 0) re_int))
  (rs_cons (rs_if (rt_cmp od_le (re_ix (id_ix (hu_of hr)) (re_var 0) re_int) re_int (nomark _)) (rs_cons (rs_set (i := 3) sc__law_draw.nd (re_op od_mod (re_callTy cd_int (by rfl) T.int bt_int (ra_cons (re_op od_add (re_op od_add (re_op od_mul (re_ix (id_ix (hu_of hr)) (re_var 0) re_int) re_int) (re_op od_mul (re_ix (id_ix (hu_of hr)) (re_var 0) re_int) re_int)) re_int) ra_nil)) re_int))
  (rs_cons (rs_set (i := 3) sc__law_draw.nd (re_op od_mod (re_callTy cd_int (by rfl) T.int bt_int (ra_cons (re_op od_add (re_op od_mul (re_var 3) re_int) (re_ix (id_ix (hu_of hr)) (re_var 0) re_int)) ra_nil)) re_int))
  (rs_one (rs_ret (re_op od_mod (re_op od_fdiv (re_var 3) re_int) (re_var 1)))))) rs_nil)
  (rs_cons (rs_set (i := 4) sc__law_draw.nd (re_op od_mod (re_callTy cd_int (by rfl) T.int bt_int (ra_cons (re_ix (id_ix (hu_of hr)) (re_var 0) re_int) ra_nil)) (re_var 1)))
  (rs_cons (rs_asg (re_op od_fdiv (re_ix (id_ix (hu_of hr)) (re_var 0) re_int) (re_var 1)) (rg_sub (hu_of hr) (re_var 0) re_int))
  (rs_one (rs_ret (re_var 4)))))))), h1, F.kp, h2⟩
set_option maxHeartbeats 4000000 in
theorem ok__law_pick (T : Txt mg) (g : Got K mg "_law_pick" s__law_pick ["pool", "items"]) (h__law_draw : DefOk P w K mg base 2 "_law_draw" F__law_draw) : DefOk P w K mg base 3 "_law_pick" F__law_pick := by
  obtain ⟨f, fd, F, h1, h2⟩ := g.ex
  exact ⟨f, fd, ["pool", "items"], fn_ok (k := 2) F sc__law_pick fun cdv A outer s H E hr =>
  (rs_one (rs_ret (re_ix (id_ix (hu_of hr)) (re_var 1) (re_call h__law_draw hr (ra_cons (re_var 0) (ra_cons (re_callB cd_len (by rfl) T.len bt_len (ra_cons (re_var 1) ra_nil)) ra_nil)))))), h1, F.kp, h2⟩
set_option maxHeartbeats 4000000 in
theorem ok__law_land (T : Txt mg) (g : Got K mg "_law_land" s__law_land ["pool"]) (h__law_draw : DefOk P w K mg base 2 "_law_draw" F__law_draw) : DefOk P w K mg base 3 "_law_land" F__law_land := by
  obtain ⟨f, fd, F, h1, h2⟩ := g.ex
  exact ⟨f, fd, ["pool"], fn_ok (k := 2) F sc__law_land fun cdv A outer s H E hr =>
  (rs_one (rs_ret (re_ix (id_ix (hu_of hr)) (re_tup (ra_cons (re_tup (ra_cons re_int (ra_cons re_int ra_nil))) (ra_cons (re_tup (ra_cons re_int (ra_cons re_int ra_nil))) (ra_cons (re_tup (ra_cons re_int (ra_cons re_int ra_nil))) (ra_cons (re_tup (ra_cons re_int (ra_cons re_int ra_nil))) (ra_cons (re_tup (ra_cons re_int (ra_cons re_int ra_nil))) ra_nil)))))) (re_call h__law_draw hr (ra_cons (re_var 0) (ra_cons re_int ra_nil)))))), h1, F.kp, h2⟩
set_option maxHeartbeats 4000000 in
theorem ok__law_saying (T : Txt mg) (g : Got K mg "_law_saying" s__law_saying ["pool", "land", "deep", "state", "known", "free"]) (h__law_draw : DefOk P w K mg base 2 "_law_draw" F__law_draw) (h__law_pick : DefOk P w K mg base 3 "_law_pick" F__law_pick) : ∀ k, DefOk P w K mg base (3 + k) "_law_saying" (F__law_saying k)
  | 0 => by
    obtain ⟨f, fd, F, h1, h2⟩ := g.ex
    exact ⟨f, fd, _, fn_none, h1, F.kp, h2⟩
  | k + 1 => by
    have h__law_saying := ok__law_saying T g h__law_draw h__law_pick k
    obtain ⟨f, fd, F, h1, h2⟩ := g.ex
    exact ⟨f, fd, ["pool", "land", "deep", "state", "known", "free"], fn_ok (k := 3 + k) F sc__law_saying fun cdv A outer s H E hr =>
  (rs_cons (rs_set (i := 6) sc__law_saying.nd (re_if (rt_cmp od_gt (re_var 2) re_int (nomark _)) (re_call h__law_draw hr (ra_cons (re_var 0) (ra_cons re_int ra_nil))) (re_call h__law_draw hr (ra_cons (re_var 0) (ra_cons re_int ra_nil)))))
  (rs_cons (rs_if (rt_w (rw_or (rt_cmp od_lt (re_var 6) re_int (nomark _)) (rw_or1 (rt_w (rw_and (rt_cmp (od_eq hr.units) (re_var 6) re_int (nomark _)) (rw_and1 (rt_cmp (od_eq hr.units) (re_callB cd_len (by rfl) T.len bt_len (ra_cons (re_var 5) ra_nil)) re_int (nomark _)))))))) (rs_one (rs_ret (re_tup (ra_cons (re_ix (id_ix (hu_of hr)) (re_tup (ra_cons re_str (ra_cons re_str ra_nil))) (re_if (rt_cmp od_lt (re_var 6) re_int (nomark _)) (re_op od_mod (re_var 6) re_int) re_int)) (ra_cons (re_call h__law_draw hr (ra_cons (re_var 0) (ra_cons (re_ix (id_ix (hu_of hr)) (re_var 1) re_int) ra_nil))) ra_nil))))) rs_nil)
  (rs_cons (rs_if (rt_cmp (od_eq hr.units) (re_var 6) re_int (nomark _)) (rs_one (rs_ret (re_if (rt_cmp (od_eq hr.units) (re_call h__law_draw hr (ra_cons (re_var 0) (ra_cons re_int ra_nil))) re_int (nomark _)) (re_ix (id_ix (hu_of hr)) (re_tup (ra_cons (re_tup (ra_cons re_str ra_nil)) (ra_cons (re_tup (ra_cons re_str ra_nil)) ra_nil))) (re_call h__law_draw hr (ra_cons (re_var 0) (ra_cons re_int ra_nil)))) (re_tup (ra_cons re_str (ra_cons (re_call h__law_draw hr (ra_cons (re_var 0) (ra_cons (re_ix (id_ix (hu_of hr)) (re_var 1) re_int) ra_nil))) ra_nil)))))) rs_nil)
  (rs_cons (rs_if (rt_cmp od_lt (re_var 6) re_int (nomark _)) (rs_one (rs_ret (re_if (rt_cmp od_gt (re_callB cd_len (by rfl) T.len bt_len (ra_cons (re_var 5) ra_nil)) re_int (nomark _)) (re_tup (ra_cons re_str (ra_cons (re_call h__law_pick hr (ra_cons (re_var 0) (ra_cons (re_callTy (cd_list rfl) (by rfl) T.list bt_list (ra_cons (re_var 5) ra_nil)) ra_nil))) ra_nil))) (re_tup (ra_cons re_str (ra_cons (re_call h__law_draw hr (ra_cons (re_var 0) (ra_cons (re_ix (id_ix (hu_of hr)) (re_var 1) re_int) ra_nil))) ra_nil)))))) rs_nil)
  (rs_cons (rs_if (rt_cmp od_lt (re_var 6) re_int (nomark _)) (rs_one (rs_ret (re_tup (ra_cons (re_ix (id_ix (hu_of hr)) (re_tup (ra_cons re_str (ra_cons re_str ra_nil))) (re_call h__law_draw hr (ra_cons (re_var 0) (ra_cons re_int ra_nil)))) (ra_cons (re_call h__law_saying hr (ra_cons (re_var 0) (ra_cons (re_var 1) (ra_cons (re_op od_sub (re_var 2) re_int) (ra_cons (re_var 3) (ra_cons (re_var 4) (ra_cons (re_var 5) ra_nil))))))) (ra_cons (re_call h__law_saying hr (ra_cons (re_var 0) (ra_cons (re_var 1) (ra_cons (re_op od_sub (re_var 2) re_int) (ra_cons (re_var 3) (ra_cons (re_var 4) (ra_cons (re_var 5) ra_nil))))))) ra_nil)))))) rs_nil)
  (rs_cons (rs_if (rt_cmp od_lt (re_var 6) re_int (nomark _)) (rs_one (rs_ret (re_tup (ra_cons (re_ix (id_ix (hu_of hr)) (re_tup (ra_cons re_str (ra_cons re_str ra_nil))) (re_call h__law_draw hr (ra_cons (re_var 0) (ra_cons re_int ra_nil)))) (ra_cons (re_call h__law_draw hr (ra_cons (re_var 0) (ra_cons (re_ix (id_ix (hu_of hr)) (re_var 1) re_int) ra_nil))) (ra_cons (re_call h__law_saying hr (ra_cons (re_var 0) (ra_cons (re_var 1) (ra_cons (re_op od_sub (re_var 2) re_int) (ra_cons (re_var 3) (ra_cons (re_var 4) (ra_cons (re_var 4) ra_nil))))))) ra_nil)))))) rs_nil)
  (rs_cons (rs_set (i := 7) sc__law_saying.nd (re_callB cd_len (by rfl) T.len bt_len (ra_cons (re_var 3) ra_nil)))
  (rs_cons (rs_if (rt_cmp od_gt (re_var 7) re_int (nomark _)) (rs_one (rs_ret (re_tup (ra_cons re_str (ra_cons re_int ra_nil))))) rs_nil)
  (rs_cons (rs_expr (re_mt PySem.F.plainAttrs_list PySem.F.slot_list_append PySem.F.type_list_append md_append (re_var 3) (ra_cons (re_var 7) ra_nil)))
  (rs_one (rs_ret (re_tup (ra_cons (re_ix (id_ix (hu_of hr)) (re_tup (ra_cons re_str (ra_cons re_str ra_nil))) (re_call h__law_draw hr (ra_cons (re_var 0) (ra_cons re_int ra_nil)))) (ra_cons (re_var 7) (ra_cons (re_call h__law_saying hr (ra_cons (re_var 0) (ra_cons (re_var 1) (ra_cons (re_op od_sub (re_var 2) re_int) (ra_cons (re_var 3) (ra_cons (re_op od_add (re_var 4) (re_tup (ra_cons (re_var 7) ra_nil))) (ra_cons (re_var 5) ra_nil))))))) ra_nil))))))))))))))), h1, F.kp, h2⟩
set_option maxHeartbeats 4000000 in
theorem ok__law_world (T : Txt mg) (g : Got K mg "_law_world" s__law_world ["pool", "land", "most"]) (h__law_draw : DefOk P w K mg base 2 "_law_draw" F__law_draw) : DefOk P w K mg base 3 "_law_world" F__law_world := by
  obtain ⟨f, fd, F, h1, h2⟩ := g.ex
  exact ⟨f, fd, ["pool", "land", "most"], fn_ok (k := 2) F sc__law_world fun cdv A outer s H E hr =>
  (rs_cons (rs_set (i := 3) sc__law_world.nd (re_op od_add re_int (re_call h__law_draw hr (ra_cons (re_var 0) (ra_cons (re_var 2) ra_nil)))))
  (rs_cons (rs_set (i := 4) sc__law_world.nd (re_callTy cd_tuple (by rfl) T.tuple bt_tuple (ra_cons (re_lc (own := [("i", 8)]) rfl sc__law_world.nd (ri_range1 T.range (ra_cons (re_ix (id_ix (hu_of hr)) (re_var 1) re_int) ra_nil)) (blkOk_by (by kernel_rfl)) (pgd_name 8) (fun _ _ _ _ _ => (pg_name sc__law_world.nd rfl (Or.inl rfl))) (fun _ _ _ _ _ => rts_nil) (fun _ _ _ _ _ => (re_callTy cd_tuple (by rfl) T.tuple bt_tuple (ra_cons (re_lc (own := [("k", 9)]) rfl sc__law_world.nd (ri_range1 T.range (ra_cons (re_var 3) ra_nil)) (blkOk_by (by kernel_rfl)) (pgd_name 9) (fun _ _ _ _ _ => (pg_name sc__law_world.nd rfl (Or.inl rfl))) (fun _ _ _ _ _ => (rts_one (rt_cmp (od_eq hr.units) (re_call h__law_draw hr (ra_cons (re_var 0) (ra_cons re_int ra_nil))) re_int (nomark _)))) (fun _ _ _ _ _ => (re_var 9))) ra_nil)))) ra_nil)))
  (rs_cons (rs_set (i := 5) sc__law_world.nd (re_op od_add re_int (re_call h__law_draw hr (ra_cons (re_var 0) (ra_cons re_int ra_nil)))))
  (rs_cons (rs_set (i := 6) sc__law_world.nd (re_tup ra_nil))
  (rs_cons (rs_for PassesOwn.never rfl (ri_range1 T.range (ra_cons (re_ix (id_ix (hu_of hr)) (re_var 1) re_int) ra_nil)) (rg_name sc__law_world.nd (i := 7)) (rs_one (rs_set (i := 6) sc__law_world.nd (re_op od_add (re_var 6) (re_tup (ra_cons (re_callTy cd_tuple (by rfl) T.tuple bt_tuple (ra_cons (re_lc (own := [("place", 10)]) rfl sc__law_world.nd (ri_range1 T.range (ra_cons (re_var 3) ra_nil)) (blkOk_by (by kernel_rfl)) (pgd_name 10) (fun _ _ _ _ _ => (pg_name sc__law_world.nd rfl (Or.inl rfl))) (fun _ _ _ _ _ => rts_nil) (fun _ _ _ _ _ => (re_callTy cd_tuple (by rfl) T.tuple bt_tuple (ra_cons (re_lc (own := [("k", 9)]) rfl sc__law_world.nd (ri_range1 T.range (ra_cons (re_var 3) ra_nil)) (blkOk_by (by kernel_rfl)) (pgd_name 9) (fun _ _ _ _ _ => (pg_name sc__law_world.nd rfl (Or.inl rfl))) (fun _ _ _ _ _ => (rts_one (rt_cmp (od_eq hr.units) (re_call h__law_draw hr (ra_cons (re_var 0) (ra_cons (re_var 5) ra_nil))) re_int (nomark _)))) (fun _ _ _ _ _ => (re_var 9))) ra_nil)))) ra_nil)) ra_nil))))))
  (rs_one (rs_ret (re_tup (ra_cons (re_var 3) (ra_cons (re_var 4) (ra_cons (re_var 6) ra_nil))))))))))), h1, F.kp, h2⟩
set_option maxHeartbeats 4000000 in
theorem ok_law_fn (T : Txt mg) {f : Addr} {fd : FuncData} (F : Fun K "law" "law" s_law f fd) (h_worth : DefOk P w K mg base 14 "worth" F_worth) (h_round_places : DefOk P w K mg base 15 "round_places" F_round_places) (h__law_draw : DefOk P w K mg base 2 "_law_draw" F__law_draw) (h__law_same : DefOk P w K mg base 4 "_law_same" (F__law_same 4)) (h_places_where : DefOk P w K mg base 15 "places_where" F_places_where) (h__law_world : DefOk P w K mg base 3 "_law_world" F__law_world) (h__law_saying : DefOk P w K mg base 11 "_law_saying" (F__law_saying 8)) (h__law_land : DefOk P w K mg base 3 "_law_land" F__law_land) (h__law_pool : DefOk P w K mg base 1 "_law_pool" F__law_pool) : FnOk P w K mg base CX0 16 f fd ["script"] (spD K F_law) :=
  fn_ok (k := 15) F sc_law fun cdv A outer s H E hr =>
  (rs_cons (rs_set (i := 1) sc_law.nd (re_call h__law_pool hr (ra_cons (re_var 0) ra_nil)))
  (rs_cons (rs_set (i := 2) sc_law.nd (re_call h__law_land hr (ra_cons (re_var 1) ra_nil)))
  (rs_cons (rs_set (i := 3) sc_law.nd (re_ix (id_ix (hu_of hr)) (re_tup (ra_cons re_str (ra_cons re_str ra_nil))) (re_call h__law_draw hr (ra_cons (re_var 1) (ra_cons re_int ra_nil)))))
  (rs_cons (rs_set (i := 4) sc_law.nd (re_call h__law_saying hr (ra_cons (re_var 1) (ra_cons (re_var 2) (ra_cons re_int (ra_cons (re_lst (ra_cons re_int ra_nil)) (ra_cons (re_tup (ra_cons re_int ra_nil)) (ra_cons (re_tup (ra_cons re_int ra_nil)) ra_nil))))))))
  (rs_cons (rs_set (i := 5) sc_law.nd (re_tup (ra_cons (re_var 3) (ra_cons re_int (ra_cons (re_var 4) ra_nil)))))
  (rs_cons (rs_set (i := 6) sc_law.nd (re_call h__law_world hr (ra_cons (re_var 1) (ra_cons (re_var 2) (ra_cons re_int ra_nil)))))
  (rs_cons (rs_set (i := 7) sc_law.nd (re_ix (id_ix (hu_of hr)) (re_var 6) re_int))
  (rs_cons (rs_set (i := 8) sc_law.nd (re_call h_places_where hr (ra_cons (re_var 6) (ra_cons (re_var 5) ra_nil))))
  (rs_cons (rs_if (rt_not (rt_val (re_call h__law_same hr (ra_cons (re_call h_worth hr (ra_cons (re_var 6) (ra_cons (re_var 4) (ra_cons (re_disp (rps_cons re_int (re_var 8) rps_nil)) ra_nil)))) (ra_cons (re_var 8) ra_nil))))) (rs_one (rs_ret re_bl)) rs_nil)
  (rs_cons (rs_for PassesOwn.never rfl (ri_range1 T.range (ra_cons re_int ra_nil)) (rg_name sc_law.nd (i := 9)) (rs_cons (rs_set (i := 10) sc_law.nd (re_callTy cd_tuple (by rfl) T.tuple bt_tuple (ra_cons (re_lc (own := [("place", 15)]) rfl sc_law.nd (ri_range1 T.range (ra_cons (re_var 7) ra_nil)) (blkOk_by (by kernel_rfl)) (pgd_name 15) (fun _ _ _ _ _ => (pg_name sc_law.nd rfl (Or.inl rfl))) (fun _ _ _ _ _ => (rts_one (rt_cmp (od_eq hr.units) (re_call h__law_draw hr (ra_cons (re_var 1) (ra_cons re_int ra_nil))) re_int (nomark _)))) (fun _ _ _ _ _ => (re_var 15))) ra_nil)))
  (rs_cons (rs_set (i := 11) sc_law.nd (re_callTy cd_tuple (by rfl) T.tuple bt_tuple (ra_cons (re_sortSet rfl T.sorted T.set_ (re_op od_add (re_callTy (cd_list rfl) (by rfl) T.list bt_list (ra_cons (re_var 10) ra_nil)) (re_lc (own := [("place", 15)]) rfl sc_law.nd (ri_range1 T.range (ra_cons (re_var 7) ra_nil)) (blkOk_by (by kernel_rfl)) (pgd_name 15) (fun _ _ _ _ _ => (pg_name sc_law.nd rfl (Or.inl rfl))) (fun _ _ _ _ _ => (rts_one (rt_cmp (od_eq hr.units) (re_call h__law_draw hr (ra_cons (re_var 1) (ra_cons re_int ra_nil))) re_int (nomark _)))) (fun _ _ _ _ _ => (re_var 15))))) ra_nil)))
  (rs_cons (rs_asg (re_tup (ra_cons (re_call h_worth hr (ra_cons (re_var 6) (ra_cons (re_var 4) (ra_cons (re_disp (rps_cons re_int (re_var 10) rps_nil)) ra_nil)))) (ra_cons (re_call h_worth hr (ra_cons (re_var 6) (ra_cons (re_var 4) (ra_cons (re_disp (rps_cons re_int (re_var 11) rps_nil)) ra_nil)))) ra_nil))) (rg_tup rfl (rgs_cons (rg_name sc_law.nd (i := 12)) (rgs_cons (rg_name sc_law.nd (i := 13)) rgs_nil))))
  (rs_cons (rs_if (rt_cmp od_gt (re_callB cd_len (by rfl) T.len bt_len (ra_cons (re_lc (own := [("place", 15)]) rfl sc_law.nd (ri_seq (re_var 12)) (blkOk_by (by kernel_rfl)) (pgd_name 15) (fun _ _ _ _ _ => (pg_name sc_law.nd rfl (Or.inl rfl))) (fun _ _ _ _ _ => (rts_one (rt_cmp (od_notin (hu_of hr)) (re_var 15) (re_var 13) (by rfl)))) (fun _ _ _ _ _ => (re_var 15))) ra_nil)) re_int (nomark _)) (rs_one (rs_ret re_bl)) rs_nil)
  (rs_cons (rs_if (rt_w (rw_and (rt_cmp (od_eq hr.units) (re_var 3) re_str (nomark _)) (rw_and (rt_cmp (od_eq hr.units) (re_callB cd_len (by rfl) T.len bt_len (ra_cons (re_lc (own := [("place", 15)]) rfl sc_law.nd (ri_seq (re_var 12)) (blkOk_by (by kernel_rfl)) (pgd_name 15) (fun _ _ _ _ _ => (pg_name sc_law.nd rfl (Or.inl rfl))) (fun _ _ _ _ _ => (rts_one (rt_cmp (od_notin (hu_of hr)) (re_var 15) (re_var 10) (by rfl)))) (fun _ _ _ _ _ => (re_var 15))) ra_nil)) re_int (nomark _)) (rw_and1 (rt_cmp od_gt (re_callB cd_len (by rfl) T.len bt_len (ra_cons (re_lc (own := [("place", 15)]) rfl sc_law.nd (ri_seq (re_var 8)) (blkOk_by (by kernel_rfl)) (pgd_name 15) (fun _ _ _ _ _ => (pg_name sc_law.nd rfl (Or.inl rfl))) (fun _ _ _ _ _ => (rts_one (rt_cmp (od_notin (hu_of hr)) (re_var 15) (re_var 10) (by rfl)))) (fun _ _ _ _ _ => (re_var 15))) ra_nil)) re_int (nomark _)))))) (rs_one (rs_ret re_bl)) rs_nil)
  (rs_one (rs_if (rt_w (rw_and (rt_cmp (od_eq hr.units) (re_var 3) re_str (nomark _)) (rw_and (rt_cmp (od_eq hr.units) (re_callB cd_len (by rfl) T.len bt_len (ra_cons (re_lc (own := [("place", 15)]) rfl sc_law.nd (ri_seq (re_var 10)) (blkOk_by (by kernel_rfl)) (pgd_name 15) (fun _ _ _ _ _ => (pg_name sc_law.nd rfl (Or.inl rfl))) (fun _ _ _ _ _ => (rts_one (rt_cmp (od_notin (hu_of hr)) (re_var 15) (re_var 12) (by rfl)))) (fun _ _ _ _ _ => (re_var 15))) ra_nil)) re_int (nomark _)) (rw_and1 (rt_cmp od_gt (re_callB cd_len (by rfl) T.len bt_len (ra_cons (re_lc (own := [("place", 15)]) rfl sc_law.nd (ri_seq (re_var 10)) (blkOk_by (by kernel_rfl)) (pgd_name 15) (fun _ _ _ _ _ => (pg_name sc_law.nd rfl (Or.inl rfl))) (fun _ _ _ _ _ => (rts_one (rt_cmp (od_notin (hu_of hr)) (re_var 15) (re_var 8) (by rfl)))) (fun _ _ _ _ _ => (re_var 15))) ra_nil)) re_int (nomark _)))))) (rs_one (rs_ret re_bl)) rs_nil))))))))
  (rs_cons (rs_set (i := 14) sc_law.nd (re_lc (own := [("k", 9)]) rfl sc_law.nd (ri_range1 T.range (ra_cons (re_op od_add (re_var 7) re_int) ra_nil)) (blkOk_by (by kernel_rfl)) (pgd_name 9) (fun _ _ _ _ _ => (pg_name sc_law.nd rfl (Or.inl rfl))) (fun _ _ _ _ _ => rts_nil) (fun _ _ _ _ _ => (re_call h_round_places hr (ra_cons (re_var 6) (ra_cons (re_var 5) (ra_cons (re_var 9) ra_nil)))))))
  (rs_cons (rs_if (rt_w (rw_or (rt_cmp (od_ne hr.units) (re_ix (id_ix (hu_of hr)) (re_var 14) re_int) (re_if (rt_cmp (od_eq hr.units) (re_var 3) re_str (nomark _)) (re_tup ra_nil) (re_tupRg1 rfl T.tuple T.range (re_var 7))) (nomark _)) (rw_or (rt_cmp (od_ne hr.units) (re_ix (id_ix (hu_of hr)) (re_var 14) (re_var 7)) (re_var 8) (nomark _)) (rw_or1 (rt_cmp (od_ne hr.units) (re_ix (id_ix (hu_of hr)) (re_var 14) (re_op od_add (re_var 7) re_int)) (re_var 8) (nomark _)))))) (rs_one (rs_ret re_bl)) rs_nil)
  (rs_one (rs_ret (re_cmp (od_eq hr.units) (re_callB cd_len (by rfl) T.len bt_len (ra_cons (re_lc (own := [("k", 9)]) rfl sc_law.nd (ri_range1 T.range (ra_cons (re_op od_add (re_var 7) re_int) ra_nil)) (blkOk_by (by kernel_rfl)) (pgd_name 9) (fun _ _ _ _ _ => (pg_name sc_law.nd rfl (Or.inl rfl))) (fun _ _ _ _ _ => (rts_one (rt_cmp (od_ne hr.units) (re_ix (id_ix (hu_of hr)) (re_var 14) (re_op od_add (re_var 9) re_int)) (re_call h_worth hr (ra_cons (re_var 6) (ra_cons (re_var 4) (ra_cons (re_disp (rps_cons re_int (re_ix (id_ix (hu_of hr)) (re_var 14) (re_var 9)) rps_nil)) ra_nil)))) (nomark _)))) (fun _ _ _ _ _ => (re_var 9))) ra_nil)) re_int (nomark _))))))))))))))))
end

end K28
/-! the plain law of K28 -/
namespace K28
open PySem L2 SD PG
def fx (b : Bool) (x : Nat) (a : Fm) : Fm := if b then .least x a else .greatest x a
def x0 (b : Bool) (n : Nat) : List Nat := if b then [] else List.range n
theorem fx_enc (b : Bool) (x : Nat) (a : Fm) : encF (fx b x a) = .tup [.str (if b then "least" else "greatest"), .int (x : Nat), encF a] := by cases b <;> rfl
theorem fx_sem (b : Bool) (w : Wd) (x : Nat) (a : Fm) (ρ : PG.Env) : sem w (fx b x a) ρ = it (rnd w a ρ x) w.n (x0 b w.n) := by cases b <;> rfl
theorem x0_ok (b : Bool) (n : Nat) : OkSub n (x0 b n) := by cases b; exact range_ok n; exact nil_ok n
theorem encP_range (n : Nat) : D.tup (rngD 0 (n : Int).toNat) = encP (List.range n) := by rw [rng_map']; rfl
theorem round_spec {L0 L1 : Nat} {w : Wd} (hw : OkW L0 L1 w) (hn : w.n ≤ 1000) {b : Bool} {x : Nat} {a : Fm} {k : Nat} {S : Store} {Q : PD} (hd : a.dp ≤ 12) (hs : Sc L0 L1 [x] a) (hk : k ≤ 1000) (hQ : ∀ S', Ext S S' → Q (encP (it (rnd w a ρ0 x) k (x0 b w.n))) S') :
    F_round_places [encW w, encF (fx b x a), .int (k : Nat)] S Q := by
  rw [fx_enc]
  refine r_fn rfl ?_
  unfold b_round_places
  refine r_cut (fun σ S' => S' = S ∧ σ = [some (encW w), some (.tup [.str (if b then "least" else "greatest"), .int (x : Nat), encF a]), some (.int (k : Nat)), some (encP (x0 b w.n)), none]) ?_ fun T hT => ?_
  · rintro σ S0 ⟨rfl, rfl⟩
    (repeat with_reducible first | refine r_seq ?_ | refine r_asg ?_ | refine r_nm ?_ | refine r_var (by with_unfolding_all rfl) ?_ | refine r_c ?_ | refine r_aCons ?_ | refine r_aNil ?_ | refine r_op ?_ | refine r_call ?_ | refine r_val ?_ | refine r_bl ?_ | refine r_if ?_ | refine r_ret ?_ | refine r_next ?_ | refine r_ifT (by first | decide | (with_unfolding_all rfl)) ?_ | refine r_ifF (by first | decide | (with_unfolding_all rfl)) ?_ | refine r_tup ?_ | refine r_lst ?_ | refine r_le (Nat.le_of_ble_eq_true (by with_unfolding_all rfl)) ?_ | refine r_cb ?_ | refine r_and ?_ | refine r_or ?_ | refine r_not ?_ | refine r_eIf ?_ | refine r_eAnd ?_ | refine r_eOr ?_ | refine r_eNot ?_ | refine r_isN ?_ | refine r_mt ?_ | refine r_tr ?_ | refine r_ss ?_ | refine r_dict0 ?_ | refine r_yes ?_ | refine r_isi ?_ | refine r_ty (by with_unfolding_all rfl) ?_ | refine r_ixT (by with_unfolding_all rfl) ?_ | refine r_ixE (by with_unfolding_all rfl) (by with_unfolding_all rfl) ?_ | refine r_ixL (by assumption) (by with_unfolding_all rfl) ?_ | refine r_addI ?_ | refine r_intF ?_ | refine r_intCF (by first | decide | exact cmul_r (by decide) | exact cmul_l (by decide)) ?_ | refine r_eqI ?_ | refine r_neI ?_ | refine r_eqS ?_ | refine r_neS ?_ | refine r_eqB ?_ | refine r_neB ?_ | refine r_int ?_ | refine r_drop ?_ | refine r_sub ?_ | refine r_gTp (by with_unfolding_all rfl) ?_ | refine r_gsCons ?_ | refine r_gsNil ?_ | refine r_for ?_ | refine r_lc ?_ | refine r_dc ?_ | refine r_iRg1 ?_ | refine r_inT (by with_unfolding_all rfl) (by with_unfolding_all rfl) ?_)
    refine r_rg (by omega) (by omega) ?_
    rw [Int.toNat_natCast]
    refine for_inv (fun i σ S' => Ext S0 S' ∧ ∃ s4 : Option D, σ = [some (encW w), some (.tup [.str (if b then "least" else "greatest"), .int (x : Nat), encF a]), some (.int (k : Nat)), some (encP (it (rnd w a ρ0 x) i (x0 b w.n))), s4]) ⟨.refl _, _, rfl⟩ ?_ ?_
    · rintro i y σ S1 R hy ⟨e1, s4, rfl⟩ hR
      refine ⟨trivial, ?_⟩
      (repeat with_reducible first | refine r_seq ?_ | refine r_asg ?_ | refine r_nm ?_ | refine r_var (by with_unfolding_all rfl) ?_ | refine r_c ?_ | refine r_aCons ?_ | refine r_aNil ?_ | refine r_op ?_ | refine r_call ?_ | refine r_val ?_ | refine r_bl ?_ | refine r_if ?_ | refine r_ret ?_ | refine r_next ?_ | refine r_ifT (by first | decide | (with_unfolding_all rfl)) ?_ | refine r_ifF (by first | decide | (with_unfolding_all rfl)) ?_ | refine r_tup ?_ | refine r_lst ?_ | refine r_le (Nat.le_of_ble_eq_true (by with_unfolding_all rfl)) ?_ | refine r_cb ?_ | refine r_and ?_ | refine r_or ?_ | refine r_not ?_ | refine r_eIf ?_ | refine r_eAnd ?_ | refine r_eOr ?_ | refine r_eNot ?_ | refine r_isN ?_ | refine r_mt ?_ | refine r_tr ?_ | refine r_ss ?_ | refine r_dict0 ?_ | refine r_yes ?_ | refine r_isi ?_ | refine r_ty (by with_unfolding_all rfl) ?_ | refine r_ixT (by with_unfolding_all rfl) ?_ | refine r_ixE (by with_unfolding_all rfl) (by with_unfolding_all rfl) ?_ | refine r_ixL (by assumption) (by with_unfolding_all rfl) ?_ | refine r_addI ?_ | refine r_intF ?_ | refine r_intCF (by first | decide | exact cmul_r (by decide) | exact cmul_l (by decide)) ?_ | refine r_eqI ?_ | refine r_neI ?_ | refine r_eqS ?_ | refine r_neS ?_ | refine r_eqB ?_ | refine r_neB ?_ | refine r_int ?_ | refine r_drop ?_ | refine r_sub ?_ | refine r_gTp (by with_unfolding_all rfl) ?_ | refine r_gsCons ?_ | refine r_gsNil ?_ | refine r_for ?_ | refine r_lc ?_ | refine r_dc ?_ | refine r_iRg1 ?_ | refine r_inT (by with_unfolding_all rfl) (by with_unfolding_all rfl) ?_)
      refine disp_spec (x := x) (X := it (rnd w a ρ0 x) i (x0 b w.n)) (fun S P h => ?_) (fun S P _ h => r_var rfl h) fun S2 e2 h2 => ?_
      · (repeat with_reducible first | refine r_seq ?_ | refine r_asg ?_ | refine r_nm ?_ | refine r_var (by with_unfolding_all rfl) ?_ | refine r_c ?_ | refine r_aCons ?_ | refine r_aNil ?_ | refine r_op ?_ | refine r_call ?_ | refine r_val ?_ | refine r_bl ?_ | refine r_if ?_ | refine r_ret ?_ | refine r_next ?_ | refine r_ifT (by first | decide | (with_unfolding_all rfl)) ?_ | refine r_ifF (by first | decide | (with_unfolding_all rfl)) ?_ | refine r_tup ?_ | refine r_lst ?_ | refine r_le (Nat.le_of_ble_eq_true (by with_unfolding_all rfl)) ?_ | refine r_cb ?_ | refine r_and ?_ | refine r_or ?_ | refine r_not ?_ | refine r_eIf ?_ | refine r_eAnd ?_ | refine r_eOr ?_ | refine r_eNot ?_ | refine r_isN ?_ | refine r_mt ?_ | refine r_tr ?_ | refine r_ss ?_ | refine r_dict0 ?_ | refine r_yes ?_ | refine r_isi ?_ | refine r_ty (by with_unfolding_all rfl) ?_ | refine r_ixT (by with_unfolding_all rfl) ?_ | refine r_ixE (by with_unfolding_all rfl) (by with_unfolding_all rfl) ?_ | refine r_ixL (by assumption) (by with_unfolding_all rfl) ?_ | refine r_addI ?_ | refine r_intF ?_ | refine r_intCF (by first | decide | exact cmul_r (by decide) | exact cmul_l (by decide)) ?_ | refine r_eqI ?_ | refine r_neI ?_ | refine r_eqS ?_ | refine r_neS ?_ | refine r_eqB ?_ | refine r_neB ?_ | refine r_int ?_ | refine r_drop ?_ | refine r_sub ?_ | refine r_gTp (by with_unfolding_all rfl) ?_ | refine r_gsCons ?_ | refine r_gsNil ?_ | refine r_for ?_ | refine r_lc ?_ | refine r_dc ?_ | refine r_iRg1 ?_ | refine r_inT (by with_unfolding_all rfl) (by with_unfolding_all rfl) ?_)
        exact h
      (repeat with_reducible first | refine r_seq ?_ | refine r_asg ?_ | refine r_nm ?_ | refine r_var (by with_unfolding_all rfl) ?_ | refine r_c ?_ | refine r_aCons ?_ | refine r_aNil ?_ | refine r_op ?_ | refine r_call ?_ | refine r_val ?_ | refine r_bl ?_ | refine r_if ?_ | refine r_ret ?_ | refine r_next ?_ | refine r_ifT (by first | decide | (with_unfolding_all rfl)) ?_ | refine r_ifF (by first | decide | (with_unfolding_all rfl)) ?_ | refine r_tup ?_ | refine r_lst ?_ | refine r_le (Nat.le_of_ble_eq_true (by with_unfolding_all rfl)) ?_ | refine r_cb ?_ | refine r_and ?_ | refine r_or ?_ | refine r_not ?_ | refine r_eIf ?_ | refine r_eAnd ?_ | refine r_eOr ?_ | refine r_eNot ?_ | refine r_isN ?_ | refine r_mt ?_ | refine r_tr ?_ | refine r_ss ?_ | refine r_dict0 ?_ | refine r_yes ?_ | refine r_isi ?_ | refine r_ty (by with_unfolding_all rfl) ?_ | refine r_ixT (by with_unfolding_all rfl) ?_ | refine r_ixE (by with_unfolding_all rfl) (by with_unfolding_all rfl) ?_ | refine r_ixL (by assumption) (by with_unfolding_all rfl) ?_ | refine r_addI ?_ | refine r_intF ?_ | refine r_intCF (by first | decide | exact cmul_r (by decide) | exact cmul_l (by decide)) ?_ | refine r_eqI ?_ | refine r_neI ?_ | refine r_eqS ?_ | refine r_neS ?_ | refine r_eqB ?_ | refine r_neB ?_ | refine r_int ?_ | refine r_drop ?_ | refine r_sub ?_ | refine r_gTp (by with_unfolding_all rfl) ?_ | refine r_gsCons ?_ | refine r_gsNil ?_ | refine r_for ?_ | refine r_lc ?_ | refine r_dc ?_ | refine r_iRg1 ?_ | refine r_inT (by with_unfolding_all rfl) (by with_unfolding_all rfl) ?_)
      refine worth1_spec hw hn (it_ok (fun X hX => rnd_ok (ρ0_ok _) x hX) (x0_ok b _) i) hd hs h2 fun S3 e3 => ?_
      (repeat with_reducible first | refine r_seq ?_ | refine r_asg ?_ | refine r_nm ?_ | refine r_var (by with_unfolding_all rfl) ?_ | refine r_c ?_ | refine r_aCons ?_ | refine r_aNil ?_ | refine r_op ?_ | refine r_call ?_ | refine r_val ?_ | refine r_bl ?_ | refine r_if ?_ | refine r_ret ?_ | refine r_next ?_ | refine r_ifT (by first | decide | (with_unfolding_all rfl)) ?_ | refine r_ifF (by first | decide | (with_unfolding_all rfl)) ?_ | refine r_tup ?_ | refine r_lst ?_ | refine r_le (Nat.le_of_ble_eq_true (by with_unfolding_all rfl)) ?_ | refine r_cb ?_ | refine r_and ?_ | refine r_or ?_ | refine r_not ?_ | refine r_eIf ?_ | refine r_eAnd ?_ | refine r_eOr ?_ | refine r_eNot ?_ | refine r_isN ?_ | refine r_mt ?_ | refine r_tr ?_ | refine r_ss ?_ | refine r_dict0 ?_ | refine r_yes ?_ | refine r_isi ?_ | refine r_ty (by with_unfolding_all rfl) ?_ | refine r_ixT (by with_unfolding_all rfl) ?_ | refine r_ixE (by with_unfolding_all rfl) (by with_unfolding_all rfl) ?_ | refine r_ixL (by assumption) (by with_unfolding_all rfl) ?_ | refine r_addI ?_ | refine r_intF ?_ | refine r_intCF (by first | decide | exact cmul_r (by decide) | exact cmul_l (by decide)) ?_ | refine r_eqI ?_ | refine r_neI ?_ | refine r_eqS ?_ | refine r_neS ?_ | refine r_eqB ?_ | refine r_neB ?_ | refine r_int ?_ | refine r_drop ?_ | refine r_sub ?_ | refine r_gTp (by with_unfolding_all rfl) ?_ | refine r_gsCons ?_ | refine r_gsNil ?_ | refine r_for ?_ | refine r_lc ?_ | refine r_dc ?_ | refine r_iRg1 ?_ | refine r_inT (by with_unfolding_all rfl) (by with_unfolding_all rfl) ?_)
      exact hR _ _ ⟨(e1.trans e2).trans e3, _, rfl⟩
    · rintro σ S1 ⟨e1, s4, rfl⟩
      refine ⟨trivial, ?_⟩
      (repeat with_reducible first | refine r_seq ?_ | refine r_asg ?_ | refine r_nm ?_ | refine r_var (by with_unfolding_all rfl) ?_ | refine r_c ?_ | refine r_aCons ?_ | refine r_aNil ?_ | refine r_op ?_ | refine r_call ?_ | refine r_val ?_ | refine r_bl ?_ | refine r_if ?_ | refine r_ret ?_ | refine r_next ?_ | refine r_ifT (by first | decide | (with_unfolding_all rfl)) ?_ | refine r_ifF (by first | decide | (with_unfolding_all rfl)) ?_ | refine r_tup ?_ | refine r_lst ?_ | refine r_le (Nat.le_of_ble_eq_true (by with_unfolding_all rfl)) ?_ | refine r_cb ?_ | refine r_and ?_ | refine r_or ?_ | refine r_not ?_ | refine r_eIf ?_ | refine r_eAnd ?_ | refine r_eOr ?_ | refine r_eNot ?_ | refine r_isN ?_ | refine r_mt ?_ | refine r_tr ?_ | refine r_ss ?_ | refine r_dict0 ?_ | refine r_yes ?_ | refine r_isi ?_ | refine r_ty (by with_unfolding_all rfl) ?_ | refine r_ixT (by with_unfolding_all rfl) ?_ | refine r_ixE (by with_unfolding_all rfl) (by with_unfolding_all rfl) ?_ | refine r_ixL (by assumption) (by with_unfolding_all rfl) ?_ | refine r_addI ?_ | refine r_intF ?_ | refine r_intCF (by first | decide | exact cmul_r (by decide) | exact cmul_l (by decide)) ?_ | refine r_eqI ?_ | refine r_neI ?_ | refine r_eqS ?_ | refine r_neS ?_ | refine r_eqB ?_ | refine r_neB ?_ | refine r_int ?_ | refine r_drop ?_ | refine r_sub ?_ | refine r_gTp (by with_unfolding_all rfl) ?_ | refine r_gsCons ?_ | refine r_gsNil ?_ | refine r_for ?_ | refine r_lc ?_ | refine r_dc ?_ | refine r_iRg1 ?_ | refine r_inT (by with_unfolding_all rfl) (by with_unfolding_all rfl) ?_)
      rw [rng_len]
      exact hQ S1 e1
  · cases b with
    | true =>
      (repeat with_reducible first | refine r_seq ?_ | refine r_asg ?_ | refine r_nm ?_ | refine r_var (by with_unfolding_all rfl) ?_ | refine r_c ?_ | refine r_aCons ?_ | refine r_aNil ?_ | refine r_op ?_ | refine r_call ?_ | refine r_val ?_ | refine r_bl ?_ | refine r_if ?_ | refine r_ret ?_ | refine r_next ?_ | refine r_ifT (by first | decide | (with_unfolding_all rfl)) ?_ | refine r_ifF (by first | decide | (with_unfolding_all rfl)) ?_ | refine r_tup ?_ | refine r_lst ?_ | refine r_le (Nat.le_of_ble_eq_true (by with_unfolding_all rfl)) ?_ | refine r_cb ?_ | refine r_and ?_ | refine r_or ?_ | refine r_not ?_ | refine r_eIf ?_ | refine r_eAnd ?_ | refine r_eOr ?_ | refine r_eNot ?_ | refine r_isN ?_ | refine r_mt ?_ | refine r_tr ?_ | refine r_ss ?_ | refine r_dict0 ?_ | refine r_yes ?_ | refine r_isi ?_ | refine r_ty (by with_unfolding_all rfl) ?_ | refine r_ixT (by with_unfolding_all rfl) ?_ | refine r_ixE (by with_unfolding_all rfl) (by with_unfolding_all rfl) ?_ | refine r_ixL (by assumption) (by with_unfolding_all rfl) ?_ | refine r_addI ?_ | refine r_intF ?_ | refine r_intCF (by first | decide | exact cmul_r (by decide) | exact cmul_l (by decide)) ?_ | refine r_eqI ?_ | refine r_neI ?_ | refine r_eqS ?_ | refine r_neS ?_ | refine r_eqB ?_ | refine r_neB ?_ | refine r_int ?_ | refine r_drop ?_ | refine r_sub ?_ | refine r_gTp (by with_unfolding_all rfl) ?_ | refine r_gsCons ?_ | refine r_gsNil ?_ | refine r_for ?_ | refine r_lc ?_ | refine r_dc ?_ | refine r_iRg1 ?_ | refine r_inT (by with_unfolding_all rfl) (by with_unfolding_all rfl) ?_)
      exact hT _ _ ⟨rfl, rfl⟩
    | false =>
      (repeat with_reducible first | refine r_seq ?_ | refine r_asg ?_ | refine r_nm ?_ | refine r_var (by with_unfolding_all rfl) ?_ | refine r_c ?_ | refine r_aCons ?_ | refine r_aNil ?_ | refine r_op ?_ | refine r_call ?_ | refine r_val ?_ | refine r_bl ?_ | refine r_if ?_ | refine r_ret ?_ | refine r_next ?_ | refine r_ifT (by first | decide | (with_unfolding_all rfl)) ?_ | refine r_ifF (by first | decide | (with_unfolding_all rfl)) ?_ | refine r_tup ?_ | refine r_lst ?_ | refine r_le (Nat.le_of_ble_eq_true (by with_unfolding_all rfl)) ?_ | refine r_cb ?_ | refine r_and ?_ | refine r_or ?_ | refine r_not ?_ | refine r_eIf ?_ | refine r_eAnd ?_ | refine r_eOr ?_ | refine r_eNot ?_ | refine r_isN ?_ | refine r_mt ?_ | refine r_tr ?_ | refine r_ss ?_ | refine r_dict0 ?_ | refine r_yes ?_ | refine r_isi ?_ | refine r_ty (by with_unfolding_all rfl) ?_ | refine r_ixT (by with_unfolding_all rfl) ?_ | refine r_ixE (by with_unfolding_all rfl) (by with_unfolding_all rfl) ?_ | refine r_ixL (by assumption) (by with_unfolding_all rfl) ?_ | refine r_addI ?_ | refine r_intF ?_ | refine r_intCF (by first | decide | exact cmul_r (by decide) | exact cmul_l (by decide)) ?_ | refine r_eqI ?_ | refine r_neI ?_ | refine r_eqS ?_ | refine r_neS ?_ | refine r_eqB ?_ | refine r_neB ?_ | refine r_int ?_ | refine r_drop ?_ | refine r_sub ?_ | refine r_gTp (by with_unfolding_all rfl) ?_ | refine r_gsCons ?_ | refine r_gsNil ?_ | refine r_for ?_ | refine r_lc ?_ | refine r_dc ?_ | refine r_iRg1 ?_ | refine r_inT (by with_unfolding_all rfl) (by with_unfolding_all rfl) ?_)
      refine ⟨(w.n : Nat), rfl, by omega, by omega, ?_⟩
      rw [encP_range]
      exact hT _ _ ⟨rfl, rfl⟩
def rowF (g : List Nat → List Nat) (X : List Nat) : D → D
  | .int i => encP (it g i.toNat X)
  | _ => .non
theorem row_map (g : List Nat → List Nat) (X : List Nat) (n : Nat) : (rngD 0 (n : Int).toNat).map (rowF g X) = (List.range n).map fun k => encP (it g k X) := by
  rw [rng_map', List.map_map]; rfl
theorem row_at (g : List Nat → List Nat) (X : List Nat) {n k : Nat} (h : k < n) : atI ((List.range n).map fun k => encP (it g k X)) (k : Int) = some (encP (it g k X)) := by
  rw [atI_n, List.getElem?_map, List.getElem?_range h]; rfl
theorem r_neP {a b : List Nat} {S : Store} {Q : PD} (h : Q (.bl (!decide (a = b))) S) : eqF true (encP a) (encP b) S Q := r_neT (plain_nats a) (plain_nats b) (by show Q (.bl (!decide (encP a = encP b))) S; rw [encP_eq]; exact h)
theorem main (ns : List Int) (h : ns.length ≤ 63) : F_law [.frz (ns.map .int)] [] (fun d _ => d = .bl true) := by
  refine r_fn rfl ?_
  unfold b_law
  (repeat with_reducible first | refine r_seq ?_ | refine r_asg ?_ | refine r_nm ?_ | refine r_var (by with_unfolding_all rfl) ?_ | refine r_c ?_ | refine r_aCons ?_ | refine r_aNil ?_ | refine r_op ?_ | refine r_call ?_ | refine r_val ?_ | refine r_bl ?_ | refine r_if ?_ | refine r_ret ?_ | refine r_next ?_ | refine r_ifT (by first | decide | (with_unfolding_all rfl)) ?_ | refine r_ifF (by first | decide | (with_unfolding_all rfl)) ?_ | refine r_tup ?_ | refine r_lst ?_ | refine r_le (Nat.le_of_ble_eq_true (by with_unfolding_all rfl)) ?_ | refine r_cb ?_ | refine r_and ?_ | refine r_or ?_ | refine r_not ?_ | refine r_eIf ?_ | refine r_eAnd ?_ | refine r_eOr ?_ | refine r_eNot ?_ | refine r_isN ?_ | refine r_mt ?_ | refine r_tr ?_ | refine r_ss ?_ | refine r_dict0 ?_ | refine r_yes ?_ | refine r_isi ?_ | refine r_ty (by with_unfolding_all rfl) ?_ | refine r_ixT (by with_unfolding_all rfl) ?_ | refine r_ixE (by with_unfolding_all rfl) (by with_unfolding_all rfl) ?_ | refine r_ixL (by assumption) (by with_unfolding_all rfl) ?_ | refine r_addI ?_ | refine r_intF ?_ | refine r_intCF (by first | decide | exact cmul_r (by decide) | exact cmul_l (by decide)) ?_ | refine r_eqI ?_ | refine r_neI ?_ | refine r_eqS ?_ | refine r_neS ?_ | refine r_eqB ?_ | refine r_neB ?_ | refine r_int ?_ | refine r_drop ?_ | refine r_sub ?_ | refine r_gTp (by with_unfolding_all rfl) ?_ | refine r_gsCons ?_ | refine r_gsNil ?_ | refine r_for ?_ | refine r_lc ?_ | refine r_dc ?_ | refine r_iRg1 ?_ | refine r_inT (by with_unfolding_all rfl) (by with_unfolding_all rfl) ?_)
  refine pool_spec h fun S1 p q P1 _ _ _ => ?_
  (repeat with_reducible first | refine r_seq ?_ | refine r_asg ?_ | refine r_nm ?_ | refine r_var (by with_unfolding_all rfl) ?_ | refine r_c ?_ | refine r_aCons ?_ | refine r_aNil ?_ | refine r_op ?_ | refine r_call ?_ | refine r_val ?_ | refine r_bl ?_ | refine r_if ?_ | refine r_ret ?_ | refine r_next ?_ | refine r_ifT (by first | decide | (with_unfolding_all rfl)) ?_ | refine r_ifF (by first | decide | (with_unfolding_all rfl)) ?_ | refine r_tup ?_ | refine r_lst ?_ | refine r_le (Nat.le_of_ble_eq_true (by with_unfolding_all rfl)) ?_ | refine r_cb ?_ | refine r_and ?_ | refine r_or ?_ | refine r_not ?_ | refine r_eIf ?_ | refine r_eAnd ?_ | refine r_eOr ?_ | refine r_eNot ?_ | refine r_isN ?_ | refine r_mt ?_ | refine r_tr ?_ | refine r_ss ?_ | refine r_dict0 ?_ | refine r_yes ?_ | refine r_isi ?_ | refine r_ty (by with_unfolding_all rfl) ?_ | refine r_ixT (by with_unfolding_all rfl) ?_ | refine r_ixE (by with_unfolding_all rfl) (by with_unfolding_all rfl) ?_ | refine r_ixL (by assumption) (by with_unfolding_all rfl) ?_ | refine r_addI ?_ | refine r_intF ?_ | refine r_intCF (by first | decide | exact cmul_r (by decide) | exact cmul_l (by decide)) ?_ | refine r_eqI ?_ | refine r_neI ?_ | refine r_eqS ?_ | refine r_neS ?_ | refine r_eqB ?_ | refine r_neB ?_ | refine r_int ?_ | refine r_drop ?_ | refine r_sub ?_ | refine r_gTp (by with_unfolding_all rfl) ?_ | refine r_gsCons ?_ | refine r_gsNil ?_ | refine r_for ?_ | refine r_lc ?_ | refine r_dc ?_ | refine r_iRg1 ?_ | refine r_inT (by with_unfolding_all rfl) (by with_unfolding_all rfl) ?_)
  refine land_spec P1 fun S2 L0 L1 a1 a2 a3 a4 P2 _ => ?_
  refine r_nm ?_
  with_reducible refine r_cut (fun σ S' => (∃ b : Bool, σ = [some (.frz (ns.map .int)), some (.ref p), some (.tup [.int (L0 : Nat), .int (L1 : Nat)]), some (.str (if b then "least" else "greatest")), none, none, none, none, none, none, none, none, none, none, none, none]) ∧ PoolOk p q S') ?_ fun T hT => ?_
  · rintro σ S3 ⟨⟨b, rfl⟩, P3⟩
    cases b with
    | true =>
      (repeat with_reducible first | refine r_seq ?_ | refine r_asg ?_ | refine r_nm ?_ | refine r_var (by with_unfolding_all rfl) ?_ | refine r_c ?_ | refine r_aCons ?_ | refine r_aNil ?_ | refine r_op ?_ | refine r_call ?_ | refine r_val ?_ | refine r_bl ?_ | refine r_if ?_ | refine r_ret ?_ | refine r_next ?_ | refine r_ifT (by first | decide | (with_unfolding_all rfl)) ?_ | refine r_ifF (by first | decide | (with_unfolding_all rfl)) ?_ | refine r_tup ?_ | refine r_lst ?_ | refine r_le (Nat.le_of_ble_eq_true (by with_unfolding_all rfl)) ?_ | refine r_cb ?_ | refine r_and ?_ | refine r_or ?_ | refine r_not ?_ | refine r_eIf ?_ | refine r_eAnd ?_ | refine r_eOr ?_ | refine r_eNot ?_ | refine r_isN ?_ | refine r_mt ?_ | refine r_tr ?_ | refine r_ss ?_ | refine r_dict0 ?_ | refine r_yes ?_ | refine r_isi ?_ | refine r_ty (by with_unfolding_all rfl) ?_ | refine r_ixT (by with_unfolding_all rfl) ?_ | refine r_ixE (by with_unfolding_all rfl) (by with_unfolding_all rfl) ?_ | refine r_ixL (by assumption) (by with_unfolding_all rfl) ?_ | refine r_addI ?_ | refine r_intF ?_ | refine r_intCF (by first | decide | exact cmul_r (by decide) | exact cmul_l (by decide)) ?_ | refine r_eqI ?_ | refine r_neI ?_ | refine r_eqS ?_ | refine r_neS ?_ | refine r_eqB ?_ | refine r_neB ?_ | refine r_int ?_ | refine r_drop ?_ | refine r_sub ?_ | refine r_gTp (by with_unfolding_all rfl) ?_ | refine r_gsCons ?_ | refine r_gsNil ?_ | refine r_for ?_ | refine r_lc ?_ | refine r_dc ?_ | refine r_iRg1 ?_ | refine r_inT (by with_unfolding_all rfl) (by with_unfolding_all rfl) ?_)
      have key := fun Q => saying_spec 8 2 p q S3.length L0 L1 [15] [15] [.int 0] (S3 ++ [.lst [.int 0]]) Q (by decide) (P3.ext (Ext.app _ _)) a1 (by omega) a3 (by omega) (Nat.ne_of_gt P3.lt) (Nat.ne_of_gt P3.lt2) (new_at _ _) (by decide) (by decide) (by decide)
      rw [show encP [15] = .tup [.int 15] from rfl, show D.int ((2 : Nat) : Int) = .int 2 from rfl] at key
      refine key _ fun S4 inner ys' f1 f2 f3 f4 f5 P4 _ e4 => ?_
      (repeat with_reducible first | refine r_seq ?_ | refine r_asg ?_ | refine r_nm ?_ | refine r_var (by with_unfolding_all rfl) ?_ | refine r_c ?_ | refine r_aCons ?_ | refine r_aNil ?_ | refine r_op ?_ | refine r_call ?_ | refine r_val ?_ | refine r_bl ?_ | refine r_if ?_ | refine r_ret ?_ | refine r_next ?_ | refine r_ifT (by first | decide | (with_unfolding_all rfl)) ?_ | refine r_ifF (by first | decide | (with_unfolding_all rfl)) ?_ | refine r_tup ?_ | refine r_lst ?_ | refine r_le (Nat.le_of_ble_eq_true (by with_unfolding_all rfl)) ?_ | refine r_cb ?_ | refine r_and ?_ | refine r_or ?_ | refine r_not ?_ | refine r_eIf ?_ | refine r_eAnd ?_ | refine r_eOr ?_ | refine r_eNot ?_ | refine r_isN ?_ | refine r_mt ?_ | refine r_tr ?_ | refine r_ss ?_ | refine r_dict0 ?_ | refine r_yes ?_ | refine r_isi ?_ | refine r_ty (by with_unfolding_all rfl) ?_ | refine r_ixT (by with_unfolding_all rfl) ?_ | refine r_ixE (by with_unfolding_all rfl) (by with_unfolding_all rfl) ?_ | refine r_ixL (by assumption) (by with_unfolding_all rfl) ?_ | refine r_addI ?_ | refine r_intF ?_ | refine r_intCF (by first | decide | exact cmul_r (by decide) | exact cmul_l (by decide)) ?_ | refine r_eqI ?_ | refine r_neI ?_ | refine r_eqS ?_ | refine r_neS ?_ | refine r_eqB ?_ | refine r_neB ?_ | refine r_int ?_ | refine r_drop ?_ | refine r_sub ?_ | refine r_gTp (by with_unfolding_all rfl) ?_ | refine r_gsCons ?_ | refine r_gsNil ?_ | refine r_for ?_ | refine r_lc ?_ | refine r_dc ?_ | refine r_iRg1 ?_ | refine r_inT (by with_unfolding_all rfl) (by with_unfolding_all rfl) ?_)
      refine world_spec P4 (by omega) (by omega) (by decide) (by decide) (most := 4) fun S5 w hw hw4 P5 e5 => ?_
      have sc : Sc L0 L1 [15] inner := f1.sc inner [15] [15] [15] (fun _ h => h) (fun _ h => h)
      have hn : w.n ≤ 1000 := by omega
      have hp1 := hw.pos
      have hm : ∀ X Y, Sub X Y → Sub (rnd w inner ρ0 15 X) (rnd w inner ρ0 15 Y) := fun X Y h => rnd_mono w inner ρ0 15 h
      have ho : ∀ X, OkSub w.n X → OkSub w.n (rnd w inner ρ0 15 X) := fun X h => rnd_ok (ρ0_ok _) 15 h
      (repeat with_reducible first | refine r_seq ?_ | refine r_asg ?_ | refine r_nm ?_ | refine r_var (by with_unfolding_all rfl) ?_ | refine r_c ?_ | refine r_aCons ?_ | refine r_aNil ?_ | refine r_op ?_ | refine r_call ?_ | refine r_val ?_ | refine r_bl ?_ | refine r_if ?_ | refine r_ret ?_ | refine r_next ?_ | refine r_ifT (by first | decide | (with_unfolding_all rfl)) ?_ | refine r_ifF (by first | decide | (with_unfolding_all rfl)) ?_ | refine r_tup ?_ | refine r_lst ?_ | refine r_le (Nat.le_of_ble_eq_true (by with_unfolding_all rfl)) ?_ | refine r_cb ?_ | refine r_and ?_ | refine r_or ?_ | refine r_not ?_ | refine r_eIf ?_ | refine r_eAnd ?_ | refine r_eOr ?_ | refine r_eNot ?_ | refine r_isN ?_ | refine r_mt ?_ | refine r_tr ?_ | refine r_ss ?_ | refine r_dict0 ?_ | refine r_yes ?_ | refine r_isi ?_ | refine r_ty (by with_unfolding_all rfl) ?_ | refine r_ixT (by with_unfolding_all rfl) ?_ | refine r_ixE (by with_unfolding_all rfl) (by with_unfolding_all rfl) ?_ | refine r_ixL (by assumption) (by with_unfolding_all rfl) ?_ | refine r_addI ?_ | refine r_intF ?_ | refine r_intCF (by first | decide | exact cmul_r (by decide) | exact cmul_l (by decide)) ?_ | refine r_eqI ?_ | refine r_neI ?_ | refine r_eqS ?_ | refine r_neS ?_ | refine r_eqB ?_ | refine r_neB ?_ | refine r_int ?_ | refine r_drop ?_ | refine r_sub ?_ | refine r_gTp (by with_unfolding_all rfl) ?_ | refine r_gsCons ?_ | refine r_gsNil ?_ | refine r_for ?_ | refine r_lc ?_ | refine r_dc ?_ | refine r_iRg1 ?_ | refine r_inT (by with_unfolding_all rfl) (by with_unfolding_all rfl) ?_)
      refine where_spec hw hn (f := .least 15 inner) (by show inner.dp + 1 ≤ 12; omega) sc fun S6 e6 => ?_
      have P6 := P5.ext e6
      rw [show sem w (.least 15 inner) ρ0 = it (rnd w inner ρ0 15) w.n (x0 true w.n) from rfl]
      have how : OkSub w.n (it (rnd w inner ρ0 15) w.n (x0 true w.n)) := it_ok ho (x0_ok _ _) _
      have rest : it (rnd w inner ρ0 15) (w.n + 1) (x0 true w.n) = it (rnd w inner ρ0 15) w.n (x0 true w.n) := up_rest hm ho
      have fix : rnd w inner ρ0 15 (it (rnd w inner ρ0 15) w.n (x0 true w.n)) = it (rnd w inner ρ0 15) w.n (x0 true w.n) := rest
      (repeat with_reducible first | refine r_seq ?_ | refine r_asg ?_ | refine r_nm ?_ | refine r_var (by with_unfolding_all rfl) ?_ | refine r_c ?_ | refine r_aCons ?_ | refine r_aNil ?_ | refine r_op ?_ | refine r_call ?_ | refine r_val ?_ | refine r_bl ?_ | refine r_if ?_ | refine r_ret ?_ | refine r_next ?_ | refine r_ifT (by first | decide | (with_unfolding_all rfl)) ?_ | refine r_ifF (by first | decide | (with_unfolding_all rfl)) ?_ | refine r_tup ?_ | refine r_lst ?_ | refine r_le (Nat.le_of_ble_eq_true (by with_unfolding_all rfl)) ?_ | refine r_cb ?_ | refine r_and ?_ | refine r_or ?_ | refine r_not ?_ | refine r_eIf ?_ | refine r_eAnd ?_ | refine r_eOr ?_ | refine r_eNot ?_ | refine r_isN ?_ | refine r_mt ?_ | refine r_tr ?_ | refine r_ss ?_ | refine r_dict0 ?_ | refine r_yes ?_ | refine r_isi ?_ | refine r_ty (by with_unfolding_all rfl) ?_ | refine r_ixT (by with_unfolding_all rfl) ?_ | refine r_ixE (by with_unfolding_all rfl) (by with_unfolding_all rfl) ?_ | refine r_ixL (by assumption) (by with_unfolding_all rfl) ?_ | refine r_addI ?_ | refine r_intF ?_ | refine r_intCF (by first | decide | exact cmul_r (by decide) | exact cmul_l (by decide)) ?_ | refine r_eqI ?_ | refine r_neI ?_ | refine r_eqS ?_ | refine r_neS ?_ | refine r_eqB ?_ | refine r_neB ?_ | refine r_int ?_ | refine r_drop ?_ | refine r_sub ?_ | refine r_gTp (by with_unfolding_all rfl) ?_ | refine r_gsCons ?_ | refine r_gsNil ?_ | refine r_for ?_ | refine r_lc ?_ | refine r_dc ?_ | refine r_iRg1 ?_ | refine r_inT (by with_unfolding_all rfl) (by with_unfolding_all rfl) ?_)
      refine disp_spec (x := 15) (X := it (rnd w inner ρ0 15) w.n (x0 true w.n)) (fun S P h => h) (fun S P _ h => r_var rfl h) fun S7 e7 h7 => ?_
      (repeat with_reducible first | refine r_seq ?_ | refine r_asg ?_ | refine r_nm ?_ | refine r_var (by with_unfolding_all rfl) ?_ | refine r_c ?_ | refine r_aCons ?_ | refine r_aNil ?_ | refine r_op ?_ | refine r_call ?_ | refine r_val ?_ | refine r_bl ?_ | refine r_if ?_ | refine r_ret ?_ | refine r_next ?_ | refine r_ifT (by first | decide | (with_unfolding_all rfl)) ?_ | refine r_ifF (by first | decide | (with_unfolding_all rfl)) ?_ | refine r_tup ?_ | refine r_lst ?_ | refine r_le (Nat.le_of_ble_eq_true (by with_unfolding_all rfl)) ?_ | refine r_cb ?_ | refine r_and ?_ | refine r_or ?_ | refine r_not ?_ | refine r_eIf ?_ | refine r_eAnd ?_ | refine r_eOr ?_ | refine r_eNot ?_ | refine r_isN ?_ | refine r_mt ?_ | refine r_tr ?_ | refine r_ss ?_ | refine r_dict0 ?_ | refine r_yes ?_ | refine r_isi ?_ | refine r_ty (by with_unfolding_all rfl) ?_ | refine r_ixT (by with_unfolding_all rfl) ?_ | refine r_ixE (by with_unfolding_all rfl) (by with_unfolding_all rfl) ?_ | refine r_ixL (by assumption) (by with_unfolding_all rfl) ?_ | refine r_addI ?_ | refine r_intF ?_ | refine r_intCF (by first | decide | exact cmul_r (by decide) | exact cmul_l (by decide)) ?_ | refine r_eqI ?_ | refine r_neI ?_ | refine r_eqS ?_ | refine r_neS ?_ | refine r_eqB ?_ | refine r_neB ?_ | refine r_int ?_ | refine r_drop ?_ | refine r_sub ?_ | refine r_gTp (by with_unfolding_all rfl) ?_ | refine r_gsCons ?_ | refine r_gsNil ?_ | refine r_for ?_ | refine r_lc ?_ | refine r_dc ?_ | refine r_iRg1 ?_ | refine r_inT (by with_unfolding_all rfl) (by with_unfolding_all rfl) ?_)
      refine worth1_spec hw hn how (by omega) sc h7 fun S8 e8 => ?_
      (repeat with_reducible first | refine r_seq ?_ | refine r_asg ?_ | refine r_nm ?_ | refine r_var (by with_unfolding_all rfl) ?_ | refine r_c ?_ | refine r_aCons ?_ | refine r_aNil ?_ | refine r_op ?_ | refine r_call ?_ | refine r_val ?_ | refine r_bl ?_ | refine r_if ?_ | refine r_ret ?_ | refine r_next ?_ | refine r_ifT (by first | decide | (with_unfolding_all rfl)) ?_ | refine r_ifF (by first | decide | (with_unfolding_all rfl)) ?_ | refine r_tup ?_ | refine r_lst ?_ | refine r_le (Nat.le_of_ble_eq_true (by with_unfolding_all rfl)) ?_ | refine r_cb ?_ | refine r_and ?_ | refine r_or ?_ | refine r_not ?_ | refine r_eIf ?_ | refine r_eAnd ?_ | refine r_eOr ?_ | refine r_eNot ?_ | refine r_isN ?_ | refine r_mt ?_ | refine r_tr ?_ | refine r_ss ?_ | refine r_dict0 ?_ | refine r_yes ?_ | refine r_isi ?_ | refine r_ty (by with_unfolding_all rfl) ?_ | refine r_ixT (by with_unfolding_all rfl) ?_ | refine r_ixE (by with_unfolding_all rfl) (by with_unfolding_all rfl) ?_ | refine r_ixL (by assumption) (by with_unfolding_all rfl) ?_ | refine r_addI ?_ | refine r_intF ?_ | refine r_intCF (by first | decide | exact cmul_r (by decide) | exact cmul_l (by decide)) ?_ | refine r_eqI ?_ | refine r_neI ?_ | refine r_eqS ?_ | refine r_neS ?_ | refine r_eqB ?_ | refine r_neB ?_ | refine r_int ?_ | refine r_drop ?_ | refine r_sub ?_ | refine r_gTp (by with_unfolding_all rfl) ?_ | refine r_gsCons ?_ | refine r_gsNil ?_ | refine r_for ?_ | refine r_lc ?_ | refine r_dc ?_ | refine r_iRg1 ?_ | refine r_inT (by with_unfolding_all rfl) (by with_unfolding_all rfl) ?_)
      rw [fix]
      refine same_spec 4 _ _ _ _ (pl_nats 2 (by have := how.le; omega)) (pl_nats 2 (by have := how.le; omega)) fun S9 e9 => ?_
      (repeat with_reducible first | refine r_seq ?_ | refine r_asg ?_ | refine r_nm ?_ | refine r_var (by with_unfolding_all rfl) ?_ | refine r_c ?_ | refine r_aCons ?_ | refine r_aNil ?_ | refine r_op ?_ | refine r_call ?_ | refine r_val ?_ | refine r_bl ?_ | refine r_if ?_ | refine r_ret ?_ | refine r_next ?_ | refine r_ifT (by first | decide | (with_unfolding_all rfl)) ?_ | refine r_ifF (by first | decide | (with_unfolding_all rfl)) ?_ | refine r_tup ?_ | refine r_lst ?_ | refine r_le (Nat.le_of_ble_eq_true (by with_unfolding_all rfl)) ?_ | refine r_cb ?_ | refine r_and ?_ | refine r_or ?_ | refine r_not ?_ | refine r_eIf ?_ | refine r_eAnd ?_ | refine r_eOr ?_ | refine r_eNot ?_ | refine r_isN ?_ | refine r_mt ?_ | refine r_tr ?_ | refine r_ss ?_ | refine r_dict0 ?_ | refine r_yes ?_ | refine r_isi ?_ | refine r_ty (by with_unfolding_all rfl) ?_ | refine r_ixT (by with_unfolding_all rfl) ?_ | refine r_ixE (by with_unfolding_all rfl) (by with_unfolding_all rfl) ?_ | refine r_ixL (by assumption) (by with_unfolding_all rfl) ?_ | refine r_addI ?_ | refine r_intF ?_ | refine r_intCF (by first | decide | exact cmul_r (by decide) | exact cmul_l (by decide)) ?_ | refine r_eqI ?_ | refine r_neI ?_ | refine r_eqS ?_ | refine r_neS ?_ | refine r_eqB ?_ | refine r_neB ?_ | refine r_int ?_ | refine r_drop ?_ | refine r_sub ?_ | refine r_gTp (by with_unfolding_all rfl) ?_ | refine r_gsCons ?_ | refine r_gsNil ?_ | refine r_for ?_ | refine r_lc ?_ | refine r_dc ?_ | refine r_iRg1 ?_ | refine r_inT (by with_unfolding_all rfl) (by with_unfolding_all rfl) ?_)
      refine r_ifF (by simp) ?_
      (repeat with_reducible first | refine r_seq ?_ | refine r_asg ?_ | refine r_nm ?_ | refine r_var (by with_unfolding_all rfl) ?_ | refine r_c ?_ | refine r_aCons ?_ | refine r_aNil ?_ | refine r_op ?_ | refine r_call ?_ | refine r_val ?_ | refine r_bl ?_ | refine r_if ?_ | refine r_ret ?_ | refine r_next ?_ | refine r_ifT (by first | decide | (with_unfolding_all rfl)) ?_ | refine r_ifF (by first | decide | (with_unfolding_all rfl)) ?_ | refine r_tup ?_ | refine r_lst ?_ | refine r_le (Nat.le_of_ble_eq_true (by with_unfolding_all rfl)) ?_ | refine r_cb ?_ | refine r_and ?_ | refine r_or ?_ | refine r_not ?_ | refine r_eIf ?_ | refine r_eAnd ?_ | refine r_eOr ?_ | refine r_eNot ?_ | refine r_isN ?_ | refine r_mt ?_ | refine r_tr ?_ | refine r_ss ?_ | refine r_dict0 ?_ | refine r_yes ?_ | refine r_isi ?_ | refine r_ty (by with_unfolding_all rfl) ?_ | refine r_ixT (by with_unfolding_all rfl) ?_ | refine r_ixE (by with_unfolding_all rfl) (by with_unfolding_all rfl) ?_ | refine r_ixL (by assumption) (by with_unfolding_all rfl) ?_ | refine r_addI ?_ | refine r_intF ?_ | refine r_intCF (by first | decide | exact cmul_r (by decide) | exact cmul_l (by decide)) ?_ | refine r_eqI ?_ | refine r_neI ?_ | refine r_eqS ?_ | refine r_neS ?_ | refine r_eqB ?_ | refine r_neB ?_ | refine r_int ?_ | refine r_drop ?_ | refine r_sub ?_ | refine r_gTp (by with_unfolding_all rfl) ?_ | refine r_gsCons ?_ | refine r_gsNil ?_ | refine r_for ?_ | refine r_lc ?_ | refine r_dc ?_ | refine r_iRg1 ?_ | refine r_inT (by with_unfolding_all rfl) (by with_unfolding_all rfl) ?_)
      refine r_rg (by decide) (by decide) ?_
      have P9 := ((P6.ext e7).ext e8).ext e9
      refine for_inv (fun i σ S' => PoolOk p q S' ∧ ∃ s9 s10 s11 s12 s13 : Option D, σ = [some (.frz (ns.map .int)), some (.ref p), some (.tup [.int (L0 : Nat), .int (L1 : Nat)]), some (.str "least"), some (encF inner), some (encF (.least 15 inner)), some (encW w), some (.int (w.n : Nat)), some (encP (it (rnd w inner ρ0 15) w.n (x0 true w.n))), s9, s10, s11, s12, s13, none, none]) ⟨P9, _, _, _, _, _, rfl⟩ ?_ ?_
      · rintro i y σ S10 R hy ⟨P10, s9, s10, s11, s12, s13, rfl⟩ hR
        refine ⟨trivial, ?_⟩
        (repeat with_reducible first | refine r_seq ?_ | refine r_asg ?_ | refine r_nm ?_ | refine r_var (by with_unfolding_all rfl) ?_ | refine r_c ?_ | refine r_aCons ?_ | refine r_aNil ?_ | refine r_op ?_ | refine r_call ?_ | refine r_val ?_ | refine r_bl ?_ | refine r_if ?_ | refine r_ret ?_ | refine r_next ?_ | refine r_ifT (by first | decide | (with_unfolding_all rfl)) ?_ | refine r_ifF (by first | decide | (with_unfolding_all rfl)) ?_ | refine r_tup ?_ | refine r_lst ?_ | refine r_le (Nat.le_of_ble_eq_true (by with_unfolding_all rfl)) ?_ | refine r_cb ?_ | refine r_and ?_ | refine r_or ?_ | refine r_not ?_ | refine r_eIf ?_ | refine r_eAnd ?_ | refine r_eOr ?_ | refine r_eNot ?_ | refine r_isN ?_ | refine r_mt ?_ | refine r_tr ?_ | refine r_ss ?_ | refine r_dict0 ?_ | refine r_yes ?_ | refine r_isi ?_ | refine r_ty (by with_unfolding_all rfl) ?_ | refine r_ixT (by with_unfolding_all rfl) ?_ | refine r_ixE (by with_unfolding_all rfl) (by with_unfolding_all rfl) ?_ | refine r_ixL (by assumption) (by with_unfolding_all rfl) ?_ | refine r_addI ?_ | refine r_intF ?_ | refine r_intCF (by first | decide | exact cmul_r (by decide) | exact cmul_l (by decide)) ?_ | refine r_eqI ?_ | refine r_neI ?_ | refine r_eqS ?_ | refine r_neS ?_ | refine r_eqB ?_ | refine r_neB ?_ | refine r_int ?_ | refine r_drop ?_ | refine r_sub ?_ | refine r_gTp (by with_unfolding_all rfl) ?_ | refine r_gsCons ?_ | refine r_gsNil ?_ | refine r_for ?_ | refine r_lc ?_ | refine r_dc ?_ | refine r_iRg1 ?_ | refine r_inT (by with_unfolding_all rfl) (by with_unfolding_all rfl) ?_)
        refine r_rg (by omega) (by omega) fun few => ?_
        rw [Int.toNat_natCast]
        refine sub_spec (m := 2) (fun _ => rfl) (fun _ => rfl) (fun _ _ _ q => r_c q) (by decide) (by decide) hn P10 fun S11 small hs1 P11 e11 h11 => ?_
        (repeat with_reducible first | refine r_seq ?_ | refine r_asg ?_ | refine r_nm ?_ | refine r_var (by with_unfolding_all rfl) ?_ | refine r_c ?_ | refine r_aCons ?_ | refine r_aNil ?_ | refine r_op ?_ | refine r_call ?_ | refine r_val ?_ | refine r_bl ?_ | refine r_if ?_ | refine r_ret ?_ | refine r_next ?_ | refine r_ifT (by first | decide | (with_unfolding_all rfl)) ?_ | refine r_ifF (by first | decide | (with_unfolding_all rfl)) ?_ | refine r_tup ?_ | refine r_lst ?_ | refine r_le (Nat.le_of_ble_eq_true (by with_unfolding_all rfl)) ?_ | refine r_cb ?_ | refine r_and ?_ | refine r_or ?_ | refine r_not ?_ | refine r_eIf ?_ | refine r_eAnd ?_ | refine r_eOr ?_ | refine r_eNot ?_ | refine r_isN ?_ | refine r_mt ?_ | refine r_tr ?_ | refine r_ss ?_ | refine r_dict0 ?_ | refine r_yes ?_ | refine r_isi ?_ | refine r_ty (by with_unfolding_all rfl) ?_ | refine r_ixT (by with_unfolding_all rfl) ?_ | refine r_ixE (by with_unfolding_all rfl) (by with_unfolding_all rfl) ?_ | refine r_ixL (by assumption) (by with_unfolding_all rfl) ?_ | refine r_addI ?_ | refine r_intF ?_ | refine r_intCF (by first | decide | exact cmul_r (by decide) | exact cmul_l (by decide)) ?_ | refine r_eqI ?_ | refine r_neI ?_ | refine r_eqS ?_ | refine r_neS ?_ | refine r_eqB ?_ | refine r_neB ?_ | refine r_int ?_ | refine r_drop ?_ | refine r_sub ?_ | refine r_gTp (by with_unfolding_all rfl) ?_ | refine r_gsCons ?_ | refine r_gsNil ?_ | refine r_for ?_ | refine r_lc ?_ | refine r_dc ?_ | refine r_iRg1 ?_ | refine r_inT (by with_unfolding_all rfl) (by with_unfolding_all rfl) ?_)
        refine r_tuple (by show seqC S11[S10.length]? = _; rw [h11]; rfl) ?_
        (repeat with_reducible first | refine r_seq ?_ | refine r_asg ?_ | refine r_nm ?_ | refine r_var (by with_unfolding_all rfl) ?_ | refine r_c ?_ | refine r_aCons ?_ | refine r_aNil ?_ | refine r_op ?_ | refine r_call ?_ | refine r_val ?_ | refine r_bl ?_ | refine r_if ?_ | refine r_ret ?_ | refine r_next ?_ | refine r_ifT (by first | decide | (with_unfolding_all rfl)) ?_ | refine r_ifF (by first | decide | (with_unfolding_all rfl)) ?_ | refine r_tup ?_ | refine r_lst ?_ | refine r_le (Nat.le_of_ble_eq_true (by with_unfolding_all rfl)) ?_ | refine r_cb ?_ | refine r_and ?_ | refine r_or ?_ | refine r_not ?_ | refine r_eIf ?_ | refine r_eAnd ?_ | refine r_eOr ?_ | refine r_eNot ?_ | refine r_isN ?_ | refine r_mt ?_ | refine r_tr ?_ | refine r_ss ?_ | refine r_dict0 ?_ | refine r_yes ?_ | refine r_isi ?_ | refine r_ty (by with_unfolding_all rfl) ?_ | refine r_ixT (by with_unfolding_all rfl) ?_ | refine r_ixE (by with_unfolding_all rfl) (by with_unfolding_all rfl) ?_ | refine r_ixL (by assumption) (by with_unfolding_all rfl) ?_ | refine r_addI ?_ | refine r_intF ?_ | refine r_intCF (by first | decide | exact cmul_r (by decide) | exact cmul_l (by decide)) ?_ | refine r_eqI ?_ | refine r_neI ?_ | refine r_eqS ?_ | refine r_neS ?_ | refine r_eqB ?_ | refine r_neB ?_ | refine r_int ?_ | refine r_drop ?_ | refine r_sub ?_ | refine r_gTp (by with_unfolding_all rfl) ?_ | refine r_gsCons ?_ | refine r_gsNil ?_ | refine r_for ?_ | refine r_lc ?_ | refine r_dc ?_ | refine r_iRg1 ?_ | refine r_inT (by with_unfolding_all rfl) (by with_unfolding_all rfl) ?_)
        refine r_list rfl ?_
        (repeat with_reducible first | refine r_seq ?_ | refine r_asg ?_ | refine r_nm ?_ | refine r_var (by with_unfolding_all rfl) ?_ | refine r_c ?_ | refine r_aCons ?_ | refine r_aNil ?_ | refine r_op ?_ | refine r_call ?_ | refine r_val ?_ | refine r_bl ?_ | refine r_if ?_ | refine r_ret ?_ | refine r_next ?_ | refine r_ifT (by first | decide | (with_unfolding_all rfl)) ?_ | refine r_ifF (by first | decide | (with_unfolding_all rfl)) ?_ | refine r_tup ?_ | refine r_lst ?_ | refine r_le (Nat.le_of_ble_eq_true (by with_unfolding_all rfl)) ?_ | refine r_cb ?_ | refine r_and ?_ | refine r_or ?_ | refine r_not ?_ | refine r_eIf ?_ | refine r_eAnd ?_ | refine r_eOr ?_ | refine r_eNot ?_ | refine r_isN ?_ | refine r_mt ?_ | refine r_tr ?_ | refine r_ss ?_ | refine r_dict0 ?_ | refine r_yes ?_ | refine r_isi ?_ | refine r_ty (by with_unfolding_all rfl) ?_ | refine r_ixT (by with_unfolding_all rfl) ?_ | refine r_ixE (by with_unfolding_all rfl) (by with_unfolding_all rfl) ?_ | refine r_ixL (by assumption) (by with_unfolding_all rfl) ?_ | refine r_addI ?_ | refine r_intF ?_ | refine r_intCF (by first | decide | exact cmul_r (by decide) | exact cmul_l (by decide)) ?_ | refine r_eqI ?_ | refine r_neI ?_ | refine r_eqS ?_ | refine r_neS ?_ | refine r_eqB ?_ | refine r_neB ?_ | refine r_int ?_ | refine r_drop ?_ | refine r_sub ?_ | refine r_gTp (by with_unfolding_all rfl) ?_ | refine r_gsCons ?_ | refine r_gsNil ?_ | refine r_for ?_ | refine r_lc ?_ | refine r_dc ?_ | refine r_iRg1 ?_ | refine r_inT (by with_unfolding_all rfl) (by with_unfolding_all rfl) ?_)
        refine r_rg (by omega) (by omega) fun few => ?_
        rw [Int.toNat_natCast]
        refine sub_spec (m := 3) (fun _ => rfl) (fun _ => rfl) (fun _ _ _ q => r_c q) (by decide) (by decide) hn (P11.ext (Ext.app _ _)) fun S12 more hs2 P12 e12 h12 => ?_
        (repeat with_reducible first | refine r_seq ?_ | refine r_asg ?_ | refine r_nm ?_ | refine r_var (by with_unfolding_all rfl) ?_ | refine r_c ?_ | refine r_aCons ?_ | refine r_aNil ?_ | refine r_op ?_ | refine r_call ?_ | refine r_val ?_ | refine r_bl ?_ | refine r_if ?_ | refine r_ret ?_ | refine r_next ?_ | refine r_ifT (by first | decide | (with_unfolding_all rfl)) ?_ | refine r_ifF (by first | decide | (with_unfolding_all rfl)) ?_ | refine r_tup ?_ | refine r_lst ?_ | refine r_le (Nat.le_of_ble_eq_true (by with_unfolding_all rfl)) ?_ | refine r_cb ?_ | refine r_and ?_ | refine r_or ?_ | refine r_not ?_ | refine r_eIf ?_ | refine r_eAnd ?_ | refine r_eOr ?_ | refine r_eNot ?_ | refine r_isN ?_ | refine r_mt ?_ | refine r_tr ?_ | refine r_ss ?_ | refine r_dict0 ?_ | refine r_yes ?_ | refine r_isi ?_ | refine r_ty (by with_unfolding_all rfl) ?_ | refine r_ixT (by with_unfolding_all rfl) ?_ | refine r_ixE (by with_unfolding_all rfl) (by with_unfolding_all rfl) ?_ | refine r_ixL (by assumption) (by with_unfolding_all rfl) ?_ | refine r_addI ?_ | refine r_intF ?_ | refine r_intCF (by first | decide | exact cmul_r (by decide) | exact cmul_l (by decide)) ?_ | refine r_eqI ?_ | refine r_neI ?_ | refine r_eqS ?_ | refine r_neS ?_ | refine r_eqB ?_ | refine r_neB ?_ | refine r_int ?_ | refine r_drop ?_ | refine r_sub ?_ | refine r_gTp (by with_unfolding_all rfl) ?_ | refine r_gsCons ?_ | refine r_gsNil ?_ | refine r_for ?_ | refine r_lc ?_ | refine r_dc ?_ | refine r_iRg1 ?_ | refine r_inT (by with_unfolding_all rfl) (by with_unfolding_all rfl) ?_)
        have hsl := hs1.le
        have hml := hs2.le
        refine r_addL (e12.2 _ (by simp; exact Nat.ne_of_gt P11.lt) _ (new_at S11 _)) h12 (by simp [sizeLine]; omega) ?_
        refine r_sortSet (ks := small ++ more) (by show seqC (S12 ++ _)[S12.length]? = _; rw [new_at, List.map_append]; rfl) (by simp; omega) fun great g1 g2 => ?_
        have hgr : OkSub w.n great := ⟨g1, fun k hk => by
          rw [g2, List.mem_append] at hk
          exact hk.elim (hs1.2 k) (hs2.2 k)⟩
        have sg : Sub small great := fun k hk => (g2 k).mpr (List.mem_append.mpr (.inl hk))
        (repeat with_reducible first | refine r_seq ?_ | refine r_asg ?_ | refine r_nm ?_ | refine r_var (by with_unfolding_all rfl) ?_ | refine r_c ?_ | refine r_aCons ?_ | refine r_aNil ?_ | refine r_op ?_ | refine r_call ?_ | refine r_val ?_ | refine r_bl ?_ | refine r_if ?_ | refine r_ret ?_ | refine r_next ?_ | refine r_ifT (by first | decide | (with_unfolding_all rfl)) ?_ | refine r_ifF (by first | decide | (with_unfolding_all rfl)) ?_ | refine r_tup ?_ | refine r_lst ?_ | refine r_le (Nat.le_of_ble_eq_true (by with_unfolding_all rfl)) ?_ | refine r_cb ?_ | refine r_and ?_ | refine r_or ?_ | refine r_not ?_ | refine r_eIf ?_ | refine r_eAnd ?_ | refine r_eOr ?_ | refine r_eNot ?_ | refine r_isN ?_ | refine r_mt ?_ | refine r_tr ?_ | refine r_ss ?_ | refine r_dict0 ?_ | refine r_yes ?_ | refine r_isi ?_ | refine r_ty (by with_unfolding_all rfl) ?_ | refine r_ixT (by with_unfolding_all rfl) ?_ | refine r_ixE (by with_unfolding_all rfl) (by with_unfolding_all rfl) ?_ | refine r_ixL (by assumption) (by with_unfolding_all rfl) ?_ | refine r_addI ?_ | refine r_intF ?_ | refine r_intCF (by first | decide | exact cmul_r (by decide) | exact cmul_l (by decide)) ?_ | refine r_eqI ?_ | refine r_neI ?_ | refine r_eqS ?_ | refine r_neS ?_ | refine r_eqB ?_ | refine r_neB ?_ | refine r_int ?_ | refine r_drop ?_ | refine r_sub ?_ | refine r_gTp (by with_unfolding_all rfl) ?_ | refine r_gsCons ?_ | refine r_gsNil ?_ | refine r_for ?_ | refine r_lc ?_ | refine r_dc ?_ | refine r_iRg1 ?_ | refine r_inT (by with_unfolding_all rfl) (by with_unfolding_all rfl) ?_)
        refine r_tuple (by show seqC ((S12 ++ _) ++ _)[(S12 ++ _).length]? = _; rw [new_at]; rfl) ?_
        (repeat with_reducible first | refine r_seq ?_ | refine r_asg ?_ | refine r_nm ?_ | refine r_var (by with_unfolding_all rfl) ?_ | refine r_c ?_ | refine r_aCons ?_ | refine r_aNil ?_ | refine r_op ?_ | refine r_call ?_ | refine r_val ?_ | refine r_bl ?_ | refine r_if ?_ | refine r_ret ?_ | refine r_next ?_ | refine r_ifT (by first | decide | (with_unfolding_all rfl)) ?_ | refine r_ifF (by first | decide | (with_unfolding_all rfl)) ?_ | refine r_tup ?_ | refine r_lst ?_ | refine r_le (Nat.le_of_ble_eq_true (by with_unfolding_all rfl)) ?_ | refine r_cb ?_ | refine r_and ?_ | refine r_or ?_ | refine r_not ?_ | refine r_eIf ?_ | refine r_eAnd ?_ | refine r_eOr ?_ | refine r_eNot ?_ | refine r_isN ?_ | refine r_mt ?_ | refine r_tr ?_ | refine r_ss ?_ | refine r_dict0 ?_ | refine r_yes ?_ | refine r_isi ?_ | refine r_ty (by with_unfolding_all rfl) ?_ | refine r_ixT (by with_unfolding_all rfl) ?_ | refine r_ixE (by with_unfolding_all rfl) (by with_unfolding_all rfl) ?_ | refine r_ixL (by assumption) (by with_unfolding_all rfl) ?_ | refine r_addI ?_ | refine r_intF ?_ | refine r_intCF (by first | decide | exact cmul_r (by decide) | exact cmul_l (by decide)) ?_ | refine r_eqI ?_ | refine r_neI ?_ | refine r_eqS ?_ | refine r_neS ?_ | refine r_eqB ?_ | refine r_neB ?_ | refine r_int ?_ | refine r_drop ?_ | refine r_sub ?_ | refine r_gTp (by with_unfolding_all rfl) ?_ | refine r_gsCons ?_ | refine r_gsNil ?_ | refine r_for ?_ | refine r_lc ?_ | refine r_dc ?_ | refine r_iRg1 ?_ | refine r_inT (by with_unfolding_all rfl) (by with_unfolding_all rfl) ?_)
        refine disp_spec (x := 15) (X := small) (fun S P h => h) (fun S P _ h => r_var rfl h) fun S13 e13 h13 => ?_
        (repeat with_reducible first | refine r_seq ?_ | refine r_asg ?_ | refine r_nm ?_ | refine r_var (by with_unfolding_all rfl) ?_ | refine r_c ?_ | refine r_aCons ?_ | refine r_aNil ?_ | refine r_op ?_ | refine r_call ?_ | refine r_val ?_ | refine r_bl ?_ | refine r_if ?_ | refine r_ret ?_ | refine r_next ?_ | refine r_ifT (by first | decide | (with_unfolding_all rfl)) ?_ | refine r_ifF (by first | decide | (with_unfolding_all rfl)) ?_ | refine r_tup ?_ | refine r_lst ?_ | refine r_le (Nat.le_of_ble_eq_true (by with_unfolding_all rfl)) ?_ | refine r_cb ?_ | refine r_and ?_ | refine r_or ?_ | refine r_not ?_ | refine r_eIf ?_ | refine r_eAnd ?_ | refine r_eOr ?_ | refine r_eNot ?_ | refine r_isN ?_ | refine r_mt ?_ | refine r_tr ?_ | refine r_ss ?_ | refine r_dict0 ?_ | refine r_yes ?_ | refine r_isi ?_ | refine r_ty (by with_unfolding_all rfl) ?_ | refine r_ixT (by with_unfolding_all rfl) ?_ | refine r_ixE (by with_unfolding_all rfl) (by with_unfolding_all rfl) ?_ | refine r_ixL (by assumption) (by with_unfolding_all rfl) ?_ | refine r_addI ?_ | refine r_intF ?_ | refine r_intCF (by first | decide | exact cmul_r (by decide) | exact cmul_l (by decide)) ?_ | refine r_eqI ?_ | refine r_neI ?_ | refine r_eqS ?_ | refine r_neS ?_ | refine r_eqB ?_ | refine r_neB ?_ | refine r_int ?_ | refine r_drop ?_ | refine r_sub ?_ | refine r_gTp (by with_unfolding_all rfl) ?_ | refine r_gsCons ?_ | refine r_gsNil ?_ | refine r_for ?_ | refine r_lc ?_ | refine r_dc ?_ | refine r_iRg1 ?_ | refine r_inT (by with_unfolding_all rfl) (by with_unfolding_all rfl) ?_)
        refine worth1_spec hw hn hs1 (by omega) sc h13 fun S14 e14 => ?_
        (repeat with_reducible first | refine r_seq ?_ | refine r_asg ?_ | refine r_nm ?_ | refine r_var (by with_unfolding_all rfl) ?_ | refine r_c ?_ | refine r_aCons ?_ | refine r_aNil ?_ | refine r_op ?_ | refine r_call ?_ | refine r_val ?_ | refine r_bl ?_ | refine r_if ?_ | refine r_ret ?_ | refine r_next ?_ | refine r_ifT (by first | decide | (with_unfolding_all rfl)) ?_ | refine r_ifF (by first | decide | (with_unfolding_all rfl)) ?_ | refine r_tup ?_ | refine r_lst ?_ | refine r_le (Nat.le_of_ble_eq_true (by with_unfolding_all rfl)) ?_ | refine r_cb ?_ | refine r_and ?_ | refine r_or ?_ | refine r_not ?_ | refine r_eIf ?_ | refine r_eAnd ?_ | refine r_eOr ?_ | refine r_eNot ?_ | refine r_isN ?_ | refine r_mt ?_ | refine r_tr ?_ | refine r_ss ?_ | refine r_dict0 ?_ | refine r_yes ?_ | refine r_isi ?_ | refine r_ty (by with_unfolding_all rfl) ?_ | refine r_ixT (by with_unfolding_all rfl) ?_ | refine r_ixE (by with_unfolding_all rfl) (by with_unfolding_all rfl) ?_ | refine r_ixL (by assumption) (by with_unfolding_all rfl) ?_ | refine r_addI ?_ | refine r_intF ?_ | refine r_intCF (by first | decide | exact cmul_r (by decide) | exact cmul_l (by decide)) ?_ | refine r_eqI ?_ | refine r_neI ?_ | refine r_eqS ?_ | refine r_neS ?_ | refine r_eqB ?_ | refine r_neB ?_ | refine r_int ?_ | refine r_drop ?_ | refine r_sub ?_ | refine r_gTp (by with_unfolding_all rfl) ?_ | refine r_gsCons ?_ | refine r_gsNil ?_ | refine r_for ?_ | refine r_lc ?_ | refine r_dc ?_ | refine r_iRg1 ?_ | refine r_inT (by with_unfolding_all rfl) (by with_unfolding_all rfl) ?_)
        refine disp_spec (x := 15) (X := great) (fun S P h => h) (fun S P _ h => r_var rfl h) fun S15 e15 h15 => ?_
        (repeat with_reducible first | refine r_seq ?_ | refine r_asg ?_ | refine r_nm ?_ | refine r_var (by with_unfolding_all rfl) ?_ | refine r_c ?_ | refine r_aCons ?_ | refine r_aNil ?_ | refine r_op ?_ | refine r_call ?_ | refine r_val ?_ | refine r_bl ?_ | refine r_if ?_ | refine r_ret ?_ | refine r_next ?_ | refine r_ifT (by first | decide | (with_unfolding_all rfl)) ?_ | refine r_ifF (by first | decide | (with_unfolding_all rfl)) ?_ | refine r_tup ?_ | refine r_lst ?_ | refine r_le (Nat.le_of_ble_eq_true (by with_unfolding_all rfl)) ?_ | refine r_cb ?_ | refine r_and ?_ | refine r_or ?_ | refine r_not ?_ | refine r_eIf ?_ | refine r_eAnd ?_ | refine r_eOr ?_ | refine r_eNot ?_ | refine r_isN ?_ | refine r_mt ?_ | refine r_tr ?_ | refine r_ss ?_ | refine r_dict0 ?_ | refine r_yes ?_ | refine r_isi ?_ | refine r_ty (by with_unfolding_all rfl) ?_ | refine r_ixT (by with_unfolding_all rfl) ?_ | refine r_ixE (by with_unfolding_all rfl) (by with_unfolding_all rfl) ?_ | refine r_ixL (by assumption) (by with_unfolding_all rfl) ?_ | refine r_addI ?_ | refine r_intF ?_ | refine r_intCF (by first | decide | exact cmul_r (by decide) | exact cmul_l (by decide)) ?_ | refine r_eqI ?_ | refine r_neI ?_ | refine r_eqS ?_ | refine r_neS ?_ | refine r_eqB ?_ | refine r_neB ?_ | refine r_int ?_ | refine r_drop ?_ | refine r_sub ?_ | refine r_gTp (by with_unfolding_all rfl) ?_ | refine r_gsCons ?_ | refine r_gsNil ?_ | refine r_for ?_ | refine r_lc ?_ | refine r_dc ?_ | refine r_iRg1 ?_ | refine r_inT (by with_unfolding_all rfl) (by with_unfolding_all rfl) ?_)
        refine worth1_spec hw hn hgr (by omega) sc h15 fun S16 e16 => ?_
        have P16 := ((((((P12.ext (Ext.app _ _)).ext (Ext.app _ _)).ext e13).ext e14).ext e15).ext e16)
        have o1 := ho small hs1
        have o2 := ho great hgr
        (repeat with_reducible first | refine r_seq ?_ | refine r_asg ?_ | refine r_nm ?_ | refine r_var (by with_unfolding_all rfl) ?_ | refine r_c ?_ | refine r_aCons ?_ | refine r_aNil ?_ | refine r_op ?_ | refine r_call ?_ | refine r_val ?_ | refine r_bl ?_ | refine r_if ?_ | refine r_ret ?_ | refine r_next ?_ | refine r_ifT (by first | decide | (with_unfolding_all rfl)) ?_ | refine r_ifF (by first | decide | (with_unfolding_all rfl)) ?_ | refine r_tup ?_ | refine r_lst ?_ | refine r_le (Nat.le_of_ble_eq_true (by with_unfolding_all rfl)) ?_ | refine r_cb ?_ | refine r_and ?_ | refine r_or ?_ | refine r_not ?_ | refine r_eIf ?_ | refine r_eAnd ?_ | refine r_eOr ?_ | refine r_eNot ?_ | refine r_isN ?_ | refine r_mt ?_ | refine r_tr ?_ | refine r_ss ?_ | refine r_dict0 ?_ | refine r_yes ?_ | refine r_isi ?_ | refine r_ty (by with_unfolding_all rfl) ?_ | refine r_ixT (by with_unfolding_all rfl) ?_ | refine r_ixE (by with_unfolding_all rfl) (by with_unfolding_all rfl) ?_ | refine r_ixL (by assumption) (by with_unfolding_all rfl) ?_ | refine r_addI ?_ | refine r_intF ?_ | refine r_intCF (by first | decide | exact cmul_r (by decide) | exact cmul_l (by decide)) ?_ | refine r_eqI ?_ | refine r_neI ?_ | refine r_eqS ?_ | refine r_neS ?_ | refine r_eqB ?_ | refine r_neB ?_ | refine r_int ?_ | refine r_drop ?_ | refine r_sub ?_ | refine r_gTp (by with_unfolding_all rfl) ?_ | refine r_gsCons ?_ | refine r_gsNil ?_ | refine r_for ?_ | refine r_lc ?_ | refine r_dc ?_ | refine r_iRg1 ?_ | refine r_inT (by with_unfolding_all rfl) (by with_unfolding_all rfl) ?_)
        refine r_iTup ?_
        (repeat with_reducible first | refine r_seq ?_ | refine r_asg ?_ | refine r_nm ?_ | refine r_var (by with_unfolding_all rfl) ?_ | refine r_c ?_ | refine r_aCons ?_ | refine r_aNil ?_ | refine r_op ?_ | refine r_call ?_ | refine r_val ?_ | refine r_bl ?_ | refine r_if ?_ | refine r_ret ?_ | refine r_next ?_ | refine r_ifT (by first | decide | (with_unfolding_all rfl)) ?_ | refine r_ifF (by first | decide | (with_unfolding_all rfl)) ?_ | refine r_tup ?_ | refine r_lst ?_ | refine r_le (Nat.le_of_ble_eq_true (by with_unfolding_all rfl)) ?_ | refine r_cb ?_ | refine r_and ?_ | refine r_or ?_ | refine r_not ?_ | refine r_eIf ?_ | refine r_eAnd ?_ | refine r_eOr ?_ | refine r_eNot ?_ | refine r_isN ?_ | refine r_mt ?_ | refine r_tr ?_ | refine r_ss ?_ | refine r_dict0 ?_ | refine r_yes ?_ | refine r_isi ?_ | refine r_ty (by with_unfolding_all rfl) ?_ | refine r_ixT (by with_unfolding_all rfl) ?_ | refine r_ixE (by with_unfolding_all rfl) (by with_unfolding_all rfl) ?_ | refine r_ixL (by assumption) (by with_unfolding_all rfl) ?_ | refine r_addI ?_ | refine r_intF ?_ | refine r_intCF (by first | decide | exact cmul_r (by decide) | exact cmul_l (by decide)) ?_ | refine r_eqI ?_ | refine r_neI ?_ | refine r_eqS ?_ | refine r_neS ?_ | refine r_eqB ?_ | refine r_neB ?_ | refine r_int ?_ | refine r_drop ?_ | refine r_sub ?_ | refine r_gTp (by with_unfolding_all rfl) ?_ | refine r_gsCons ?_ | refine r_gsNil ?_ | refine r_for ?_ | refine r_lc ?_ | refine r_dc ?_ | refine r_iRg1 ?_ | refine r_inT (by with_unfolding_all rfl) (by with_unfolding_all rfl) ?_)
        refine ⟨_, rfl, ?_⟩
        intro few
        refine notin_spec (A := rnd w inner ρ0 15 small) (B := rnd w inner ρ0 15 great) (fun _ => rfl) (fun _ => rfl) (by have := o1.le; omega) fun S17 e17 h17 => ?_
        (repeat with_reducible first | refine r_seq ?_ | refine r_asg ?_ | refine r_nm ?_ | refine r_var (by with_unfolding_all rfl) ?_ | refine r_c ?_ | refine r_aCons ?_ | refine r_aNil ?_ | refine r_op ?_ | refine r_call ?_ | refine r_val ?_ | refine r_bl ?_ | refine r_if ?_ | refine r_ret ?_ | refine r_next ?_ | refine r_ifT (by first | decide | (with_unfolding_all rfl)) ?_ | refine r_ifF (by first | decide | (with_unfolding_all rfl)) ?_ | refine r_tup ?_ | refine r_lst ?_ | refine r_le (Nat.le_of_ble_eq_true (by with_unfolding_all rfl)) ?_ | refine r_cb ?_ | refine r_and ?_ | refine r_or ?_ | refine r_not ?_ | refine r_eIf ?_ | refine r_eAnd ?_ | refine r_eOr ?_ | refine r_eNot ?_ | refine r_isN ?_ | refine r_mt ?_ | refine r_tr ?_ | refine r_ss ?_ | refine r_dict0 ?_ | refine r_yes ?_ | refine r_isi ?_ | refine r_ty (by with_unfolding_all rfl) ?_ | refine r_ixT (by with_unfolding_all rfl) ?_ | refine r_ixE (by with_unfolding_all rfl) (by with_unfolding_all rfl) ?_ | refine r_ixL (by assumption) (by with_unfolding_all rfl) ?_ | refine r_addI ?_ | refine r_intF ?_ | refine r_intCF (by first | decide | exact cmul_r (by decide) | exact cmul_l (by decide)) ?_ | refine r_eqI ?_ | refine r_neI ?_ | refine r_eqS ?_ | refine r_neS ?_ | refine r_eqB ?_ | refine r_neB ?_ | refine r_int ?_ | refine r_drop ?_ | refine r_sub ?_ | refine r_gTp (by with_unfolding_all rfl) ?_ | refine r_gsCons ?_ | refine r_gsNil ?_ | refine r_for ?_ | refine r_lc ?_ | refine r_dc ?_ | refine r_iRg1 ?_ | refine r_inT (by with_unfolding_all rfl) (by with_unfolding_all rfl) ?_)
        refine r_len (by show seqC S17[_]? = _; rw [h17]; rfl) ?_
        (repeat with_reducible first | refine r_seq ?_ | refine r_asg ?_ | refine r_nm ?_ | refine r_var (by with_unfolding_all rfl) ?_ | refine r_c ?_ | refine r_aCons ?_ | refine r_aNil ?_ | refine r_op ?_ | refine r_call ?_ | refine r_val ?_ | refine r_bl ?_ | refine r_if ?_ | refine r_ret ?_ | refine r_next ?_ | refine r_ifT (by first | decide | (with_unfolding_all rfl)) ?_ | refine r_ifF (by first | decide | (with_unfolding_all rfl)) ?_ | refine r_tup ?_ | refine r_lst ?_ | refine r_le (Nat.le_of_ble_eq_true (by with_unfolding_all rfl)) ?_ | refine r_cb ?_ | refine r_and ?_ | refine r_or ?_ | refine r_not ?_ | refine r_eIf ?_ | refine r_eAnd ?_ | refine r_eOr ?_ | refine r_eNot ?_ | refine r_isN ?_ | refine r_mt ?_ | refine r_tr ?_ | refine r_ss ?_ | refine r_dict0 ?_ | refine r_yes ?_ | refine r_isi ?_ | refine r_ty (by with_unfolding_all rfl) ?_ | refine r_ixT (by with_unfolding_all rfl) ?_ | refine r_ixE (by with_unfolding_all rfl) (by with_unfolding_all rfl) ?_ | refine r_ixL (by assumption) (by with_unfolding_all rfl) ?_ | refine r_addI ?_ | refine r_intF ?_ | refine r_intCF (by first | decide | exact cmul_r (by decide) | exact cmul_l (by decide)) ?_ | refine r_eqI ?_ | refine r_neI ?_ | refine r_eqS ?_ | refine r_neS ?_ | refine r_eqB ?_ | refine r_neB ?_ | refine r_int ?_ | refine r_drop ?_ | refine r_sub ?_ | refine r_gTp (by with_unfolding_all rfl) ?_ | refine r_gsCons ?_ | refine r_gsNil ?_ | refine r_for ?_ | refine r_lc ?_ | refine r_dc ?_ | refine r_iRg1 ?_ | refine r_inT (by with_unfolding_all rfl) (by with_unfolding_all rfl) ?_)
        refine r_ifF (decide_eq_false ?_) ?_
        · rw [diff_none (hm _ _ sg)]; decide
        (repeat with_reducible first | refine r_seq ?_ | refine r_asg ?_ | refine r_nm ?_ | refine r_var (by with_unfolding_all rfl) ?_ | refine r_c ?_ | refine r_aCons ?_ | refine r_aNil ?_ | refine r_op ?_ | refine r_call ?_ | refine r_val ?_ | refine r_bl ?_ | refine r_if ?_ | refine r_ret ?_ | refine r_next ?_ | refine r_ifT (by first | decide | (with_unfolding_all rfl)) ?_ | refine r_ifF (by first | decide | (with_unfolding_all rfl)) ?_ | refine r_tup ?_ | refine r_lst ?_ | refine r_le (Nat.le_of_ble_eq_true (by with_unfolding_all rfl)) ?_ | refine r_cb ?_ | refine r_and ?_ | refine r_or ?_ | refine r_not ?_ | refine r_eIf ?_ | refine r_eAnd ?_ | refine r_eOr ?_ | refine r_eNot ?_ | refine r_isN ?_ | refine r_mt ?_ | refine r_tr ?_ | refine r_ss ?_ | refine r_dict0 ?_ | refine r_yes ?_ | refine r_isi ?_ | refine r_ty (by with_unfolding_all rfl) ?_ | refine r_ixT (by with_unfolding_all rfl) ?_ | refine r_ixE (by with_unfolding_all rfl) (by with_unfolding_all rfl) ?_ | refine r_ixL (by assumption) (by with_unfolding_all rfl) ?_ | refine r_addI ?_ | refine r_intF ?_ | refine r_intCF (by first | decide | exact cmul_r (by decide) | exact cmul_l (by decide)) ?_ | refine r_eqI ?_ | refine r_neI ?_ | refine r_eqS ?_ | refine r_neS ?_ | refine r_eqB ?_ | refine r_neB ?_ | refine r_int ?_ | refine r_drop ?_ | refine r_sub ?_ | refine r_gTp (by with_unfolding_all rfl) ?_ | refine r_gsCons ?_ | refine r_gsNil ?_ | refine r_for ?_ | refine r_lc ?_ | refine r_dc ?_ | refine r_iRg1 ?_ | refine r_inT (by with_unfolding_all rfl) (by with_unfolding_all rfl) ?_)
        refine r_iTup ?_
        (repeat with_reducible first | refine r_seq ?_ | refine r_asg ?_ | refine r_nm ?_ | refine r_var (by with_unfolding_all rfl) ?_ | refine r_c ?_ | refine r_aCons ?_ | refine r_aNil ?_ | refine r_op ?_ | refine r_call ?_ | refine r_val ?_ | refine r_bl ?_ | refine r_if ?_ | refine r_ret ?_ | refine r_next ?_ | refine r_ifT (by first | decide | (with_unfolding_all rfl)) ?_ | refine r_ifF (by first | decide | (with_unfolding_all rfl)) ?_ | refine r_tup ?_ | refine r_lst ?_ | refine r_le (Nat.le_of_ble_eq_true (by with_unfolding_all rfl)) ?_ | refine r_cb ?_ | refine r_and ?_ | refine r_or ?_ | refine r_not ?_ | refine r_eIf ?_ | refine r_eAnd ?_ | refine r_eOr ?_ | refine r_eNot ?_ | refine r_isN ?_ | refine r_mt ?_ | refine r_tr ?_ | refine r_ss ?_ | refine r_dict0 ?_ | refine r_yes ?_ | refine r_isi ?_ | refine r_ty (by with_unfolding_all rfl) ?_ | refine r_ixT (by with_unfolding_all rfl) ?_ | refine r_ixE (by with_unfolding_all rfl) (by with_unfolding_all rfl) ?_ | refine r_ixL (by assumption) (by with_unfolding_all rfl) ?_ | refine r_addI ?_ | refine r_intF ?_ | refine r_intCF (by first | decide | exact cmul_r (by decide) | exact cmul_l (by decide)) ?_ | refine r_eqI ?_ | refine r_neI ?_ | refine r_eqS ?_ | refine r_neS ?_ | refine r_eqB ?_ | refine r_neB ?_ | refine r_int ?_ | refine r_drop ?_ | refine r_sub ?_ | refine r_gTp (by with_unfolding_all rfl) ?_ | refine r_gsCons ?_ | refine r_gsNil ?_ | refine r_for ?_ | refine r_lc ?_ | refine r_dc ?_ | refine r_iRg1 ?_ | refine r_inT (by with_unfolding_all rfl) (by with_unfolding_all rfl) ?_)
        refine ⟨_, rfl, ?_⟩
        intro few
        refine notin_spec (A := (rnd w inner ρ0 15 small)) (B := (small)) (fun _ => rfl) (fun _ => rfl) (by have := o1.le; omega) fun S18 e18 h18 => ?_
        (repeat with_reducible first | refine r_seq ?_ | refine r_asg ?_ | refine r_nm ?_ | refine r_var (by with_unfolding_all rfl) ?_ | refine r_c ?_ | refine r_aCons ?_ | refine r_aNil ?_ | refine r_op ?_ | refine r_call ?_ | refine r_val ?_ | refine r_bl ?_ | refine r_if ?_ | refine r_ret ?_ | refine r_next ?_ | refine r_ifT (by first | decide | (with_unfolding_all rfl)) ?_ | refine r_ifF (by first | decide | (with_unfolding_all rfl)) ?_ | refine r_tup ?_ | refine r_lst ?_ | refine r_le (Nat.le_of_ble_eq_true (by with_unfolding_all rfl)) ?_ | refine r_cb ?_ | refine r_and ?_ | refine r_or ?_ | refine r_not ?_ | refine r_eIf ?_ | refine r_eAnd ?_ | refine r_eOr ?_ | refine r_eNot ?_ | refine r_isN ?_ | refine r_mt ?_ | refine r_tr ?_ | refine r_ss ?_ | refine r_dict0 ?_ | refine r_yes ?_ | refine r_isi ?_ | refine r_ty (by with_unfolding_all rfl) ?_ | refine r_ixT (by with_unfolding_all rfl) ?_ | refine r_ixE (by with_unfolding_all rfl) (by with_unfolding_all rfl) ?_ | refine r_ixL (by assumption) (by with_unfolding_all rfl) ?_ | refine r_addI ?_ | refine r_intF ?_ | refine r_intCF (by first | decide | exact cmul_r (by decide) | exact cmul_l (by decide)) ?_ | refine r_eqI ?_ | refine r_neI ?_ | refine r_eqS ?_ | refine r_neS ?_ | refine r_eqB ?_ | refine r_neB ?_ | refine r_int ?_ | refine r_drop ?_ | refine r_sub ?_ | refine r_gTp (by with_unfolding_all rfl) ?_ | refine r_gsCons ?_ | refine r_gsNil ?_ | refine r_for ?_ | refine r_lc ?_ | refine r_dc ?_ | refine r_iRg1 ?_ | refine r_inT (by with_unfolding_all rfl) (by with_unfolding_all rfl) ?_)
        refine r_len (by show seqC S18[_]? = _; rw [h18]; rfl) ?_
        (repeat with_reducible first | refine r_seq ?_ | refine r_asg ?_ | refine r_nm ?_ | refine r_var (by with_unfolding_all rfl) ?_ | refine r_c ?_ | refine r_aCons ?_ | refine r_aNil ?_ | refine r_op ?_ | refine r_call ?_ | refine r_val ?_ | refine r_bl ?_ | refine r_if ?_ | refine r_ret ?_ | refine r_next ?_ | refine r_ifT (by first | decide | (with_unfolding_all rfl)) ?_ | refine r_ifF (by first | decide | (with_unfolding_all rfl)) ?_ | refine r_tup ?_ | refine r_lst ?_ | refine r_le (Nat.le_of_ble_eq_true (by with_unfolding_all rfl)) ?_ | refine r_cb ?_ | refine r_and ?_ | refine r_or ?_ | refine r_not ?_ | refine r_eIf ?_ | refine r_eAnd ?_ | refine r_eOr ?_ | refine r_eNot ?_ | refine r_isN ?_ | refine r_mt ?_ | refine r_tr ?_ | refine r_ss ?_ | refine r_dict0 ?_ | refine r_yes ?_ | refine r_isi ?_ | refine r_ty (by with_unfolding_all rfl) ?_ | refine r_ixT (by with_unfolding_all rfl) ?_ | refine r_ixE (by with_unfolding_all rfl) (by with_unfolding_all rfl) ?_ | refine r_ixL (by assumption) (by with_unfolding_all rfl) ?_ | refine r_addI ?_ | refine r_intF ?_ | refine r_intCF (by first | decide | exact cmul_r (by decide) | exact cmul_l (by decide)) ?_ | refine r_eqI ?_ | refine r_neI ?_ | refine r_eqS ?_ | refine r_neS ?_ | refine r_eqB ?_ | refine r_neB ?_ | refine r_int ?_ | refine r_drop ?_ | refine r_sub ?_ | refine r_gTp (by with_unfolding_all rfl) ?_ | refine r_gsCons ?_ | refine r_gsNil ?_ | refine r_for ?_ | refine r_lc ?_ | refine r_dc ?_ | refine r_iRg1 ?_ | refine r_inT (by with_unfolding_all rfl) (by with_unfolding_all rfl) ?_)
        refine ite_b (fun hc => ?_) (fun hc => ?_)
        · have hc := diff_sub (A := (rnd w inner ρ0 15 small)) (B := (small)) (by have := of_decide_eq_true hc; omega)
          have fact : Sub (it (rnd w inner ρ0 15) w.n (x0 true w.n)) (small) := it_least hm hc _
          (repeat with_reducible first | refine r_seq ?_ | refine r_asg ?_ | refine r_nm ?_ | refine r_var (by with_unfolding_all rfl) ?_ | refine r_c ?_ | refine r_aCons ?_ | refine r_aNil ?_ | refine r_op ?_ | refine r_call ?_ | refine r_val ?_ | refine r_bl ?_ | refine r_if ?_ | refine r_ret ?_ | refine r_next ?_ | refine r_ifT (by first | decide | (with_unfolding_all rfl)) ?_ | refine r_ifF (by first | decide | (with_unfolding_all rfl)) ?_ | refine r_tup ?_ | refine r_lst ?_ | refine r_le (Nat.le_of_ble_eq_true (by with_unfolding_all rfl)) ?_ | refine r_cb ?_ | refine r_and ?_ | refine r_or ?_ | refine r_not ?_ | refine r_eIf ?_ | refine r_eAnd ?_ | refine r_eOr ?_ | refine r_eNot ?_ | refine r_isN ?_ | refine r_mt ?_ | refine r_tr ?_ | refine r_ss ?_ | refine r_dict0 ?_ | refine r_yes ?_ | refine r_isi ?_ | refine r_ty (by with_unfolding_all rfl) ?_ | refine r_ixT (by with_unfolding_all rfl) ?_ | refine r_ixE (by with_unfolding_all rfl) (by with_unfolding_all rfl) ?_ | refine r_ixL (by assumption) (by with_unfolding_all rfl) ?_ | refine r_addI ?_ | refine r_intF ?_ | refine r_intCF (by first | decide | exact cmul_r (by decide) | exact cmul_l (by decide)) ?_ | refine r_eqI ?_ | refine r_neI ?_ | refine r_eqS ?_ | refine r_neS ?_ | refine r_eqB ?_ | refine r_neB ?_ | refine r_int ?_ | refine r_drop ?_ | refine r_sub ?_ | refine r_gTp (by with_unfolding_all rfl) ?_ | refine r_gsCons ?_ | refine r_gsNil ?_ | refine r_for ?_ | refine r_lc ?_ | refine r_dc ?_ | refine r_iRg1 ?_ | refine r_inT (by with_unfolding_all rfl) (by with_unfolding_all rfl) ?_)
          refine r_iTup ?_
          (repeat with_reducible first | refine r_seq ?_ | refine r_asg ?_ | refine r_nm ?_ | refine r_var (by with_unfolding_all rfl) ?_ | refine r_c ?_ | refine r_aCons ?_ | refine r_aNil ?_ | refine r_op ?_ | refine r_call ?_ | refine r_val ?_ | refine r_bl ?_ | refine r_if ?_ | refine r_ret ?_ | refine r_next ?_ | refine r_ifT (by first | decide | (with_unfolding_all rfl)) ?_ | refine r_ifF (by first | decide | (with_unfolding_all rfl)) ?_ | refine r_tup ?_ | refine r_lst ?_ | refine r_le (Nat.le_of_ble_eq_true (by with_unfolding_all rfl)) ?_ | refine r_cb ?_ | refine r_and ?_ | refine r_or ?_ | refine r_not ?_ | refine r_eIf ?_ | refine r_eAnd ?_ | refine r_eOr ?_ | refine r_eNot ?_ | refine r_isN ?_ | refine r_mt ?_ | refine r_tr ?_ | refine r_ss ?_ | refine r_dict0 ?_ | refine r_yes ?_ | refine r_isi ?_ | refine r_ty (by with_unfolding_all rfl) ?_ | refine r_ixT (by with_unfolding_all rfl) ?_ | refine r_ixE (by with_unfolding_all rfl) (by with_unfolding_all rfl) ?_ | refine r_ixL (by assumption) (by with_unfolding_all rfl) ?_ | refine r_addI ?_ | refine r_intF ?_ | refine r_intCF (by first | decide | exact cmul_r (by decide) | exact cmul_l (by decide)) ?_ | refine r_eqI ?_ | refine r_neI ?_ | refine r_eqS ?_ | refine r_neS ?_ | refine r_eqB ?_ | refine r_neB ?_ | refine r_int ?_ | refine r_drop ?_ | refine r_sub ?_ | refine r_gTp (by with_unfolding_all rfl) ?_ | refine r_gsCons ?_ | refine r_gsNil ?_ | refine r_for ?_ | refine r_lc ?_ | refine r_dc ?_ | refine r_iRg1 ?_ | refine r_inT (by with_unfolding_all rfl) (by with_unfolding_all rfl) ?_)
          refine ⟨_, rfl, ?_⟩
          intro few
          refine notin_spec (A := (it (rnd w inner ρ0 15) w.n (x0 true w.n))) (B := (small)) (fun _ => rfl) (fun _ => rfl) (by have := how.le; omega) fun S19 e19 h19 => ?_
          (repeat with_reducible first | refine r_seq ?_ | refine r_asg ?_ | refine r_nm ?_ | refine r_var (by with_unfolding_all rfl) ?_ | refine r_c ?_ | refine r_aCons ?_ | refine r_aNil ?_ | refine r_op ?_ | refine r_call ?_ | refine r_val ?_ | refine r_bl ?_ | refine r_if ?_ | refine r_ret ?_ | refine r_next ?_ | refine r_ifT (by first | decide | (with_unfolding_all rfl)) ?_ | refine r_ifF (by first | decide | (with_unfolding_all rfl)) ?_ | refine r_tup ?_ | refine r_lst ?_ | refine r_le (Nat.le_of_ble_eq_true (by with_unfolding_all rfl)) ?_ | refine r_cb ?_ | refine r_and ?_ | refine r_or ?_ | refine r_not ?_ | refine r_eIf ?_ | refine r_eAnd ?_ | refine r_eOr ?_ | refine r_eNot ?_ | refine r_isN ?_ | refine r_mt ?_ | refine r_tr ?_ | refine r_ss ?_ | refine r_dict0 ?_ | refine r_yes ?_ | refine r_isi ?_ | refine r_ty (by with_unfolding_all rfl) ?_ | refine r_ixT (by with_unfolding_all rfl) ?_ | refine r_ixE (by with_unfolding_all rfl) (by with_unfolding_all rfl) ?_ | refine r_ixL (by assumption) (by with_unfolding_all rfl) ?_ | refine r_addI ?_ | refine r_intF ?_ | refine r_intCF (by first | decide | exact cmul_r (by decide) | exact cmul_l (by decide)) ?_ | refine r_eqI ?_ | refine r_neI ?_ | refine r_eqS ?_ | refine r_neS ?_ | refine r_eqB ?_ | refine r_neB ?_ | refine r_int ?_ | refine r_drop ?_ | refine r_sub ?_ | refine r_gTp (by with_unfolding_all rfl) ?_ | refine r_gsCons ?_ | refine r_gsNil ?_ | refine r_for ?_ | refine r_lc ?_ | refine r_dc ?_ | refine r_iRg1 ?_ | refine r_inT (by with_unfolding_all rfl) (by with_unfolding_all rfl) ?_)
          refine r_len (by show seqC S19[_]? = _; rw [h19]; rfl) ?_
          (repeat with_reducible first | refine r_seq ?_ | refine r_asg ?_ | refine r_nm ?_ | refine r_var (by with_unfolding_all rfl) ?_ | refine r_c ?_ | refine r_aCons ?_ | refine r_aNil ?_ | refine r_op ?_ | refine r_call ?_ | refine r_val ?_ | refine r_bl ?_ | refine r_if ?_ | refine r_ret ?_ | refine r_next ?_ | refine r_ifT (by first | decide | (with_unfolding_all rfl)) ?_ | refine r_ifF (by first | decide | (with_unfolding_all rfl)) ?_ | refine r_tup ?_ | refine r_lst ?_ | refine r_le (Nat.le_of_ble_eq_true (by with_unfolding_all rfl)) ?_ | refine r_cb ?_ | refine r_and ?_ | refine r_or ?_ | refine r_not ?_ | refine r_eIf ?_ | refine r_eAnd ?_ | refine r_eOr ?_ | refine r_eNot ?_ | refine r_isN ?_ | refine r_mt ?_ | refine r_tr ?_ | refine r_ss ?_ | refine r_dict0 ?_ | refine r_yes ?_ | refine r_isi ?_ | refine r_ty (by with_unfolding_all rfl) ?_ | refine r_ixT (by with_unfolding_all rfl) ?_ | refine r_ixE (by with_unfolding_all rfl) (by with_unfolding_all rfl) ?_ | refine r_ixL (by assumption) (by with_unfolding_all rfl) ?_ | refine r_addI ?_ | refine r_intF ?_ | refine r_intCF (by first | decide | exact cmul_r (by decide) | exact cmul_l (by decide)) ?_ | refine r_eqI ?_ | refine r_neI ?_ | refine r_eqS ?_ | refine r_neS ?_ | refine r_eqB ?_ | refine r_neB ?_ | refine r_int ?_ | refine r_drop ?_ | refine r_sub ?_ | refine r_gTp (by with_unfolding_all rfl) ?_ | refine r_gsCons ?_ | refine r_gsNil ?_ | refine r_for ?_ | refine r_lc ?_ | refine r_dc ?_ | refine r_iRg1 ?_ | refine r_inT (by with_unfolding_all rfl) (by with_unfolding_all rfl) ?_)
          refine r_ifF (decide_eq_false ?_) ?_
          · rw [diff_none fact]; decide
          (repeat with_reducible first | refine r_seq ?_ | refine r_asg ?_ | refine r_nm ?_ | refine r_var (by with_unfolding_all rfl) ?_ | refine r_c ?_ | refine r_aCons ?_ | refine r_aNil ?_ | refine r_op ?_ | refine r_call ?_ | refine r_val ?_ | refine r_bl ?_ | refine r_if ?_ | refine r_ret ?_ | refine r_next ?_ | refine r_ifT (by first | decide | (with_unfolding_all rfl)) ?_ | refine r_ifF (by first | decide | (with_unfolding_all rfl)) ?_ | refine r_tup ?_ | refine r_lst ?_ | refine r_le (Nat.le_of_ble_eq_true (by with_unfolding_all rfl)) ?_ | refine r_cb ?_ | refine r_and ?_ | refine r_or ?_ | refine r_not ?_ | refine r_eIf ?_ | refine r_eAnd ?_ | refine r_eOr ?_ | refine r_eNot ?_ | refine r_isN ?_ | refine r_mt ?_ | refine r_tr ?_ | refine r_ss ?_ | refine r_dict0 ?_ | refine r_yes ?_ | refine r_isi ?_ | refine r_ty (by with_unfolding_all rfl) ?_ | refine r_ixT (by with_unfolding_all rfl) ?_ | refine r_ixE (by with_unfolding_all rfl) (by with_unfolding_all rfl) ?_ | refine r_ixL (by assumption) (by with_unfolding_all rfl) ?_ | refine r_addI ?_ | refine r_intF ?_ | refine r_intCF (by first | decide | exact cmul_r (by decide) | exact cmul_l (by decide)) ?_ | refine r_eqI ?_ | refine r_neI ?_ | refine r_eqS ?_ | refine r_neS ?_ | refine r_eqB ?_ | refine r_neB ?_ | refine r_int ?_ | refine r_drop ?_ | refine r_sub ?_ | refine r_gTp (by with_unfolding_all rfl) ?_ | refine r_gsCons ?_ | refine r_gsNil ?_ | refine r_for ?_ | refine r_lc ?_ | refine r_dc ?_ | refine r_iRg1 ?_ | refine r_inT (by with_unfolding_all rfl) (by with_unfolding_all rfl) ?_)
          exact hR _ _ ⟨((P16.ext e17).ext e18).ext e19, _, _, _, _, _, rfl⟩
        · (repeat with_reducible first | refine r_seq ?_ | refine r_asg ?_ | refine r_nm ?_ | refine r_var (by with_unfolding_all rfl) ?_ | refine r_c ?_ | refine r_aCons ?_ | refine r_aNil ?_ | refine r_op ?_ | refine r_call ?_ | refine r_val ?_ | refine r_bl ?_ | refine r_if ?_ | refine r_ret ?_ | refine r_next ?_ | refine r_ifT (by first | decide | (with_unfolding_all rfl)) ?_ | refine r_ifF (by first | decide | (with_unfolding_all rfl)) ?_ | refine r_tup ?_ | refine r_lst ?_ | refine r_le (Nat.le_of_ble_eq_true (by with_unfolding_all rfl)) ?_ | refine r_cb ?_ | refine r_and ?_ | refine r_or ?_ | refine r_not ?_ | refine r_eIf ?_ | refine r_eAnd ?_ | refine r_eOr ?_ | refine r_eNot ?_ | refine r_isN ?_ | refine r_mt ?_ | refine r_tr ?_ | refine r_ss ?_ | refine r_dict0 ?_ | refine r_yes ?_ | refine r_isi ?_ | refine r_ty (by with_unfolding_all rfl) ?_ | refine r_ixT (by with_unfolding_all rfl) ?_ | refine r_ixE (by with_unfolding_all rfl) (by with_unfolding_all rfl) ?_ | refine r_ixL (by assumption) (by with_unfolding_all rfl) ?_ | refine r_addI ?_ | refine r_intF ?_ | refine r_intCF (by first | decide | exact cmul_r (by decide) | exact cmul_l (by decide)) ?_ | refine r_eqI ?_ | refine r_neI ?_ | refine r_eqS ?_ | refine r_neS ?_ | refine r_eqB ?_ | refine r_neB ?_ | refine r_int ?_ | refine r_drop ?_ | refine r_sub ?_ | refine r_gTp (by with_unfolding_all rfl) ?_ | refine r_gsCons ?_ | refine r_gsNil ?_ | refine r_for ?_ | refine r_lc ?_ | refine r_dc ?_ | refine r_iRg1 ?_ | refine r_inT (by with_unfolding_all rfl) (by with_unfolding_all rfl) ?_)
          exact hR _ _ ⟨(P16.ext e17).ext e18, _, _, _, _, _, rfl⟩
      · rintro σ S10 ⟨P10, s9, s10, s11, s12, s13, rfl⟩
        refine ⟨trivial, ?_⟩
        (repeat with_reducible first | refine r_seq ?_ | refine r_asg ?_ | refine r_nm ?_ | refine r_var (by with_unfolding_all rfl) ?_ | refine r_c ?_ | refine r_aCons ?_ | refine r_aNil ?_ | refine r_op ?_ | refine r_call ?_ | refine r_val ?_ | refine r_bl ?_ | refine r_if ?_ | refine r_ret ?_ | refine r_next ?_ | refine r_ifT (by first | decide | (with_unfolding_all rfl)) ?_ | refine r_ifF (by first | decide | (with_unfolding_all rfl)) ?_ | refine r_tup ?_ | refine r_lst ?_ | refine r_le (Nat.le_of_ble_eq_true (by with_unfolding_all rfl)) ?_ | refine r_cb ?_ | refine r_and ?_ | refine r_or ?_ | refine r_not ?_ | refine r_eIf ?_ | refine r_eAnd ?_ | refine r_eOr ?_ | refine r_eNot ?_ | refine r_isN ?_ | refine r_mt ?_ | refine r_tr ?_ | refine r_ss ?_ | refine r_dict0 ?_ | refine r_yes ?_ | refine r_isi ?_ | refine r_ty (by with_unfolding_all rfl) ?_ | refine r_ixT (by with_unfolding_all rfl) ?_ | refine r_ixE (by with_unfolding_all rfl) (by with_unfolding_all rfl) ?_ | refine r_ixL (by assumption) (by with_unfolding_all rfl) ?_ | refine r_addI ?_ | refine r_intF ?_ | refine r_intCF (by first | decide | exact cmul_r (by decide) | exact cmul_l (by decide)) ?_ | refine r_eqI ?_ | refine r_neI ?_ | refine r_eqS ?_ | refine r_neS ?_ | refine r_eqB ?_ | refine r_neB ?_ | refine r_int ?_ | refine r_drop ?_ | refine r_sub ?_ | refine r_gTp (by with_unfolding_all rfl) ?_ | refine r_gsCons ?_ | refine r_gsNil ?_ | refine r_for ?_ | refine r_lc ?_ | refine r_dc ?_ | refine r_iRg1 ?_ | refine r_inT (by with_unfolding_all rfl) (by with_unfolding_all rfl) ?_)
        rw [show ((w.n : Nat) : Int) + 2 = ((w.n + 2 : Nat) : Int) by omega]
        refine r_rg (by omega) (by omega) fun few => ?_
        refine lc_map (rowF (rnd w inner ρ0 15) (x0 true w.n)) few (fun _ _ => trivial) ?_ ?_
        · intro x hx S11 P e11 hP
          obtain ⟨k, hk, rfl⟩ := mem_rng hx
          rw [Int.toNat_natCast] at hk
          (repeat with_reducible first | refine r_seq ?_ | refine r_asg ?_ | refine r_nm ?_ | refine r_var (by with_unfolding_all rfl) ?_ | refine r_c ?_ | refine r_aCons ?_ | refine r_aNil ?_ | refine r_op ?_ | refine r_call ?_ | refine r_val ?_ | refine r_bl ?_ | refine r_if ?_ | refine r_ret ?_ | refine r_next ?_ | refine r_ifT (by first | decide | (with_unfolding_all rfl)) ?_ | refine r_ifF (by first | decide | (with_unfolding_all rfl)) ?_ | refine r_tup ?_ | refine r_lst ?_ | refine r_le (Nat.le_of_ble_eq_true (by with_unfolding_all rfl)) ?_ | refine r_cb ?_ | refine r_and ?_ | refine r_or ?_ | refine r_not ?_ | refine r_eIf ?_ | refine r_eAnd ?_ | refine r_eOr ?_ | refine r_eNot ?_ | refine r_isN ?_ | refine r_mt ?_ | refine r_tr ?_ | refine r_ss ?_ | refine r_dict0 ?_ | refine r_yes ?_ | refine r_isi ?_ | refine r_ty (by with_unfolding_all rfl) ?_ | refine r_ixT (by with_unfolding_all rfl) ?_ | refine r_ixE (by with_unfolding_all rfl) (by with_unfolding_all rfl) ?_ | refine r_ixL (by assumption) (by with_unfolding_all rfl) ?_ | refine r_addI ?_ | refine r_intF ?_ | refine r_intCF (by first | decide | exact cmul_r (by decide) | exact cmul_l (by decide)) ?_ | refine r_eqI ?_ | refine r_neI ?_ | refine r_eqS ?_ | refine r_neS ?_ | refine r_eqB ?_ | refine r_neB ?_ | refine r_int ?_ | refine r_drop ?_ | refine r_sub ?_ | refine r_gTp (by with_unfolding_all rfl) ?_ | refine r_gsCons ?_ | refine r_gsNil ?_ | refine r_for ?_ | refine r_lc ?_ | refine r_dc ?_ | refine r_iRg1 ?_ | refine r_inT (by with_unfolding_all rfl) (by with_unfolding_all rfl) ?_)
          exact round_spec hw hn (b := true) (x := 15) (a := inner) (by omega) sc (by omega) fun S12 e12 => hP S12 e12
        intro S11 e11 h11
        rw [row_map] at h11
        (repeat with_reducible first | refine r_seq ?_ | refine r_asg ?_ | refine r_nm ?_ | refine r_var (by with_unfolding_all rfl) ?_ | refine r_c ?_ | refine r_aCons ?_ | refine r_aNil ?_ | refine r_op ?_ | refine r_call ?_ | refine r_val ?_ | refine r_bl ?_ | refine r_if ?_ | refine r_ret ?_ | refine r_next ?_ | refine r_ifT (by first | decide | (with_unfolding_all rfl)) ?_ | refine r_ifF (by first | decide | (with_unfolding_all rfl)) ?_ | refine r_tup ?_ | refine r_lst ?_ | refine r_le (Nat.le_of_ble_eq_true (by with_unfolding_all rfl)) ?_ | refine r_cb ?_ | refine r_and ?_ | refine r_or ?_ | refine r_not ?_ | refine r_eIf ?_ | refine r_eAnd ?_ | refine r_eOr ?_ | refine r_eNot ?_ | refine r_isN ?_ | refine r_mt ?_ | refine r_tr ?_ | refine r_ss ?_ | refine r_dict0 ?_ | refine r_yes ?_ | refine r_isi ?_ | refine r_ty (by with_unfolding_all rfl) ?_ | refine r_ixT (by with_unfolding_all rfl) ?_ | refine r_ixE (by with_unfolding_all rfl) (by with_unfolding_all rfl) ?_ | refine r_ixL (by assumption) (by with_unfolding_all rfl) ?_ | refine r_addI ?_ | refine r_intF ?_ | refine r_intCF (by first | decide | exact cmul_r (by decide) | exact cmul_l (by decide)) ?_ | refine r_eqI ?_ | refine r_neI ?_ | refine r_eqS ?_ | refine r_neS ?_ | refine r_eqB ?_ | refine r_neB ?_ | refine r_int ?_ | refine r_drop ?_ | refine r_sub ?_ | refine r_gTp (by with_unfolding_all rfl) ?_ | refine r_gsCons ?_ | refine r_gsNil ?_ | refine r_for ?_ | refine r_lc ?_ | refine r_dc ?_ | refine r_iRg1 ?_ | refine r_inT (by with_unfolding_all rfl) (by with_unfolding_all rfl) ?_)
        refine r_ixL h11 (row_at (rnd w inner ρ0 15) (x0 true w.n) (k := 0) (by omega)) ?_
        (repeat with_reducible first | refine r_seq ?_ | refine r_asg ?_ | refine r_nm ?_ | refine r_var (by with_unfolding_all rfl) ?_ | refine r_c ?_ | refine r_aCons ?_ | refine r_aNil ?_ | refine r_op ?_ | refine r_call ?_ | refine r_val ?_ | refine r_bl ?_ | refine r_if ?_ | refine r_ret ?_ | refine r_next ?_ | refine r_ifT (by first | decide | (with_unfolding_all rfl)) ?_ | refine r_ifF (by first | decide | (with_unfolding_all rfl)) ?_ | refine r_tup ?_ | refine r_lst ?_ | refine r_le (Nat.le_of_ble_eq_true (by with_unfolding_all rfl)) ?_ | refine r_cb ?_ | refine r_and ?_ | refine r_or ?_ | refine r_not ?_ | refine r_eIf ?_ | refine r_eAnd ?_ | refine r_eOr ?_ | refine r_eNot ?_ | refine r_isN ?_ | refine r_mt ?_ | refine r_tr ?_ | refine r_ss ?_ | refine r_dict0 ?_ | refine r_yes ?_ | refine r_isi ?_ | refine r_ty (by with_unfolding_all rfl) ?_ | refine r_ixT (by with_unfolding_all rfl) ?_ | refine r_ixE (by with_unfolding_all rfl) (by with_unfolding_all rfl) ?_ | refine r_ixL (by assumption) (by with_unfolding_all rfl) ?_ | refine r_addI ?_ | refine r_intF ?_ | refine r_intCF (by first | decide | exact cmul_r (by decide) | exact cmul_l (by decide)) ?_ | refine r_eqI ?_ | refine r_neI ?_ | refine r_eqS ?_ | refine r_neS ?_ | refine r_eqB ?_ | refine r_neB ?_ | refine r_int ?_ | refine r_drop ?_ | refine r_sub ?_ | refine r_gTp (by with_unfolding_all rfl) ?_ | refine r_gsCons ?_ | refine r_gsNil ?_ | refine r_for ?_ | refine r_lc ?_ | refine r_dc ?_ | refine r_iRg1 ?_ | refine r_inT (by with_unfolding_all rfl) (by with_unfolding_all rfl) ?_)
        
        refine r_neP (a := x0 true w.n) (b := x0 true w.n) ?_
        (repeat with_reducible first | refine r_seq ?_ | refine r_asg ?_ | refine r_nm ?_ | refine r_var (by with_unfolding_all rfl) ?_ | refine r_c ?_ | refine r_aCons ?_ | refine r_aNil ?_ | refine r_op ?_ | refine r_call ?_ | refine r_val ?_ | refine r_bl ?_ | refine r_if ?_ | refine r_ret ?_ | refine r_next ?_ | refine r_ifT (by first | decide | (with_unfolding_all rfl)) ?_ | refine r_ifF (by first | decide | (with_unfolding_all rfl)) ?_ | refine r_tup ?_ | refine r_lst ?_ | refine r_le (Nat.le_of_ble_eq_true (by with_unfolding_all rfl)) ?_ | refine r_cb ?_ | refine r_and ?_ | refine r_or ?_ | refine r_not ?_ | refine r_eIf ?_ | refine r_eAnd ?_ | refine r_eOr ?_ | refine r_eNot ?_ | refine r_isN ?_ | refine r_mt ?_ | refine r_tr ?_ | refine r_ss ?_ | refine r_dict0 ?_ | refine r_yes ?_ | refine r_isi ?_ | refine r_ty (by with_unfolding_all rfl) ?_ | refine r_ixT (by with_unfolding_all rfl) ?_ | refine r_ixE (by with_unfolding_all rfl) (by with_unfolding_all rfl) ?_ | refine r_ixL (by assumption) (by with_unfolding_all rfl) ?_ | refine r_addI ?_ | refine r_intF ?_ | refine r_intCF (by first | decide | exact cmul_r (by decide) | exact cmul_l (by decide)) ?_ | refine r_eqI ?_ | refine r_neI ?_ | refine r_eqS ?_ | refine r_neS ?_ | refine r_eqB ?_ | refine r_neB ?_ | refine r_int ?_ | refine r_drop ?_ | refine r_sub ?_ | refine r_gTp (by with_unfolding_all rfl) ?_ | refine r_gsCons ?_ | refine r_gsNil ?_ | refine r_for ?_ | refine r_lc ?_ | refine r_dc ?_ | refine r_iRg1 ?_ | refine r_inT (by with_unfolding_all rfl) (by with_unfolding_all rfl) ?_)
        try (with_reducible refine r_ifF (by simp) ?_)
        (repeat with_reducible first | refine r_seq ?_ | refine r_asg ?_ | refine r_nm ?_ | refine r_var (by with_unfolding_all rfl) ?_ | refine r_c ?_ | refine r_aCons ?_ | refine r_aNil ?_ | refine r_op ?_ | refine r_call ?_ | refine r_val ?_ | refine r_bl ?_ | refine r_if ?_ | refine r_ret ?_ | refine r_next ?_ | refine r_ifT (by first | decide | (with_unfolding_all rfl)) ?_ | refine r_ifF (by first | decide | (with_unfolding_all rfl)) ?_ | refine r_tup ?_ | refine r_lst ?_ | refine r_le (Nat.le_of_ble_eq_true (by with_unfolding_all rfl)) ?_ | refine r_cb ?_ | refine r_and ?_ | refine r_or ?_ | refine r_not ?_ | refine r_eIf ?_ | refine r_eAnd ?_ | refine r_eOr ?_ | refine r_eNot ?_ | refine r_isN ?_ | refine r_mt ?_ | refine r_tr ?_ | refine r_ss ?_ | refine r_dict0 ?_ | refine r_yes ?_ | refine r_isi ?_ | refine r_ty (by with_unfolding_all rfl) ?_ | refine r_ixT (by with_unfolding_all rfl) ?_ | refine r_ixE (by with_unfolding_all rfl) (by with_unfolding_all rfl) ?_ | refine r_ixL (by assumption) (by with_unfolding_all rfl) ?_ | refine r_addI ?_ | refine r_intF ?_ | refine r_intCF (by first | decide | exact cmul_r (by decide) | exact cmul_l (by decide)) ?_ | refine r_eqI ?_ | refine r_neI ?_ | refine r_eqS ?_ | refine r_neS ?_ | refine r_eqB ?_ | refine r_neB ?_ | refine r_int ?_ | refine r_drop ?_ | refine r_sub ?_ | refine r_gTp (by with_unfolding_all rfl) ?_ | refine r_gsCons ?_ | refine r_gsNil ?_ | refine r_for ?_ | refine r_lc ?_ | refine r_dc ?_ | refine r_iRg1 ?_ | refine r_inT (by with_unfolding_all rfl) (by with_unfolding_all rfl) ?_)
        refine r_ixL h11 (row_at (rnd w inner ρ0 15) (x0 true w.n) (by omega)) ?_
        (repeat with_reducible first | refine r_seq ?_ | refine r_asg ?_ | refine r_nm ?_ | refine r_var (by with_unfolding_all rfl) ?_ | refine r_c ?_ | refine r_aCons ?_ | refine r_aNil ?_ | refine r_op ?_ | refine r_call ?_ | refine r_val ?_ | refine r_bl ?_ | refine r_if ?_ | refine r_ret ?_ | refine r_next ?_ | refine r_ifT (by first | decide | (with_unfolding_all rfl)) ?_ | refine r_ifF (by first | decide | (with_unfolding_all rfl)) ?_ | refine r_tup ?_ | refine r_lst ?_ | refine r_le (Nat.le_of_ble_eq_true (by with_unfolding_all rfl)) ?_ | refine r_cb ?_ | refine r_and ?_ | refine r_or ?_ | refine r_not ?_ | refine r_eIf ?_ | refine r_eAnd ?_ | refine r_eOr ?_ | refine r_eNot ?_ | refine r_isN ?_ | refine r_mt ?_ | refine r_tr ?_ | refine r_ss ?_ | refine r_dict0 ?_ | refine r_yes ?_ | refine r_isi ?_ | refine r_ty (by with_unfolding_all rfl) ?_ | refine r_ixT (by with_unfolding_all rfl) ?_ | refine r_ixE (by with_unfolding_all rfl) (by with_unfolding_all rfl) ?_ | refine r_ixL (by assumption) (by with_unfolding_all rfl) ?_ | refine r_addI ?_ | refine r_intF ?_ | refine r_intCF (by first | decide | exact cmul_r (by decide) | exact cmul_l (by decide)) ?_ | refine r_eqI ?_ | refine r_neI ?_ | refine r_eqS ?_ | refine r_neS ?_ | refine r_eqB ?_ | refine r_neB ?_ | refine r_int ?_ | refine r_drop ?_ | refine r_sub ?_ | refine r_gTp (by with_unfolding_all rfl) ?_ | refine r_gsCons ?_ | refine r_gsNil ?_ | refine r_for ?_ | refine r_lc ?_ | refine r_dc ?_ | refine r_iRg1 ?_ | refine r_inT (by with_unfolding_all rfl) (by with_unfolding_all rfl) ?_)
        refine r_neP (a := it (rnd w inner ρ0 15) w.n (x0 true w.n)) (b := it (rnd w inner ρ0 15) w.n (x0 true w.n)) ?_
        (repeat with_reducible first | refine r_seq ?_ | refine r_asg ?_ | refine r_nm ?_ | refine r_var (by with_unfolding_all rfl) ?_ | refine r_c ?_ | refine r_aCons ?_ | refine r_aNil ?_ | refine r_op ?_ | refine r_call ?_ | refine r_val ?_ | refine r_bl ?_ | refine r_if ?_ | refine r_ret ?_ | refine r_next ?_ | refine r_ifT (by first | decide | (with_unfolding_all rfl)) ?_ | refine r_ifF (by first | decide | (with_unfolding_all rfl)) ?_ | refine r_tup ?_ | refine r_lst ?_ | refine r_le (Nat.le_of_ble_eq_true (by with_unfolding_all rfl)) ?_ | refine r_cb ?_ | refine r_and ?_ | refine r_or ?_ | refine r_not ?_ | refine r_eIf ?_ | refine r_eAnd ?_ | refine r_eOr ?_ | refine r_eNot ?_ | refine r_isN ?_ | refine r_mt ?_ | refine r_tr ?_ | refine r_ss ?_ | refine r_dict0 ?_ | refine r_yes ?_ | refine r_isi ?_ | refine r_ty (by with_unfolding_all rfl) ?_ | refine r_ixT (by with_unfolding_all rfl) ?_ | refine r_ixE (by with_unfolding_all rfl) (by with_unfolding_all rfl) ?_ | refine r_ixL (by assumption) (by with_unfolding_all rfl) ?_ | refine r_addI ?_ | refine r_intF ?_ | refine r_intCF (by first | decide | exact cmul_r (by decide) | exact cmul_l (by decide)) ?_ | refine r_eqI ?_ | refine r_neI ?_ | refine r_eqS ?_ | refine r_neS ?_ | refine r_eqB ?_ | refine r_neB ?_ | refine r_int ?_ | refine r_drop ?_ | refine r_sub ?_ | refine r_gTp (by with_unfolding_all rfl) ?_ | refine r_gsCons ?_ | refine r_gsNil ?_ | refine r_for ?_ | refine r_lc ?_ | refine r_dc ?_ | refine r_iRg1 ?_ | refine r_inT (by with_unfolding_all rfl) (by with_unfolding_all rfl) ?_)
        refine r_ifF (by simp) ?_
        (repeat with_reducible first | refine r_seq ?_ | refine r_asg ?_ | refine r_nm ?_ | refine r_var (by with_unfolding_all rfl) ?_ | refine r_c ?_ | refine r_aCons ?_ | refine r_aNil ?_ | refine r_op ?_ | refine r_call ?_ | refine r_val ?_ | refine r_bl ?_ | refine r_if ?_ | refine r_ret ?_ | refine r_next ?_ | refine r_ifT (by first | decide | (with_unfolding_all rfl)) ?_ | refine r_ifF (by first | decide | (with_unfolding_all rfl)) ?_ | refine r_tup ?_ | refine r_lst ?_ | refine r_le (Nat.le_of_ble_eq_true (by with_unfolding_all rfl)) ?_ | refine r_cb ?_ | refine r_and ?_ | refine r_or ?_ | refine r_not ?_ | refine r_eIf ?_ | refine r_eAnd ?_ | refine r_eOr ?_ | refine r_eNot ?_ | refine r_isN ?_ | refine r_mt ?_ | refine r_tr ?_ | refine r_ss ?_ | refine r_dict0 ?_ | refine r_yes ?_ | refine r_isi ?_ | refine r_ty (by with_unfolding_all rfl) ?_ | refine r_ixT (by with_unfolding_all rfl) ?_ | refine r_ixE (by with_unfolding_all rfl) (by with_unfolding_all rfl) ?_ | refine r_ixL (by assumption) (by with_unfolding_all rfl) ?_ | refine r_addI ?_ | refine r_intF ?_ | refine r_intCF (by first | decide | exact cmul_r (by decide) | exact cmul_l (by decide)) ?_ | refine r_eqI ?_ | refine r_neI ?_ | refine r_eqS ?_ | refine r_neS ?_ | refine r_eqB ?_ | refine r_neB ?_ | refine r_int ?_ | refine r_drop ?_ | refine r_sub ?_ | refine r_gTp (by with_unfolding_all rfl) ?_ | refine r_gsCons ?_ | refine r_gsNil ?_ | refine r_for ?_ | refine r_lc ?_ | refine r_dc ?_ | refine r_iRg1 ?_ | refine r_inT (by with_unfolding_all rfl) (by with_unfolding_all rfl) ?_)
        rw [show ((w.n : Nat) : Int) + 1 = ((w.n + 1 : Nat) : Int) by omega]
        refine r_ixL h11 (row_at (rnd w inner ρ0 15) (x0 true w.n) (by omega)) ?_
        (repeat with_reducible first | refine r_seq ?_ | refine r_asg ?_ | refine r_nm ?_ | refine r_var (by with_unfolding_all rfl) ?_ | refine r_c ?_ | refine r_aCons ?_ | refine r_aNil ?_ | refine r_op ?_ | refine r_call ?_ | refine r_val ?_ | refine r_bl ?_ | refine r_if ?_ | refine r_ret ?_ | refine r_next ?_ | refine r_ifT (by first | decide | (with_unfolding_all rfl)) ?_ | refine r_ifF (by first | decide | (with_unfolding_all rfl)) ?_ | refine r_tup ?_ | refine r_lst ?_ | refine r_le (Nat.le_of_ble_eq_true (by with_unfolding_all rfl)) ?_ | refine r_cb ?_ | refine r_and ?_ | refine r_or ?_ | refine r_not ?_ | refine r_eIf ?_ | refine r_eAnd ?_ | refine r_eOr ?_ | refine r_eNot ?_ | refine r_isN ?_ | refine r_mt ?_ | refine r_tr ?_ | refine r_ss ?_ | refine r_dict0 ?_ | refine r_yes ?_ | refine r_isi ?_ | refine r_ty (by with_unfolding_all rfl) ?_ | refine r_ixT (by with_unfolding_all rfl) ?_ | refine r_ixE (by with_unfolding_all rfl) (by with_unfolding_all rfl) ?_ | refine r_ixL (by assumption) (by with_unfolding_all rfl) ?_ | refine r_addI ?_ | refine r_intF ?_ | refine r_intCF (by first | decide | exact cmul_r (by decide) | exact cmul_l (by decide)) ?_ | refine r_eqI ?_ | refine r_neI ?_ | refine r_eqS ?_ | refine r_neS ?_ | refine r_eqB ?_ | refine r_neB ?_ | refine r_int ?_ | refine r_drop ?_ | refine r_sub ?_ | refine r_gTp (by with_unfolding_all rfl) ?_ | refine r_gsCons ?_ | refine r_gsNil ?_ | refine r_for ?_ | refine r_lc ?_ | refine r_dc ?_ | refine r_iRg1 ?_ | refine r_inT (by with_unfolding_all rfl) (by with_unfolding_all rfl) ?_)
        rw [rest]
        refine r_neP (a := it (rnd w inner ρ0 15) w.n (x0 true w.n)) (b := it (rnd w inner ρ0 15) w.n (x0 true w.n)) ?_
        (repeat with_reducible first | refine r_seq ?_ | refine r_asg ?_ | refine r_nm ?_ | refine r_var (by with_unfolding_all rfl) ?_ | refine r_c ?_ | refine r_aCons ?_ | refine r_aNil ?_ | refine r_op ?_ | refine r_call ?_ | refine r_val ?_ | refine r_bl ?_ | refine r_if ?_ | refine r_ret ?_ | refine r_next ?_ | refine r_ifT (by first | decide | (with_unfolding_all rfl)) ?_ | refine r_ifF (by first | decide | (with_unfolding_all rfl)) ?_ | refine r_tup ?_ | refine r_lst ?_ | refine r_le (Nat.le_of_ble_eq_true (by with_unfolding_all rfl)) ?_ | refine r_cb ?_ | refine r_and ?_ | refine r_or ?_ | refine r_not ?_ | refine r_eIf ?_ | refine r_eAnd ?_ | refine r_eOr ?_ | refine r_eNot ?_ | refine r_isN ?_ | refine r_mt ?_ | refine r_tr ?_ | refine r_ss ?_ | refine r_dict0 ?_ | refine r_yes ?_ | refine r_isi ?_ | refine r_ty (by with_unfolding_all rfl) ?_ | refine r_ixT (by with_unfolding_all rfl) ?_ | refine r_ixE (by with_unfolding_all rfl) (by with_unfolding_all rfl) ?_ | refine r_ixL (by assumption) (by with_unfolding_all rfl) ?_ | refine r_addI ?_ | refine r_intF ?_ | refine r_intCF (by first | decide | exact cmul_r (by decide) | exact cmul_l (by decide)) ?_ | refine r_eqI ?_ | refine r_neI ?_ | refine r_eqS ?_ | refine r_neS ?_ | refine r_eqB ?_ | refine r_neB ?_ | refine r_int ?_ | refine r_drop ?_ | refine r_sub ?_ | refine r_gTp (by with_unfolding_all rfl) ?_ | refine r_gsCons ?_ | refine r_gsNil ?_ | refine r_for ?_ | refine r_lc ?_ | refine r_dc ?_ | refine r_iRg1 ?_ | refine r_inT (by with_unfolding_all rfl) (by with_unfolding_all rfl) ?_)
        refine r_ifF (by simp) ?_
        (repeat with_reducible first | refine r_seq ?_ | refine r_asg ?_ | refine r_nm ?_ | refine r_var (by with_unfolding_all rfl) ?_ | refine r_c ?_ | refine r_aCons ?_ | refine r_aNil ?_ | refine r_op ?_ | refine r_call ?_ | refine r_val ?_ | refine r_bl ?_ | refine r_if ?_ | refine r_ret ?_ | refine r_next ?_ | refine r_ifT (by first | decide | (with_unfolding_all rfl)) ?_ | refine r_ifF (by first | decide | (with_unfolding_all rfl)) ?_ | refine r_tup ?_ | refine r_lst ?_ | refine r_le (Nat.le_of_ble_eq_true (by with_unfolding_all rfl)) ?_ | refine r_cb ?_ | refine r_and ?_ | refine r_or ?_ | refine r_not ?_ | refine r_eIf ?_ | refine r_eAnd ?_ | refine r_eOr ?_ | refine r_eNot ?_ | refine r_isN ?_ | refine r_mt ?_ | refine r_tr ?_ | refine r_ss ?_ | refine r_dict0 ?_ | refine r_yes ?_ | refine r_isi ?_ | refine r_ty (by with_unfolding_all rfl) ?_ | refine r_ixT (by with_unfolding_all rfl) ?_ | refine r_ixE (by with_unfolding_all rfl) (by with_unfolding_all rfl) ?_ | refine r_ixL (by assumption) (by with_unfolding_all rfl) ?_ | refine r_addI ?_ | refine r_intF ?_ | refine r_intCF (by first | decide | exact cmul_r (by decide) | exact cmul_l (by decide)) ?_ | refine r_eqI ?_ | refine r_neI ?_ | refine r_eqS ?_ | refine r_neS ?_ | refine r_eqB ?_ | refine r_neB ?_ | refine r_int ?_ | refine r_drop ?_ | refine r_sub ?_ | refine r_gTp (by with_unfolding_all rfl) ?_ | refine r_gsCons ?_ | refine r_gsNil ?_ | refine r_for ?_ | refine r_lc ?_ | refine r_dc ?_ | refine r_iRg1 ?_ | refine r_inT (by with_unfolding_all rfl) (by with_unfolding_all rfl) ?_)
        rw [show ((w.n : Nat) : Int) + 1 = ((w.n + 1 : Nat) : Int) by omega]
        refine r_rg (by omega) (by omega) fun few => ?_
        refine lc_filter (fun _ => false) id few (fun _ _ => trivial) ?_ ?_ ?_
        · intro x hx S12 P e12 hP
          obtain ⟨k, hk, rfl⟩ := mem_rng hx
          rw [Int.toNat_natCast] at hk
          have h12 := e12 _ _ h11
          (repeat with_reducible first | refine r_seq ?_ | refine r_asg ?_ | refine r_nm ?_ | refine r_var (by with_unfolding_all rfl) ?_ | refine r_c ?_ | refine r_aCons ?_ | refine r_aNil ?_ | refine r_op ?_ | refine r_call ?_ | refine r_val ?_ | refine r_bl ?_ | refine r_if ?_ | refine r_ret ?_ | refine r_next ?_ | refine r_ifT (by first | decide | (with_unfolding_all rfl)) ?_ | refine r_ifF (by first | decide | (with_unfolding_all rfl)) ?_ | refine r_tup ?_ | refine r_lst ?_ | refine r_le (Nat.le_of_ble_eq_true (by with_unfolding_all rfl)) ?_ | refine r_cb ?_ | refine r_and ?_ | refine r_or ?_ | refine r_not ?_ | refine r_eIf ?_ | refine r_eAnd ?_ | refine r_eOr ?_ | refine r_eNot ?_ | refine r_isN ?_ | refine r_mt ?_ | refine r_tr ?_ | refine r_ss ?_ | refine r_dict0 ?_ | refine r_yes ?_ | refine r_isi ?_ | refine r_ty (by with_unfolding_all rfl) ?_ | refine r_ixT (by with_unfolding_all rfl) ?_ | refine r_ixE (by with_unfolding_all rfl) (by with_unfolding_all rfl) ?_ | refine r_ixL (by assumption) (by with_unfolding_all rfl) ?_ | refine r_addI ?_ | refine r_intF ?_ | refine r_intCF (by first | decide | exact cmul_r (by decide) | exact cmul_l (by decide)) ?_ | refine r_eqI ?_ | refine r_neI ?_ | refine r_eqS ?_ | refine r_neS ?_ | refine r_eqB ?_ | refine r_neB ?_ | refine r_int ?_ | refine r_drop ?_ | refine r_sub ?_ | refine r_gTp (by with_unfolding_all rfl) ?_ | refine r_gsCons ?_ | refine r_gsNil ?_ | refine r_for ?_ | refine r_lc ?_ | refine r_dc ?_ | refine r_iRg1 ?_ | refine r_inT (by with_unfolding_all rfl) (by with_unfolding_all rfl) ?_)
          rw [show ((k : Nat) : Int) + 1 = ((k + 1 : Nat) : Int) by omega]
          refine r_ixL h12 (row_at (rnd w inner ρ0 15) (x0 true w.n) (by omega)) ?_
          (repeat with_reducible first | refine r_seq ?_ | refine r_asg ?_ | refine r_nm ?_ | refine r_var (by with_unfolding_all rfl) ?_ | refine r_c ?_ | refine r_aCons ?_ | refine r_aNil ?_ | refine r_op ?_ | refine r_call ?_ | refine r_val ?_ | refine r_bl ?_ | refine r_if ?_ | refine r_ret ?_ | refine r_next ?_ | refine r_ifT (by first | decide | (with_unfolding_all rfl)) ?_ | refine r_ifF (by first | decide | (with_unfolding_all rfl)) ?_ | refine r_tup ?_ | refine r_lst ?_ | refine r_le (Nat.le_of_ble_eq_true (by with_unfolding_all rfl)) ?_ | refine r_cb ?_ | refine r_and ?_ | refine r_or ?_ | refine r_not ?_ | refine r_eIf ?_ | refine r_eAnd ?_ | refine r_eOr ?_ | refine r_eNot ?_ | refine r_isN ?_ | refine r_mt ?_ | refine r_tr ?_ | refine r_ss ?_ | refine r_dict0 ?_ | refine r_yes ?_ | refine r_isi ?_ | refine r_ty (by with_unfolding_all rfl) ?_ | refine r_ixT (by with_unfolding_all rfl) ?_ | refine r_ixE (by with_unfolding_all rfl) (by with_unfolding_all rfl) ?_ | refine r_ixL (by assumption) (by with_unfolding_all rfl) ?_ | refine r_addI ?_ | refine r_intF ?_ | refine r_intCF (by first | decide | exact cmul_r (by decide) | exact cmul_l (by decide)) ?_ | refine r_eqI ?_ | refine r_neI ?_ | refine r_eqS ?_ | refine r_neS ?_ | refine r_eqB ?_ | refine r_neB ?_ | refine r_int ?_ | refine r_drop ?_ | refine r_sub ?_ | refine r_gTp (by with_unfolding_all rfl) ?_ | refine r_gsCons ?_ | refine r_gsNil ?_ | refine r_for ?_ | refine r_lc ?_ | refine r_dc ?_ | refine r_iRg1 ?_ | refine r_inT (by with_unfolding_all rfl) (by with_unfolding_all rfl) ?_)
          refine disp_spec (x := 15) (X := it (rnd w inner ρ0 15) k (x0 true w.n)) (fun S P h => h) (fun S P e h => ?_) fun S13 e13 h13 => ?_
          · (repeat with_reducible first | refine r_seq ?_ | refine r_asg ?_ | refine r_nm ?_ | refine r_var (by with_unfolding_all rfl) ?_ | refine r_c ?_ | refine r_aCons ?_ | refine r_aNil ?_ | refine r_op ?_ | refine r_call ?_ | refine r_val ?_ | refine r_bl ?_ | refine r_if ?_ | refine r_ret ?_ | refine r_next ?_ | refine r_ifT (by first | decide | (with_unfolding_all rfl)) ?_ | refine r_ifF (by first | decide | (with_unfolding_all rfl)) ?_ | refine r_tup ?_ | refine r_lst ?_ | refine r_le (Nat.le_of_ble_eq_true (by with_unfolding_all rfl)) ?_ | refine r_cb ?_ | refine r_and ?_ | refine r_or ?_ | refine r_not ?_ | refine r_eIf ?_ | refine r_eAnd ?_ | refine r_eOr ?_ | refine r_eNot ?_ | refine r_isN ?_ | refine r_mt ?_ | refine r_tr ?_ | refine r_ss ?_ | refine r_dict0 ?_ | refine r_yes ?_ | refine r_isi ?_ | refine r_ty (by with_unfolding_all rfl) ?_ | refine r_ixT (by with_unfolding_all rfl) ?_ | refine r_ixE (by with_unfolding_all rfl) (by with_unfolding_all rfl) ?_ | refine r_ixL (by assumption) (by with_unfolding_all rfl) ?_ | refine r_addI ?_ | refine r_intF ?_ | refine r_intCF (by first | decide | exact cmul_r (by decide) | exact cmul_l (by decide)) ?_ | refine r_eqI ?_ | refine r_neI ?_ | refine r_eqS ?_ | refine r_neS ?_ | refine r_eqB ?_ | refine r_neB ?_ | refine r_int ?_ | refine r_drop ?_ | refine r_sub ?_ | refine r_gTp (by with_unfolding_all rfl) ?_ | refine r_gsCons ?_ | refine r_gsNil ?_ | refine r_for ?_ | refine r_lc ?_ | refine r_dc ?_ | refine r_iRg1 ?_ | refine r_inT (by with_unfolding_all rfl) (by with_unfolding_all rfl) ?_)
            exact r_ixL (e _ _ h12) (row_at (rnd w inner ρ0 15) (x0 true w.n) (by omega)) h
          (repeat with_reducible first | refine r_seq ?_ | refine r_asg ?_ | refine r_nm ?_ | refine r_var (by with_unfolding_all rfl) ?_ | refine r_c ?_ | refine r_aCons ?_ | refine r_aNil ?_ | refine r_op ?_ | refine r_call ?_ | refine r_val ?_ | refine r_bl ?_ | refine r_if ?_ | refine r_ret ?_ | refine r_next ?_ | refine r_ifT (by first | decide | (with_unfolding_all rfl)) ?_ | refine r_ifF (by first | decide | (with_unfolding_all rfl)) ?_ | refine r_tup ?_ | refine r_lst ?_ | refine r_le (Nat.le_of_ble_eq_true (by with_unfolding_all rfl)) ?_ | refine r_cb ?_ | refine r_and ?_ | refine r_or ?_ | refine r_not ?_ | refine r_eIf ?_ | refine r_eAnd ?_ | refine r_eOr ?_ | refine r_eNot ?_ | refine r_isN ?_ | refine r_mt ?_ | refine r_tr ?_ | refine r_ss ?_ | refine r_dict0 ?_ | refine r_yes ?_ | refine r_isi ?_ | refine r_ty (by with_unfolding_all rfl) ?_ | refine r_ixT (by with_unfolding_all rfl) ?_ | refine r_ixE (by with_unfolding_all rfl) (by with_unfolding_all rfl) ?_ | refine r_ixL (by assumption) (by with_unfolding_all rfl) ?_ | refine r_addI ?_ | refine r_intF ?_ | refine r_intCF (by first | decide | exact cmul_r (by decide) | exact cmul_l (by decide)) ?_ | refine r_eqI ?_ | refine r_neI ?_ | refine r_eqS ?_ | refine r_neS ?_ | refine r_eqB ?_ | refine r_neB ?_ | refine r_int ?_ | refine r_drop ?_ | refine r_sub ?_ | refine r_gTp (by with_unfolding_all rfl) ?_ | refine r_gsCons ?_ | refine r_gsNil ?_ | refine r_for ?_ | refine r_lc ?_ | refine r_dc ?_ | refine r_iRg1 ?_ | refine r_inT (by with_unfolding_all rfl) (by with_unfolding_all rfl) ?_)
          refine worth1_spec hw hn (it_ok ho (x0_ok _ _) k) (by omega) sc h13 fun S14 e14 => ?_
          refine r_neP (a := it (rnd w inner ρ0 15) (k + 1) (x0 true w.n)) (b := it (rnd w inner ρ0 15) (k + 1) (x0 true w.n)) ?_
          (repeat with_reducible first | refine r_seq ?_ | refine r_asg ?_ | refine r_nm ?_ | refine r_var (by with_unfolding_all rfl) ?_ | refine r_c ?_ | refine r_aCons ?_ | refine r_aNil ?_ | refine r_op ?_ | refine r_call ?_ | refine r_val ?_ | refine r_bl ?_ | refine r_if ?_ | refine r_ret ?_ | refine r_next ?_ | refine r_ifT (by first | decide | (with_unfolding_all rfl)) ?_ | refine r_ifF (by first | decide | (with_unfolding_all rfl)) ?_ | refine r_tup ?_ | refine r_lst ?_ | refine r_le (Nat.le_of_ble_eq_true (by with_unfolding_all rfl)) ?_ | refine r_cb ?_ | refine r_and ?_ | refine r_or ?_ | refine r_not ?_ | refine r_eIf ?_ | refine r_eAnd ?_ | refine r_eOr ?_ | refine r_eNot ?_ | refine r_isN ?_ | refine r_mt ?_ | refine r_tr ?_ | refine r_ss ?_ | refine r_dict0 ?_ | refine r_yes ?_ | refine r_isi ?_ | refine r_ty (by with_unfolding_all rfl) ?_ | refine r_ixT (by with_unfolding_all rfl) ?_ | refine r_ixE (by with_unfolding_all rfl) (by with_unfolding_all rfl) ?_ | refine r_ixL (by assumption) (by with_unfolding_all rfl) ?_ | refine r_addI ?_ | refine r_intF ?_ | refine r_intCF (by first | decide | exact cmul_r (by decide) | exact cmul_l (by decide)) ?_ | refine r_eqI ?_ | refine r_neI ?_ | refine r_eqS ?_ | refine r_neS ?_ | refine r_eqB ?_ | refine r_neB ?_ | refine r_int ?_ | refine r_drop ?_ | refine r_sub ?_ | refine r_gTp (by with_unfolding_all rfl) ?_ | refine r_gsCons ?_ | refine r_gsNil ?_ | refine r_for ?_ | refine r_lc ?_ | refine r_dc ?_ | refine r_iRg1 ?_ | refine r_inT (by with_unfolding_all rfl) (by with_unfolding_all rfl) ?_)
          have := hP S14 (e13.trans e14)
          simpa using this
        · intro x hx S12 P e12 hP
          exact r_var rfl (hP S12 (.refl _))
        · intro S12 e12 h12
          (repeat with_reducible first | refine r_seq ?_ | refine r_asg ?_ | refine r_nm ?_ | refine r_var (by with_unfolding_all rfl) ?_ | refine r_c ?_ | refine r_aCons ?_ | refine r_aNil ?_ | refine r_op ?_ | refine r_call ?_ | refine r_val ?_ | refine r_bl ?_ | refine r_if ?_ | refine r_ret ?_ | refine r_next ?_ | refine r_ifT (by first | decide | (with_unfolding_all rfl)) ?_ | refine r_ifF (by first | decide | (with_unfolding_all rfl)) ?_ | refine r_tup ?_ | refine r_lst ?_ | refine r_le (Nat.le_of_ble_eq_true (by with_unfolding_all rfl)) ?_ | refine r_cb ?_ | refine r_and ?_ | refine r_or ?_ | refine r_not ?_ | refine r_eIf ?_ | refine r_eAnd ?_ | refine r_eOr ?_ | refine r_eNot ?_ | refine r_isN ?_ | refine r_mt ?_ | refine r_tr ?_ | refine r_ss ?_ | refine r_dict0 ?_ | refine r_yes ?_ | refine r_isi ?_ | refine r_ty (by with_unfolding_all rfl) ?_ | refine r_ixT (by with_unfolding_all rfl) ?_ | refine r_ixE (by with_unfolding_all rfl) (by with_unfolding_all rfl) ?_ | refine r_ixL (by assumption) (by with_unfolding_all rfl) ?_ | refine r_addI ?_ | refine r_intF ?_ | refine r_intCF (by first | decide | exact cmul_r (by decide) | exact cmul_l (by decide)) ?_ | refine r_eqI ?_ | refine r_neI ?_ | refine r_eqS ?_ | refine r_neS ?_ | refine r_eqB ?_ | refine r_neB ?_ | refine r_int ?_ | refine r_drop ?_ | refine r_sub ?_ | refine r_gTp (by with_unfolding_all rfl) ?_ | refine r_gsCons ?_ | refine r_gsNil ?_ | refine r_for ?_ | refine r_lc ?_ | refine r_dc ?_ | refine r_iRg1 ?_ | refine r_inT (by with_unfolding_all rfl) (by with_unfolding_all rfl) ?_)
          refine r_len (by show seqC S12[_]? = _; rw [h12]; rfl) ?_
          (repeat with_reducible first | refine r_seq ?_ | refine r_asg ?_ | refine r_nm ?_ | refine r_var (by with_unfolding_all rfl) ?_ | refine r_c ?_ | refine r_aCons ?_ | refine r_aNil ?_ | refine r_op ?_ | refine r_call ?_ | refine r_val ?_ | refine r_bl ?_ | refine r_if ?_ | refine r_ret ?_ | refine r_next ?_ | refine r_ifT (by first | decide | (with_unfolding_all rfl)) ?_ | refine r_ifF (by first | decide | (with_unfolding_all rfl)) ?_ | refine r_tup ?_ | refine r_lst ?_ | refine r_le (Nat.le_of_ble_eq_true (by with_unfolding_all rfl)) ?_ | refine r_cb ?_ | refine r_and ?_ | refine r_or ?_ | refine r_not ?_ | refine r_eIf ?_ | refine r_eAnd ?_ | refine r_eOr ?_ | refine r_eNot ?_ | refine r_isN ?_ | refine r_mt ?_ | refine r_tr ?_ | refine r_ss ?_ | refine r_dict0 ?_ | refine r_yes ?_ | refine r_isi ?_ | refine r_ty (by with_unfolding_all rfl) ?_ | refine r_ixT (by with_unfolding_all rfl) ?_ | refine r_ixE (by with_unfolding_all rfl) (by with_unfolding_all rfl) ?_ | refine r_ixL (by assumption) (by with_unfolding_all rfl) ?_ | refine r_addI ?_ | refine r_intF ?_ | refine r_intCF (by first | decide | exact cmul_r (by decide) | exact cmul_l (by decide)) ?_ | refine r_eqI ?_ | refine r_neI ?_ | refine r_eqS ?_ | refine r_neS ?_ | refine r_eqB ?_ | refine r_neB ?_ | refine r_int ?_ | refine r_drop ?_ | refine r_sub ?_ | refine r_gTp (by with_unfolding_all rfl) ?_ | refine r_gsCons ?_ | refine r_gsNil ?_ | refine r_for ?_ | refine r_lc ?_ | refine r_dc ?_ | refine r_iRg1 ?_ | refine r_inT (by with_unfolding_all rfl) (by with_unfolding_all rfl) ?_)
          simp
    | false =>
      (repeat with_reducible first | refine r_seq ?_ | refine r_asg ?_ | refine r_nm ?_ | refine r_var (by with_unfolding_all rfl) ?_ | refine r_c ?_ | refine r_aCons ?_ | refine r_aNil ?_ | refine r_op ?_ | refine r_call ?_ | refine r_val ?_ | refine r_bl ?_ | refine r_if ?_ | refine r_ret ?_ | refine r_next ?_ | refine r_ifT (by first | decide | (with_unfolding_all rfl)) ?_ | refine r_ifF (by first | decide | (with_unfolding_all rfl)) ?_ | refine r_tup ?_ | refine r_lst ?_ | refine r_le (Nat.le_of_ble_eq_true (by with_unfolding_all rfl)) ?_ | refine r_cb ?_ | refine r_and ?_ | refine r_or ?_ | refine r_not ?_ | refine r_eIf ?_ | refine r_eAnd ?_ | refine r_eOr ?_ | refine r_eNot ?_ | refine r_isN ?_ | refine r_mt ?_ | refine r_tr ?_ | refine r_ss ?_ | refine r_dict0 ?_ | refine r_yes ?_ | refine r_isi ?_ | refine r_ty (by with_unfolding_all rfl) ?_ | refine r_ixT (by with_unfolding_all rfl) ?_ | refine r_ixE (by with_unfolding_all rfl) (by with_unfolding_all rfl) ?_ | refine r_ixL (by assumption) (by with_unfolding_all rfl) ?_ | refine r_addI ?_ | refine r_intF ?_ | refine r_intCF (by first | decide | exact cmul_r (by decide) | exact cmul_l (by decide)) ?_ | refine r_eqI ?_ | refine r_neI ?_ | refine r_eqS ?_ | refine r_neS ?_ | refine r_eqB ?_ | refine r_neB ?_ | refine r_int ?_ | refine r_drop ?_ | refine r_sub ?_ | refine r_gTp (by with_unfolding_all rfl) ?_ | refine r_gsCons ?_ | refine r_gsNil ?_ | refine r_for ?_ | refine r_lc ?_ | refine r_dc ?_ | refine r_iRg1 ?_ | refine r_inT (by with_unfolding_all rfl) (by with_unfolding_all rfl) ?_)
      have key := fun Q => saying_spec 8 2 p q S3.length L0 L1 [15] [15] [.int 0] (S3 ++ [.lst [.int 0]]) Q (by decide) (P3.ext (Ext.app _ _)) a1 (by omega) a3 (by omega) (Nat.ne_of_gt P3.lt) (Nat.ne_of_gt P3.lt2) (new_at _ _) (by decide) (by decide) (by decide)
      rw [show encP [15] = .tup [.int 15] from rfl, show D.int ((2 : Nat) : Int) = .int 2 from rfl] at key
      refine key _ fun S4 inner ys' f1 f2 f3 f4 f5 P4 _ e4 => ?_
      (repeat with_reducible first | refine r_seq ?_ | refine r_asg ?_ | refine r_nm ?_ | refine r_var (by with_unfolding_all rfl) ?_ | refine r_c ?_ | refine r_aCons ?_ | refine r_aNil ?_ | refine r_op ?_ | refine r_call ?_ | refine r_val ?_ | refine r_bl ?_ | refine r_if ?_ | refine r_ret ?_ | refine r_next ?_ | refine r_ifT (by first | decide | (with_unfolding_all rfl)) ?_ | refine r_ifF (by first | decide | (with_unfolding_all rfl)) ?_ | refine r_tup ?_ | refine r_lst ?_ | refine r_le (Nat.le_of_ble_eq_true (by with_unfolding_all rfl)) ?_ | refine r_cb ?_ | refine r_and ?_ | refine r_or ?_ | refine r_not ?_ | refine r_eIf ?_ | refine r_eAnd ?_ | refine r_eOr ?_ | refine r_eNot ?_ | refine r_isN ?_ | refine r_mt ?_ | refine r_tr ?_ | refine r_ss ?_ | refine r_dict0 ?_ | refine r_yes ?_ | refine r_isi ?_ | refine r_ty (by with_unfolding_all rfl) ?_ | refine r_ixT (by with_unfolding_all rfl) ?_ | refine r_ixE (by with_unfolding_all rfl) (by with_unfolding_all rfl) ?_ | refine r_ixL (by assumption) (by with_unfolding_all rfl) ?_ | refine r_addI ?_ | refine r_intF ?_ | refine r_intCF (by first | decide | exact cmul_r (by decide) | exact cmul_l (by decide)) ?_ | refine r_eqI ?_ | refine r_neI ?_ | refine r_eqS ?_ | refine r_neS ?_ | refine r_eqB ?_ | refine r_neB ?_ | refine r_int ?_ | refine r_drop ?_ | refine r_sub ?_ | refine r_gTp (by with_unfolding_all rfl) ?_ | refine r_gsCons ?_ | refine r_gsNil ?_ | refine r_for ?_ | refine r_lc ?_ | refine r_dc ?_ | refine r_iRg1 ?_ | refine r_inT (by with_unfolding_all rfl) (by with_unfolding_all rfl) ?_)
      refine world_spec P4 (by omega) (by omega) (by decide) (by decide) (most := 4) fun S5 w hw hw4 P5 e5 => ?_
      have sc : Sc L0 L1 [15] inner := f1.sc inner [15] [15] [15] (fun _ h => h) (fun _ h => h)
      have hn : w.n ≤ 1000 := by omega
      have hp1 := hw.pos
      have hm : ∀ X Y, Sub X Y → Sub (rnd w inner ρ0 15 X) (rnd w inner ρ0 15 Y) := fun X Y h => rnd_mono w inner ρ0 15 h
      have ho : ∀ X, OkSub w.n X → OkSub w.n (rnd w inner ρ0 15 X) := fun X h => rnd_ok (ρ0_ok _) 15 h
      (repeat with_reducible first | refine r_seq ?_ | refine r_asg ?_ | refine r_nm ?_ | refine r_var (by with_unfolding_all rfl) ?_ | refine r_c ?_ | refine r_aCons ?_ | refine r_aNil ?_ | refine r_op ?_ | refine r_call ?_ | refine r_val ?_ | refine r_bl ?_ | refine r_if ?_ | refine r_ret ?_ | refine r_next ?_ | refine r_ifT (by first | decide | (with_unfolding_all rfl)) ?_ | refine r_ifF (by first | decide | (with_unfolding_all rfl)) ?_ | refine r_tup ?_ | refine r_lst ?_ | refine r_le (Nat.le_of_ble_eq_true (by with_unfolding_all rfl)) ?_ | refine r_cb ?_ | refine r_and ?_ | refine r_or ?_ | refine r_not ?_ | refine r_eIf ?_ | refine r_eAnd ?_ | refine r_eOr ?_ | refine r_eNot ?_ | refine r_isN ?_ | refine r_mt ?_ | refine r_tr ?_ | refine r_ss ?_ | refine r_dict0 ?_ | refine r_yes ?_ | refine r_isi ?_ | refine r_ty (by with_unfolding_all rfl) ?_ | refine r_ixT (by with_unfolding_all rfl) ?_ | refine r_ixE (by with_unfolding_all rfl) (by with_unfolding_all rfl) ?_ | refine r_ixL (by assumption) (by with_unfolding_all rfl) ?_ | refine r_addI ?_ | refine r_intF ?_ | refine r_intCF (by first | decide | exact cmul_r (by decide) | exact cmul_l (by decide)) ?_ | refine r_eqI ?_ | refine r_neI ?_ | refine r_eqS ?_ | refine r_neS ?_ | refine r_eqB ?_ | refine r_neB ?_ | refine r_int ?_ | refine r_drop ?_ | refine r_sub ?_ | refine r_gTp (by with_unfolding_all rfl) ?_ | refine r_gsCons ?_ | refine r_gsNil ?_ | refine r_for ?_ | refine r_lc ?_ | refine r_dc ?_ | refine r_iRg1 ?_ | refine r_inT (by with_unfolding_all rfl) (by with_unfolding_all rfl) ?_)
      refine where_spec hw hn (f := .greatest 15 inner) (by show inner.dp + 1 ≤ 12; omega) sc fun S6 e6 => ?_
      have P6 := P5.ext e6
      rw [show sem w (.greatest 15 inner) ρ0 = it (rnd w inner ρ0 15) w.n (x0 false w.n) from rfl]
      have how : OkSub w.n (it (rnd w inner ρ0 15) w.n (x0 false w.n)) := it_ok ho (x0_ok _ _) _
      have rest : it (rnd w inner ρ0 15) (w.n + 1) (x0 false w.n) = it (rnd w inner ρ0 15) w.n (x0 false w.n) := down_rest hm ho
      have fix : rnd w inner ρ0 15 (it (rnd w inner ρ0 15) w.n (x0 false w.n)) = it (rnd w inner ρ0 15) w.n (x0 false w.n) := rest
      (repeat with_reducible first | refine r_seq ?_ | refine r_asg ?_ | refine r_nm ?_ | refine r_var (by with_unfolding_all rfl) ?_ | refine r_c ?_ | refine r_aCons ?_ | refine r_aNil ?_ | refine r_op ?_ | refine r_call ?_ | refine r_val ?_ | refine r_bl ?_ | refine r_if ?_ | refine r_ret ?_ | refine r_next ?_ | refine r_ifT (by first | decide | (with_unfolding_all rfl)) ?_ | refine r_ifF (by first | decide | (with_unfolding_all rfl)) ?_ | refine r_tup ?_ | refine r_lst ?_ | refine r_le (Nat.le_of_ble_eq_true (by with_unfolding_all rfl)) ?_ | refine r_cb ?_ | refine r_and ?_ | refine r_or ?_ | refine r_not ?_ | refine r_eIf ?_ | refine r_eAnd ?_ | refine r_eOr ?_ | refine r_eNot ?_ | refine r_isN ?_ | refine r_mt ?_ | refine r_tr ?_ | refine r_ss ?_ | refine r_dict0 ?_ | refine r_yes ?_ | refine r_isi ?_ | refine r_ty (by with_unfolding_all rfl) ?_ | refine r_ixT (by with_unfolding_all rfl) ?_ | refine r_ixE (by with_unfolding_all rfl) (by with_unfolding_all rfl) ?_ | refine r_ixL (by assumption) (by with_unfolding_all rfl) ?_ | refine r_addI ?_ | refine r_intF ?_ | refine r_intCF (by first | decide | exact cmul_r (by decide) | exact cmul_l (by decide)) ?_ | refine r_eqI ?_ | refine r_neI ?_ | refine r_eqS ?_ | refine r_neS ?_ | refine r_eqB ?_ | refine r_neB ?_ | refine r_int ?_ | refine r_drop ?_ | refine r_sub ?_ | refine r_gTp (by with_unfolding_all rfl) ?_ | refine r_gsCons ?_ | refine r_gsNil ?_ | refine r_for ?_ | refine r_lc ?_ | refine r_dc ?_ | refine r_iRg1 ?_ | refine r_inT (by with_unfolding_all rfl) (by with_unfolding_all rfl) ?_)
      refine disp_spec (x := 15) (X := it (rnd w inner ρ0 15) w.n (x0 false w.n)) (fun S P h => h) (fun S P _ h => r_var rfl h) fun S7 e7 h7 => ?_
      (repeat with_reducible first | refine r_seq ?_ | refine r_asg ?_ | refine r_nm ?_ | refine r_var (by with_unfolding_all rfl) ?_ | refine r_c ?_ | refine r_aCons ?_ | refine r_aNil ?_ | refine r_op ?_ | refine r_call ?_ | refine r_val ?_ | refine r_bl ?_ | refine r_if ?_ | refine r_ret ?_ | refine r_next ?_ | refine r_ifT (by first | decide | (with_unfolding_all rfl)) ?_ | refine r_ifF (by first | decide | (with_unfolding_all rfl)) ?_ | refine r_tup ?_ | refine r_lst ?_ | refine r_le (Nat.le_of_ble_eq_true (by with_unfolding_all rfl)) ?_ | refine r_cb ?_ | refine r_and ?_ | refine r_or ?_ | refine r_not ?_ | refine r_eIf ?_ | refine r_eAnd ?_ | refine r_eOr ?_ | refine r_eNot ?_ | refine r_isN ?_ | refine r_mt ?_ | refine r_tr ?_ | refine r_ss ?_ | refine r_dict0 ?_ | refine r_yes ?_ | refine r_isi ?_ | refine r_ty (by with_unfolding_all rfl) ?_ | refine r_ixT (by with_unfolding_all rfl) ?_ | refine r_ixE (by with_unfolding_all rfl) (by with_unfolding_all rfl) ?_ | refine r_ixL (by assumption) (by with_unfolding_all rfl) ?_ | refine r_addI ?_ | refine r_intF ?_ | refine r_intCF (by first | decide | exact cmul_r (by decide) | exact cmul_l (by decide)) ?_ | refine r_eqI ?_ | refine r_neI ?_ | refine r_eqS ?_ | refine r_neS ?_ | refine r_eqB ?_ | refine r_neB ?_ | refine r_int ?_ | refine r_drop ?_ | refine r_sub ?_ | refine r_gTp (by with_unfolding_all rfl) ?_ | refine r_gsCons ?_ | refine r_gsNil ?_ | refine r_for ?_ | refine r_lc ?_ | refine r_dc ?_ | refine r_iRg1 ?_ | refine r_inT (by with_unfolding_all rfl) (by with_unfolding_all rfl) ?_)
      refine worth1_spec hw hn how (by omega) sc h7 fun S8 e8 => ?_
      (repeat with_reducible first | refine r_seq ?_ | refine r_asg ?_ | refine r_nm ?_ | refine r_var (by with_unfolding_all rfl) ?_ | refine r_c ?_ | refine r_aCons ?_ | refine r_aNil ?_ | refine r_op ?_ | refine r_call ?_ | refine r_val ?_ | refine r_bl ?_ | refine r_if ?_ | refine r_ret ?_ | refine r_next ?_ | refine r_ifT (by first | decide | (with_unfolding_all rfl)) ?_ | refine r_ifF (by first | decide | (with_unfolding_all rfl)) ?_ | refine r_tup ?_ | refine r_lst ?_ | refine r_le (Nat.le_of_ble_eq_true (by with_unfolding_all rfl)) ?_ | refine r_cb ?_ | refine r_and ?_ | refine r_or ?_ | refine r_not ?_ | refine r_eIf ?_ | refine r_eAnd ?_ | refine r_eOr ?_ | refine r_eNot ?_ | refine r_isN ?_ | refine r_mt ?_ | refine r_tr ?_ | refine r_ss ?_ | refine r_dict0 ?_ | refine r_yes ?_ | refine r_isi ?_ | refine r_ty (by with_unfolding_all rfl) ?_ | refine r_ixT (by with_unfolding_all rfl) ?_ | refine r_ixE (by with_unfolding_all rfl) (by with_unfolding_all rfl) ?_ | refine r_ixL (by assumption) (by with_unfolding_all rfl) ?_ | refine r_addI ?_ | refine r_intF ?_ | refine r_intCF (by first | decide | exact cmul_r (by decide) | exact cmul_l (by decide)) ?_ | refine r_eqI ?_ | refine r_neI ?_ | refine r_eqS ?_ | refine r_neS ?_ | refine r_eqB ?_ | refine r_neB ?_ | refine r_int ?_ | refine r_drop ?_ | refine r_sub ?_ | refine r_gTp (by with_unfolding_all rfl) ?_ | refine r_gsCons ?_ | refine r_gsNil ?_ | refine r_for ?_ | refine r_lc ?_ | refine r_dc ?_ | refine r_iRg1 ?_ | refine r_inT (by with_unfolding_all rfl) (by with_unfolding_all rfl) ?_)
      rw [fix]
      refine same_spec 4 _ _ _ _ (pl_nats 2 (by have := how.le; omega)) (pl_nats 2 (by have := how.le; omega)) fun S9 e9 => ?_
      (repeat with_reducible first | refine r_seq ?_ | refine r_asg ?_ | refine r_nm ?_ | refine r_var (by with_unfolding_all rfl) ?_ | refine r_c ?_ | refine r_aCons ?_ | refine r_aNil ?_ | refine r_op ?_ | refine r_call ?_ | refine r_val ?_ | refine r_bl ?_ | refine r_if ?_ | refine r_ret ?_ | refine r_next ?_ | refine r_ifT (by first | decide | (with_unfolding_all rfl)) ?_ | refine r_ifF (by first | decide | (with_unfolding_all rfl)) ?_ | refine r_tup ?_ | refine r_lst ?_ | refine r_le (Nat.le_of_ble_eq_true (by with_unfolding_all rfl)) ?_ | refine r_cb ?_ | refine r_and ?_ | refine r_or ?_ | refine r_not ?_ | refine r_eIf ?_ | refine r_eAnd ?_ | refine r_eOr ?_ | refine r_eNot ?_ | refine r_isN ?_ | refine r_mt ?_ | refine r_tr ?_ | refine r_ss ?_ | refine r_dict0 ?_ | refine r_yes ?_ | refine r_isi ?_ | refine r_ty (by with_unfolding_all rfl) ?_ | refine r_ixT (by with_unfolding_all rfl) ?_ | refine r_ixE (by with_unfolding_all rfl) (by with_unfolding_all rfl) ?_ | refine r_ixL (by assumption) (by with_unfolding_all rfl) ?_ | refine r_addI ?_ | refine r_intF ?_ | refine r_intCF (by first | decide | exact cmul_r (by decide) | exact cmul_l (by decide)) ?_ | refine r_eqI ?_ | refine r_neI ?_ | refine r_eqS ?_ | refine r_neS ?_ | refine r_eqB ?_ | refine r_neB ?_ | refine r_int ?_ | refine r_drop ?_ | refine r_sub ?_ | refine r_gTp (by with_unfolding_all rfl) ?_ | refine r_gsCons ?_ | refine r_gsNil ?_ | refine r_for ?_ | refine r_lc ?_ | refine r_dc ?_ | refine r_iRg1 ?_ | refine r_inT (by with_unfolding_all rfl) (by with_unfolding_all rfl) ?_)
      refine r_ifF (by simp) ?_
      (repeat with_reducible first | refine r_seq ?_ | refine r_asg ?_ | refine r_nm ?_ | refine r_var (by with_unfolding_all rfl) ?_ | refine r_c ?_ | refine r_aCons ?_ | refine r_aNil ?_ | refine r_op ?_ | refine r_call ?_ | refine r_val ?_ | refine r_bl ?_ | refine r_if ?_ | refine r_ret ?_ | refine r_next ?_ | refine r_ifT (by first | decide | (with_unfolding_all rfl)) ?_ | refine r_ifF (by first | decide | (with_unfolding_all rfl)) ?_ | refine r_tup ?_ | refine r_lst ?_ | refine r_le (Nat.le_of_ble_eq_true (by with_unfolding_all rfl)) ?_ | refine r_cb ?_ | refine r_and ?_ | refine r_or ?_ | refine r_not ?_ | refine r_eIf ?_ | refine r_eAnd ?_ | refine r_eOr ?_ | refine r_eNot ?_ | refine r_isN ?_ | refine r_mt ?_ | refine r_tr ?_ | refine r_ss ?_ | refine r_dict0 ?_ | refine r_yes ?_ | refine r_isi ?_ | refine r_ty (by with_unfolding_all rfl) ?_ | refine r_ixT (by with_unfolding_all rfl) ?_ | refine r_ixE (by with_unfolding_all rfl) (by with_unfolding_all rfl) ?_ | refine r_ixL (by assumption) (by with_unfolding_all rfl) ?_ | refine r_addI ?_ | refine r_intF ?_ | refine r_intCF (by first | decide | exact cmul_r (by decide) | exact cmul_l (by decide)) ?_ | refine r_eqI ?_ | refine r_neI ?_ | refine r_eqS ?_ | refine r_neS ?_ | refine r_eqB ?_ | refine r_neB ?_ | refine r_int ?_ | refine r_drop ?_ | refine r_sub ?_ | refine r_gTp (by with_unfolding_all rfl) ?_ | refine r_gsCons ?_ | refine r_gsNil ?_ | refine r_for ?_ | refine r_lc ?_ | refine r_dc ?_ | refine r_iRg1 ?_ | refine r_inT (by with_unfolding_all rfl) (by with_unfolding_all rfl) ?_)
      refine r_rg (by decide) (by decide) ?_
      have P9 := ((P6.ext e7).ext e8).ext e9
      refine for_inv (fun i σ S' => PoolOk p q S' ∧ ∃ s9 s10 s11 s12 s13 : Option D, σ = [some (.frz (ns.map .int)), some (.ref p), some (.tup [.int (L0 : Nat), .int (L1 : Nat)]), some (.str "greatest"), some (encF inner), some (encF (.greatest 15 inner)), some (encW w), some (.int (w.n : Nat)), some (encP (it (rnd w inner ρ0 15) w.n (x0 false w.n))), s9, s10, s11, s12, s13, none, none]) ⟨P9, _, _, _, _, _, rfl⟩ ?_ ?_
      · rintro i y σ S10 R hy ⟨P10, s9, s10, s11, s12, s13, rfl⟩ hR
        refine ⟨trivial, ?_⟩
        (repeat with_reducible first | refine r_seq ?_ | refine r_asg ?_ | refine r_nm ?_ | refine r_var (by with_unfolding_all rfl) ?_ | refine r_c ?_ | refine r_aCons ?_ | refine r_aNil ?_ | refine r_op ?_ | refine r_call ?_ | refine r_val ?_ | refine r_bl ?_ | refine r_if ?_ | refine r_ret ?_ | refine r_next ?_ | refine r_ifT (by first | decide | (with_unfolding_all rfl)) ?_ | refine r_ifF (by first | decide | (with_unfolding_all rfl)) ?_ | refine r_tup ?_ | refine r_lst ?_ | refine r_le (Nat.le_of_ble_eq_true (by with_unfolding_all rfl)) ?_ | refine r_cb ?_ | refine r_and ?_ | refine r_or ?_ | refine r_not ?_ | refine r_eIf ?_ | refine r_eAnd ?_ | refine r_eOr ?_ | refine r_eNot ?_ | refine r_isN ?_ | refine r_mt ?_ | refine r_tr ?_ | refine r_ss ?_ | refine r_dict0 ?_ | refine r_yes ?_ | refine r_isi ?_ | refine r_ty (by with_unfolding_all rfl) ?_ | refine r_ixT (by with_unfolding_all rfl) ?_ | refine r_ixE (by with_unfolding_all rfl) (by with_unfolding_all rfl) ?_ | refine r_ixL (by assumption) (by with_unfolding_all rfl) ?_ | refine r_addI ?_ | refine r_intF ?_ | refine r_intCF (by first | decide | exact cmul_r (by decide) | exact cmul_l (by decide)) ?_ | refine r_eqI ?_ | refine r_neI ?_ | refine r_eqS ?_ | refine r_neS ?_ | refine r_eqB ?_ | refine r_neB ?_ | refine r_int ?_ | refine r_drop ?_ | refine r_sub ?_ | refine r_gTp (by with_unfolding_all rfl) ?_ | refine r_gsCons ?_ | refine r_gsNil ?_ | refine r_for ?_ | refine r_lc ?_ | refine r_dc ?_ | refine r_iRg1 ?_ | refine r_inT (by with_unfolding_all rfl) (by with_unfolding_all rfl) ?_)
        refine r_rg (by omega) (by omega) fun few => ?_
        rw [Int.toNat_natCast]
        refine sub_spec (m := 2) (fun _ => rfl) (fun _ => rfl) (fun _ _ _ q => r_c q) (by decide) (by decide) hn P10 fun S11 small hs1 P11 e11 h11 => ?_
        (repeat with_reducible first | refine r_seq ?_ | refine r_asg ?_ | refine r_nm ?_ | refine r_var (by with_unfolding_all rfl) ?_ | refine r_c ?_ | refine r_aCons ?_ | refine r_aNil ?_ | refine r_op ?_ | refine r_call ?_ | refine r_val ?_ | refine r_bl ?_ | refine r_if ?_ | refine r_ret ?_ | refine r_next ?_ | refine r_ifT (by first | decide | (with_unfolding_all rfl)) ?_ | refine r_ifF (by first | decide | (with_unfolding_all rfl)) ?_ | refine r_tup ?_ | refine r_lst ?_ | refine r_le (Nat.le_of_ble_eq_true (by with_unfolding_all rfl)) ?_ | refine r_cb ?_ | refine r_and ?_ | refine r_or ?_ | refine r_not ?_ | refine r_eIf ?_ | refine r_eAnd ?_ | refine r_eOr ?_ | refine r_eNot ?_ | refine r_isN ?_ | refine r_mt ?_ | refine r_tr ?_ | refine r_ss ?_ | refine r_dict0 ?_ | refine r_yes ?_ | refine r_isi ?_ | refine r_ty (by with_unfolding_all rfl) ?_ | refine r_ixT (by with_unfolding_all rfl) ?_ | refine r_ixE (by with_unfolding_all rfl) (by with_unfolding_all rfl) ?_ | refine r_ixL (by assumption) (by with_unfolding_all rfl) ?_ | refine r_addI ?_ | refine r_intF ?_ | refine r_intCF (by first | decide | exact cmul_r (by decide) | exact cmul_l (by decide)) ?_ | refine r_eqI ?_ | refine r_neI ?_ | refine r_eqS ?_ | refine r_neS ?_ | refine r_eqB ?_ | refine r_neB ?_ | refine r_int ?_ | refine r_drop ?_ | refine r_sub ?_ | refine r_gTp (by with_unfolding_all rfl) ?_ | refine r_gsCons ?_ | refine r_gsNil ?_ | refine r_for ?_ | refine r_lc ?_ | refine r_dc ?_ | refine r_iRg1 ?_ | refine r_inT (by with_unfolding_all rfl) (by with_unfolding_all rfl) ?_)
        refine r_tuple (by show seqC S11[S10.length]? = _; rw [h11]; rfl) ?_
        (repeat with_reducible first | refine r_seq ?_ | refine r_asg ?_ | refine r_nm ?_ | refine r_var (by with_unfolding_all rfl) ?_ | refine r_c ?_ | refine r_aCons ?_ | refine r_aNil ?_ | refine r_op ?_ | refine r_call ?_ | refine r_val ?_ | refine r_bl ?_ | refine r_if ?_ | refine r_ret ?_ | refine r_next ?_ | refine r_ifT (by first | decide | (with_unfolding_all rfl)) ?_ | refine r_ifF (by first | decide | (with_unfolding_all rfl)) ?_ | refine r_tup ?_ | refine r_lst ?_ | refine r_le (Nat.le_of_ble_eq_true (by with_unfolding_all rfl)) ?_ | refine r_cb ?_ | refine r_and ?_ | refine r_or ?_ | refine r_not ?_ | refine r_eIf ?_ | refine r_eAnd ?_ | refine r_eOr ?_ | refine r_eNot ?_ | refine r_isN ?_ | refine r_mt ?_ | refine r_tr ?_ | refine r_ss ?_ | refine r_dict0 ?_ | refine r_yes ?_ | refine r_isi ?_ | refine r_ty (by with_unfolding_all rfl) ?_ | refine r_ixT (by with_unfolding_all rfl) ?_ | refine r_ixE (by with_unfolding_all rfl) (by with_unfolding_all rfl) ?_ | refine r_ixL (by assumption) (by with_unfolding_all rfl) ?_ | refine r_addI ?_ | refine r_intF ?_ | refine r_intCF (by first | decide | exact cmul_r (by decide) | exact cmul_l (by decide)) ?_ | refine r_eqI ?_ | refine r_neI ?_ | refine r_eqS ?_ | refine r_neS ?_ | refine r_eqB ?_ | refine r_neB ?_ | refine r_int ?_ | refine r_drop ?_ | refine r_sub ?_ | refine r_gTp (by with_unfolding_all rfl) ?_ | refine r_gsCons ?_ | refine r_gsNil ?_ | refine r_for ?_ | refine r_lc ?_ | refine r_dc ?_ | refine r_iRg1 ?_ | refine r_inT (by with_unfolding_all rfl) (by with_unfolding_all rfl) ?_)
        refine r_list rfl ?_
        (repeat with_reducible first | refine r_seq ?_ | refine r_asg ?_ | refine r_nm ?_ | refine r_var (by with_unfolding_all rfl) ?_ | refine r_c ?_ | refine r_aCons ?_ | refine r_aNil ?_ | refine r_op ?_ | refine r_call ?_ | refine r_val ?_ | refine r_bl ?_ | refine r_if ?_ | refine r_ret ?_ | refine r_next ?_ | refine r_ifT (by first | decide | (with_unfolding_all rfl)) ?_ | refine r_ifF (by first | decide | (with_unfolding_all rfl)) ?_ | refine r_tup ?_ | refine r_lst ?_ | refine r_le (Nat.le_of_ble_eq_true (by with_unfolding_all rfl)) ?_ | refine r_cb ?_ | refine r_and ?_ | refine r_or ?_ | refine r_not ?_ | refine r_eIf ?_ | refine r_eAnd ?_ | refine r_eOr ?_ | refine r_eNot ?_ | refine r_isN ?_ | refine r_mt ?_ | refine r_tr ?_ | refine r_ss ?_ | refine r_dict0 ?_ | refine r_yes ?_ | refine r_isi ?_ | refine r_ty (by with_unfolding_all rfl) ?_ | refine r_ixT (by with_unfolding_all rfl) ?_ | refine r_ixE (by with_unfolding_all rfl) (by with_unfolding_all rfl) ?_ | refine r_ixL (by assumption) (by with_unfolding_all rfl) ?_ | refine r_addI ?_ | refine r_intF ?_ | refine r_intCF (by first | decide | exact cmul_r (by decide) | exact cmul_l (by decide)) ?_ | refine r_eqI ?_ | refine r_neI ?_ | refine r_eqS ?_ | refine r_neS ?_ | refine r_eqB ?_ | refine r_neB ?_ | refine r_int ?_ | refine r_drop ?_ | refine r_sub ?_ | refine r_gTp (by with_unfolding_all rfl) ?_ | refine r_gsCons ?_ | refine r_gsNil ?_ | refine r_for ?_ | refine r_lc ?_ | refine r_dc ?_ | refine r_iRg1 ?_ | refine r_inT (by with_unfolding_all rfl) (by with_unfolding_all rfl) ?_)
        refine r_rg (by omega) (by omega) fun few => ?_
        rw [Int.toNat_natCast]
        refine sub_spec (m := 3) (fun _ => rfl) (fun _ => rfl) (fun _ _ _ q => r_c q) (by decide) (by decide) hn (P11.ext (Ext.app _ _)) fun S12 more hs2 P12 e12 h12 => ?_
        (repeat with_reducible first | refine r_seq ?_ | refine r_asg ?_ | refine r_nm ?_ | refine r_var (by with_unfolding_all rfl) ?_ | refine r_c ?_ | refine r_aCons ?_ | refine r_aNil ?_ | refine r_op ?_ | refine r_call ?_ | refine r_val ?_ | refine r_bl ?_ | refine r_if ?_ | refine r_ret ?_ | refine r_next ?_ | refine r_ifT (by first | decide | (with_unfolding_all rfl)) ?_ | refine r_ifF (by first | decide | (with_unfolding_all rfl)) ?_ | refine r_tup ?_ | refine r_lst ?_ | refine r_le (Nat.le_of_ble_eq_true (by with_unfolding_all rfl)) ?_ | refine r_cb ?_ | refine r_and ?_ | refine r_or ?_ | refine r_not ?_ | refine r_eIf ?_ | refine r_eAnd ?_ | refine r_eOr ?_ | refine r_eNot ?_ | refine r_isN ?_ | refine r_mt ?_ | refine r_tr ?_ | refine r_ss ?_ | refine r_dict0 ?_ | refine r_yes ?_ | refine r_isi ?_ | refine r_ty (by with_unfolding_all rfl) ?_ | refine r_ixT (by with_unfolding_all rfl) ?_ | refine r_ixE (by with_unfolding_all rfl) (by with_unfolding_all rfl) ?_ | refine r_ixL (by assumption) (by with_unfolding_all rfl) ?_ | refine r_addI ?_ | refine r_intF ?_ | refine r_intCF (by first | decide | exact cmul_r (by decide) | exact cmul_l (by decide)) ?_ | refine r_eqI ?_ | refine r_neI ?_ | refine r_eqS ?_ | refine r_neS ?_ | refine r_eqB ?_ | refine r_neB ?_ | refine r_int ?_ | refine r_drop ?_ | refine r_sub ?_ | refine r_gTp (by with_unfolding_all rfl) ?_ | refine r_gsCons ?_ | refine r_gsNil ?_ | refine r_for ?_ | refine r_lc ?_ | refine r_dc ?_ | refine r_iRg1 ?_ | refine r_inT (by with_unfolding_all rfl) (by with_unfolding_all rfl) ?_)
        have hsl := hs1.le
        have hml := hs2.le
        refine r_addL (e12.2 _ (by simp; exact Nat.ne_of_gt P11.lt) _ (new_at S11 _)) h12 (by simp [sizeLine]; omega) ?_
        refine r_sortSet (ks := small ++ more) (by show seqC (S12 ++ _)[S12.length]? = _; rw [new_at, List.map_append]; rfl) (by simp; omega) fun great g1 g2 => ?_
        have hgr : OkSub w.n great := ⟨g1, fun k hk => by
          rw [g2, List.mem_append] at hk
          exact hk.elim (hs1.2 k) (hs2.2 k)⟩
        have sg : Sub small great := fun k hk => (g2 k).mpr (List.mem_append.mpr (.inl hk))
        (repeat with_reducible first | refine r_seq ?_ | refine r_asg ?_ | refine r_nm ?_ | refine r_var (by with_unfolding_all rfl) ?_ | refine r_c ?_ | refine r_aCons ?_ | refine r_aNil ?_ | refine r_op ?_ | refine r_call ?_ | refine r_val ?_ | refine r_bl ?_ | refine r_if ?_ | refine r_ret ?_ | refine r_next ?_ | refine r_ifT (by first | decide | (with_unfolding_all rfl)) ?_ | refine r_ifF (by first | decide | (with_unfolding_all rfl)) ?_ | refine r_tup ?_ | refine r_lst ?_ | refine r_le (Nat.le_of_ble_eq_true (by with_unfolding_all rfl)) ?_ | refine r_cb ?_ | refine r_and ?_ | refine r_or ?_ | refine r_not ?_ | refine r_eIf ?_ | refine r_eAnd ?_ | refine r_eOr ?_ | refine r_eNot ?_ | refine r_isN ?_ | refine r_mt ?_ | refine r_tr ?_ | refine r_ss ?_ | refine r_dict0 ?_ | refine r_yes ?_ | refine r_isi ?_ | refine r_ty (by with_unfolding_all rfl) ?_ | refine r_ixT (by with_unfolding_all rfl) ?_ | refine r_ixE (by with_unfolding_all rfl) (by with_unfolding_all rfl) ?_ | refine r_ixL (by assumption) (by with_unfolding_all rfl) ?_ | refine r_addI ?_ | refine r_intF ?_ | refine r_intCF (by first | decide | exact cmul_r (by decide) | exact cmul_l (by decide)) ?_ | refine r_eqI ?_ | refine r_neI ?_ | refine r_eqS ?_ | refine r_neS ?_ | refine r_eqB ?_ | refine r_neB ?_ | refine r_int ?_ | refine r_drop ?_ | refine r_sub ?_ | refine r_gTp (by with_unfolding_all rfl) ?_ | refine r_gsCons ?_ | refine r_gsNil ?_ | refine r_for ?_ | refine r_lc ?_ | refine r_dc ?_ | refine r_iRg1 ?_ | refine r_inT (by with_unfolding_all rfl) (by with_unfolding_all rfl) ?_)
        refine r_tuple (by show seqC ((S12 ++ _) ++ _)[(S12 ++ _).length]? = _; rw [new_at]; rfl) ?_
        (repeat with_reducible first | refine r_seq ?_ | refine r_asg ?_ | refine r_nm ?_ | refine r_var (by with_unfolding_all rfl) ?_ | refine r_c ?_ | refine r_aCons ?_ | refine r_aNil ?_ | refine r_op ?_ | refine r_call ?_ | refine r_val ?_ | refine r_bl ?_ | refine r_if ?_ | refine r_ret ?_ | refine r_next ?_ | refine r_ifT (by first | decide | (with_unfolding_all rfl)) ?_ | refine r_ifF (by first | decide | (with_unfolding_all rfl)) ?_ | refine r_tup ?_ | refine r_lst ?_ | refine r_le (Nat.le_of_ble_eq_true (by with_unfolding_all rfl)) ?_ | refine r_cb ?_ | refine r_and ?_ | refine r_or ?_ | refine r_not ?_ | refine r_eIf ?_ | refine r_eAnd ?_ | refine r_eOr ?_ | refine r_eNot ?_ | refine r_isN ?_ | refine r_mt ?_ | refine r_tr ?_ | refine r_ss ?_ | refine r_dict0 ?_ | refine r_yes ?_ | refine r_isi ?_ | refine r_ty (by with_unfolding_all rfl) ?_ | refine r_ixT (by with_unfolding_all rfl) ?_ | refine r_ixE (by with_unfolding_all rfl) (by with_unfolding_all rfl) ?_ | refine r_ixL (by assumption) (by with_unfolding_all rfl) ?_ | refine r_addI ?_ | refine r_intF ?_ | refine r_intCF (by first | decide | exact cmul_r (by decide) | exact cmul_l (by decide)) ?_ | refine r_eqI ?_ | refine r_neI ?_ | refine r_eqS ?_ | refine r_neS ?_ | refine r_eqB ?_ | refine r_neB ?_ | refine r_int ?_ | refine r_drop ?_ | refine r_sub ?_ | refine r_gTp (by with_unfolding_all rfl) ?_ | refine r_gsCons ?_ | refine r_gsNil ?_ | refine r_for ?_ | refine r_lc ?_ | refine r_dc ?_ | refine r_iRg1 ?_ | refine r_inT (by with_unfolding_all rfl) (by with_unfolding_all rfl) ?_)
        refine disp_spec (x := 15) (X := small) (fun S P h => h) (fun S P _ h => r_var rfl h) fun S13 e13 h13 => ?_
        (repeat with_reducible first | refine r_seq ?_ | refine r_asg ?_ | refine r_nm ?_ | refine r_var (by with_unfolding_all rfl) ?_ | refine r_c ?_ | refine r_aCons ?_ | refine r_aNil ?_ | refine r_op ?_ | refine r_call ?_ | refine r_val ?_ | refine r_bl ?_ | refine r_if ?_ | refine r_ret ?_ | refine r_next ?_ | refine r_ifT (by first | decide | (with_unfolding_all rfl)) ?_ | refine r_ifF (by first | decide | (with_unfolding_all rfl)) ?_ | refine r_tup ?_ | refine r_lst ?_ | refine r_le (Nat.le_of_ble_eq_true (by with_unfolding_all rfl)) ?_ | refine r_cb ?_ | refine r_and ?_ | refine r_or ?_ | refine r_not ?_ | refine r_eIf ?_ | refine r_eAnd ?_ | refine r_eOr ?_ | refine r_eNot ?_ | refine r_isN ?_ | refine r_mt ?_ | refine r_tr ?_ | refine r_ss ?_ | refine r_dict0 ?_ | refine r_yes ?_ | refine r_isi ?_ | refine r_ty (by with_unfolding_all rfl) ?_ | refine r_ixT (by with_unfolding_all rfl) ?_ | refine r_ixE (by with_unfolding_all rfl) (by with_unfolding_all rfl) ?_ | refine r_ixL (by assumption) (by with_unfolding_all rfl) ?_ | refine r_addI ?_ | refine r_intF ?_ | refine r_intCF (by first | decide | exact cmul_r (by decide) | exact cmul_l (by decide)) ?_ | refine r_eqI ?_ | refine r_neI ?_ | refine r_eqS ?_ | refine r_neS ?_ | refine r_eqB ?_ | refine r_neB ?_ | refine r_int ?_ | refine r_drop ?_ | refine r_sub ?_ | refine r_gTp (by with_unfolding_all rfl) ?_ | refine r_gsCons ?_ | refine r_gsNil ?_ | refine r_for ?_ | refine r_lc ?_ | refine r_dc ?_ | refine r_iRg1 ?_ | refine r_inT (by with_unfolding_all rfl) (by with_unfolding_all rfl) ?_)
        refine worth1_spec hw hn hs1 (by omega) sc h13 fun S14 e14 => ?_
        (repeat with_reducible first | refine r_seq ?_ | refine r_asg ?_ | refine r_nm ?_ | refine r_var (by with_unfolding_all rfl) ?_ | refine r_c ?_ | refine r_aCons ?_ | refine r_aNil ?_ | refine r_op ?_ | refine r_call ?_ | refine r_val ?_ | refine r_bl ?_ | refine r_if ?_ | refine r_ret ?_ | refine r_next ?_ | refine r_ifT (by first | decide | (with_unfolding_all rfl)) ?_ | refine r_ifF (by first | decide | (with_unfolding_all rfl)) ?_ | refine r_tup ?_ | refine r_lst ?_ | refine r_le (Nat.le_of_ble_eq_true (by with_unfolding_all rfl)) ?_ | refine r_cb ?_ | refine r_and ?_ | refine r_or ?_ | refine r_not ?_ | refine r_eIf ?_ | refine r_eAnd ?_ | refine r_eOr ?_ | refine r_eNot ?_ | refine r_isN ?_ | refine r_mt ?_ | refine r_tr ?_ | refine r_ss ?_ | refine r_dict0 ?_ | refine r_yes ?_ | refine r_isi ?_ | refine r_ty (by with_unfolding_all rfl) ?_ | refine r_ixT (by with_unfolding_all rfl) ?_ | refine r_ixE (by with_unfolding_all rfl) (by with_unfolding_all rfl) ?_ | refine r_ixL (by assumption) (by with_unfolding_all rfl) ?_ | refine r_addI ?_ | refine r_intF ?_ | refine r_intCF (by first | decide | exact cmul_r (by decide) | exact cmul_l (by decide)) ?_ | refine r_eqI ?_ | refine r_neI ?_ | refine r_eqS ?_ | refine r_neS ?_ | refine r_eqB ?_ | refine r_neB ?_ | refine r_int ?_ | refine r_drop ?_ | refine r_sub ?_ | refine r_gTp (by with_unfolding_all rfl) ?_ | refine r_gsCons ?_ | refine r_gsNil ?_ | refine r_for ?_ | refine r_lc ?_ | refine r_dc ?_ | refine r_iRg1 ?_ | refine r_inT (by with_unfolding_all rfl) (by with_unfolding_all rfl) ?_)
        refine disp_spec (x := 15) (X := great) (fun S P h => h) (fun S P _ h => r_var rfl h) fun S15 e15 h15 => ?_
        (repeat with_reducible first | refine r_seq ?_ | refine r_asg ?_ | refine r_nm ?_ | refine r_var (by with_unfolding_all rfl) ?_ | refine r_c ?_ | refine r_aCons ?_ | refine r_aNil ?_ | refine r_op ?_ | refine r_call ?_ | refine r_val ?_ | refine r_bl ?_ | refine r_if ?_ | refine r_ret ?_ | refine r_next ?_ | refine r_ifT (by first | decide | (with_unfolding_all rfl)) ?_ | refine r_ifF (by first | decide | (with_unfolding_all rfl)) ?_ | refine r_tup ?_ | refine r_lst ?_ | refine r_le (Nat.le_of_ble_eq_true (by with_unfolding_all rfl)) ?_ | refine r_cb ?_ | refine r_and ?_ | refine r_or ?_ | refine r_not ?_ | refine r_eIf ?_ | refine r_eAnd ?_ | refine r_eOr ?_ | refine r_eNot ?_ | refine r_isN ?_ | refine r_mt ?_ | refine r_tr ?_ | refine r_ss ?_ | refine r_dict0 ?_ | refine r_yes ?_ | refine r_isi ?_ | refine r_ty (by with_unfolding_all rfl) ?_ | refine r_ixT (by with_unfolding_all rfl) ?_ | refine r_ixE (by with_unfolding_all rfl) (by with_unfolding_all rfl) ?_ | refine r_ixL (by assumption) (by with_unfolding_all rfl) ?_ | refine r_addI ?_ | refine r_intF ?_ | refine r_intCF (by first | decide | exact cmul_r (by decide) | exact cmul_l (by decide)) ?_ | refine r_eqI ?_ | refine r_neI ?_ | refine r_eqS ?_ | refine r_neS ?_ | refine r_eqB ?_ | refine r_neB ?_ | refine r_int ?_ | refine r_drop ?_ | refine r_sub ?_ | refine r_gTp (by with_unfolding_all rfl) ?_ | refine r_gsCons ?_ | refine r_gsNil ?_ | refine r_for ?_ | refine r_lc ?_ | refine r_dc ?_ | refine r_iRg1 ?_ | refine r_inT (by with_unfolding_all rfl) (by with_unfolding_all rfl) ?_)
        refine worth1_spec hw hn hgr (by omega) sc h15 fun S16 e16 => ?_
        have P16 := ((((((P12.ext (Ext.app _ _)).ext (Ext.app _ _)).ext e13).ext e14).ext e15).ext e16)
        have o1 := ho small hs1
        have o2 := ho great hgr
        (repeat with_reducible first | refine r_seq ?_ | refine r_asg ?_ | refine r_nm ?_ | refine r_var (by with_unfolding_all rfl) ?_ | refine r_c ?_ | refine r_aCons ?_ | refine r_aNil ?_ | refine r_op ?_ | refine r_call ?_ | refine r_val ?_ | refine r_bl ?_ | refine r_if ?_ | refine r_ret ?_ | refine r_next ?_ | refine r_ifT (by first | decide | (with_unfolding_all rfl)) ?_ | refine r_ifF (by first | decide | (with_unfolding_all rfl)) ?_ | refine r_tup ?_ | refine r_lst ?_ | refine r_le (Nat.le_of_ble_eq_true (by with_unfolding_all rfl)) ?_ | refine r_cb ?_ | refine r_and ?_ | refine r_or ?_ | refine r_not ?_ | refine r_eIf ?_ | refine r_eAnd ?_ | refine r_eOr ?_ | refine r_eNot ?_ | refine r_isN ?_ | refine r_mt ?_ | refine r_tr ?_ | refine r_ss ?_ | refine r_dict0 ?_ | refine r_yes ?_ | refine r_isi ?_ | refine r_ty (by with_unfolding_all rfl) ?_ | refine r_ixT (by with_unfolding_all rfl) ?_ | refine r_ixE (by with_unfolding_all rfl) (by with_unfolding_all rfl) ?_ | refine r_ixL (by assumption) (by with_unfolding_all rfl) ?_ | refine r_addI ?_ | refine r_intF ?_ | refine r_intCF (by first | decide | exact cmul_r (by decide) | exact cmul_l (by decide)) ?_ | refine r_eqI ?_ | refine r_neI ?_ | refine r_eqS ?_ | refine r_neS ?_ | refine r_eqB ?_ | refine r_neB ?_ | refine r_int ?_ | refine r_drop ?_ | refine r_sub ?_ | refine r_gTp (by with_unfolding_all rfl) ?_ | refine r_gsCons ?_ | refine r_gsNil ?_ | refine r_for ?_ | refine r_lc ?_ | refine r_dc ?_ | refine r_iRg1 ?_ | refine r_inT (by with_unfolding_all rfl) (by with_unfolding_all rfl) ?_)
        refine r_iTup ?_
        (repeat with_reducible first | refine r_seq ?_ | refine r_asg ?_ | refine r_nm ?_ | refine r_var (by with_unfolding_all rfl) ?_ | refine r_c ?_ | refine r_aCons ?_ | refine r_aNil ?_ | refine r_op ?_ | refine r_call ?_ | refine r_val ?_ | refine r_bl ?_ | refine r_if ?_ | refine r_ret ?_ | refine r_next ?_ | refine r_ifT (by first | decide | (with_unfolding_all rfl)) ?_ | refine r_ifF (by first | decide | (with_unfolding_all rfl)) ?_ | refine r_tup ?_ | refine r_lst ?_ | refine r_le (Nat.le_of_ble_eq_true (by with_unfolding_all rfl)) ?_ | refine r_cb ?_ | refine r_and ?_ | refine r_or ?_ | refine r_not ?_ | refine r_eIf ?_ | refine r_eAnd ?_ | refine r_eOr ?_ | refine r_eNot ?_ | refine r_isN ?_ | refine r_mt ?_ | refine r_tr ?_ | refine r_ss ?_ | refine r_dict0 ?_ | refine r_yes ?_ | refine r_isi ?_ | refine r_ty (by with_unfolding_all rfl) ?_ | refine r_ixT (by with_unfolding_all rfl) ?_ | refine r_ixE (by with_unfolding_all rfl) (by with_unfolding_all rfl) ?_ | refine r_ixL (by assumption) (by with_unfolding_all rfl) ?_ | refine r_addI ?_ | refine r_intF ?_ | refine r_intCF (by first | decide | exact cmul_r (by decide) | exact cmul_l (by decide)) ?_ | refine r_eqI ?_ | refine r_neI ?_ | refine r_eqS ?_ | refine r_neS ?_ | refine r_eqB ?_ | refine r_neB ?_ | refine r_int ?_ | refine r_drop ?_ | refine r_sub ?_ | refine r_gTp (by with_unfolding_all rfl) ?_ | refine r_gsCons ?_ | refine r_gsNil ?_ | refine r_for ?_ | refine r_lc ?_ | refine r_dc ?_ | refine r_iRg1 ?_ | refine r_inT (by with_unfolding_all rfl) (by with_unfolding_all rfl) ?_)
        refine ⟨_, rfl, ?_⟩
        intro few
        refine notin_spec (A := rnd w inner ρ0 15 small) (B := rnd w inner ρ0 15 great) (fun _ => rfl) (fun _ => rfl) (by have := o1.le; omega) fun S17 e17 h17 => ?_
        (repeat with_reducible first | refine r_seq ?_ | refine r_asg ?_ | refine r_nm ?_ | refine r_var (by with_unfolding_all rfl) ?_ | refine r_c ?_ | refine r_aCons ?_ | refine r_aNil ?_ | refine r_op ?_ | refine r_call ?_ | refine r_val ?_ | refine r_bl ?_ | refine r_if ?_ | refine r_ret ?_ | refine r_next ?_ | refine r_ifT (by first | decide | (with_unfolding_all rfl)) ?_ | refine r_ifF (by first | decide | (with_unfolding_all rfl)) ?_ | refine r_tup ?_ | refine r_lst ?_ | refine r_le (Nat.le_of_ble_eq_true (by with_unfolding_all rfl)) ?_ | refine r_cb ?_ | refine r_and ?_ | refine r_or ?_ | refine r_not ?_ | refine r_eIf ?_ | refine r_eAnd ?_ | refine r_eOr ?_ | refine r_eNot ?_ | refine r_isN ?_ | refine r_mt ?_ | refine r_tr ?_ | refine r_ss ?_ | refine r_dict0 ?_ | refine r_yes ?_ | refine r_isi ?_ | refine r_ty (by with_unfolding_all rfl) ?_ | refine r_ixT (by with_unfolding_all rfl) ?_ | refine r_ixE (by with_unfolding_all rfl) (by with_unfolding_all rfl) ?_ | refine r_ixL (by assumption) (by with_unfolding_all rfl) ?_ | refine r_addI ?_ | refine r_intF ?_ | refine r_intCF (by first | decide | exact cmul_r (by decide) | exact cmul_l (by decide)) ?_ | refine r_eqI ?_ | refine r_neI ?_ | refine r_eqS ?_ | refine r_neS ?_ | refine r_eqB ?_ | refine r_neB ?_ | refine r_int ?_ | refine r_drop ?_ | refine r_sub ?_ | refine r_gTp (by with_unfolding_all rfl) ?_ | refine r_gsCons ?_ | refine r_gsNil ?_ | refine r_for ?_ | refine r_lc ?_ | refine r_dc ?_ | refine r_iRg1 ?_ | refine r_inT (by with_unfolding_all rfl) (by with_unfolding_all rfl) ?_)
        refine r_len (by show seqC S17[_]? = _; rw [h17]; rfl) ?_
        (repeat with_reducible first | refine r_seq ?_ | refine r_asg ?_ | refine r_nm ?_ | refine r_var (by with_unfolding_all rfl) ?_ | refine r_c ?_ | refine r_aCons ?_ | refine r_aNil ?_ | refine r_op ?_ | refine r_call ?_ | refine r_val ?_ | refine r_bl ?_ | refine r_if ?_ | refine r_ret ?_ | refine r_next ?_ | refine r_ifT (by first | decide | (with_unfolding_all rfl)) ?_ | refine r_ifF (by first | decide | (with_unfolding_all rfl)) ?_ | refine r_tup ?_ | refine r_lst ?_ | refine r_le (Nat.le_of_ble_eq_true (by with_unfolding_all rfl)) ?_ | refine r_cb ?_ | refine r_and ?_ | refine r_or ?_ | refine r_not ?_ | refine r_eIf ?_ | refine r_eAnd ?_ | refine r_eOr ?_ | refine r_eNot ?_ | refine r_isN ?_ | refine r_mt ?_ | refine r_tr ?_ | refine r_ss ?_ | refine r_dict0 ?_ | refine r_yes ?_ | refine r_isi ?_ | refine r_ty (by with_unfolding_all rfl) ?_ | refine r_ixT (by with_unfolding_all rfl) ?_ | refine r_ixE (by with_unfolding_all rfl) (by with_unfolding_all rfl) ?_ | refine r_ixL (by assumption) (by with_unfolding_all rfl) ?_ | refine r_addI ?_ | refine r_intF ?_ | refine r_intCF (by first | decide | exact cmul_r (by decide) | exact cmul_l (by decide)) ?_ | refine r_eqI ?_ | refine r_neI ?_ | refine r_eqS ?_ | refine r_neS ?_ | refine r_eqB ?_ | refine r_neB ?_ | refine r_int ?_ | refine r_drop ?_ | refine r_sub ?_ | refine r_gTp (by with_unfolding_all rfl) ?_ | refine r_gsCons ?_ | refine r_gsNil ?_ | refine r_for ?_ | refine r_lc ?_ | refine r_dc ?_ | refine r_iRg1 ?_ | refine r_inT (by with_unfolding_all rfl) (by with_unfolding_all rfl) ?_)
        refine r_ifF (decide_eq_false ?_) ?_
        · rw [diff_none (hm _ _ sg)]; decide
        (repeat with_reducible first | refine r_seq ?_ | refine r_asg ?_ | refine r_nm ?_ | refine r_var (by with_unfolding_all rfl) ?_ | refine r_c ?_ | refine r_aCons ?_ | refine r_aNil ?_ | refine r_op ?_ | refine r_call ?_ | refine r_val ?_ | refine r_bl ?_ | refine r_if ?_ | refine r_ret ?_ | refine r_next ?_ | refine r_ifT (by first | decide | (with_unfolding_all rfl)) ?_ | refine r_ifF (by first | decide | (with_unfolding_all rfl)) ?_ | refine r_tup ?_ | refine r_lst ?_ | refine r_le (Nat.le_of_ble_eq_true (by with_unfolding_all rfl)) ?_ | refine r_cb ?_ | refine r_and ?_ | refine r_or ?_ | refine r_not ?_ | refine r_eIf ?_ | refine r_eAnd ?_ | refine r_eOr ?_ | refine r_eNot ?_ | refine r_isN ?_ | refine r_mt ?_ | refine r_tr ?_ | refine r_ss ?_ | refine r_dict0 ?_ | refine r_yes ?_ | refine r_isi ?_ | refine r_ty (by with_unfolding_all rfl) ?_ | refine r_ixT (by with_unfolding_all rfl) ?_ | refine r_ixE (by with_unfolding_all rfl) (by with_unfolding_all rfl) ?_ | refine r_ixL (by assumption) (by with_unfolding_all rfl) ?_ | refine r_addI ?_ | refine r_intF ?_ | refine r_intCF (by first | decide | exact cmul_r (by decide) | exact cmul_l (by decide)) ?_ | refine r_eqI ?_ | refine r_neI ?_ | refine r_eqS ?_ | refine r_neS ?_ | refine r_eqB ?_ | refine r_neB ?_ | refine r_int ?_ | refine r_drop ?_ | refine r_sub ?_ | refine r_gTp (by with_unfolding_all rfl) ?_ | refine r_gsCons ?_ | refine r_gsNil ?_ | refine r_for ?_ | refine r_lc ?_ | refine r_dc ?_ | refine r_iRg1 ?_ | refine r_inT (by with_unfolding_all rfl) (by with_unfolding_all rfl) ?_)
        refine r_iTup ?_
        (repeat with_reducible first | refine r_seq ?_ | refine r_asg ?_ | refine r_nm ?_ | refine r_var (by with_unfolding_all rfl) ?_ | refine r_c ?_ | refine r_aCons ?_ | refine r_aNil ?_ | refine r_op ?_ | refine r_call ?_ | refine r_val ?_ | refine r_bl ?_ | refine r_if ?_ | refine r_ret ?_ | refine r_next ?_ | refine r_ifT (by first | decide | (with_unfolding_all rfl)) ?_ | refine r_ifF (by first | decide | (with_unfolding_all rfl)) ?_ | refine r_tup ?_ | refine r_lst ?_ | refine r_le (Nat.le_of_ble_eq_true (by with_unfolding_all rfl)) ?_ | refine r_cb ?_ | refine r_and ?_ | refine r_or ?_ | refine r_not ?_ | refine r_eIf ?_ | refine r_eAnd ?_ | refine r_eOr ?_ | refine r_eNot ?_ | refine r_isN ?_ | refine r_mt ?_ | refine r_tr ?_ | refine r_ss ?_ | refine r_dict0 ?_ | refine r_yes ?_ | refine r_isi ?_ | refine r_ty (by with_unfolding_all rfl) ?_ | refine r_ixT (by with_unfolding_all rfl) ?_ | refine r_ixE (by with_unfolding_all rfl) (by with_unfolding_all rfl) ?_ | refine r_ixL (by assumption) (by with_unfolding_all rfl) ?_ | refine r_addI ?_ | refine r_intF ?_ | refine r_intCF (by first | decide | exact cmul_r (by decide) | exact cmul_l (by decide)) ?_ | refine r_eqI ?_ | refine r_neI ?_ | refine r_eqS ?_ | refine r_neS ?_ | refine r_eqB ?_ | refine r_neB ?_ | refine r_int ?_ | refine r_drop ?_ | refine r_sub ?_ | refine r_gTp (by with_unfolding_all rfl) ?_ | refine r_gsCons ?_ | refine r_gsNil ?_ | refine r_for ?_ | refine r_lc ?_ | refine r_dc ?_ | refine r_iRg1 ?_ | refine r_inT (by with_unfolding_all rfl) (by with_unfolding_all rfl) ?_)
        refine ⟨_, rfl, ?_⟩
        intro few
        refine notin_spec (A := (small)) (B := (rnd w inner ρ0 15 small)) (fun _ => rfl) (fun _ => rfl) (by have := o1.le; omega) fun S18 e18 h18 => ?_
        (repeat with_reducible first | refine r_seq ?_ | refine r_asg ?_ | refine r_nm ?_ | refine r_var (by with_unfolding_all rfl) ?_ | refine r_c ?_ | refine r_aCons ?_ | refine r_aNil ?_ | refine r_op ?_ | refine r_call ?_ | refine r_val ?_ | refine r_bl ?_ | refine r_if ?_ | refine r_ret ?_ | refine r_next ?_ | refine r_ifT (by first | decide | (with_unfolding_all rfl)) ?_ | refine r_ifF (by first | decide | (with_unfolding_all rfl)) ?_ | refine r_tup ?_ | refine r_lst ?_ | refine r_le (Nat.le_of_ble_eq_true (by with_unfolding_all rfl)) ?_ | refine r_cb ?_ | refine r_and ?_ | refine r_or ?_ | refine r_not ?_ | refine r_eIf ?_ | refine r_eAnd ?_ | refine r_eOr ?_ | refine r_eNot ?_ | refine r_isN ?_ | refine r_mt ?_ | refine r_tr ?_ | refine r_ss ?_ | refine r_dict0 ?_ | refine r_yes ?_ | refine r_isi ?_ | refine r_ty (by with_unfolding_all rfl) ?_ | refine r_ixT (by with_unfolding_all rfl) ?_ | refine r_ixE (by with_unfolding_all rfl) (by with_unfolding_all rfl) ?_ | refine r_ixL (by assumption) (by with_unfolding_all rfl) ?_ | refine r_addI ?_ | refine r_intF ?_ | refine r_intCF (by first | decide | exact cmul_r (by decide) | exact cmul_l (by decide)) ?_ | refine r_eqI ?_ | refine r_neI ?_ | refine r_eqS ?_ | refine r_neS ?_ | refine r_eqB ?_ | refine r_neB ?_ | refine r_int ?_ | refine r_drop ?_ | refine r_sub ?_ | refine r_gTp (by with_unfolding_all rfl) ?_ | refine r_gsCons ?_ | refine r_gsNil ?_ | refine r_for ?_ | refine r_lc ?_ | refine r_dc ?_ | refine r_iRg1 ?_ | refine r_inT (by with_unfolding_all rfl) (by with_unfolding_all rfl) ?_)
        refine r_len (by show seqC S18[_]? = _; rw [h18]; rfl) ?_
        (repeat with_reducible first | refine r_seq ?_ | refine r_asg ?_ | refine r_nm ?_ | refine r_var (by with_unfolding_all rfl) ?_ | refine r_c ?_ | refine r_aCons ?_ | refine r_aNil ?_ | refine r_op ?_ | refine r_call ?_ | refine r_val ?_ | refine r_bl ?_ | refine r_if ?_ | refine r_ret ?_ | refine r_next ?_ | refine r_ifT (by first | decide | (with_unfolding_all rfl)) ?_ | refine r_ifF (by first | decide | (with_unfolding_all rfl)) ?_ | refine r_tup ?_ | refine r_lst ?_ | refine r_le (Nat.le_of_ble_eq_true (by with_unfolding_all rfl)) ?_ | refine r_cb ?_ | refine r_and ?_ | refine r_or ?_ | refine r_not ?_ | refine r_eIf ?_ | refine r_eAnd ?_ | refine r_eOr ?_ | refine r_eNot ?_ | refine r_isN ?_ | refine r_mt ?_ | refine r_tr ?_ | refine r_ss ?_ | refine r_dict0 ?_ | refine r_yes ?_ | refine r_isi ?_ | refine r_ty (by with_unfolding_all rfl) ?_ | refine r_ixT (by with_unfolding_all rfl) ?_ | refine r_ixE (by with_unfolding_all rfl) (by with_unfolding_all rfl) ?_ | refine r_ixL (by assumption) (by with_unfolding_all rfl) ?_ | refine r_addI ?_ | refine r_intF ?_ | refine r_intCF (by first | decide | exact cmul_r (by decide) | exact cmul_l (by decide)) ?_ | refine r_eqI ?_ | refine r_neI ?_ | refine r_eqS ?_ | refine r_neS ?_ | refine r_eqB ?_ | refine r_neB ?_ | refine r_int ?_ | refine r_drop ?_ | refine r_sub ?_ | refine r_gTp (by with_unfolding_all rfl) ?_ | refine r_gsCons ?_ | refine r_gsNil ?_ | refine r_for ?_ | refine r_lc ?_ | refine r_dc ?_ | refine r_iRg1 ?_ | refine r_inT (by with_unfolding_all rfl) (by with_unfolding_all rfl) ?_)
        refine ite_b (fun hc => ?_) (fun hc => ?_)
        · have hc := diff_sub (A := (small)) (B := (rnd w inner ρ0 15 small)) (by have := of_decide_eq_true hc; omega)
          have fact : Sub (small) (it (rnd w inner ρ0 15) w.n (x0 false w.n)) := it_great hm hs1 hc _
          (repeat with_reducible first | refine r_seq ?_ | refine r_asg ?_ | refine r_nm ?_ | refine r_var (by with_unfolding_all rfl) ?_ | refine r_c ?_ | refine r_aCons ?_ | refine r_aNil ?_ | refine r_op ?_ | refine r_call ?_ | refine r_val ?_ | refine r_bl ?_ | refine r_if ?_ | refine r_ret ?_ | refine r_next ?_ | refine r_ifT (by first | decide | (with_unfolding_all rfl)) ?_ | refine r_ifF (by first | decide | (with_unfolding_all rfl)) ?_ | refine r_tup ?_ | refine r_lst ?_ | refine r_le (Nat.le_of_ble_eq_true (by with_unfolding_all rfl)) ?_ | refine r_cb ?_ | refine r_and ?_ | refine r_or ?_ | refine r_not ?_ | refine r_eIf ?_ | refine r_eAnd ?_ | refine r_eOr ?_ | refine r_eNot ?_ | refine r_isN ?_ | refine r_mt ?_ | refine r_tr ?_ | refine r_ss ?_ | refine r_dict0 ?_ | refine r_yes ?_ | refine r_isi ?_ | refine r_ty (by with_unfolding_all rfl) ?_ | refine r_ixT (by with_unfolding_all rfl) ?_ | refine r_ixE (by with_unfolding_all rfl) (by with_unfolding_all rfl) ?_ | refine r_ixL (by assumption) (by with_unfolding_all rfl) ?_ | refine r_addI ?_ | refine r_intF ?_ | refine r_intCF (by first | decide | exact cmul_r (by decide) | exact cmul_l (by decide)) ?_ | refine r_eqI ?_ | refine r_neI ?_ | refine r_eqS ?_ | refine r_neS ?_ | refine r_eqB ?_ | refine r_neB ?_ | refine r_int ?_ | refine r_drop ?_ | refine r_sub ?_ | refine r_gTp (by with_unfolding_all rfl) ?_ | refine r_gsCons ?_ | refine r_gsNil ?_ | refine r_for ?_ | refine r_lc ?_ | refine r_dc ?_ | refine r_iRg1 ?_ | refine r_inT (by with_unfolding_all rfl) (by with_unfolding_all rfl) ?_)
          refine r_iTup ?_
          (repeat with_reducible first | refine r_seq ?_ | refine r_asg ?_ | refine r_nm ?_ | refine r_var (by with_unfolding_all rfl) ?_ | refine r_c ?_ | refine r_aCons ?_ | refine r_aNil ?_ | refine r_op ?_ | refine r_call ?_ | refine r_val ?_ | refine r_bl ?_ | refine r_if ?_ | refine r_ret ?_ | refine r_next ?_ | refine r_ifT (by first | decide | (with_unfolding_all rfl)) ?_ | refine r_ifF (by first | decide | (with_unfolding_all rfl)) ?_ | refine r_tup ?_ | refine r_lst ?_ | refine r_le (Nat.le_of_ble_eq_true (by with_unfolding_all rfl)) ?_ | refine r_cb ?_ | refine r_and ?_ | refine r_or ?_ | refine r_not ?_ | refine r_eIf ?_ | refine r_eAnd ?_ | refine r_eOr ?_ | refine r_eNot ?_ | refine r_isN ?_ | refine r_mt ?_ | refine r_tr ?_ | refine r_ss ?_ | refine r_dict0 ?_ | refine r_yes ?_ | refine r_isi ?_ | refine r_ty (by with_unfolding_all rfl) ?_ | refine r_ixT (by with_unfolding_all rfl) ?_ | refine r_ixE (by with_unfolding_all rfl) (by with_unfolding_all rfl) ?_ | refine r_ixL (by assumption) (by with_unfolding_all rfl) ?_ | refine r_addI ?_ | refine r_intF ?_ | refine r_intCF (by first | decide | exact cmul_r (by decide) | exact cmul_l (by decide)) ?_ | refine r_eqI ?_ | refine r_neI ?_ | refine r_eqS ?_ | refine r_neS ?_ | refine r_eqB ?_ | refine r_neB ?_ | refine r_int ?_ | refine r_drop ?_ | refine r_sub ?_ | refine r_gTp (by with_unfolding_all rfl) ?_ | refine r_gsCons ?_ | refine r_gsNil ?_ | refine r_for ?_ | refine r_lc ?_ | refine r_dc ?_ | refine r_iRg1 ?_ | refine r_inT (by with_unfolding_all rfl) (by with_unfolding_all rfl) ?_)
          refine ⟨_, rfl, ?_⟩
          intro few
          refine notin_spec (A := (small)) (B := (it (rnd w inner ρ0 15) w.n (x0 false w.n))) (fun _ => rfl) (fun _ => rfl) (by have := hs1.le; omega) fun S19 e19 h19 => ?_
          (repeat with_reducible first | refine r_seq ?_ | refine r_asg ?_ | refine r_nm ?_ | refine r_var (by with_unfolding_all rfl) ?_ | refine r_c ?_ | refine r_aCons ?_ | refine r_aNil ?_ | refine r_op ?_ | refine r_call ?_ | refine r_val ?_ | refine r_bl ?_ | refine r_if ?_ | refine r_ret ?_ | refine r_next ?_ | refine r_ifT (by first | decide | (with_unfolding_all rfl)) ?_ | refine r_ifF (by first | decide | (with_unfolding_all rfl)) ?_ | refine r_tup ?_ | refine r_lst ?_ | refine r_le (Nat.le_of_ble_eq_true (by with_unfolding_all rfl)) ?_ | refine r_cb ?_ | refine r_and ?_ | refine r_or ?_ | refine r_not ?_ | refine r_eIf ?_ | refine r_eAnd ?_ | refine r_eOr ?_ | refine r_eNot ?_ | refine r_isN ?_ | refine r_mt ?_ | refine r_tr ?_ | refine r_ss ?_ | refine r_dict0 ?_ | refine r_yes ?_ | refine r_isi ?_ | refine r_ty (by with_unfolding_all rfl) ?_ | refine r_ixT (by with_unfolding_all rfl) ?_ | refine r_ixE (by with_unfolding_all rfl) (by with_unfolding_all rfl) ?_ | refine r_ixL (by assumption) (by with_unfolding_all rfl) ?_ | refine r_addI ?_ | refine r_intF ?_ | refine r_intCF (by first | decide | exact cmul_r (by decide) | exact cmul_l (by decide)) ?_ | refine r_eqI ?_ | refine r_neI ?_ | refine r_eqS ?_ | refine r_neS ?_ | refine r_eqB ?_ | refine r_neB ?_ | refine r_int ?_ | refine r_drop ?_ | refine r_sub ?_ | refine r_gTp (by with_unfolding_all rfl) ?_ | refine r_gsCons ?_ | refine r_gsNil ?_ | refine r_for ?_ | refine r_lc ?_ | refine r_dc ?_ | refine r_iRg1 ?_ | refine r_inT (by with_unfolding_all rfl) (by with_unfolding_all rfl) ?_)
          refine r_len (by show seqC S19[_]? = _; rw [h19]; rfl) ?_
          (repeat with_reducible first | refine r_seq ?_ | refine r_asg ?_ | refine r_nm ?_ | refine r_var (by with_unfolding_all rfl) ?_ | refine r_c ?_ | refine r_aCons ?_ | refine r_aNil ?_ | refine r_op ?_ | refine r_call ?_ | refine r_val ?_ | refine r_bl ?_ | refine r_if ?_ | refine r_ret ?_ | refine r_next ?_ | refine r_ifT (by first | decide | (with_unfolding_all rfl)) ?_ | refine r_ifF (by first | decide | (with_unfolding_all rfl)) ?_ | refine r_tup ?_ | refine r_lst ?_ | refine r_le (Nat.le_of_ble_eq_true (by with_unfolding_all rfl)) ?_ | refine r_cb ?_ | refine r_and ?_ | refine r_or ?_ | refine r_not ?_ | refine r_eIf ?_ | refine r_eAnd ?_ | refine r_eOr ?_ | refine r_eNot ?_ | refine r_isN ?_ | refine r_mt ?_ | refine r_tr ?_ | refine r_ss ?_ | refine r_dict0 ?_ | refine r_yes ?_ | refine r_isi ?_ | refine r_ty (by with_unfolding_all rfl) ?_ | refine r_ixT (by with_unfolding_all rfl) ?_ | refine r_ixE (by with_unfolding_all rfl) (by with_unfolding_all rfl) ?_ | refine r_ixL (by assumption) (by with_unfolding_all rfl) ?_ | refine r_addI ?_ | refine r_intF ?_ | refine r_intCF (by first | decide | exact cmul_r (by decide) | exact cmul_l (by decide)) ?_ | refine r_eqI ?_ | refine r_neI ?_ | refine r_eqS ?_ | refine r_neS ?_ | refine r_eqB ?_ | refine r_neB ?_ | refine r_int ?_ | refine r_drop ?_ | refine r_sub ?_ | refine r_gTp (by with_unfolding_all rfl) ?_ | refine r_gsCons ?_ | refine r_gsNil ?_ | refine r_for ?_ | refine r_lc ?_ | refine r_dc ?_ | refine r_iRg1 ?_ | refine r_inT (by with_unfolding_all rfl) (by with_unfolding_all rfl) ?_)
          refine r_ifF (decide_eq_false ?_) ?_
          · rw [diff_none fact]; decide
          (repeat with_reducible first | refine r_seq ?_ | refine r_asg ?_ | refine r_nm ?_ | refine r_var (by with_unfolding_all rfl) ?_ | refine r_c ?_ | refine r_aCons ?_ | refine r_aNil ?_ | refine r_op ?_ | refine r_call ?_ | refine r_val ?_ | refine r_bl ?_ | refine r_if ?_ | refine r_ret ?_ | refine r_next ?_ | refine r_ifT (by first | decide | (with_unfolding_all rfl)) ?_ | refine r_ifF (by first | decide | (with_unfolding_all rfl)) ?_ | refine r_tup ?_ | refine r_lst ?_ | refine r_le (Nat.le_of_ble_eq_true (by with_unfolding_all rfl)) ?_ | refine r_cb ?_ | refine r_and ?_ | refine r_or ?_ | refine r_not ?_ | refine r_eIf ?_ | refine r_eAnd ?_ | refine r_eOr ?_ | refine r_eNot ?_ | refine r_isN ?_ | refine r_mt ?_ | refine r_tr ?_ | refine r_ss ?_ | refine r_dict0 ?_ | refine r_yes ?_ | refine r_isi ?_ | refine r_ty (by with_unfolding_all rfl) ?_ | refine r_ixT (by with_unfolding_all rfl) ?_ | refine r_ixE (by with_unfolding_all rfl) (by with_unfolding_all rfl) ?_ | refine r_ixL (by assumption) (by with_unfolding_all rfl) ?_ | refine r_addI ?_ | refine r_intF ?_ | refine r_intCF (by first | decide | exact cmul_r (by decide) | exact cmul_l (by decide)) ?_ | refine r_eqI ?_ | refine r_neI ?_ | refine r_eqS ?_ | refine r_neS ?_ | refine r_eqB ?_ | refine r_neB ?_ | refine r_int ?_ | refine r_drop ?_ | refine r_sub ?_ | refine r_gTp (by with_unfolding_all rfl) ?_ | refine r_gsCons ?_ | refine r_gsNil ?_ | refine r_for ?_ | refine r_lc ?_ | refine r_dc ?_ | refine r_iRg1 ?_ | refine r_inT (by with_unfolding_all rfl) (by with_unfolding_all rfl) ?_)
          exact hR _ _ ⟨((P16.ext e17).ext e18).ext e19, _, _, _, _, _, rfl⟩
        · (repeat with_reducible first | refine r_seq ?_ | refine r_asg ?_ | refine r_nm ?_ | refine r_var (by with_unfolding_all rfl) ?_ | refine r_c ?_ | refine r_aCons ?_ | refine r_aNil ?_ | refine r_op ?_ | refine r_call ?_ | refine r_val ?_ | refine r_bl ?_ | refine r_if ?_ | refine r_ret ?_ | refine r_next ?_ | refine r_ifT (by first | decide | (with_unfolding_all rfl)) ?_ | refine r_ifF (by first | decide | (with_unfolding_all rfl)) ?_ | refine r_tup ?_ | refine r_lst ?_ | refine r_le (Nat.le_of_ble_eq_true (by with_unfolding_all rfl)) ?_ | refine r_cb ?_ | refine r_and ?_ | refine r_or ?_ | refine r_not ?_ | refine r_eIf ?_ | refine r_eAnd ?_ | refine r_eOr ?_ | refine r_eNot ?_ | refine r_isN ?_ | refine r_mt ?_ | refine r_tr ?_ | refine r_ss ?_ | refine r_dict0 ?_ | refine r_yes ?_ | refine r_isi ?_ | refine r_ty (by with_unfolding_all rfl) ?_ | refine r_ixT (by with_unfolding_all rfl) ?_ | refine r_ixE (by with_unfolding_all rfl) (by with_unfolding_all rfl) ?_ | refine r_ixL (by assumption) (by with_unfolding_all rfl) ?_ | refine r_addI ?_ | refine r_intF ?_ | refine r_intCF (by first | decide | exact cmul_r (by decide) | exact cmul_l (by decide)) ?_ | refine r_eqI ?_ | refine r_neI ?_ | refine r_eqS ?_ | refine r_neS ?_ | refine r_eqB ?_ | refine r_neB ?_ | refine r_int ?_ | refine r_drop ?_ | refine r_sub ?_ | refine r_gTp (by with_unfolding_all rfl) ?_ | refine r_gsCons ?_ | refine r_gsNil ?_ | refine r_for ?_ | refine r_lc ?_ | refine r_dc ?_ | refine r_iRg1 ?_ | refine r_inT (by with_unfolding_all rfl) (by with_unfolding_all rfl) ?_)
          exact hR _ _ ⟨(P16.ext e17).ext e18, _, _, _, _, _, rfl⟩
      · rintro σ S10 ⟨P10, s9, s10, s11, s12, s13, rfl⟩
        refine ⟨trivial, ?_⟩
        (repeat with_reducible first | refine r_seq ?_ | refine r_asg ?_ | refine r_nm ?_ | refine r_var (by with_unfolding_all rfl) ?_ | refine r_c ?_ | refine r_aCons ?_ | refine r_aNil ?_ | refine r_op ?_ | refine r_call ?_ | refine r_val ?_ | refine r_bl ?_ | refine r_if ?_ | refine r_ret ?_ | refine r_next ?_ | refine r_ifT (by first | decide | (with_unfolding_all rfl)) ?_ | refine r_ifF (by first | decide | (with_unfolding_all rfl)) ?_ | refine r_tup ?_ | refine r_lst ?_ | refine r_le (Nat.le_of_ble_eq_true (by with_unfolding_all rfl)) ?_ | refine r_cb ?_ | refine r_and ?_ | refine r_or ?_ | refine r_not ?_ | refine r_eIf ?_ | refine r_eAnd ?_ | refine r_eOr ?_ | refine r_eNot ?_ | refine r_isN ?_ | refine r_mt ?_ | refine r_tr ?_ | refine r_ss ?_ | refine r_dict0 ?_ | refine r_yes ?_ | refine r_isi ?_ | refine r_ty (by with_unfolding_all rfl) ?_ | refine r_ixT (by with_unfolding_all rfl) ?_ | refine r_ixE (by with_unfolding_all rfl) (by with_unfolding_all rfl) ?_ | refine r_ixL (by assumption) (by with_unfolding_all rfl) ?_ | refine r_addI ?_ | refine r_intF ?_ | refine r_intCF (by first | decide | exact cmul_r (by decide) | exact cmul_l (by decide)) ?_ | refine r_eqI ?_ | refine r_neI ?_ | refine r_eqS ?_ | refine r_neS ?_ | refine r_eqB ?_ | refine r_neB ?_ | refine r_int ?_ | refine r_drop ?_ | refine r_sub ?_ | refine r_gTp (by with_unfolding_all rfl) ?_ | refine r_gsCons ?_ | refine r_gsNil ?_ | refine r_for ?_ | refine r_lc ?_ | refine r_dc ?_ | refine r_iRg1 ?_ | refine r_inT (by with_unfolding_all rfl) (by with_unfolding_all rfl) ?_)
        rw [show ((w.n : Nat) : Int) + 2 = ((w.n + 2 : Nat) : Int) by omega]
        refine r_rg (by omega) (by omega) fun few => ?_
        refine lc_map (rowF (rnd w inner ρ0 15) (x0 false w.n)) few (fun _ _ => trivial) ?_ ?_
        · intro x hx S11 P e11 hP
          obtain ⟨k, hk, rfl⟩ := mem_rng hx
          rw [Int.toNat_natCast] at hk
          (repeat with_reducible first | refine r_seq ?_ | refine r_asg ?_ | refine r_nm ?_ | refine r_var (by with_unfolding_all rfl) ?_ | refine r_c ?_ | refine r_aCons ?_ | refine r_aNil ?_ | refine r_op ?_ | refine r_call ?_ | refine r_val ?_ | refine r_bl ?_ | refine r_if ?_ | refine r_ret ?_ | refine r_next ?_ | refine r_ifT (by first | decide | (with_unfolding_all rfl)) ?_ | refine r_ifF (by first | decide | (with_unfolding_all rfl)) ?_ | refine r_tup ?_ | refine r_lst ?_ | refine r_le (Nat.le_of_ble_eq_true (by with_unfolding_all rfl)) ?_ | refine r_cb ?_ | refine r_and ?_ | refine r_or ?_ | refine r_not ?_ | refine r_eIf ?_ | refine r_eAnd ?_ | refine r_eOr ?_ | refine r_eNot ?_ | refine r_isN ?_ | refine r_mt ?_ | refine r_tr ?_ | refine r_ss ?_ | refine r_dict0 ?_ | refine r_yes ?_ | refine r_isi ?_ | refine r_ty (by with_unfolding_all rfl) ?_ | refine r_ixT (by with_unfolding_all rfl) ?_ | refine r_ixE (by with_unfolding_all rfl) (by with_unfolding_all rfl) ?_ | refine r_ixL (by assumption) (by with_unfolding_all rfl) ?_ | refine r_addI ?_ | refine r_intF ?_ | refine r_intCF (by first | decide | exact cmul_r (by decide) | exact cmul_l (by decide)) ?_ | refine r_eqI ?_ | refine r_neI ?_ | refine r_eqS ?_ | refine r_neS ?_ | refine r_eqB ?_ | refine r_neB ?_ | refine r_int ?_ | refine r_drop ?_ | refine r_sub ?_ | refine r_gTp (by with_unfolding_all rfl) ?_ | refine r_gsCons ?_ | refine r_gsNil ?_ | refine r_for ?_ | refine r_lc ?_ | refine r_dc ?_ | refine r_iRg1 ?_ | refine r_inT (by with_unfolding_all rfl) (by with_unfolding_all rfl) ?_)
          exact round_spec hw hn (b := false) (x := 15) (a := inner) (by omega) sc (by omega) fun S12 e12 => hP S12 e12
        intro S11 e11 h11
        rw [row_map] at h11
        (repeat with_reducible first | refine r_seq ?_ | refine r_asg ?_ | refine r_nm ?_ | refine r_var (by with_unfolding_all rfl) ?_ | refine r_c ?_ | refine r_aCons ?_ | refine r_aNil ?_ | refine r_op ?_ | refine r_call ?_ | refine r_val ?_ | refine r_bl ?_ | refine r_if ?_ | refine r_ret ?_ | refine r_next ?_ | refine r_ifT (by first | decide | (with_unfolding_all rfl)) ?_ | refine r_ifF (by first | decide | (with_unfolding_all rfl)) ?_ | refine r_tup ?_ | refine r_lst ?_ | refine r_le (Nat.le_of_ble_eq_true (by with_unfolding_all rfl)) ?_ | refine r_cb ?_ | refine r_and ?_ | refine r_or ?_ | refine r_not ?_ | refine r_eIf ?_ | refine r_eAnd ?_ | refine r_eOr ?_ | refine r_eNot ?_ | refine r_isN ?_ | refine r_mt ?_ | refine r_tr ?_ | refine r_ss ?_ | refine r_dict0 ?_ | refine r_yes ?_ | refine r_isi ?_ | refine r_ty (by with_unfolding_all rfl) ?_ | refine r_ixT (by with_unfolding_all rfl) ?_ | refine r_ixE (by with_unfolding_all rfl) (by with_unfolding_all rfl) ?_ | refine r_ixL (by assumption) (by with_unfolding_all rfl) ?_ | refine r_addI ?_ | refine r_intF ?_ | refine r_intCF (by first | decide | exact cmul_r (by decide) | exact cmul_l (by decide)) ?_ | refine r_eqI ?_ | refine r_neI ?_ | refine r_eqS ?_ | refine r_neS ?_ | refine r_eqB ?_ | refine r_neB ?_ | refine r_int ?_ | refine r_drop ?_ | refine r_sub ?_ | refine r_gTp (by with_unfolding_all rfl) ?_ | refine r_gsCons ?_ | refine r_gsNil ?_ | refine r_for ?_ | refine r_lc ?_ | refine r_dc ?_ | refine r_iRg1 ?_ | refine r_inT (by with_unfolding_all rfl) (by with_unfolding_all rfl) ?_)
        refine r_ixL h11 (row_at (rnd w inner ρ0 15) (x0 false w.n) (k := 0) (by omega)) ?_
        (repeat with_reducible first | refine r_seq ?_ | refine r_asg ?_ | refine r_nm ?_ | refine r_var (by with_unfolding_all rfl) ?_ | refine r_c ?_ | refine r_aCons ?_ | refine r_aNil ?_ | refine r_op ?_ | refine r_call ?_ | refine r_val ?_ | refine r_bl ?_ | refine r_if ?_ | refine r_ret ?_ | refine r_next ?_ | refine r_ifT (by first | decide | (with_unfolding_all rfl)) ?_ | refine r_ifF (by first | decide | (with_unfolding_all rfl)) ?_ | refine r_tup ?_ | refine r_lst ?_ | refine r_le (Nat.le_of_ble_eq_true (by with_unfolding_all rfl)) ?_ | refine r_cb ?_ | refine r_and ?_ | refine r_or ?_ | refine r_not ?_ | refine r_eIf ?_ | refine r_eAnd ?_ | refine r_eOr ?_ | refine r_eNot ?_ | refine r_isN ?_ | refine r_mt ?_ | refine r_tr ?_ | refine r_ss ?_ | refine r_dict0 ?_ | refine r_yes ?_ | refine r_isi ?_ | refine r_ty (by with_unfolding_all rfl) ?_ | refine r_ixT (by with_unfolding_all rfl) ?_ | refine r_ixE (by with_unfolding_all rfl) (by with_unfolding_all rfl) ?_ | refine r_ixL (by assumption) (by with_unfolding_all rfl) ?_ | refine r_addI ?_ | refine r_intF ?_ | refine r_intCF (by first | decide | exact cmul_r (by decide) | exact cmul_l (by decide)) ?_ | refine r_eqI ?_ | refine r_neI ?_ | refine r_eqS ?_ | refine r_neS ?_ | refine r_eqB ?_ | refine r_neB ?_ | refine r_int ?_ | refine r_drop ?_ | refine r_sub ?_ | refine r_gTp (by with_unfolding_all rfl) ?_ | refine r_gsCons ?_ | refine r_gsNil ?_ | refine r_for ?_ | refine r_lc ?_ | refine r_dc ?_ | refine r_iRg1 ?_ | refine r_inT (by with_unfolding_all rfl) (by with_unfolding_all rfl) ?_)
        refine ⟨(w.n : Nat), rfl, by omega, by omega, ?_⟩
        rw [encP_range]
        refine r_neP (a := x0 false w.n) (b := x0 false w.n) ?_
        (repeat with_reducible first | refine r_seq ?_ | refine r_asg ?_ | refine r_nm ?_ | refine r_var (by with_unfolding_all rfl) ?_ | refine r_c ?_ | refine r_aCons ?_ | refine r_aNil ?_ | refine r_op ?_ | refine r_call ?_ | refine r_val ?_ | refine r_bl ?_ | refine r_if ?_ | refine r_ret ?_ | refine r_next ?_ | refine r_ifT (by first | decide | (with_unfolding_all rfl)) ?_ | refine r_ifF (by first | decide | (with_unfolding_all rfl)) ?_ | refine r_tup ?_ | refine r_lst ?_ | refine r_le (Nat.le_of_ble_eq_true (by with_unfolding_all rfl)) ?_ | refine r_cb ?_ | refine r_and ?_ | refine r_or ?_ | refine r_not ?_ | refine r_eIf ?_ | refine r_eAnd ?_ | refine r_eOr ?_ | refine r_eNot ?_ | refine r_isN ?_ | refine r_mt ?_ | refine r_tr ?_ | refine r_ss ?_ | refine r_dict0 ?_ | refine r_yes ?_ | refine r_isi ?_ | refine r_ty (by with_unfolding_all rfl) ?_ | refine r_ixT (by with_unfolding_all rfl) ?_ | refine r_ixE (by with_unfolding_all rfl) (by with_unfolding_all rfl) ?_ | refine r_ixL (by assumption) (by with_unfolding_all rfl) ?_ | refine r_addI ?_ | refine r_intF ?_ | refine r_intCF (by first | decide | exact cmul_r (by decide) | exact cmul_l (by decide)) ?_ | refine r_eqI ?_ | refine r_neI ?_ | refine r_eqS ?_ | refine r_neS ?_ | refine r_eqB ?_ | refine r_neB ?_ | refine r_int ?_ | refine r_drop ?_ | refine r_sub ?_ | refine r_gTp (by with_unfolding_all rfl) ?_ | refine r_gsCons ?_ | refine r_gsNil ?_ | refine r_for ?_ | refine r_lc ?_ | refine r_dc ?_ | refine r_iRg1 ?_ | refine r_inT (by with_unfolding_all rfl) (by with_unfolding_all rfl) ?_)
        try (with_reducible refine r_ifF (by simp) ?_)
        (repeat with_reducible first | refine r_seq ?_ | refine r_asg ?_ | refine r_nm ?_ | refine r_var (by with_unfolding_all rfl) ?_ | refine r_c ?_ | refine r_aCons ?_ | refine r_aNil ?_ | refine r_op ?_ | refine r_call ?_ | refine r_val ?_ | refine r_bl ?_ | refine r_if ?_ | refine r_ret ?_ | refine r_next ?_ | refine r_ifT (by first | decide | (with_unfolding_all rfl)) ?_ | refine r_ifF (by first | decide | (with_unfolding_all rfl)) ?_ | refine r_tup ?_ | refine r_lst ?_ | refine r_le (Nat.le_of_ble_eq_true (by with_unfolding_all rfl)) ?_ | refine r_cb ?_ | refine r_and ?_ | refine r_or ?_ | refine r_not ?_ | refine r_eIf ?_ | refine r_eAnd ?_ | refine r_eOr ?_ | refine r_eNot ?_ | refine r_isN ?_ | refine r_mt ?_ | refine r_tr ?_ | refine r_ss ?_ | refine r_dict0 ?_ | refine r_yes ?_ | refine r_isi ?_ | refine r_ty (by with_unfolding_all rfl) ?_ | refine r_ixT (by with_unfolding_all rfl) ?_ | refine r_ixE (by with_unfolding_all rfl) (by with_unfolding_all rfl) ?_ | refine r_ixL (by assumption) (by with_unfolding_all rfl) ?_ | refine r_addI ?_ | refine r_intF ?_ | refine r_intCF (by first | decide | exact cmul_r (by decide) | exact cmul_l (by decide)) ?_ | refine r_eqI ?_ | refine r_neI ?_ | refine r_eqS ?_ | refine r_neS ?_ | refine r_eqB ?_ | refine r_neB ?_ | refine r_int ?_ | refine r_drop ?_ | refine r_sub ?_ | refine r_gTp (by with_unfolding_all rfl) ?_ | refine r_gsCons ?_ | refine r_gsNil ?_ | refine r_for ?_ | refine r_lc ?_ | refine r_dc ?_ | refine r_iRg1 ?_ | refine r_inT (by with_unfolding_all rfl) (by with_unfolding_all rfl) ?_)
        refine r_ixL h11 (row_at (rnd w inner ρ0 15) (x0 false w.n) (by omega)) ?_
        (repeat with_reducible first | refine r_seq ?_ | refine r_asg ?_ | refine r_nm ?_ | refine r_var (by with_unfolding_all rfl) ?_ | refine r_c ?_ | refine r_aCons ?_ | refine r_aNil ?_ | refine r_op ?_ | refine r_call ?_ | refine r_val ?_ | refine r_bl ?_ | refine r_if ?_ | refine r_ret ?_ | refine r_next ?_ | refine r_ifT (by first | decide | (with_unfolding_all rfl)) ?_ | refine r_ifF (by first | decide | (with_unfolding_all rfl)) ?_ | refine r_tup ?_ | refine r_lst ?_ | refine r_le (Nat.le_of_ble_eq_true (by with_unfolding_all rfl)) ?_ | refine r_cb ?_ | refine r_and ?_ | refine r_or ?_ | refine r_not ?_ | refine r_eIf ?_ | refine r_eAnd ?_ | refine r_eOr ?_ | refine r_eNot ?_ | refine r_isN ?_ | refine r_mt ?_ | refine r_tr ?_ | refine r_ss ?_ | refine r_dict0 ?_ | refine r_yes ?_ | refine r_isi ?_ | refine r_ty (by with_unfolding_all rfl) ?_ | refine r_ixT (by with_unfolding_all rfl) ?_ | refine r_ixE (by with_unfolding_all rfl) (by with_unfolding_all rfl) ?_ | refine r_ixL (by assumption) (by with_unfolding_all rfl) ?_ | refine r_addI ?_ | refine r_intF ?_ | refine r_intCF (by first | decide | exact cmul_r (by decide) | exact cmul_l (by decide)) ?_ | refine r_eqI ?_ | refine r_neI ?_ | refine r_eqS ?_ | refine r_neS ?_ | refine r_eqB ?_ | refine r_neB ?_ | refine r_int ?_ | refine r_drop ?_ | refine r_sub ?_ | refine r_gTp (by with_unfolding_all rfl) ?_ | refine r_gsCons ?_ | refine r_gsNil ?_ | refine r_for ?_ | refine r_lc ?_ | refine r_dc ?_ | refine r_iRg1 ?_ | refine r_inT (by with_unfolding_all rfl) (by with_unfolding_all rfl) ?_)
        refine r_neP (a := it (rnd w inner ρ0 15) w.n (x0 false w.n)) (b := it (rnd w inner ρ0 15) w.n (x0 false w.n)) ?_
        (repeat with_reducible first | refine r_seq ?_ | refine r_asg ?_ | refine r_nm ?_ | refine r_var (by with_unfolding_all rfl) ?_ | refine r_c ?_ | refine r_aCons ?_ | refine r_aNil ?_ | refine r_op ?_ | refine r_call ?_ | refine r_val ?_ | refine r_bl ?_ | refine r_if ?_ | refine r_ret ?_ | refine r_next ?_ | refine r_ifT (by first | decide | (with_unfolding_all rfl)) ?_ | refine r_ifF (by first | decide | (with_unfolding_all rfl)) ?_ | refine r_tup ?_ | refine r_lst ?_ | refine r_le (Nat.le_of_ble_eq_true (by with_unfolding_all rfl)) ?_ | refine r_cb ?_ | refine r_and ?_ | refine r_or ?_ | refine r_not ?_ | refine r_eIf ?_ | refine r_eAnd ?_ | refine r_eOr ?_ | refine r_eNot ?_ | refine r_isN ?_ | refine r_mt ?_ | refine r_tr ?_ | refine r_ss ?_ | refine r_dict0 ?_ | refine r_yes ?_ | refine r_isi ?_ | refine r_ty (by with_unfolding_all rfl) ?_ | refine r_ixT (by with_unfolding_all rfl) ?_ | refine r_ixE (by with_unfolding_all rfl) (by with_unfolding_all rfl) ?_ | refine r_ixL (by assumption) (by with_unfolding_all rfl) ?_ | refine r_addI ?_ | refine r_intF ?_ | refine r_intCF (by first | decide | exact cmul_r (by decide) | exact cmul_l (by decide)) ?_ | refine r_eqI ?_ | refine r_neI ?_ | refine r_eqS ?_ | refine r_neS ?_ | refine r_eqB ?_ | refine r_neB ?_ | refine r_int ?_ | refine r_drop ?_ | refine r_sub ?_ | refine r_gTp (by with_unfolding_all rfl) ?_ | refine r_gsCons ?_ | refine r_gsNil ?_ | refine r_for ?_ | refine r_lc ?_ | refine r_dc ?_ | refine r_iRg1 ?_ | refine r_inT (by with_unfolding_all rfl) (by with_unfolding_all rfl) ?_)
        refine r_ifF (by simp) ?_
        (repeat with_reducible first | refine r_seq ?_ | refine r_asg ?_ | refine r_nm ?_ | refine r_var (by with_unfolding_all rfl) ?_ | refine r_c ?_ | refine r_aCons ?_ | refine r_aNil ?_ | refine r_op ?_ | refine r_call ?_ | refine r_val ?_ | refine r_bl ?_ | refine r_if ?_ | refine r_ret ?_ | refine r_next ?_ | refine r_ifT (by first | decide | (with_unfolding_all rfl)) ?_ | refine r_ifF (by first | decide | (with_unfolding_all rfl)) ?_ | refine r_tup ?_ | refine r_lst ?_ | refine r_le (Nat.le_of_ble_eq_true (by with_unfolding_all rfl)) ?_ | refine r_cb ?_ | refine r_and ?_ | refine r_or ?_ | refine r_not ?_ | refine r_eIf ?_ | refine r_eAnd ?_ | refine r_eOr ?_ | refine r_eNot ?_ | refine r_isN ?_ | refine r_mt ?_ | refine r_tr ?_ | refine r_ss ?_ | refine r_dict0 ?_ | refine r_yes ?_ | refine r_isi ?_ | refine r_ty (by with_unfolding_all rfl) ?_ | refine r_ixT (by with_unfolding_all rfl) ?_ | refine r_ixE (by with_unfolding_all rfl) (by with_unfolding_all rfl) ?_ | refine r_ixL (by assumption) (by with_unfolding_all rfl) ?_ | refine r_addI ?_ | refine r_intF ?_ | refine r_intCF (by first | decide | exact cmul_r (by decide) | exact cmul_l (by decide)) ?_ | refine r_eqI ?_ | refine r_neI ?_ | refine r_eqS ?_ | refine r_neS ?_ | refine r_eqB ?_ | refine r_neB ?_ | refine r_int ?_ | refine r_drop ?_ | refine r_sub ?_ | refine r_gTp (by with_unfolding_all rfl) ?_ | refine r_gsCons ?_ | refine r_gsNil ?_ | refine r_for ?_ | refine r_lc ?_ | refine r_dc ?_ | refine r_iRg1 ?_ | refine r_inT (by with_unfolding_all rfl) (by with_unfolding_all rfl) ?_)
        rw [show ((w.n : Nat) : Int) + 1 = ((w.n + 1 : Nat) : Int) by omega]
        refine r_ixL h11 (row_at (rnd w inner ρ0 15) (x0 false w.n) (by omega)) ?_
        (repeat with_reducible first | refine r_seq ?_ | refine r_asg ?_ | refine r_nm ?_ | refine r_var (by with_unfolding_all rfl) ?_ | refine r_c ?_ | refine r_aCons ?_ | refine r_aNil ?_ | refine r_op ?_ | refine r_call ?_ | refine r_val ?_ | refine r_bl ?_ | refine r_if ?_ | refine r_ret ?_ | refine r_next ?_ | refine r_ifT (by first | decide | (with_unfolding_all rfl)) ?_ | refine r_ifF (by first | decide | (with_unfolding_all rfl)) ?_ | refine r_tup ?_ | refine r_lst ?_ | refine r_le (Nat.le_of_ble_eq_true (by with_unfolding_all rfl)) ?_ | refine r_cb ?_ | refine r_and ?_ | refine r_or ?_ | refine r_not ?_ | refine r_eIf ?_ | refine r_eAnd ?_ | refine r_eOr ?_ | refine r_eNot ?_ | refine r_isN ?_ | refine r_mt ?_ | refine r_tr ?_ | refine r_ss ?_ | refine r_dict0 ?_ | refine r_yes ?_ | refine r_isi ?_ | refine r_ty (by with_unfolding_all rfl) ?_ | refine r_ixT (by with_unfolding_all rfl) ?_ | refine r_ixE (by with_unfolding_all rfl) (by with_unfolding_all rfl) ?_ | refine r_ixL (by assumption) (by with_unfolding_all rfl) ?_ | refine r_addI ?_ | refine r_intF ?_ | refine r_intCF (by first | decide | exact cmul_r (by decide) | exact cmul_l (by decide)) ?_ | refine r_eqI ?_ | refine r_neI ?_ | refine r_eqS ?_ | refine r_neS ?_ | refine r_eqB ?_ | refine r_neB ?_ | refine r_int ?_ | refine r_drop ?_ | refine r_sub ?_ | refine r_gTp (by with_unfolding_all rfl) ?_ | refine r_gsCons ?_ | refine r_gsNil ?_ | refine r_for ?_ | refine r_lc ?_ | refine r_dc ?_ | refine r_iRg1 ?_ | refine r_inT (by with_unfolding_all rfl) (by with_unfolding_all rfl) ?_)
        rw [rest]
        refine r_neP (a := it (rnd w inner ρ0 15) w.n (x0 false w.n)) (b := it (rnd w inner ρ0 15) w.n (x0 false w.n)) ?_
        (repeat with_reducible first | refine r_seq ?_ | refine r_asg ?_ | refine r_nm ?_ | refine r_var (by with_unfolding_all rfl) ?_ | refine r_c ?_ | refine r_aCons ?_ | refine r_aNil ?_ | refine r_op ?_ | refine r_call ?_ | refine r_val ?_ | refine r_bl ?_ | refine r_if ?_ | refine r_ret ?_ | refine r_next ?_ | refine r_ifT (by first | decide | (with_unfolding_all rfl)) ?_ | refine r_ifF (by first | decide | (with_unfolding_all rfl)) ?_ | refine r_tup ?_ | refine r_lst ?_ | refine r_le (Nat.le_of_ble_eq_true (by with_unfolding_all rfl)) ?_ | refine r_cb ?_ | refine r_and ?_ | refine r_or ?_ | refine r_not ?_ | refine r_eIf ?_ | refine r_eAnd ?_ | refine r_eOr ?_ | refine r_eNot ?_ | refine r_isN ?_ | refine r_mt ?_ | refine r_tr ?_ | refine r_ss ?_ | refine r_dict0 ?_ | refine r_yes ?_ | refine r_isi ?_ | refine r_ty (by with_unfolding_all rfl) ?_ | refine r_ixT (by with_unfolding_all rfl) ?_ | refine r_ixE (by with_unfolding_all rfl) (by with_unfolding_all rfl) ?_ | refine r_ixL (by assumption) (by with_unfolding_all rfl) ?_ | refine r_addI ?_ | refine r_intF ?_ | refine r_intCF (by first | decide | exact cmul_r (by decide) | exact cmul_l (by decide)) ?_ | refine r_eqI ?_ | refine r_neI ?_ | refine r_eqS ?_ | refine r_neS ?_ | refine r_eqB ?_ | refine r_neB ?_ | refine r_int ?_ | refine r_drop ?_ | refine r_sub ?_ | refine r_gTp (by with_unfolding_all rfl) ?_ | refine r_gsCons ?_ | refine r_gsNil ?_ | refine r_for ?_ | refine r_lc ?_ | refine r_dc ?_ | refine r_iRg1 ?_ | refine r_inT (by with_unfolding_all rfl) (by with_unfolding_all rfl) ?_)
        refine r_ifF (by simp) ?_
        (repeat with_reducible first | refine r_seq ?_ | refine r_asg ?_ | refine r_nm ?_ | refine r_var (by with_unfolding_all rfl) ?_ | refine r_c ?_ | refine r_aCons ?_ | refine r_aNil ?_ | refine r_op ?_ | refine r_call ?_ | refine r_val ?_ | refine r_bl ?_ | refine r_if ?_ | refine r_ret ?_ | refine r_next ?_ | refine r_ifT (by first | decide | (with_unfolding_all rfl)) ?_ | refine r_ifF (by first | decide | (with_unfolding_all rfl)) ?_ | refine r_tup ?_ | refine r_lst ?_ | refine r_le (Nat.le_of_ble_eq_true (by with_unfolding_all rfl)) ?_ | refine r_cb ?_ | refine r_and ?_ | refine r_or ?_ | refine r_not ?_ | refine r_eIf ?_ | refine r_eAnd ?_ | refine r_eOr ?_ | refine r_eNot ?_ | refine r_isN ?_ | refine r_mt ?_ | refine r_tr ?_ | refine r_ss ?_ | refine r_dict0 ?_ | refine r_yes ?_ | refine r_isi ?_ | refine r_ty (by with_unfolding_all rfl) ?_ | refine r_ixT (by with_unfolding_all rfl) ?_ | refine r_ixE (by with_unfolding_all rfl) (by with_unfolding_all rfl) ?_ | refine r_ixL (by assumption) (by with_unfolding_all rfl) ?_ | refine r_addI ?_ | refine r_intF ?_ | refine r_intCF (by first | decide | exact cmul_r (by decide) | exact cmul_l (by decide)) ?_ | refine r_eqI ?_ | refine r_neI ?_ | refine r_eqS ?_ | refine r_neS ?_ | refine r_eqB ?_ | refine r_neB ?_ | refine r_int ?_ | refine r_drop ?_ | refine r_sub ?_ | refine r_gTp (by with_unfolding_all rfl) ?_ | refine r_gsCons ?_ | refine r_gsNil ?_ | refine r_for ?_ | refine r_lc ?_ | refine r_dc ?_ | refine r_iRg1 ?_ | refine r_inT (by with_unfolding_all rfl) (by with_unfolding_all rfl) ?_)
        rw [show ((w.n : Nat) : Int) + 1 = ((w.n + 1 : Nat) : Int) by omega]
        refine r_rg (by omega) (by omega) fun few => ?_
        refine lc_filter (fun _ => false) id few (fun _ _ => trivial) ?_ ?_ ?_
        · intro x hx S12 P e12 hP
          obtain ⟨k, hk, rfl⟩ := mem_rng hx
          rw [Int.toNat_natCast] at hk
          have h12 := e12 _ _ h11
          (repeat with_reducible first | refine r_seq ?_ | refine r_asg ?_ | refine r_nm ?_ | refine r_var (by with_unfolding_all rfl) ?_ | refine r_c ?_ | refine r_aCons ?_ | refine r_aNil ?_ | refine r_op ?_ | refine r_call ?_ | refine r_val ?_ | refine r_bl ?_ | refine r_if ?_ | refine r_ret ?_ | refine r_next ?_ | refine r_ifT (by first | decide | (with_unfolding_all rfl)) ?_ | refine r_ifF (by first | decide | (with_unfolding_all rfl)) ?_ | refine r_tup ?_ | refine r_lst ?_ | refine r_le (Nat.le_of_ble_eq_true (by with_unfolding_all rfl)) ?_ | refine r_cb ?_ | refine r_and ?_ | refine r_or ?_ | refine r_not ?_ | refine r_eIf ?_ | refine r_eAnd ?_ | refine r_eOr ?_ | refine r_eNot ?_ | refine r_isN ?_ | refine r_mt ?_ | refine r_tr ?_ | refine r_ss ?_ | refine r_dict0 ?_ | refine r_yes ?_ | refine r_isi ?_ | refine r_ty (by with_unfolding_all rfl) ?_ | refine r_ixT (by with_unfolding_all rfl) ?_ | refine r_ixE (by with_unfolding_all rfl) (by with_unfolding_all rfl) ?_ | refine r_ixL (by assumption) (by with_unfolding_all rfl) ?_ | refine r_addI ?_ | refine r_intF ?_ | refine r_intCF (by first | decide | exact cmul_r (by decide) | exact cmul_l (by decide)) ?_ | refine r_eqI ?_ | refine r_neI ?_ | refine r_eqS ?_ | refine r_neS ?_ | refine r_eqB ?_ | refine r_neB ?_ | refine r_int ?_ | refine r_drop ?_ | refine r_sub ?_ | refine r_gTp (by with_unfolding_all rfl) ?_ | refine r_gsCons ?_ | refine r_gsNil ?_ | refine r_for ?_ | refine r_lc ?_ | refine r_dc ?_ | refine r_iRg1 ?_ | refine r_inT (by with_unfolding_all rfl) (by with_unfolding_all rfl) ?_)
          rw [show ((k : Nat) : Int) + 1 = ((k + 1 : Nat) : Int) by omega]
          refine r_ixL h12 (row_at (rnd w inner ρ0 15) (x0 false w.n) (by omega)) ?_
          (repeat with_reducible first | refine r_seq ?_ | refine r_asg ?_ | refine r_nm ?_ | refine r_var (by with_unfolding_all rfl) ?_ | refine r_c ?_ | refine r_aCons ?_ | refine r_aNil ?_ | refine r_op ?_ | refine r_call ?_ | refine r_val ?_ | refine r_bl ?_ | refine r_if ?_ | refine r_ret ?_ | refine r_next ?_ | refine r_ifT (by first | decide | (with_unfolding_all rfl)) ?_ | refine r_ifF (by first | decide | (with_unfolding_all rfl)) ?_ | refine r_tup ?_ | refine r_lst ?_ | refine r_le (Nat.le_of_ble_eq_true (by with_unfolding_all rfl)) ?_ | refine r_cb ?_ | refine r_and ?_ | refine r_or ?_ | refine r_not ?_ | refine r_eIf ?_ | refine r_eAnd ?_ | refine r_eOr ?_ | refine r_eNot ?_ | refine r_isN ?_ | refine r_mt ?_ | refine r_tr ?_ | refine r_ss ?_ | refine r_dict0 ?_ | refine r_yes ?_ | refine r_isi ?_ | refine r_ty (by with_unfolding_all rfl) ?_ | refine r_ixT (by with_unfolding_all rfl) ?_ | refine r_ixE (by with_unfolding_all rfl) (by with_unfolding_all rfl) ?_ | refine r_ixL (by assumption) (by with_unfolding_all rfl) ?_ | refine r_addI ?_ | refine r_intF ?_ | refine r_intCF (by first | decide | exact cmul_r (by decide) | exact cmul_l (by decide)) ?_ | refine r_eqI ?_ | refine r_neI ?_ | refine r_eqS ?_ | refine r_neS ?_ | refine r_eqB ?_ | refine r_neB ?_ | refine r_int ?_ | refine r_drop ?_ | refine r_sub ?_ | refine r_gTp (by with_unfolding_all rfl) ?_ | refine r_gsCons ?_ | refine r_gsNil ?_ | refine r_for ?_ | refine r_lc ?_ | refine r_dc ?_ | refine r_iRg1 ?_ | refine r_inT (by with_unfolding_all rfl) (by with_unfolding_all rfl) ?_)
          refine disp_spec (x := 15) (X := it (rnd w inner ρ0 15) k (x0 false w.n)) (fun S P h => h) (fun S P e h => ?_) fun S13 e13 h13 => ?_
          · (repeat with_reducible first | refine r_seq ?_ | refine r_asg ?_ | refine r_nm ?_ | refine r_var (by with_unfolding_all rfl) ?_ | refine r_c ?_ | refine r_aCons ?_ | refine r_aNil ?_ | refine r_op ?_ | refine r_call ?_ | refine r_val ?_ | refine r_bl ?_ | refine r_if ?_ | refine r_ret ?_ | refine r_next ?_ | refine r_ifT (by first | decide | (with_unfolding_all rfl)) ?_ | refine r_ifF (by first | decide | (with_unfolding_all rfl)) ?_ | refine r_tup ?_ | refine r_lst ?_ | refine r_le (Nat.le_of_ble_eq_true (by with_unfolding_all rfl)) ?_ | refine r_cb ?_ | refine r_and ?_ | refine r_or ?_ | refine r_not ?_ | refine r_eIf ?_ | refine r_eAnd ?_ | refine r_eOr ?_ | refine r_eNot ?_ | refine r_isN ?_ | refine r_mt ?_ | refine r_tr ?_ | refine r_ss ?_ | refine r_dict0 ?_ | refine r_yes ?_ | refine r_isi ?_ | refine r_ty (by with_unfolding_all rfl) ?_ | refine r_ixT (by with_unfolding_all rfl) ?_ | refine r_ixE (by with_unfolding_all rfl) (by with_unfolding_all rfl) ?_ | refine r_ixL (by assumption) (by with_unfolding_all rfl) ?_ | refine r_addI ?_ | refine r_intF ?_ | refine r_intCF (by first | decide | exact cmul_r (by decide) | exact cmul_l (by decide)) ?_ | refine r_eqI ?_ | refine r_neI ?_ | refine r_eqS ?_ | refine r_neS ?_ | refine r_eqB ?_ | refine r_neB ?_ | refine r_int ?_ | refine r_drop ?_ | refine r_sub ?_ | refine r_gTp (by with_unfolding_all rfl) ?_ | refine r_gsCons ?_ | refine r_gsNil ?_ | refine r_for ?_ | refine r_lc ?_ | refine r_dc ?_ | refine r_iRg1 ?_ | refine r_inT (by with_unfolding_all rfl) (by with_unfolding_all rfl) ?_)
            exact r_ixL (e _ _ h12) (row_at (rnd w inner ρ0 15) (x0 false w.n) (by omega)) h
          (repeat with_reducible first | refine r_seq ?_ | refine r_asg ?_ | refine r_nm ?_ | refine r_var (by with_unfolding_all rfl) ?_ | refine r_c ?_ | refine r_aCons ?_ | refine r_aNil ?_ | refine r_op ?_ | refine r_call ?_ | refine r_val ?_ | refine r_bl ?_ | refine r_if ?_ | refine r_ret ?_ | refine r_next ?_ | refine r_ifT (by first | decide | (with_unfolding_all rfl)) ?_ | refine r_ifF (by first | decide | (with_unfolding_all rfl)) ?_ | refine r_tup ?_ | refine r_lst ?_ | refine r_le (Nat.le_of_ble_eq_true (by with_unfolding_all rfl)) ?_ | refine r_cb ?_ | refine r_and ?_ | refine r_or ?_ | refine r_not ?_ | refine r_eIf ?_ | refine r_eAnd ?_ | refine r_eOr ?_ | refine r_eNot ?_ | refine r_isN ?_ | refine r_mt ?_ | refine r_tr ?_ | refine r_ss ?_ | refine r_dict0 ?_ | refine r_yes ?_ | refine r_isi ?_ | refine r_ty (by with_unfolding_all rfl) ?_ | refine r_ixT (by with_unfolding_all rfl) ?_ | refine r_ixE (by with_unfolding_all rfl) (by with_unfolding_all rfl) ?_ | refine r_ixL (by assumption) (by with_unfolding_all rfl) ?_ | refine r_addI ?_ | refine r_intF ?_ | refine r_intCF (by first | decide | exact cmul_r (by decide) | exact cmul_l (by decide)) ?_ | refine r_eqI ?_ | refine r_neI ?_ | refine r_eqS ?_ | refine r_neS ?_ | refine r_eqB ?_ | refine r_neB ?_ | refine r_int ?_ | refine r_drop ?_ | refine r_sub ?_ | refine r_gTp (by with_unfolding_all rfl) ?_ | refine r_gsCons ?_ | refine r_gsNil ?_ | refine r_for ?_ | refine r_lc ?_ | refine r_dc ?_ | refine r_iRg1 ?_ | refine r_inT (by with_unfolding_all rfl) (by with_unfolding_all rfl) ?_)
          refine worth1_spec hw hn (it_ok ho (x0_ok _ _) k) (by omega) sc h13 fun S14 e14 => ?_
          refine r_neP (a := it (rnd w inner ρ0 15) (k + 1) (x0 false w.n)) (b := it (rnd w inner ρ0 15) (k + 1) (x0 false w.n)) ?_
          (repeat with_reducible first | refine r_seq ?_ | refine r_asg ?_ | refine r_nm ?_ | refine r_var (by with_unfolding_all rfl) ?_ | refine r_c ?_ | refine r_aCons ?_ | refine r_aNil ?_ | refine r_op ?_ | refine r_call ?_ | refine r_val ?_ | refine r_bl ?_ | refine r_if ?_ | refine r_ret ?_ | refine r_next ?_ | refine r_ifT (by first | decide | (with_unfolding_all rfl)) ?_ | refine r_ifF (by first | decide | (with_unfolding_all rfl)) ?_ | refine r_tup ?_ | refine r_lst ?_ | refine r_le (Nat.le_of_ble_eq_true (by with_unfolding_all rfl)) ?_ | refine r_cb ?_ | refine r_and ?_ | refine r_or ?_ | refine r_not ?_ | refine r_eIf ?_ | refine r_eAnd ?_ | refine r_eOr ?_ | refine r_eNot ?_ | refine r_isN ?_ | refine r_mt ?_ | refine r_tr ?_ | refine r_ss ?_ | refine r_dict0 ?_ | refine r_yes ?_ | refine r_isi ?_ | refine r_ty (by with_unfolding_all rfl) ?_ | refine r_ixT (by with_unfolding_all rfl) ?_ | refine r_ixE (by with_unfolding_all rfl) (by with_unfolding_all rfl) ?_ | refine r_ixL (by assumption) (by with_unfolding_all rfl) ?_ | refine r_addI ?_ | refine r_intF ?_ | refine r_intCF (by first | decide | exact cmul_r (by decide) | exact cmul_l (by decide)) ?_ | refine r_eqI ?_ | refine r_neI ?_ | refine r_eqS ?_ | refine r_neS ?_ | refine r_eqB ?_ | refine r_neB ?_ | refine r_int ?_ | refine r_drop ?_ | refine r_sub ?_ | refine r_gTp (by with_unfolding_all rfl) ?_ | refine r_gsCons ?_ | refine r_gsNil ?_ | refine r_for ?_ | refine r_lc ?_ | refine r_dc ?_ | refine r_iRg1 ?_ | refine r_inT (by with_unfolding_all rfl) (by with_unfolding_all rfl) ?_)
          have := hP S14 (e13.trans e14)
          simpa using this
        · intro x hx S12 P e12 hP
          exact r_var rfl (hP S12 (.refl _))
        · intro S12 e12 h12
          (repeat with_reducible first | refine r_seq ?_ | refine r_asg ?_ | refine r_nm ?_ | refine r_var (by with_unfolding_all rfl) ?_ | refine r_c ?_ | refine r_aCons ?_ | refine r_aNil ?_ | refine r_op ?_ | refine r_call ?_ | refine r_val ?_ | refine r_bl ?_ | refine r_if ?_ | refine r_ret ?_ | refine r_next ?_ | refine r_ifT (by first | decide | (with_unfolding_all rfl)) ?_ | refine r_ifF (by first | decide | (with_unfolding_all rfl)) ?_ | refine r_tup ?_ | refine r_lst ?_ | refine r_le (Nat.le_of_ble_eq_true (by with_unfolding_all rfl)) ?_ | refine r_cb ?_ | refine r_and ?_ | refine r_or ?_ | refine r_not ?_ | refine r_eIf ?_ | refine r_eAnd ?_ | refine r_eOr ?_ | refine r_eNot ?_ | refine r_isN ?_ | refine r_mt ?_ | refine r_tr ?_ | refine r_ss ?_ | refine r_dict0 ?_ | refine r_yes ?_ | refine r_isi ?_ | refine r_ty (by with_unfolding_all rfl) ?_ | refine r_ixT (by with_unfolding_all rfl) ?_ | refine r_ixE (by with_unfolding_all rfl) (by with_unfolding_all rfl) ?_ | refine r_ixL (by assumption) (by with_unfolding_all rfl) ?_ | refine r_addI ?_ | refine r_intF ?_ | refine r_intCF (by first | decide | exact cmul_r (by decide) | exact cmul_l (by decide)) ?_ | refine r_eqI ?_ | refine r_neI ?_ | refine r_eqS ?_ | refine r_neS ?_ | refine r_eqB ?_ | refine r_neB ?_ | refine r_int ?_ | refine r_drop ?_ | refine r_sub ?_ | refine r_gTp (by with_unfolding_all rfl) ?_ | refine r_gsCons ?_ | refine r_gsNil ?_ | refine r_for ?_ | refine r_lc ?_ | refine r_dc ?_ | refine r_iRg1 ?_ | refine r_inT (by with_unfolding_all rfl) (by with_unfolding_all rfl) ?_)
          refine r_len (by show seqC S12[_]? = _; rw [h12]; rfl) ?_
          (repeat with_reducible first | refine r_seq ?_ | refine r_asg ?_ | refine r_nm ?_ | refine r_var (by with_unfolding_all rfl) ?_ | refine r_c ?_ | refine r_aCons ?_ | refine r_aNil ?_ | refine r_op ?_ | refine r_call ?_ | refine r_val ?_ | refine r_bl ?_ | refine r_if ?_ | refine r_ret ?_ | refine r_next ?_ | refine r_ifT (by first | decide | (with_unfolding_all rfl)) ?_ | refine r_ifF (by first | decide | (with_unfolding_all rfl)) ?_ | refine r_tup ?_ | refine r_lst ?_ | refine r_le (Nat.le_of_ble_eq_true (by with_unfolding_all rfl)) ?_ | refine r_cb ?_ | refine r_and ?_ | refine r_or ?_ | refine r_not ?_ | refine r_eIf ?_ | refine r_eAnd ?_ | refine r_eOr ?_ | refine r_eNot ?_ | refine r_isN ?_ | refine r_mt ?_ | refine r_tr ?_ | refine r_ss ?_ | refine r_dict0 ?_ | refine r_yes ?_ | refine r_isi ?_ | refine r_ty (by with_unfolding_all rfl) ?_ | refine r_ixT (by with_unfolding_all rfl) ?_ | refine r_ixE (by with_unfolding_all rfl) (by with_unfolding_all rfl) ?_ | refine r_ixL (by assumption) (by with_unfolding_all rfl) ?_ | refine r_addI ?_ | refine r_intF ?_ | refine r_intCF (by first | decide | exact cmul_r (by decide) | exact cmul_l (by decide)) ?_ | refine r_eqI ?_ | refine r_neI ?_ | refine r_eqS ?_ | refine r_neS ?_ | refine r_eqB ?_ | refine r_neB ?_ | refine r_int ?_ | refine r_drop ?_ | refine r_sub ?_ | refine r_gTp (by with_unfolding_all rfl) ?_ | refine r_gsCons ?_ | refine r_gsNil ?_ | refine r_for ?_ | refine r_lc ?_ | refine r_dc ?_ | refine r_iRg1 ?_ | refine r_inT (by with_unfolding_all rfl) (by with_unfolding_all rfl) ?_)
          simp
  · (repeat with_reducible first | refine r_seq ?_ | refine r_asg ?_ | refine r_nm ?_ | refine r_var (by with_unfolding_all rfl) ?_ | refine r_c ?_ | refine r_aCons ?_ | refine r_aNil ?_ | refine r_op ?_ | refine r_call ?_ | refine r_val ?_ | refine r_bl ?_ | refine r_if ?_ | refine r_ret ?_ | refine r_next ?_ | refine r_ifT (by first | decide | (with_unfolding_all rfl)) ?_ | refine r_ifF (by first | decide | (with_unfolding_all rfl)) ?_ | refine r_tup ?_ | refine r_lst ?_ | refine r_le (Nat.le_of_ble_eq_true (by with_unfolding_all rfl)) ?_ | refine r_cb ?_ | refine r_and ?_ | refine r_or ?_ | refine r_not ?_ | refine r_eIf ?_ | refine r_eAnd ?_ | refine r_eOr ?_ | refine r_eNot ?_ | refine r_isN ?_ | refine r_mt ?_ | refine r_tr ?_ | refine r_ss ?_ | refine r_dict0 ?_ | refine r_yes ?_ | refine r_isi ?_ | refine r_ty (by with_unfolding_all rfl) ?_ | refine r_ixT (by with_unfolding_all rfl) ?_ | refine r_ixE (by with_unfolding_all rfl) (by with_unfolding_all rfl) ?_ | refine r_ixL (by assumption) (by with_unfolding_all rfl) ?_ | refine r_addI ?_ | refine r_intF ?_ | refine r_intCF (by first | decide | exact cmul_r (by decide) | exact cmul_l (by decide)) ?_ | refine r_eqI ?_ | refine r_neI ?_ | refine r_eqS ?_ | refine r_neS ?_ | refine r_eqB ?_ | refine r_neB ?_ | refine r_int ?_ | refine r_drop ?_ | refine r_sub ?_ | refine r_gTp (by with_unfolding_all rfl) ?_ | refine r_gsCons ?_ | refine r_gsNil ?_ | refine r_for ?_ | refine r_lc ?_ | refine r_dc ?_ | refine r_iRg1 ?_ | refine r_inT (by with_unfolding_all rfl) (by with_unfolding_all rfl) ?_)
    refine draw_spec P2 (by decide) (by decide) fun S3 i hi P3 _ => ?_
    match i, hi with
    | 0, _ =>
      (repeat with_reducible first | refine r_seq ?_ | refine r_asg ?_ | refine r_nm ?_ | refine r_var (by with_unfolding_all rfl) ?_ | refine r_c ?_ | refine r_aCons ?_ | refine r_aNil ?_ | refine r_op ?_ | refine r_call ?_ | refine r_val ?_ | refine r_bl ?_ | refine r_if ?_ | refine r_ret ?_ | refine r_next ?_ | refine r_ifT (by first | decide | (with_unfolding_all rfl)) ?_ | refine r_ifF (by first | decide | (with_unfolding_all rfl)) ?_ | refine r_tup ?_ | refine r_lst ?_ | refine r_le (Nat.le_of_ble_eq_true (by with_unfolding_all rfl)) ?_ | refine r_cb ?_ | refine r_and ?_ | refine r_or ?_ | refine r_not ?_ | refine r_eIf ?_ | refine r_eAnd ?_ | refine r_eOr ?_ | refine r_eNot ?_ | refine r_isN ?_ | refine r_mt ?_ | refine r_tr ?_ | refine r_ss ?_ | refine r_dict0 ?_ | refine r_yes ?_ | refine r_isi ?_ | refine r_ty (by with_unfolding_all rfl) ?_ | refine r_ixT (by with_unfolding_all rfl) ?_ | refine r_ixE (by with_unfolding_all rfl) (by with_unfolding_all rfl) ?_ | refine r_ixL (by assumption) (by with_unfolding_all rfl) ?_ | refine r_addI ?_ | refine r_intF ?_ | refine r_intCF (by first | decide | exact cmul_r (by decide) | exact cmul_l (by decide)) ?_ | refine r_eqI ?_ | refine r_neI ?_ | refine r_eqS ?_ | refine r_neS ?_ | refine r_eqB ?_ | refine r_neB ?_ | refine r_int ?_ | refine r_drop ?_ | refine r_sub ?_ | refine r_gTp (by with_unfolding_all rfl) ?_ | refine r_gsCons ?_ | refine r_gsNil ?_ | refine r_for ?_ | refine r_lc ?_ | refine r_dc ?_ | refine r_iRg1 ?_ | refine r_inT (by with_unfolding_all rfl) (by with_unfolding_all rfl) ?_)
      exact hT _ _ ⟨⟨true, rfl⟩, P3⟩
    | 1, _ =>
      (repeat with_reducible first | refine r_seq ?_ | refine r_asg ?_ | refine r_nm ?_ | refine r_var (by with_unfolding_all rfl) ?_ | refine r_c ?_ | refine r_aCons ?_ | refine r_aNil ?_ | refine r_op ?_ | refine r_call ?_ | refine r_val ?_ | refine r_bl ?_ | refine r_if ?_ | refine r_ret ?_ | refine r_next ?_ | refine r_ifT (by first | decide | (with_unfolding_all rfl)) ?_ | refine r_ifF (by first | decide | (with_unfolding_all rfl)) ?_ | refine r_tup ?_ | refine r_lst ?_ | refine r_le (Nat.le_of_ble_eq_true (by with_unfolding_all rfl)) ?_ | refine r_cb ?_ | refine r_and ?_ | refine r_or ?_ | refine r_not ?_ | refine r_eIf ?_ | refine r_eAnd ?_ | refine r_eOr ?_ | refine r_eNot ?_ | refine r_isN ?_ | refine r_mt ?_ | refine r_tr ?_ | refine r_ss ?_ | refine r_dict0 ?_ | refine r_yes ?_ | refine r_isi ?_ | refine r_ty (by with_unfolding_all rfl) ?_ | refine r_ixT (by with_unfolding_all rfl) ?_ | refine r_ixE (by with_unfolding_all rfl) (by with_unfolding_all rfl) ?_ | refine r_ixL (by assumption) (by with_unfolding_all rfl) ?_ | refine r_addI ?_ | refine r_intF ?_ | refine r_intCF (by first | decide | exact cmul_r (by decide) | exact cmul_l (by decide)) ?_ | refine r_eqI ?_ | refine r_neI ?_ | refine r_eqS ?_ | refine r_neS ?_ | refine r_eqB ?_ | refine r_neB ?_ | refine r_int ?_ | refine r_drop ?_ | refine r_sub ?_ | refine r_gTp (by with_unfolding_all rfl) ?_ | refine r_gsCons ?_ | refine r_gsNil ?_ | refine r_for ?_ | refine r_lc ?_ | refine r_dc ?_ | refine r_iRg1 ?_ | refine r_inT (by with_unfolding_all rfl) (by with_unfolding_all rfl) ?_)
      exact hT _ _ ⟨⟨false, rfl⟩, P3⟩
    | i + 2, hi => omega
end K28
namespace K28
open PySem L2 SD PG
theorem got_mk {K : PySem.W.Frag} {mg : Str → Option Value} {h : Heap} {x : Str} {st : Stmt} {ps : List Str} {f : Addr} {oc : Value} {od an : Option Addr} {sl : Array (Option Value)} {kV dc pm cd ct : Value} (X : K.In h) (G : h.Ns mainGlobals mg) (a : PySem.W.nsIn K mainGlobals x = some (some (.ref f)))
    (l : K.lookup f = some ⟨oc, od, .func (PySem.W.fnOf x x (defArgs st) (defBody st) (defScope st) .none kV dc pm an cd ct), sl⟩) (c : PySem.W.codeIn K cd x = true) (k : PySem.W.keepIn K (.ref f) = true)
    (hb : ∀ (kV doc pm : Value) (an : Option Addr) (cdv ct : Value) (us : List Value), us.length = ps.length → bindArgs (PySem.W.fnOf x x (defArgs st) (defBody st) (defScope st) .none kV doc pm an cdv ct) ⟨us, []⟩ = pure (ps.zip us)) : Got K mg x st ps := by
  have F := fun_mk (st := st) l c k
  exact ⟨f, _, F, PySem.W.mg_of X G a, F.binds hb⟩
theorem all_mk {l : PySem.W.OpenLaw} {w : World} {K : PySem.W.Frag} {h : Heap} {mg : Str → Option Value} {fa : Addr} (X : K.In h) (G : h.Ns mainGlobals mg) (hfa : mg "law" = some (.ref fa))
  {f0 f1 f2 f3 f4 f5 f6 f7 f8 f9 f10 f11 f12 f13 : Addr}
  {od0 an0 od1 an1 od2 an2 od3 an3 od4 an4 od5 an5 od6 an6 od7 an7 od8 an8 od9 an9 od10 an10 od11 an11 od12 an12 od13 an13 : Option Addr} {sl0 sl1 sl2 sl3 sl4 sl5 sl6 sl7 sl8 sl9 sl10 sl11 sl12 sl13 : Array (Option Value)}
  {oc0 kV0 dc0 pm0 cd0 ct0 oc1 kV1 dc1 pm1 cd1 ct1 oc2 kV2 dc2 pm2 cd2 ct2 oc3 kV3 dc3 pm3 cd3 ct3 oc4 kV4 dc4 pm4 cd4 ct4 oc5 kV5 dc5 pm5 cd5 ct5 oc6 kV6 dc6 pm6 cd6 ct6 oc7 kV7 dc7 pm7 cd7 ct7 oc8 kV8 dc8 pm8 cd8 ct8 oc9 kV9 dc9 pm9 cd9 ct9 oc10 kV10 dc10 pm10 cd10 ct10 oc11 kV11 dc11 pm11 cd11 ct11 oc12 kV12 dc12 pm12 cd12 ct12 oc13 kV13 dc13 pm13 cd13 ct13 : Value}
  (a0 : PySem.W.nsIn K mainGlobals "leads" = some (some (.ref f0)))
  (l0 : K.lookup f0 = some ⟨oc0, od0, .func (PySem.W.fnOf "leads" "leads" (defArgs s_leads) (defBody s_leads) (defScope s_leads) .none kV0 dc0 pm0 an0 cd0 ct0), sl0⟩)
  (c0 : PySem.W.codeIn K cd0 "leads" = true) (k0 : PySem.W.keepIn K (.ref f0) = true)
  (a1 : PySem.W.nsIn K mainGlobals "found_places" = some (some (.ref f1)))
  (l1 : K.lookup f1 = some ⟨oc1, od1, .func (PySem.W.fnOf "found_places" "found_places" (defArgs s_found_places) (defBody s_found_places) (defScope s_found_places) .none kV1 dc1 pm1 an1 cd1 ct1), sl1⟩)
  (c1 : PySem.W.codeIn K cd1 "found_places" = true) (k1 : PySem.W.keepIn K (.ref f1) = true)
  (a2 : PySem.W.nsIn K mainGlobals "worth" = some (some (.ref f2)))
  (l2 : K.lookup f2 = some ⟨oc2, od2, .func (PySem.W.fnOf "worth" "worth" (defArgs s_worth) (defBody s_worth) (defScope s_worth) .none kV2 dc2 pm2 an2 cd2 ct2), sl2⟩)
  (c2 : PySem.W.codeIn K cd2 "worth" = true) (k2 : PySem.W.keepIn K (.ref f2) = true)
  (a3 : PySem.W.nsIn K mainGlobals "places_where" = some (some (.ref f3)))
  (l3 : K.lookup f3 = some ⟨oc3, od3, .func (PySem.W.fnOf "places_where" "places_where" (defArgs s_places_where) (defBody s_places_where) (defScope s_places_where) .none kV3 dc3 pm3 an3 cd3 ct3), sl3⟩)
  (c3 : PySem.W.codeIn K cd3 "places_where" = true) (k3 : PySem.W.keepIn K (.ref f3) = true)
  (a4 : PySem.W.nsIn K mainGlobals "round_places" = some (some (.ref f4)))
  (l4 : K.lookup f4 = some ⟨oc4, od4, .func (PySem.W.fnOf "round_places" "round_places" (defArgs s_round_places) (defBody s_round_places) (defScope s_round_places) .none kV4 dc4 pm4 an4 cd4 ct4), sl4⟩)
  (c4 : PySem.W.codeIn K cd4 "round_places" = true) (k4 : PySem.W.keepIn K (.ref f4) = true)
  (a5 : PySem.W.nsIn K mainGlobals "_law_same" = some (some (.ref f5)))
  (l5 : K.lookup f5 = some ⟨oc5, od5, .func (PySem.W.fnOf "_law_same" "_law_same" (defArgs s__law_same) (defBody s__law_same) (defScope s__law_same) .none kV5 dc5 pm5 an5 cd5 ct5), sl5⟩)
  (c5 : PySem.W.codeIn K cd5 "_law_same" = true) (k5 : PySem.W.keepIn K (.ref f5) = true)
  (a6 : PySem.W.nsIn K mainGlobals "_law_pool" = some (some (.ref f6)))
  (l6 : K.lookup f6 = some ⟨oc6, od6, .func (PySem.W.fnOf "_law_pool" "_law_pool" (defArgs s__law_pool) (defBody s__law_pool) (defScope s__law_pool) .none kV6 dc6 pm6 an6 cd6 ct6), sl6⟩)
  (c6 : PySem.W.codeIn K cd6 "_law_pool" = true) (k6 : PySem.W.keepIn K (.ref f6) = true)
  (a7 : PySem.W.nsIn K mainGlobals "_law_spread" = some (some (.ref f7)))
  (l7 : K.lookup f7 = some ⟨oc7, od7, .func (PySem.W.fnOf "_law_spread" "_law_spread" (defArgs s__law_spread) (defBody s__law_spread) (defScope s__law_spread) .none kV7 dc7 pm7 an7 cd7 ct7), sl7⟩)
  (c7 : PySem.W.codeIn K cd7 "_law_spread" = true) (k7 : PySem.W.keepIn K (.ref f7) = true)
  (a8 : PySem.W.nsIn K mainGlobals "_law_draw" = some (some (.ref f8)))
  (l8 : K.lookup f8 = some ⟨oc8, od8, .func (PySem.W.fnOf "_law_draw" "_law_draw" (defArgs s__law_draw) (defBody s__law_draw) (defScope s__law_draw) .none kV8 dc8 pm8 an8 cd8 ct8), sl8⟩)
  (c8 : PySem.W.codeIn K cd8 "_law_draw" = true) (k8 : PySem.W.keepIn K (.ref f8) = true)
  (a9 : PySem.W.nsIn K mainGlobals "_law_pick" = some (some (.ref f9)))
  (l9 : K.lookup f9 = some ⟨oc9, od9, .func (PySem.W.fnOf "_law_pick" "_law_pick" (defArgs s__law_pick) (defBody s__law_pick) (defScope s__law_pick) .none kV9 dc9 pm9 an9 cd9 ct9), sl9⟩)
  (c9 : PySem.W.codeIn K cd9 "_law_pick" = true) (k9 : PySem.W.keepIn K (.ref f9) = true)
  (a10 : PySem.W.nsIn K mainGlobals "_law_land" = some (some (.ref f10)))
  (l10 : K.lookup f10 = some ⟨oc10, od10, .func (PySem.W.fnOf "_law_land" "_law_land" (defArgs s__law_land) (defBody s__law_land) (defScope s__law_land) .none kV10 dc10 pm10 an10 cd10 ct10), sl10⟩)
  (c10 : PySem.W.codeIn K cd10 "_law_land" = true) (k10 : PySem.W.keepIn K (.ref f10) = true)
  (a11 : PySem.W.nsIn K mainGlobals "_law_saying" = some (some (.ref f11)))
  (l11 : K.lookup f11 = some ⟨oc11, od11, .func (PySem.W.fnOf "_law_saying" "_law_saying" (defArgs s__law_saying) (defBody s__law_saying) (defScope s__law_saying) .none kV11 dc11 pm11 an11 cd11 ct11), sl11⟩)
  (c11 : PySem.W.codeIn K cd11 "_law_saying" = true) (k11 : PySem.W.keepIn K (.ref f11) = true)
  (a12 : PySem.W.nsIn K mainGlobals "_law_world" = some (some (.ref f12)))
  (l12 : K.lookup f12 = some ⟨oc12, od12, .func (PySem.W.fnOf "_law_world" "_law_world" (defArgs s__law_world) (defBody s__law_world) (defScope s__law_world) .none kV12 dc12 pm12 an12 cd12 ct12), sl12⟩)
  (c12 : PySem.W.codeIn K cd12 "_law_world" = true) (k12 : PySem.W.keepIn K (.ref f12) = true)
  (a13 : PySem.W.nsIn K mainGlobals "law" = some (some (.ref f13)))
  (l13 : K.lookup f13 = some ⟨oc13, od13, .func (PySem.W.fnOf "law" "law" (defArgs s_law) (defBody s_law) (defScope s_law) .none kV13 dc13 pm13 an13 cd13 ct13), sl13⟩)
  (c13 : PySem.W.codeIn K cd13 "law" = true) (k13 : PySem.W.keepIn K (.ref f13) = true)
  (z_all : PySem.W.nsIn K mainGlobals "all" = some none)
  (z_any : PySem.W.nsIn K mainGlobals "any" = some none)
  (z_bool : PySem.W.nsIn K mainGlobals "bool" = some none)
  (z_dict : PySem.W.nsIn K mainGlobals "dict" = some none)
  (z_int : PySem.W.nsIn K mainGlobals "int" = some none)
  (z_isinstance : PySem.W.nsIn K mainGlobals "isinstance" = some none)
  (z_len : PySem.W.nsIn K mainGlobals "len" = some none)
  (z_list : PySem.W.nsIn K mainGlobals "list" = some none)
  (z_range : PySem.W.nsIn K mainGlobals "range" = some none)
  (z_set : PySem.W.nsIn K mainGlobals "set" = some none)
  (z_sorted : PySem.W.nsIn K mainGlobals "sorted" = some none)
  (z_str : PySem.W.nsIn K mainGlobals "str" = some none)
  (z_tuple : PySem.W.nsIn K mainGlobals "tuple" = some none) :
    ∃ fd : FuncData, (∀ (s : Shared) (v : Value), BindsTo s fd ⟨[v], []⟩ [("script", v)]) ∧ ∀ base : Heap, K.In base → base.Ns mainGlobals mg → FnOk l.prog w K mg base CX0 16 fa fd ["script"] (spD K F_law) := by
  have e := hfa.symm.trans (PySem.W.mg_of X G a13)
  cases e
  have T : Txt mg := ⟨PySem.W.mg_none_of X G z_all, PySem.W.mg_none_of X G z_any, PySem.W.mg_none_of X G z_bool, PySem.W.mg_none_of X G z_dict, PySem.W.mg_none_of X G z_int, PySem.W.mg_none_of X G z_isinstance, PySem.W.mg_none_of X G z_len, PySem.W.mg_none_of X G z_list, PySem.W.mg_none_of X G z_range, PySem.W.mg_none_of X G z_set, PySem.W.mg_none_of X G z_sorted, PySem.W.mg_none_of X G z_str, PySem.W.mg_none_of X G z_tuple⟩
  have g_leads : Got K mg "leads" s_leads ["goals", "inner", "some"] := got_mk X G a0 l0 c0 k0 fun _ _ _ _ _ _ us hl => match us, hl with | [_, _, _], _ => rfl
  have g_found_places : Got K mg "found_places" s_found_places ["world", "saying", "places"] := got_mk X G a1 l1 c1 k1 fun _ _ _ _ _ _ us hl => match us, hl with | [_, _, _], _ => rfl
  have g_worth : Got K mg "worth" s_worth ["world", "saying", "places"] := got_mk X G a2 l2 c2 k2 fun _ _ _ _ _ _ us hl => match us, hl with | [_, _, _], _ => rfl
  have g_places_where : Got K mg "places_where" s_places_where ["world", "saying"] := got_mk X G a3 l3 c3 k3 fun _ _ _ _ _ _ us hl => match us, hl with | [_, _], _ => rfl
  have g_round_places : Got K mg "round_places" s_round_places ["world", "saying", "k"] := got_mk X G a4 l4 c4 k4 fun _ _ _ _ _ _ us hl => match us, hl with | [_, _, _], _ => rfl
  have g__law_same : Got K mg "_law_same" s__law_same ["actual", "due"] := got_mk X G a5 l5 c5 k5 fun _ _ _ _ _ _ us hl => match us, hl with | [_, _], _ => rfl
  have g__law_pool : Got K mg "_law_pool" s__law_pool ["script"] := got_mk X G a6 l6 c6 k6 fun _ _ _ _ _ _ us hl => match us, hl with | [_], _ => rfl
  have g__law_spread : Got K mg "_law_spread" s__law_spread ["cell"] := got_mk X G a7 l7 c7 k7 fun _ _ _ _ _ _ us hl => match us, hl with | [_], _ => rfl
  have g__law_draw : Got K mg "_law_draw" s__law_draw ["pool", "many"] := got_mk X G a8 l8 c8 k8 fun _ _ _ _ _ _ us hl => match us, hl with | [_, _], _ => rfl
  have g__law_pick : Got K mg "_law_pick" s__law_pick ["pool", "items"] := got_mk X G a9 l9 c9 k9 fun _ _ _ _ _ _ us hl => match us, hl with | [_, _], _ => rfl
  have g__law_land : Got K mg "_law_land" s__law_land ["pool"] := got_mk X G a10 l10 c10 k10 fun _ _ _ _ _ _ us hl => match us, hl with | [_], _ => rfl
  have g__law_saying : Got K mg "_law_saying" s__law_saying ["pool", "land", "deep", "state", "known", "free"] := got_mk X G a11 l11 c11 k11 fun _ _ _ _ _ _ us hl => match us, hl with | [_, _, _, _, _, _], _ => rfl
  have g__law_world : Got K mg "_law_world" s__law_world ["pool", "land", "most"] := got_mk X G a12 l12 c12 k12 fun _ _ _ _ _ _ us hl => match us, hl with | [_, _, _], _ => rfl
  have g_law : Got K mg "law" s_law ["script"] := got_mk X G a13 l13 c13 k13 fun _ _ _ _ _ _ us hl => match us, hl with | [_], _ => rfl
  have F13 := fun_mk (st := s_law) l13 c13 k13
  refine ⟨PySem.W.fnOf "law" "law" (defArgs s_law) (defBody s_law) (defScope s_law) .none kV13 dc13 pm13 an13 cd13 ct13, fun s v => .of_eq rfl, fun base _ _ => ?_⟩
  have h_leads := ok_leads (P := l.prog) (w := w) (base := base) T  g_leads 
  have h_found_places := ok_found_places (P := l.prog) (w := w) (base := base) T  g_found_places h_leads 12
  have h_worth := ok_worth (P := l.prog) (w := w) (base := base) T  g_worth h_found_places
  have h_round_places := ok_round_places (P := l.prog) (w := w) (base := base) T  g_round_places h_worth
  have h__law_spread := ok__law_spread (P := l.prog) (w := w) (base := base) T  g__law_spread 
  have h__law_draw := ok__law_draw (P := l.prog) (w := w) (base := base) T  g__law_draw h__law_spread
  have h__law_same := ok__law_same (P := l.prog) (w := w) (base := base) T  g__law_same  4
  have h_places_where := ok_places_where (P := l.prog) (w := w) (base := base) T  g_places_where h_worth
  have h__law_world := ok__law_world (P := l.prog) (w := w) (base := base) T  g__law_world h__law_draw
  have h__law_pick := ok__law_pick (P := l.prog) (w := w) (base := base) T  g__law_pick h__law_draw
  have h__law_saying := ok__law_saying (P := l.prog) (w := w) (base := base) T  g__law_saying h__law_draw h__law_pick 8
  have h__law_land := ok__law_land (P := l.prog) (w := w) (base := base) T  g__law_land h__law_draw
  have h__law_pool := ok__law_pool (P := l.prog) (w := w) (base := base) T  g__law_pool 
  exact ok_law_fn (P := l.prog) (w := w) (base := base) T  F13 h_worth h_round_places h__law_draw h__law_same h_places_where h__law_world h__law_saying h__law_land h__law_pool
theorem only_frz {K : PySem.W.Frag} {H : Hp} {a : Addr} {xs : List V} (hO : Only H) (h : SqL K H a xs) : FzL K H a xs := by
  rcases h with (h | ⟨o, h⟩) | h
  · rcases hO a with e | ⟨o, ys, e⟩ <;> rw [h] at e <;> cases e
  · exact .inl ⟨o, h⟩
  · exact .inr fun H' => .inr h
theorem walk {l : PySem.W.OpenLaw} {q : Program} {loose : List Str} {XP : (Str → Option Value) → Heap → Prop} {YP : World → Heap → Prop} {d : DefRec} {K : Params → PySem.W.Frag} (hn : l.most = some 63) (hdf : d.params.defaults = [])
    (hY : ∀ (w : World) (h : Heap), YP w h → (K w.params).In h)
    (F : ∀ (w : World) (mg : Str → Option Value) (fa : Addr) (h : Heap), (K w.params).In h → h.Ns mainGlobals mg → mg d.name = some (.ref fa) →
      ∃ fd : FuncData, (∀ (s : Shared) (u : Value), BindsTo s fd ⟨[u], []⟩ [("script", u)]) ∧ ∀ base : Heap, (K w.params).In base → base.Ns mainGlobals mg → FnOk l.prog w (K w.params) mg base CX0 16 fa fd ["script"] (spD (K w.params) F_law)) :
    PySem.W.WalkO q loose XP YP l.row.toRowW d [] (fun f vs => PySem.call f vs) :=
  L2.walk_of (n := 63) (k := 16) (x := "script") (CX := fun _ => CX0) (sp := fun w => spD (K w.params) F_law) hn (by decide) hdf ⟨rfl, by decide, by decide⟩ hY F (fun w H a ns hl hO hS => by
    refine ⟨[], [.frz (ns.map D.int)], [], fun d _ => d = .bl true, ⟨rfl, .nil, fun i p c h => by simp at h⟩, .cons (.frz (only_frz hO hS) (by rw [List.length_map, sizeLine_eq]; omega) (RDs.of_ints ns)) .nil, main ns hl, fun d S' m' v H' e g s r => ?_⟩
    subst e; cases r; rfl) fun _ _ _ _ _ z => z
end K28
open PySem PySem.W PyProof.Rows in
set_option maxRecDepth 100000 in
set_option maxHeartbeats 0 in
theorem PySem.Challenge.cw_sayingsdown_k28_whole_least_and_greatest_holds : PySem.Challenge.rw_sayingsdown_k28_whole_least_and_greatest.Holds := by
  w_on; o_law; k_head; (case hw => w_witness2)
  k_fill
  refine K28.walk (l := PySem.Challenge.rw_sayingsdown_k28_whole_least_and_greatest) rfl rfl (fun w h Y => PySem.W.kIn_of Y) ?F
  case F =>
    intro w mg fa h KX G hmg
    refine' K28.all_mk KX G hmg ?a0 ?l0 ?c0 ?k0 ?a1 ?l1 ?c1 ?k1 ?a2 ?l2 ?c2 ?k2 ?a3 ?l3 ?c3 ?k3 ?a4 ?l4 ?c4 ?k4 ?a5 ?l5 ?c5 ?k5 ?a6 ?l6 ?c6 ?k6 ?a7 ?l7 ?c7 ?k7 ?a8 ?l8 ?c8 ?k8 ?a9 ?l9 ?c9 ?k9 ?a10 ?l10 ?c10 ?k10 ?a11 ?l11 ?c11 ?k11 ?a12 ?l12 ?c12 ?k12 ?a13 ?l13 ?c13 ?k13 ?z_all ?z_any ?z_bool ?z_dict ?z_int ?z_isinstance ?z_len ?z_list ?z_range ?z_set ?z_sorted ?z_str ?z_tuple
    (case a0 => k_is)
    (case l0 => k_is)
    (case c0 => k_is)
    (case k0 => k_is)
    (case a1 => k_is)
    (case l1 => k_is)
    (case c1 => k_is)
    (case k1 => k_is)
    (case a2 => k_is)
    (case l2 => k_is)
    (case c2 => k_is)
    (case k2 => k_is)
    (case a3 => k_is)
    (case l3 => k_is)
    (case c3 => k_is)
    (case k3 => k_is)
    (case a4 => k_is)
    (case l4 => k_is)
    (case c4 => k_is)
    (case k4 => k_is)
    (case a5 => k_is)
    (case l5 => k_is)
    (case c5 => k_is)
    (case k5 => k_is)
    (case a6 => k_is)
    (case l6 => k_is)
    (case c6 => k_is)
    (case k6 => k_is)
    (case a7 => k_is)
    (case l7 => k_is)
    (case c7 => k_is)
    (case k7 => k_is)
    (case a8 => k_is)
    (case l8 => k_is)
    (case c8 => k_is)
    (case k8 => k_is)
    (case a9 => k_is)
    (case l9 => k_is)
    (case c9 => k_is)
    (case k9 => k_is)
    (case a10 => k_is)
    (case l10 => k_is)
    (case c10 => k_is)
    (case k10 => k_is)
    (case a11 => k_is)
    (case l11 => k_is)
    (case c11 => k_is)
    (case k11 => k_is)
    (case a12 => k_is)
    (case l12 => k_is)
    (case c12 => k_is)
    (case k12 => k_is)
    (case a13 => k_is)
    (case l13 => k_is)
    (case c13 => k_is)
    (case k13 => k_is)
    (case z_all => k_is)
    (case z_any => k_is)
    (case z_bool => k_is)
    (case z_dict => k_is)
    (case z_int => k_is)
    (case z_isinstance => k_is)
    (case z_len => k_is)
    (case z_list => k_is)
    (case z_range => k_is)
    (case z_set => k_is)
    (case z_sorted => k_is)
    (case z_str => k_is)
    (case z_tuple => k_is)
