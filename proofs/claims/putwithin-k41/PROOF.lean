import PyProof.Rows.All
import Wide.All
import OpenK.AllK
import Wide.FinOn
import HandS.ForMost
import HandS.Gcd
import HandS.Wide
import HandS.Style
import HandS.Walk
import HandS.TupAny
import HandS.TupMul
import HandS.Zip
import PyProof.ReprRoads
import KE.GoesEnum
import PyProof.ReprLen
import PySem.Challenge.RW_putwithin_k41_whole_dicksons_numbers
set_option Elab.async false
set_option linter.all false
set_option maxRecDepth 100000
/-! A small language of pure data over the hand layer: data, cells, what they stand for. -/
namespace Pf
open PySem PySem.Spec PyProof.Rows L2

/-- data: a list or dict is a place in the store -/
inductive D where
  | non | bl (b : Bool) | int (i : Int) | str (s : Str) | tup (xs : List D) | loc (n : Nat)
  deriving Inhabited
/-- what a place holds -/
inductive Cell where
  | lst (xs : List D) | ro (xs : List D) | dct (kvs : List (Key × D))
  deriving Inhabited
abbrev Sto := List Cell
abbrev En := List (Option D)

/-- a list that is read alone -/
def RoL (K : PySem.W.Frag) (H : Hp) (a : Addr) (vs : List V) : Prop :=
  (∃ o, H a = some (.frz o (.lst vs))) ∨
    ∃ (o : Obj) (its : Array Value) (n : Nat), K.lookup a = some o ∧ o.cls = .type "list" ∧ o.dict = none ∧ o.data = .seq its n ∧ its.size ≤ sizeLine ∧ Vals vs its.toList
theorem RoL.seq {K : PySem.W.Frag} {H : Hp} {a : Addr} {vs : List V} (h : RoL K H a vs) : SqL K H a vs := by
  rcases h with h | h
  · exact .inl (.inr h)
  · exact .inr h

mutual
inductive Rep (K : PySem.W.Frag) (η : Nat → Addr) (m : Nat) (H : Hp) : D → V → Prop
  | non : Rep K η m H .non .non
  | bl (b : Bool) : Rep K η m H (.bl b) (.bl b)
  | int (i : Int) : Rep K η m H (.int i) (.int i)
  | str (x : Str) : Rep K η m H (.str x) (.str x)
  | tup {a : Addr} {ds : List D} {vs : List V} : SqT K H a vs → Reps K η m H ds vs → Rep K η m H (.tup ds) (.ref a)
  | loc {n : Nat} : n < m → Rep K η m H (.loc n) (.ref (η n))
inductive Reps (K : PySem.W.Frag) (η : Nat → Addr) (m : Nat) (H : Hp) : List D → List V → Prop
  | nil : Reps K η m H [] []
  | cons {d : D} {v : V} {ds : List D} {vs : List V} : Rep K η m H d v → Reps K η m H ds vs → Reps K η m H (d :: ds) (v :: vs)
end

/-- from one state to a later one -/
structure Go (K : PySem.W.Frag) (η : Nat → Addr) (m : Nat) (H : Hp) (η' : Nat → Addr) (m' : Nat) (H' : Hp) : Prop where
  keep : ∀ a vs, SqT K H a vs → SqT K H' a vs
  le : m ≤ m'
  ag : ∀ n, n < m → η' n = η n
section
variable {K : PySem.W.Frag} {η η' η'' : Nat → Addr} {m m' m'' : Nat} {H H' H'' : Hp}
theorem Go.refl : Go K η m H η m H := ⟨fun _ _ h => h, Nat.le_refl _, fun _ _ => rfl⟩
theorem Go.trans (a : Go K η m H η' m' H') (b : Go K η' m' H' η'' m'' H'') : Go K η m H η'' m'' H'' :=
  ⟨fun x vs h => b.keep x vs (a.keep x vs h), Nat.le_trans a.le b.le, fun n h => (b.ag n (Nat.lt_of_lt_of_le h a.le)).trans (a.ag n h)⟩
mutual
theorem Rep.go (g : Go K η m H η' m' H') : ∀ {d : D} {v : V}, Rep K η m H d v → Rep K η' m' H' d v
  | _, _, .non => .non
  | _, _, .bl b => .bl b
  | _, _, .int i => .int i
  | _, _, .str x => .str x
  | _, _, .tup h r => .tup (g.keep _ _ h) (Reps.go g r)
  | _, _, .loc h => by
    rw [← g.ag _ h]
    exact .loc (Nat.lt_of_lt_of_le h g.le)
theorem Reps.go (g : Go K η m H η' m' H') : ∀ {ds : List D} {vs : List V}, Reps K η m H ds vs → Reps K η' m' H' ds vs
  | _, _, .nil => .nil
  | _, _, .cons r rs => .cons (Rep.go g r) (Reps.go g rs)
end
mutual
/-- back to fewer places, of data that has stood there -/
theorem Rep.back {H0 : Hp} (ag : ∀ n, n < m → η' n = η n) : ∀ {d : D} {v0 v : V}, Rep K η m H0 d v0 → Rep K η' m' H d v → Rep K η m H d v
  | _, _, _, .non, .non => .non
  | _, _, _, .bl _, .bl b => .bl b
  | _, _, _, .int _, .int i => .int i
  | _, _, _, .str _, .str x => .str x
  | _, _, _, .tup _ r0, .tup h r => .tup h (Reps.back ag r0 r)
  | _, _, _, .loc h0, .loc _ => by
    rw [ag _ h0]
    exact .loc h0
theorem Reps.back {H0 : Hp} (ag : ∀ n, n < m → η' n = η n) : ∀ {ds : List D} {vs0 vs : List V}, Reps K η m H0 ds vs0 → Reps K η' m' H ds vs → Reps K η m H ds vs
  | _, _, _, .nil, .nil => .nil
  | _, _, _, .cons r0 q0, .cons r q => .cons (Rep.back ag r0 r) (Reps.back ag q0 q)
end
mutual
def NoLoc : D → Prop
  | .loc _ => False
  | .tup xs => NoLocs xs
  | _ => True
def NoLocs : List D → Prop
  | [] => True
  | x :: xs => NoLoc x ∧ NoLocs xs
end
mutual
theorem Rep.pure : ∀ {d : D} {v : V}, NoLoc d → Rep K η' m' H d v → Rep K η m H d v
  | _, _, _, .non => .non
  | _, _, _, .bl b => .bl b
  | _, _, _, .int i => .int i
  | _, _, _, .str x => .str x
  | _, _, n, .tup h r => .tup h (Reps.pure (by simpa only [NoLoc] using n) r)
  | _, _, n, .loc h => by
    simp only [NoLoc] at n
theorem Reps.pure : ∀ {ds : List D} {vs : List V}, NoLocs ds → Reps K η' m' H ds vs → Reps K η m H ds vs
  | _, _, _, .nil => .nil
  | _, _, n, .cons r q => .cons (Rep.pure (by simp only [NoLocs] at n; exact n.1) r) (Reps.pure (by simp only [NoLocs] at n; exact n.2) q)
end
theorem Reps.length : ∀ {ds : List D} {vs : List V}, Reps K η m H ds vs → ds.length = vs.length
  | _, _, .nil => rfl
  | _, _, .cons _ q => by simp [Reps.length q]
theorem Reps.get : ∀ {ds : List D} {vs : List V} {i : Nat} {d : D}, Reps K η m H ds vs → ds[i]? = some d → ∃ v, vs[i]? = some v ∧ Rep K η m H d v
  | _, _, _, _, .nil, e => by simp at e
  | _, _, 0, _, .cons r _, e => by
    simp at e
    subst e
    exact ⟨_, rfl, r⟩
  | _, _, i + 1, _, .cons _ q, e => by
    obtain ⟨v, h1, h2⟩ := Reps.get (i := i) q (by simpa using e)
    exact ⟨v, by simpa using h1, h2⟩
theorem Reps.append : ∀ {ds es : List D} {vs us : List V}, Reps K η m H ds vs → Reps K η m H es us → Reps K η m H (ds ++ es) (vs ++ us)
  | _, _, _, _, .nil, q => q
  | _, _, _, _, .cons r p, q => .cons r (Reps.append p q)
theorem Reps.take : ∀ (n : Nat) {ds : List D} {vs : List V}, Reps K η m H ds vs → Reps K η m H (ds.take n) (vs.take n)
  | 0, _, _, _ => by simp; exact .nil
  | _ + 1, _, _, .nil => by simp; exact .nil
  | n + 1, _, _, .cons r q => by simp; exact .cons r (Reps.take n q)
theorem Reps.drop : ∀ (n : Nat) {ds : List D} {vs : List V}, Reps K η m H ds vs → Reps K η m H (ds.drop n) (vs.drop n)
  | 0, _, _, q => q
  | _ + 1, _, _, .nil => by simp; exact .nil
  | n + 1, _, _, .cons r q => by simp; exact Reps.drop n q
theorem Reps.set {d : D} {v : V} (r : Rep K η m H d v) : ∀ (n : Nat) {ds : List D} {vs : List V}, Reps K η m H ds vs → Reps K η m H (ds.set n d) (vs.set n v)
  | _, _, _, .nil => .nil
  | 0, _, _, .cons _ q => .cons r q
  | n + 1, _, _, .cons p q => .cons p (Reps.set r n q)
theorem Reps.reverse : ∀ {ds : List D} {vs : List V}, Reps K η m H ds vs → Reps K η m H ds.reverse vs.reverse
  | _, _, .nil => .nil
  | _, _, .cons r q => by
    rw [List.reverse_cons, List.reverse_cons]
    exact (Reps.reverse q).append (.cons r .nil)
theorem Reps.dropLast {ds : List D} {vs : List V} (q : Reps K η m H ds vs) : Reps K η m H ds.dropLast vs.dropLast := by
  rw [List.dropLast_eq_take, List.dropLast_eq_take, ← q.length]
  exact q.take _
theorem Reps.rep {ds : List D} {vs : List V} (q : Reps K η m H ds vs) : ∀ k : Nat, Reps K η m H (List.replicate k ds).flatten (List.replicate k vs).flatten
  | 0 => .nil
  | k + 1 => by
    rw [List.replicate_succ, List.replicate_succ, List.flatten_cons, List.flatten_cons]
    exact q.append (Reps.rep q k)
end

/-- what stands at a place's address -/
inductive RepC (K : PySem.W.Frag) (η : Nat → Addr) (m : Nat) (H : Hp) (a : Addr) : Cell → Prop
  | lst {ds : List D} {vs : List V} : H a = some (.lst vs) → Reps K η m H ds vs → RepC K η m H a (.lst ds)
  | ro {ds : List D} {vs : List V} : RoL K H a vs → Reps K η m H ds vs → RepC K η m H a (.ro ds)
  | dct {kvs : List (Key × D)} {kus : List (Key × V)} : H a = some (.dK kus) → kvs.map (·.1) = kus.map (·.1) → Reps K η m H (kvs.map (·.2)) (kus.map (·.2)) → RepC K η m H a (.dct kvs)
def Cell.mut : Cell → Prop
  | .ro _ => False
  | _ => True
structure RepS (K : PySem.W.Frag) (η : Nat → Addr) (H : Hp) (S : Sto) : Prop where
  at' : ∀ n c, S[n]? = some c → RepC K η S.length H (η n) c
  inj : ∀ i j c d, S[i]? = some c → S[j]? = some d → c.mut → d.mut → η i = η j → i = j
/-- slots -/
def RepE (K : PySem.W.Frag) (η : Nat → Addr) (m : Nat) (H : Hp) (ρ : En) (σ : L2.St) : Prop :=
  ρ.length = σ.length ∧ ∀ (i : Nat) (d : D), ρ[i]? = some (some d) → ∃ v, σ[i]? = some (some v) ∧ Rep K η m H d v
section
variable {K : PySem.W.Frag} {η η' : Nat → Addr} {m m' : Nat} {H H' : Hp} {S : Sto} {ρ : En} {σ : L2.St}
theorem RepE.go (g : Go K η m H η' m' H') (r : RepE K η m H ρ σ) : RepE K η' m' H' ρ σ :=
  ⟨r.1, fun i d e => let ⟨v, h1, h2⟩ := r.2 i d e; ⟨v, h1, h2.go g⟩⟩
theorem RepE.set {d : D} {v : V} (r : RepE K η m H ρ σ) (q : Rep K η m H d v) (i : Nat) : RepE K η m H (ρ.set i (some d)) (σ.set i (some v)) := by
  refine ⟨by simp [r.1], fun j e h => ?_⟩
  by_cases hj : i = j
  · subst hj
    have hi : i < ρ.length := by
      have := (List.getElem?_eq_some_iff.mp h).1
      simpa using this
    rw [List.getElem?_set_self hi] at h
    cases h
    exact ⟨v, by rw [List.getElem?_set_self (by rw [← r.1]; exact hi)], q⟩
  · rw [List.getElem?_set_ne hj] at h
    obtain ⟨u, h1, h2⟩ := r.2 j e h
    exact ⟨u, by rw [List.getElem?_set_ne hj]; exact h1, h2⟩
def wipeE (ρ : En) : List Nat → En
  | [] => ρ
  | v :: vs => (wipeE ρ vs).set v none
theorem RepE.wipe (r : RepE K η m H ρ σ) : ∀ vs : List Nat, RepE K η m H (wipeE ρ vs) (wipe σ vs)
  | [] => r
  | v :: vs => by
    have ih := RepE.wipe r vs
    unfold wipeE L2.wipe
    refine ⟨by simp [ih.1], fun j e h => ?_⟩
    by_cases hj : v = j
    · subst hj
      have hi : v < (wipeE ρ vs).length := by
        have := (List.getElem?_eq_some_iff.mp h).1
        simpa using this
      rw [List.getElem?_set_self hi] at h
      cases h
    · rw [List.getElem?_set_ne hj] at h
      obtain ⟨u, h1, h2⟩ := ih.2 j e h
      exact ⟨u, by rw [List.getElem?_set_ne hj]; exact h1, h2⟩
theorem RepC.lt {a : Addr} {c : Cell} (r : RepC K η m H a c) : (∃ o, H a = some o) ∨ (∃ o, K.lookup a = some o) := by
  cases r with
  | lst h _ => exact .inl ⟨_, h⟩
  | ro h _ =>
    rcases h with ⟨o, h⟩ | ⟨o, _, _, h, _⟩
    · exact .inl ⟨_, h⟩
    · exact .inr ⟨o, h⟩
  | dct h _ _ => exact .inl ⟨_, h⟩

/-! ### tuples stand -/
theorem keep_new {p : Addr} {o : HO} (hp : H p = none) : ∀ a vs, SqT K H a vs → SqT K (upd H p o) a vs := fun a vs h => by
  rcases h with (h | ⟨o', h⟩) | h
  · exact .inl (.inl (by rw [upd_ne (ne_of_none h hp)]; exact h))
  · exact .inl (.inr ⟨o', by rw [upd_ne (ne_of_none h hp)]; exact h⟩)
  · exact .inr h
theorem keep_at {p : Addr} {u o : HO} (hp : H p = some u) (h1 : ∀ xs, u ≠ .tup xs) (h2 : ∀ b x, u ≠ .frz b x) : ∀ a vs, SqT K H a vs → SqT K (upd H p o) a vs := fun a vs h => by
  rcases h with (h | ⟨o', h⟩) | h
  · refine .inl (.inl ?_)
    rw [upd_ne]
    · exact h
    · rintro rfl
      rw [h] at hp
      cases hp
      exact h1 _ rfl
  · refine .inl (.inr ⟨o', ?_⟩)
    rw [upd_ne]
    · exact h
    · rintro rfl
      rw [h] at hp
      cases hp
      exact h2 _ _ rfl
  · exact .inr h
/-- a new tuple, not in the store -/
theorem Go.new {p : Addr} {o : HO} (hp : H p = none) : Go K η m H η m (upd H p o) := ⟨keep_new hp, Nat.le_refl _, fun _ _ => rfl⟩
theorem RoL.new {a p : Addr} {vs : List V} {o : HO} (h : RoL K H a vs) (hp : H p = none) : RoL K (upd H p o) a vs := by
  rcases h with ⟨o', h⟩ | h
  · exact .inl ⟨o', by rw [upd_ne (ne_of_none h hp)]; exact h⟩
  · exact .inr h
theorem RepC.go {a : Addr} {c : Cell} (g : Go K η m H η' m' H') (r : RepC K η m H a c) (h : ∀ o, H a = some o → H' a = some o) : RepC K η' m' H' a c := by
  cases r with
  | lst e q => exact .lst (h _ e) (q.go g)
  | ro e q =>
    refine .ro ?_ (q.go g)
    rcases e with ⟨o, e⟩ | e
    · exact .inl ⟨o, h _ e⟩
    · exact .inr e
  | dct e k q => exact .dct (h _ e) k (q.go g)
theorem RepS.new {p : Addr} {o : HO} (r : RepS K η H S) (hp : H p = none) : RepS K η (upd H p o) S :=
  ⟨fun n c e => (r.at' n c e).go (Go.new hp) fun u hu => by rw [upd_ne (ne_of_none hu hp)]; exact hu, r.inj⟩
/-- what a place's address can't be -/
theorem RepC.mut_some {a : Addr} {c : Cell} (r : RepC K η m H a c) (h : c.mut) : (∃ vs, H a = some (.lst vs)) ∨ ∃ kus, H a = some (.dK kus) := by
  cases r with
  | lst e _ => exact .inl ⟨_, e⟩
  | ro _ _ => exact h.elim
  | dct e _ _ => exact .inr ⟨_, e⟩
/-- a new place -/
def ext (η : Nat → Addr) (m : Nat) (p : Addr) : Nat → Addr := fun n => if n = m then p else η n
theorem ext_lt {p : Addr} {n : Nat} (h : n < m) : ext η m p n = η n := if_neg (Nat.ne_of_lt h)
theorem ext_at {p : Addr} : ext η m p m = p := if_pos rfl
theorem Go.ext {p : Addr} {o : HO} (hp : H p = none) : Go K η m H (ext η m p) (m + 1) (upd H p o) := ⟨keep_new hp, Nat.le_succ _, fun _ h => ext_lt h⟩
theorem RepS.add {p : Addr} {o : HO} {c : Cell} (r : RepS K η H S) (hp : H p = none) (hc : RepC K (Pf.ext η S.length p) (S.length + 1) (upd H p o) p c) : RepS K (Pf.ext η S.length p) (upd H p o) (S ++ [c]) := by
  have old : ∀ n d, S[n]? = some d → RepC K (Pf.ext η S.length p) (S ++ [c]).length (upd H p o) (Pf.ext η S.length p n) d := fun n d e => by
    rw [ext_lt (List.getElem?_eq_some_iff.mp e).1, List.length_append]
    exact (r.at' n d e).go (Go.ext hp) fun u hu => by rw [upd_ne (ne_of_none hu hp)]; exact hu
  have cases' : ∀ n d, (S ++ [c])[n]? = some d → S[n]? = some d ∨ (n = S.length ∧ d = c) := fun n d e => by
    by_cases h : n < S.length
    · rw [List.getElem?_append_left h] at e
      exact .inl e
    · rw [List.getElem?_append_right (by omega)] at e
      have hn : n - S.length < 1 := by
        have := (List.getElem?_eq_some_iff.mp e).1
        simpa using this
      have : n = S.length := by omega
      subst this
      simp at e
      exact .inr ⟨rfl, e.symm⟩
  refine ⟨fun n d e => ?_, fun i j c1 c2 e1 e2 m1 m2 he => ?_⟩
  · rcases cases' n d e with h | ⟨rfl, rfl⟩
    · exact old n d h
    · rw [ext_at, List.length_append]
      exact hc
  · have noteq : ∀ n d, S[n]? = some d → d.mut → Pf.ext η S.length p n ≠ p := fun n d e md z => by
      rw [ext_lt (List.getElem?_eq_some_iff.mp e).1] at z
      rcases (r.at' n d e).mut_some md with ⟨_, q⟩ | ⟨_, q⟩ <;> (rw [z, hp] at q; cases q)
    rcases cases' i c1 e1 with h1 | ⟨rfl, rfl⟩ <;> rcases cases' j c2 e2 with h2 | ⟨h2, h3⟩
    · rw [ext_lt (List.getElem?_eq_some_iff.mp h1).1, ext_lt (List.getElem?_eq_some_iff.mp h2).1] at he
      exact r.inj i j c1 c2 h1 h2 m1 m2 he
    · subst h2
      rw [ext_at] at he
      exact absurd he (noteq i c1 h1 m1)
    · rw [ext_at] at he
      exact absurd he.symm (noteq j c2 h2 m2)
    · exact h2.symm
/-- a place written -/
theorem RepS.put {n : Nat} {u o : HO} {c c' : Cell} (r : RepS K η H S) (e : S[n]? = some c) (mc : c.mut) (mc' : c'.mut) (hu : H (η n) = some u) (h1 : ∀ xs, u ≠ .tup xs) (h2 : ∀ b x, u ≠ .frz b x)
    (hc : RepC K η S.length (upd H (η n) o) (η n) c') : Go K η S.length H η (S.set n c').length (upd H (η n) o) ∧ RepS K η (upd H (η n) o) (S.set n c') := by
  have hn := (List.getElem?_eq_some_iff.mp e).1
  have g : Go K η S.length H η S.length (upd H (η n) o) := ⟨keep_at hu h1 h2, Nat.le_refl _, fun _ _ => rfl⟩
  refine ⟨by rw [List.length_set]; exact g, ⟨fun i d q => ?_, fun i j d1 d2 q1 q2 m1 m2 he => ?_⟩⟩
  · rw [List.length_set]
    by_cases hi : n = i
    · subst hi
      rw [List.getElem?_set_self hn] at q
      cases q
      exact hc
    · rw [List.getElem?_set_ne hi] at q
      by_cases ha : η i = η n
      · -- a place that is read alone, of the written part
        have nm : ¬ d.mut := fun md => hi (r.inj n i c d e q mc md ha.symm)
        cases d with
        | lst _ => exact absurd trivial nm
        | dct _ => exact absurd trivial nm
        | ro xs =>
          cases r.at' i _ q with
          | ro hr hq =>
            refine .ro ?_ (hq.go g)
            rcases hr with ⟨ob, z⟩ | z
            · rw [ha, hu] at z
              cases z
              exact absurd rfl (h2 _ _)
            · exact .inr z
      · exact (r.at' i d q).go g fun v hv => by rw [upd_ne ha]; exact hv
  · have back : ∀ (k : Nat) (d : Cell), (S.set n c')[k]? = some d → d.mut → ∃ d' : Cell, S[k]? = some d' ∧ d'.mut := fun k d q md => by
      by_cases hk : n = k
      · subst hk
        exact ⟨c, e, mc⟩
      · rw [List.getElem?_set_ne hk] at q
        exact ⟨d, q, md⟩
    obtain ⟨a1, b1, b2⟩ := back i d1 q1 m1
    obtain ⟨a2, b3, b4⟩ := back j d2 q2 m2
    exact r.inj i j a1 a2 b1 b3 b2 b4 he
/-- behind a call that left the store as it was -/
theorem RepS.back {S' : Sto} (r : RepS K η H S) (g : Go K η S.length H η' S'.length H') (r' : RepS K η' H' S') (e : S'.take S.length = S) : RepS K η H' S := by
  have hat : ∀ n c, S[n]? = some c → S'[n]? = some c := fun n c q => by
    have hn := (List.getElem?_eq_some_iff.mp q).1
    rw [← e, List.getElem?_take_of_lt hn] at q
    exact q
  refine ⟨fun n c q => ?_, r.inj⟩
  have hn := (List.getElem?_eq_some_iff.mp q).1
  have q' := r'.at' n c (hat n c q)
  rw [g.ag n hn] at q'
  have q0 := r.at' n c q
  cases q' with
  | lst h1 h2 =>
    cases q0 with
    | lst h3 h4 => exact .lst h1 (Reps.back g.ag h4 h2)
  | ro h1 h2 =>
    cases q0 with
    | ro h3 h4 => exact .ro h1 (Reps.back g.ag h4 h2)
  | dct h1 h2 h3 =>
    cases q0 with
    | dct h4 h5 h6 => exact .dct h1 h2 (Reps.back g.ag h6 h3)
end
end Pf

/-! The small language and what it computes. -/
namespace Pf
open PySem PySem.Spec PyProof.Rows L2

inductive BOp where
  | add | sub | mul | fdiv | mod | pow
  deriving DecidableEq, Repr, Inhabited
inductive COp where
  | eq | ne | lt | le | gt | ge | isN | notN | mem | nmem
  deriving DecidableEq, Repr, Inhabited
inductive Kind where
  | seq | rng | enum | zip
  deriving DecidableEq, Repr, Inhabited
inductive Lit where
  | non | bl (b : Bool) | int (i : Int) | str (s : Str)
  deriving DecidableEq, Repr, Inhabited
def Lit.d : Lit → D
  | .non => .non
  | .bl b => .bl b
  | .int i => .int i
  | .str s => .str s
/-- a target -/
inductive T where
  | nm (i : Nat) | tup (ts : List T)
  deriving Repr, Inhabited
inductive Ex where
  | var (i : Nat) | lit (l : Lit) | glob (x : Str)
  | bin (op : BOp) (a b : Ex) | neg (a : Ex) | cmp (op : COp) (a b : Ex)
  | not (a : Ex) | and (es : List Ex) | or (es : List Ex) | ite (c a b : Ex)
  | tup (es : List Ex) | lst (es : List Ex)
  | call (f : Str) (es : List Ex) | blt (f : Str) (es : List Ex)
  | idx (a i : Ex) | slice (a : Ex) (lo hi : Option Ex) | rev (a : Ex)
  | comp (k : Kind) (its : List Ex) (t : T) (ifs : List Ex) (elt : Ex) (own : List Nat)
  | pop (o : Ex) | dict (ks : List Str) (es : List Ex)
  deriving Repr, Inhabited
inductive Sx where
  | pass | brk | cont
  | asg (t : T) (e : Ex) | par (is : List Nat) (es : List Ex) | setI (o i e : Ex) | aug (i : Nat) (op : BOp) (e : Ex)
  | app (o e : Ex) | popS (o : Ex) | ret (e : Ex) | retN
  | ite (c : Ex) (a b : List Sx) | forr (k : Kind) (its : List Ex) (t : T) (body : List Sx) | whil (c : Ex) (body : List Sx)
  deriving Repr, Inhabited

/-! ### data read -/
mutual
def pyD : D → Option PyData
  | .non => some .none
  | .bl b => some (.bool b)
  | .int i => some (.int i)
  | .str s => some (.str s)
  | .tup xs => (pyDs xs).map .tuple
  | .loc _ => none
def pyDs : List D → Option (List PyData)
  | [] => some []
  | x :: xs => (pyD x).bind fun p => (pyDs xs).map fun ps => p :: ps
end
/-- the items of a list's place -/
def Cell.items : Cell → Option (List D)
  | .lst xs => some xs
  | .ro xs => some xs
  | .dct _ => none
def toPy (S : Sto) (d : D) : Option PyData :=
  match d with
  | .loc n => ((S[n]?).bind Cell.items).bind fun xs => (pyDs xs).map .list
  | d => pyD d
/-- a sequence's items: a tuple's or a list's -/
def seqOf (S : Sto) (d : D) : Option (List D) :=
  match d with
  | .tup xs => some xs
  | .loc n => (S[n]?).bind Cell.items
  | _ => none

/-! ### operators by data -/
def mulOk (i j : Int) : Bool := (decide (-(2 ^ 64) < i) && decide (i < 2 ^ 64)) || (decide (-(2 ^ 64) < j) && decide (j < 2 ^ 64)) || decide (i.natAbs.log2 + j.natAbs.log2 < 1000000)
def divOk (j : Int) : Bool := (decide (j ≠ 0) && decide (j.natAbs < 1073741824)) || (decide (0 < j) && decide (j.natAbs.log2 < 9000))
def binD (op : BOp) (a b : D) (S : Sto) : Option (D × Sto) :=
  match op, a, b with
  | .add, .int i, .int j => some (.int (i + j), S)
  | .sub, .int i, .int j => some (.int (i - j), S)
  | .mul, .int i, .int j => if mulOk i j = true then some (.int (i * j), S) else none
  | .fdiv, .int i, .int j => if divOk j = true then some (.int (i.fdiv j), S) else none
  | .mod, .int i, .int j => if j ≠ 0 then some (.int (i.fmod j), S) else none
  | .pow, .int i, .int j => if 0 ≤ j ∧ j ≤ 1000000 ∧ i.natAbs < 2 ^ 64 then some (.int (i ^ j.toNat), S) else none
  | .add, .tup xs, .tup ys => if xs.length + ys.length ≤ sizeLine then some (.tup (xs ++ ys), S) else none
  | .add, .loc n, .loc k => match S[n]?, S[k]? with
    | some (.lst xs), some (.lst ys) => if xs.length + ys.length ≤ sizeLine then some (.loc S.length, S ++ [.lst (xs ++ ys)]) else none
    | _, _ => none
  | .mul, .loc n, .int k => match S[n]? with
    | some (.lst xs) => if -(2 ^ 63) ≤ k ∧ k < 2 ^ 63 ∧ xs.length * k.toNat ≤ sizeLine then some (.loc S.length, S ++ [.lst (List.replicate k.toNat xs).flatten]) else none
    | _ => none
  | .mul, .tup xs, .int k => if xs ≠ [] ∧ 0 ≤ k ∧ k ≤ 1000 ∧ xs.length ≤ 1000 then some (.tup (List.replicate k.toNat xs).flatten, S) else none
  | _, _, _ => none
/-- two texts -/
def twoS (a b : D) : Option Bool :=
  match a, b with
  | .str x, .str y => some (decide (x = y))
  | _, _ => none
def cmpD (op : COp) (a b : D) (S : Sto) : Option D :=
  match op with
  | .eq => match twoS a b with
    | some c => some (.bl c)
    | none => match toPy S a, toPy S b with
      | some p, some q => if SeqAt.shaped p = true ∧ SeqAt.shaped q = true then some (.bl (PyData.eqv p q)) else none
      | _, _ => none
  | .ne => match twoS a b with
    | some c => some (.bl (!c))
    | none => match toPy S a, toPy S b with
      | some p, some q => if SeqAt.shaped p = true ∧ SeqAt.shaped q = true then some (.bl (!PyData.eqv p q)) else none
      | _, _ => none
  | .lt => match a, b with
    | .int i, .int j => some (.bl (decide (i < j)))
    | _, _ => none
  | .le => match a, b with
    | .int i, .int j => some (.bl (decide (i ≤ j)))
    | _, _ => none
  | .gt => match a, b with
    | .int i, .int j => some (.bl (decide (j < i)))
    | _, _ => none
  | .ge => match a, b with
    | .int i, .int j => some (.bl (decide (j ≤ i)))
    | _, _ => none
  | .isN => match b with
    | .non => some (.bl (match a with | .non => true | _ => false))
    | _ => none
  | .notN => match b with
    | .non => some (.bl (match a with | .non => false | _ => true))
    | _ => none
  | .mem => none
  | .nmem => none
def idxD (a i : D) (S : Sto) : Option D :=
  match a, i with
  | .tup xs, .int k => atI xs k
  | .loc n, .int k => ((S[n]?).bind Cell.items).bind fun xs => atI xs k
  | .loc n, .str x => match S[n]? with
    | some (.dct kvs) => (kvs.find? fun q => decide (q.1 = Sum.inr x)).map (·.2)
    | _ => none
  | _, _ => none
def cutL {α : Type} (xs : List α) (lo hi : Option Int) : List α := (xs.drop (HT.sIx xs.length 0 lo)).take (HT.sIx xs.length xs.length hi - HT.sIx xs.length 0 lo)
def sliceD (a : D) (lo hi : Option Int) (S : Sto) : Option (D × Sto) :=
  match a with
  | .tup xs => some (.tup (cutL xs lo hi), S)
  | .loc n => ((S[n]?).bind Cell.items).bind fun xs => some (.loc S.length, S ++ [.lst (cutL xs lo hi)])
  | _ => none
def revD (a : D) (S : Sto) : Option (D × Sto) :=
  match a with
  | .tup xs => some (.tup xs.reverse, S)
  | .loc n => ((S[n]?).bind Cell.items).bind fun xs => some (.loc S.length, S ++ [.lst xs.reverse])
  | _ => none
def intsD : List D → Option (List Int)
  | [] => some []
  | .int i :: r => (intsD r).map (i :: ·)
  | _ => none
def bools : List D → Option (List Bool)
  | [] => some []
  | .bl i :: r => (bools r).map (i :: ·)
  | _ => none
/-- a built-in function called -/
def bltD (f : Str) (ds : List D) (S : Sto) : Option (D × Sto) :=
  if f = "gcd" then match ds with
    | [.int a, .int b] => some (.int ((Nat.gcd a.natAbs b.natAbs : Nat) : Int), S)
    | _ => none
  else if f = "abs" then match ds with
    | [.int a] => some (.int (if a < 0 then -a else a), S)
    | _ => none
  else if f = "int" then match ds with
    | [.int a] => some (.int a, S)
    | [.bl b] => some (.int (if b then 1 else 0), S)
    | _ => none
  else if f = "max" then match ds with
    | [.int i, .int j] => some (.int (if j > i then j else i), S)
    | _ => none
  else if f = "min" then match ds with
    | [.int i, .int j] => some (.int (if j < i then j else i), S)
    | _ => none
  else if f = "len" then match ds with
    | [d] => (seqOf S d).map fun xs => (.int xs.length, S)
    | _ => none
  else if f = "tuple" then match ds with
    | [d] => (seqOf S d).map fun xs => (.tup xs, S)
    | _ => none
  else if f = "list" then match ds with
    | [d] => (seqOf S d).map fun xs => (.loc S.length, S ++ [.lst xs])
    | _ => none
  else if f = "all" then match ds with
    | [.loc n] => (((S[n]?).bind Cell.items).bind bools).map fun bs => (.bl (bs.all id), S)
    | _ => none
  else if f = "repr" then match ds with
    | [.tup xs] => (pyD (.tup xs)).bind fun p => if p.showable = true ∧ p.shown.length ≤ sizeLine ∧ p.depth ≤ 60 then some (.str p.shown, S) else none
    | _ => none
  else none
/-- what a for walks: its items, the places that stand still meanwhile -/
def iterD (k : Kind) (ds : List D) (S : Sto) : Option (List D × List Nat) :=
  match k, ds with
  | .seq, [.tup xs] => some (xs, [])
  | .seq, [.loc n] => ((S[n]?).bind Cell.items).map fun xs => (xs, [n])
  | .rng, [.int j] => if -(2 ^ 62) ≤ j ∧ j < 2 ^ 62 then some ((List.range j.toNat).map fun i => .int (i : Nat), []) else none
  | .rng, [.int i, .int j] => if -(2 ^ 62) ≤ i ∧ i < 2 ^ 62 ∧ -(2 ^ 62) ≤ j ∧ j < 2 ^ 62 then some ((List.range (j - i).toNat).map fun t => .int (i + (t : Nat)), []) else none
  | .rng, [.int i, .int j, .int c] => if -(2 ^ 62) ≤ i ∧ i < 2 ^ 62 ∧ -(2 ^ 62) ≤ j ∧ j < 2 ^ 62 ∧ c = -1 then some ((List.range (i - j).toNat).map fun t => .int (i + (t : Nat) * (-1)), []) else none
  | .enum, [.tup xs] => some ((List.range xs.length).map fun i => .tup [.int (i : Nat), xs.getD i .non], [])
  | .enum, [.loc n] => ((S[n]?).bind Cell.items).map fun xs => ((List.range xs.length).map fun i => .tup [.int (i : Nat), xs.getD i .non], [n])
  | .zip, [.tup xs, .tup ys] => some ((List.range (min xs.length ys.length)).map fun i => .tup [xs.getD i .non, ys.getD i .non], [])
  | .zip, [.loc n, .loc m] => ((S[n]?).bind Cell.items).bind fun xs => ((S[m]?).bind Cell.items).map fun ys => ((List.range (min xs.length ys.length)).map fun i => .tup [xs.getD i .non, ys.getD i .non], [n, m])
  | _, _ => none

/-! ### binding -/
mutual
def bind1 : T → D → En → Option En
  | .nm i, d, ρ => some (ρ.set i (some d))
  | .tup ts, .tup ds, ρ => bindL ts ds ρ
  | .tup _, _, _ => none
def bindL : List T → List D → En → Option En
  | [], [], ρ => some ρ
  | t :: ts, d :: ds, ρ => (bind1 t d ρ).bind fun ρ' => bindL ts ds ρ'
  | _, _, _ => none
end
def setAll : List Nat → List D → En → Option En
  | [], [], ρ => some ρ
  | i :: is, d :: ds, ρ => setAll is ds (ρ.set i (some d))
  | _, _, _ => none
def putD (kvs : List (Key × D)) (k : Key) (v : D) : List (Key × D) :=
  if (kvs.any fun q => decide (q.1 = k)) = true then kvs.map (fun q => if q.1 = k then (q.1, v) else q) else kvs ++ [(k, v)]
/-- o[i] = v -/
def setD (o i v : D) (S : Sto) : Option Sto :=
  match o, i with
  | .loc n, .int k => match S[n]? with
    | some (.lst xs) => (ixN xs.length k).map fun j => S.set n (.lst (xs.set j v))
    | _ => none
  | .loc n, .str x => match S[n]? with
    | some (.dct kvs) => if kvs.length < sizeLine then some (S.set n (.dct (putD kvs (Sum.inr x) v))) else none
    | _ => none
  | _, _ => none
def isLst (o : D) (S : Sto) : Bool :=
  match o with
  | .loc n => match S[n]? with
    | some (.lst _) => true
    | _ => false
  | _ => false
def appD (o v : D) (S : Sto) : Option Sto :=
  match o with
  | .loc n => match S[n]? with
    | some (.lst xs) => if xs.length < sizeLine then some (S.set n (.lst (xs ++ [v]))) else none
    | _ => none
  | _ => none
def popD (o : D) (S : Sto) : Option (D × Sto) :=
  match o with
  | .loc n => match S[n]? with
    | some (.lst xs) => (xs[xs.length - 1]?).map fun y => (y, S.set n (.lst xs.dropLast))
    | _ => none
  | _ => none

/-! ### the language -/
structure Cfg where
  cal : Str → List D → Sto → Option (D × Sto)
  cst : Str → Option D

open Classical in
/-- a comprehension's turns: the list grows at n -/
noncomputable def compGo (n : Nat) (L : List Nat) (S0 : Sto) (step : D → Sto → Option (Option D × Sto)) : List D → Sto → Option Sto
  | [], S => some S
  | x :: xs, S => (step x S).bind fun r =>
    if (∀ l ∈ L, r.2[l]? = S0[l]?) ∧ S.length ≤ r.2.length then
      match r.1 with
      | none => compGo n L S0 step xs r.2
      | some y => match r.2[n]? with
        | some (.lst acc) => if acc.length < sizeLine then compGo n L S0 step xs (r.2.set n (.lst (acc ++ [y]))) else none
        | _ => none
    else none
mutual
noncomputable def evE (C : Cfg) : Ex → En → Sto → Option (D × Sto)
  | .var i, ρ, S => match ρ[i]? with
    | some (some d) => some (d, S)
    | _ => none
  | .lit l, _, S => some (l.d, S)
  | .glob x, _, S => (C.cst x).map fun d => (d, S)
  | .bin op a b, ρ, S => (evE C a ρ S).bind fun p => (evE C b ρ p.2).bind fun q => binD op p.1 q.1 q.2
  | .neg a, ρ, S => (evE C a ρ S).bind fun p => match p.1 with
    | .int i => some (.int (-i), p.2)
    | _ => none
  | .cmp op a b, ρ, S => (evE C a ρ S).bind fun p => (evE C b ρ p.2).bind fun q => (cmpD op p.1 q.1 q.2).map fun d => (d, q.2)
  | .not a, ρ, S => (evT C a ρ S).map fun p => (.bl (!p.1), p.2)
  | .and es, ρ, S => (evAnd C es ρ S).map fun p => (.bl p.1, p.2)
  | .or es, ρ, S => (evOr C es ρ S).map fun p => (.bl p.1, p.2)
  | .ite c a b, ρ, S => (evT C c ρ S).bind fun p => if p.1 = true then evE C a ρ p.2 else evE C b ρ p.2
  | .tup es, ρ, S => (evEs C es ρ S).bind fun p => if p.1.length ≤ sizeLine then some (.tup p.1, p.2) else none
  | .lst es, ρ, S => (evEs C es ρ S).bind fun p => if p.1.length ≤ sizeLine then some (.loc p.2.length, p.2 ++ [.lst p.1]) else none
  | .call f es, ρ, S => (evEs C es ρ S).bind fun p => C.cal f p.1 p.2
  | .blt f es, ρ, S => (evEs C es ρ S).bind fun p => bltD f p.1 p.2
  | .idx a i, ρ, S => (evE C a ρ S).bind fun p => (evE C i ρ p.2).bind fun q => (idxD p.1 q.1 q.2).map fun d => (d, q.2)
  | .slice a lo hi, ρ, S => (evE C a ρ S).bind fun p => (evO C lo ρ p.2).bind fun q => (evO C hi ρ q.2).bind fun r => sliceD p.1 q.1 r.1 r.2
  | .rev a, ρ, S => (evE C a ρ S).bind fun p => revD p.1 p.2
  | .comp k its t ifs elt own, ρ, S => (evEs C its ρ S).bind fun p => (iterD k p.1 p.2).bind fun q =>
    (compGo p.2.length q.2 p.2 (fun x S1 => (bind1 t x (wipeE ρ own)).bind fun ρ1 => (evAnd C ifs ρ1 S1).bind fun b => if b.1 = true then (evE C elt ρ1 b.2).map fun y => (some y.1, y.2) else some (none, b.2)) q.1 (p.2 ++ [.lst []])).map fun S2 => (.loc p.2.length, S2)
  | .pop o, ρ, S => (evE C o ρ S).bind fun p => popD p.1 p.2
  | .dict ks es, ρ, S => (evEs C es ρ (S ++ [.dct []])).bind fun p => match p.2[S.length]? with
    | some (.dct []) => if ks.length = p.1.length ∧ ks.Nodup ∧ ks.length ≤ 15 then some (.loc S.length, p.2.set S.length (.dct ((ks.map Sum.inr).zip p.1))) else none
    | _ => none
noncomputable def evT (C : Cfg) : Ex → En → Sto → Option (Bool × Sto)
  | .not a, ρ, S => (evT C a ρ S).map fun p => (!p.1, p.2)
  | .and es, ρ, S => evAnd C es ρ S
  | .or es, ρ, S => evOr C es ρ S
  | .cmp op a b, ρ, S => (evE C a ρ S).bind fun p => (evE C b ρ p.2).bind fun q => match cmpD op p.1 q.1 q.2 with
    | some (.bl c) => some (c, q.2)
    | _ => none
  | .call f es, ρ, S => (evEs C es ρ S).bind fun p => match C.cal f p.1 p.2 with
    | some (.bl c, S') => some (c, S')
    | _ => none
  | .blt f es, ρ, S => (evEs C es ρ S).bind fun p => match bltD f p.1 p.2 with
    | some (.bl c, S') => some (c, S')
    | _ => none
  | _, _, _ => none
noncomputable def evAnd (C : Cfg) : List Ex → En → Sto → Option (Bool × Sto)
  | [], _, S => some (true, S)
  | e :: es, ρ, S => (evT C e ρ S).bind fun p => if p.1 = true then evAnd C es ρ p.2 else some (false, p.2)
noncomputable def evOr (C : Cfg) : List Ex → En → Sto → Option (Bool × Sto)
  | [], _, S => some (false, S)
  | e :: es, ρ, S => (evT C e ρ S).bind fun p => if p.1 = true then some (true, p.2) else evOr C es ρ p.2
noncomputable def evEs (C : Cfg) : List Ex → En → Sto → Option (List D × Sto)
  | [], _, S => some ([], S)
  | e :: es, ρ, S => (evE C e ρ S).bind fun p => (evEs C es ρ p.2).map fun q => (p.1 :: q.1, q.2)
noncomputable def evO (C : Cfg) : Option Ex → En → Sto → Option (Option Int × Sto)
  | none, _, S => some (none, S)
  | some e, ρ, S => (evE C e ρ S).bind fun p => match p.1 with
    | .int i => some (some i, p.2)
    | _ => none
end

/-! ### statements -/
inductive Out where
  | nx (ρ : En) | brk (ρ : En) | cont (ρ : En) | ret (d : D)
  deriving Inhabited
open Classical in
noncomputable def forGo (L : List Nat) (S0 : Sto) (step : D → En → Sto → Option (Out × Sto)) : List D → En → Sto → Option (Out × Sto)
  | [], ρ, S => some (.nx ρ, S)
  | x :: xs, ρ, S => (step x ρ S).bind fun r => match r.1 with
    | .nx ρ' => if ∀ l ∈ L, r.2[l]? = S0[l]? then forGo L S0 step xs ρ' r.2 else none
    | .cont ρ' => if ∀ l ∈ L, r.2[l]? = S0[l]? then forGo L S0 step xs ρ' r.2 else none
    | .brk ρ' => some (.nx ρ', r.2)
    | .ret d => some (.ret d, r.2)
def whileN (c : En → Sto → Option (Bool × Sto)) (b : En → Sto → Option (Out × Sto)) : Nat → En → Sto → Option (Out × Sto)
  | 0, _, _ => none
  | n + 1, ρ, S => (c ρ S).bind fun p => if p.1 = true then (b ρ p.2).bind fun r => match r.1 with
      | .nx ρ' => whileN c b n ρ' r.2
      | .cont ρ' => whileN c b n ρ' r.2
      | .brk ρ' => some (.nx ρ', r.2)
      | .ret d => some (.ret d, r.2)
    else some (.nx ρ, p.2)
open Classical in
noncomputable def whileD (c : En → Sto → Option (Bool × Sto)) (b : En → Sto → Option (Out × Sto)) (ρ : En) (S : Sto) : Option (Out × Sto) :=
  if h : ∃ r n, whileN c b n ρ S = some r then some h.choose else none
theorem whileN_mono {c : En → Sto → Option (Bool × Sto)} {b : En → Sto → Option (Out × Sto)} : ∀ {n : Nat} {ρ : En} {S : Sto} {r : Out × Sto}, whileN c b n ρ S = some r → ∀ k, whileN c b (n + k) ρ S = some r
  | 0, _, _, _, h, _ => by cases h
  | n + 1, ρ, S, r, h, k => by
    rw [show n + 1 + k = (n + k) + 1 by omega]
    unfold whileN at h ⊢
    cases hc : c ρ S with
    | none => rw [hc] at h; cases h
    | some p =>
      rw [hc] at h
      simp only [Option.bind_some] at h ⊢
      cases hp : p.1 with
      | false => rw [hp] at h; exact h
      | true =>
        rw [hp] at h
        simp only [if_true] at h ⊢
        cases hb : b ρ p.2 with
        | none => rw [hb] at h; cases h
        | some q =>
          rw [hb] at h
          simp only [Option.bind_some] at h ⊢
          obtain ⟨o, S'⟩ := q
          cases o with
          | nx ρ' => exact whileN_mono h k
          | cont ρ' => exact whileN_mono h k
          | brk ρ' => exact h
          | ret d => exact h
theorem whileD_of {c : En → Sto → Option (Bool × Sto)} {b : En → Sto → Option (Out × Sto)} {n : Nat} {ρ : En} {S : Sto} {r : Out × Sto} (h : whileN c b n ρ S = some r) : whileD c b ρ S = some r := by
  have hx : ∃ r n, whileN c b n ρ S = some r := ⟨r, n, h⟩
  unfold whileD
  rw [dif_pos hx]
  obtain ⟨k, hk⟩ := hx.choose_spec
  have h1 := whileN_mono h k
  have h2 := whileN_mono hk n
  rw [Nat.add_comm] at h2
  rw [h1] at h2
  exact h2.symm ▸ rfl
theorem whileD_some {c : En → Sto → Option (Bool × Sto)} {b : En → Sto → Option (Out × Sto)} {ρ : En} {S : Sto} {r : Out × Sto} (h : whileD c b ρ S = some r) : ∃ n, whileN c b n ρ S = some r := by
  unfold whileD at h
  split at h
  · rename_i hx
    cases h
    exact hx.choose_spec
  · cases h
mutual
noncomputable def evS (C : Cfg) : Sx → En → Sto → Option (Out × Sto)
  | .pass, ρ, S => some (.nx ρ, S)
  | .brk, ρ, S => some (.brk ρ, S)
  | .cont, ρ, S => some (.cont ρ, S)
  | .asg t e, ρ, S => (evE C e ρ S).bind fun p => (bind1 t p.1 ρ).map fun ρ' => (.nx ρ', p.2)
  | .par is es, ρ, S => (evEs C es ρ S).bind fun p => (setAll is p.1 ρ).map fun ρ' => (.nx ρ', p.2)
  | .setI o i e, ρ, S => (evE C e ρ S).bind fun v => (evE C o ρ v.2).bind fun p => (evE C i ρ p.2).bind fun q => (setD p.1 q.1 v.1 q.2).map fun S' => (.nx ρ, S')
  | .aug i op e, ρ, S => match ρ[i]? with
    | some (some d) => (evE C e ρ S).bind fun p => match d, p.1 with
      | .int x, .int y => (binD op (.int x) (.int y) p.2).map fun q => (.nx (ρ.set i (some q.1)), q.2)
      | _, _ => none
    | _ => none
  | .app o e, ρ, S => (evE C o ρ S).bind fun p => if isLst p.1 p.2 = true then (evE C e ρ p.2).bind fun q => (appD p.1 q.1 q.2).map fun S' => (.nx ρ, S') else none
  | .popS o, ρ, S => (evE C o ρ S).bind fun p => (popD p.1 p.2).map fun q => (.nx ρ, q.2)
  | .ret e, ρ, S => (evE C e ρ S).map fun p => (.ret p.1, p.2)
  | .retN, _, S => some (.ret .non, S)
  | .ite c a b, ρ, S => (evT C c ρ S).bind fun p => if p.1 = true then evB C a ρ p.2 else evB C b ρ p.2
  | .forr k its t body, ρ, S => (evEs C its ρ S).bind fun p => (iterD k p.1 p.2).bind fun q =>
    forGo q.2 p.2 (fun x ρ1 S1 => (bind1 t x ρ1).bind fun ρ2 => evB C body ρ2 S1) q.1 ρ p.2
  | .whil c body, ρ, S => whileD (fun ρ1 S1 => evT C c ρ1 S1) (fun ρ1 S1 => evB C body ρ1 S1) ρ S
noncomputable def evB (C : Cfg) : List Sx → En → Sto → Option (Out × Sto)
  | [], ρ, S => some (.nx ρ, S)
  | s :: r, ρ, S => (evS C s ρ S).bind fun p => match p.1 with
    | .nx ρ' => evB C r ρ' p.2
    | o => some (o, p.2)
end
structure FD where
  np : Nat
  nl : Nat
  body : List Sx
  deriving Inhabited
open Classical in
/-- behind a body: what it hands back; what it made is forgotten if it is not handed out -/
noncomputable def retD (S : Sto) (r : Out × Sto) : Option (D × Sto) :=
  match r.1 with
  | .ret d => if NoLoc d ∧ r.2.take S.length = S then some (d, S) else some (d, r.2)
  | .nx _ => if r.2.take S.length = S then some (.non, S) else some (.non, r.2)
  | _ => none
noncomputable def runF (cst : Str → Option D) (tb : Str → Option FD) : Nat → Str → List D → Sto → Option (D × Sto)
  | 0, _, _, _ => none
  | k + 1, f, ds, S => (tb f).bind fun fd => if ds.length = fd.np then
      (evB ⟨runF cst tb k, cst⟩ fd.body (ds.map some ++ List.replicate (fd.nl - fd.np) none) S).bind (retD S) else none
end Pf

/-! Rules that the layer lacks: a tuple times 0 or 1, a tuple turned about. -/
namespace Pf
open PySem PySem.Spec PyProof.Rows L2
theorem mul_one_tree (l : Addr) (items : Array Value) (n : Nat) (dd : Option Addr) (sl : Array (Option Value)) (u : Tok) :
    Meets (Builtin.«tuple.__mul__» ⟨[.ref l, .int 1 u], []⟩) (fun _ R s => s.heap.get? l = some { cls := .type "tuple", dict := dd, data := .seq items n, slots := sl } ∧ R (.ok (.ret (Value.ref l))) s) :=
  .of_wp fun prog w A R s h => by
    obtain ⟨hp, g, d, tk, os⟩ := s
    obtain ⟨hl, h⟩ := h
    have f1 := AutoSeq1.idx_int
    have c1 : (items.isEmpty || (1 : Int) == 1) = true := by simp
    have hT : Shared.TypeIs ⟨hp, g, d, tk, os⟩ (.ref l) "tuple" := ⟨_, hl, rfl⟩
    wp_walk using wpAny_loadPart' hl
    exact ⟨_, rfl, h⟩
theorem mul_zero_tree (l : Addr) (items : Array Value) (n : Nat) (dd : Option Addr) (sl : Array (Option Value)) (u : Tok) (hne : items.isEmpty = false) :
    Meets (Builtin.«tuple.__mul__» ⟨[.ref l, .int 0 u], []⟩) (fun _ R s => s.heap.get? l = some { cls := .type "tuple", dict := dd, data := .seq items n, slots := sl } ∧
      R (.ok (.ret (Value.ref s.heap.objs.size))) { s with heap := s.heap.push { cls := Value.type "tuple", data := Data.seq #[] }, toks := s.toks }) :=
  .of_wp fun prog w A R s h => by
    obtain ⟨hp, g, d, tk, os⟩ := s
    obtain ⟨hl, h⟩ := h
    have f1 := AutoSeq1.idx_int
    have c1 : (items.isEmpty || (0 : Int) == 1) = false := by rw [hne]; rfl
    wp_walk using wpAny_loadPart' hl
    repeat (first
      | (refine wpAny_ite_false (decide_eq_false (by rw [c1]; exact Bool.false_ne_true)) ?_; wp_walk using wpAny_loadPart' hl))
    exact ⟨_, rfl, h⟩
/-- a tuple times 0 or 1 -/
def rRep01 (K : PySem.W.Frag) : R2 := fun x y H Q => ∃ l k xs, x = .ref l ∧ y = .int k ∧ SqT K H l xs ∧ xs ≠ [] ∧ ((k = 1 ∧ Q (.ref l) H) ∨ (k = 0 ∧ ∀ p, H p = none → Q (.ref p) (upd H p (.tup []))))
section
variable {X : Cx}
theorem op_rep01 : OpR X (binaryOp .Mult) (rRep01 X.K) := by
  intro pins s σ H x y v u Q I rx ry h
  obtain ⟨l, k, xs, rfl, rfl, hT, hne, h⟩ := h
  cases rx
  obtain ⟨t, rfl⟩ := ry
  obtain ⟨its, r, ⟨⟨cls, dd, data, sl⟩, ho, hc, n, hd⟩, hs⟩ := I.tuple hT
  simp only at hc hd
  subst hc hd
  have hi : its.toArray.isEmpty = false := by
    cases its with
    | nil => cases r; exact absurd rfl hne
    | cons a b => rfl
  rcases h with ⟨rfl, q⟩ | ⟨rfl, q⟩
  · exact wpAny_binaryOp_repeat_ref (T := "tuple") (U := "int") (by decide) ⟨_, ho, rfl⟩ (fun s' => typeIs_int s' 1 t) noFill_tuple_mul F.fills_int_mul F.slot_int_rmul repeat_tuple F.slot_int_index.lookup
      (call_meets F.slot_int_rmul (typeIs_int s 1 t) F.entry_int_rmul (F.args_int_rmul_2 _ _) (int_rmul_tuple 1 t l its.toArray n dd sl)
        ⟨ho, rfl, ⟨_, ho, rfl⟩, call_meets F.slot_tuple_mul ⟨_, ho, rfl⟩ F.entry_tuple_mul (F.args_tuple_mul_2 _ _) (mul_one_tree l its.toArray n dd sl t) ⟨ho, ⟨.ref l, H, I, rfl, q⟩⟩⟩)
  · refine wpAny_binaryOp_repeat_ref (T := "tuple") (U := "int") (by decide) ⟨_, ho, rfl⟩ (fun s' => typeIs_int s' 0 t) noFill_tuple_mul F.fills_int_mul F.slot_int_rmul repeat_tuple F.slot_int_index.lookup
      (call_meets F.slot_int_rmul (typeIs_int s 0 t) F.entry_int_rmul (F.args_int_rmul_2 _ _) (int_rmul_tuple 0 t l its.toArray n dd sl)
        ⟨ho, rfl, ⟨_, ho, rfl⟩, call_meets F.slot_tuple_mul ⟨_, ho, rfl⟩ F.entry_tuple_mul (F.args_tuple_mul_2 _ _) (mul_zero_tree l its.toArray n dd sl t hi) ⟨ho, ?_⟩⟩)
    have hf : H s.heap.objs.size = none := I.hok.fresh (Nat.le_refl _)
    refine ⟨.ref s.heap.objs.size, upd H s.heap.objs.size (.tup []), I.laid (t' := s.toks) (fun b u e => Heap.get?_push_of_some _ e) (Nat.le_refl _) ?_, rfl, q _ hf⟩
    exact ⟨by simp, [], .nil, ⟨_, Heap.get?_push_size _ rfl, rfl, _, rfl⟩⟩
end
/-! ### a tuple turned about -/
section
variable {prog : Program} {w : World} {A : Around} {E : Value → Shared → Prop} {s : Shared}
theorem pick_back (xs : List Value) : ((List.range xs.length).filterMap fun (k : Nat) => xs.toArray[((((xs.length : Nat) : Int) - 1) + (k : Int) * (-1)).toNat]?) = xs.reverse := by
  apply List.ext_getElem?
  intro i
  have all : ∀ k ∈ List.range xs.length, xs.toArray[((((xs.length : Nat) : Int) - 1) + (k : Int) * (-1)).toNat]? = some (xs.reverse.getD k .none) := fun k hk => by
    have hk := List.mem_range.mp hk
    have e : ((((xs.length : Nat) : Int) - 1) + (k : Int) * (-1)).toNat = xs.length - 1 - k := by omega
    rw [e, List.getElem?_toArray, List.getElem?_eq_getElem (by omega), List.getD_eq_getElem?_getD, List.getElem?_reverse hk, List.getElem?_eq_getElem (by omega)]
    rfl
  have this : ∀ l : List Nat, (∀ k ∈ l, k < xs.length) → (l.filterMap fun (k : Nat) => xs.toArray[((((xs.length : Nat) : Int) - 1) + (k : Int) * (-1)).toNat]?) = l.map fun k => xs.reverse.getD k .none := by
    intro l hl
    induction l with
    | nil => rfl
    | cons k r ih =>
      rw [List.filterMap_cons, all k (List.mem_range.mpr (hl k List.mem_cons_self)), List.map_cons]
      show _ :: _ = _
      rw [ih fun j hj => hl j (List.mem_cons_of_mem _ hj)]
  rw [this _ fun k hk => List.mem_range.mp hk, List.getElem?_map]
  by_cases h : i < xs.length
  · rw [List.getElem?_range h, List.getElem?_eq_getElem (by simpa using h)]
    simp [List.getD_eq_getElem?_getD, List.getElem?_eq_getElem (show i < xs.reverse.length by simpa using h)]
  · rw [List.getElem?_eq_none (by simpa using h), List.getElem?_eq_none (by simpa using h)]
    rfl
theorem applied_back {sl : Addr} {vk : Value} {n : Nat} {Q : Int × Int × Nat → Shared → Prop} (hs : s.heap.IsSliceOf sl .none .none vk) (pk : IsPart vk (some (-1)))
    (h : Q (((n : Nat) : Int) - 1, -1, n) s) : wpAny (model prog w) A (Builtin.Slice.sliceApplied (.ref sl) (pure (n : Int))) Q E s := by
  obtain ⟨os, hos, hcs, hds⟩ := id hs
  unfold Builtin.Slice.sliceApplied Builtin.Slice.sliceFields
  refine wpAny_bind (wpAny_bind (wpAny_field hos hds (x := .none) rfl (wpAny_bind (wpAny_field hos hds (x := .none) rfl (wpAny_bind (wpAny_field hos hds (x := vk) rfl (wpAny_pure ?_)))))))
  refine wpAny_bind (HT.slicePart_ pk ?_)
  show wpAny _ _ (if ((-1 : Int) == 0) = true then _ else _) _ _ s
  rw [if_neg (by decide)]
  refine wpAny_bind (slicePart_none (wpAny_bind (slicePart_none (wpAny_bind (wpAny_pure ?_)))))
  have e1 : Builtin.Slice.sliceAdjust none none (-1) (n : Int) = ((n : Int) - 1, -1) := by
    unfold Builtin.Slice.sliceAdjust
    simp
  show wpAny _ _ (match Builtin.Slice.sliceAdjust none none (-1) (n : Int) with | (lo, hi) => pure (lo, (-1 : Int), Builtin.Slice.slicePlaces lo hi (-1))) _ _ s
  rw [e1]
  have e2 : Builtin.Slice.slicePlaces ((n : Int) - 1) (-1) (-1) = n := by
    unfold Builtin.Slice.slicePlaces
    simp
    split <;> omega
  show wpAny _ _ (pure ((n : Int) - 1, (-1 : Int), Builtin.Slice.slicePlaces ((n : Int) - 1) (-1) (-1))) _ _ s
  rw [e2]
  exact wpAny_pure h
theorem getItem_tuple_back {t sl : Addr} {items : List Value} {vk : Value} {Q : Value → Shared → Prop} (ht : IsTup s.heap t items.toArray) (hs : s.heap.IsSliceOf sl .none .none vk) (pk : IsPart vk (some (-1)))
    (h : Q (.ref s.heap.objs.size) { s with heap := s.heap.push { cls := .type "tuple", data := .seq items.reverse.toArray } }) (hsz : items.length ≤ sizeLine) : wpAny (model prog w) A (getItem (.ref t) (.ref sl)) Q E s := by
  obtain ⟨os, hos, hcs, hds⟩ := id hs
  have hTs : s.TypeIs (.ref sl) "slice" := ⟨os, hos, hcs⟩
  have hz : sizeOk (.seq items.reverse.toArray) := by
    show items.reverse.toArray.size ≤ sizeLine
    simpa using hsz
  unfold getItem
  try with_reducible refine wpAny_holding ?_
  first | refine wpAny_bind (wpAny_pure ?_) | skip
  refine wpAny_bind (wpAny_sequenceKey ht.typeIs (by decide) ?_)
  refine wpAny_bind (wpAny_callSpecial?_slot (name := Str.ofString "__getitem__") ht.typeIs PyProof.Rows.slot_tuple_getitem
    (wpAny_call_entry PyProof.Rows.slot_tuple_getitem ht.typeIs entry_tuple_getitem ?_ (args_tuple_getitem _ _)))
  show wpAny _ _ (Builtin.Tuple.tupleItemsOf (.ref t) >>= _) _ _ s
  refine wpAny_bind (tupleItemsOf_ ht ?_)
  refine wpAny_bind (wpAny_typeOf hTs ?_)
  rw [if_pos (by decide)]
  refine wpAny_bind (applied_back hs pk ?_)
  have hno : ¬ ((((items.toArray.size : Nat) : Int) - 1 == 0 && (-1 : Int) == 1 && items.toArray.size == items.toArray.size) = true) := by
    intro q
    rw [Bool.and_eq_true, Bool.and_eq_true] at q
    exact absurd q.1.2 (by decide)
  show wpAny _ _ (if (((items.toArray.size : Nat) : Int) - 1 == 0 && (-1 : Int) == 1 && items.toArray.size == items.toArray.size) = true then _ else _) _ _ s
  rw [if_neg hno]
  have e := pick_back items
  rw [show items.toArray.size = items.length by simp, e]
  first
    | exact wpAny_bind (m := Builtin.Tuple.tupleExact _) (wpAny_newObj_type (wpAny_pure ⟨_, rfl, wpAny_pure h⟩) hz)
    | exact wpAny_bind (m := Builtin.Tuple.tupleExact _) (wpAny_newObj_type (wpAny_bind (wpAny_pure (wpAny_pure ⟨_, rfl, wpAny_pure h⟩))) hz)
    | exact wpAny_bind (wpAny_bind (m := Builtin.Tuple.tupleExact _) (wpAny_newObj_type (wpAny_pure (wpAny_pure ⟨_, rfl, wpAny_pure h⟩)) hz))
    | exact wpAny_bind (wpAny_bind (m := Builtin.Tuple.tupleExact _) (wpAny_newObj_type (wpAny_pure ⟨_, rfl, wpAny_pure h⟩) hz))
end
/-- t[::-1] -/
def tRevT (K : PySem.W.Frag) (te : TE) : TE := fun σ H Q => te σ H fun x H1 => ∃ a xs, x = .ref a ∧ SqT K H1 a xs ∧ ∀ p, H1 p = none → Q (.ref p) (upd H1 p (.tup xs.reverse))
theorem pe_revT {X : Cx} {e : Expr} {te : TE} {k : Nat} {p1 p2 p3 pos : Pos} (he : PE X e te) : PE X (.Subscript e (.Slice none none (some (.UnaryOp .USub (.Constant (.int 1) k p1) p2)) p3) pos) (tRevT X.K te) := by
  refine ⟨fun pins s σ H Q I h => ?_⟩
  refine Subscript_ (thn (he.run pins s σ H _ I h) fun v s1 ⟨x, H1, I1, r1, q1⟩ => ?_)
  obtain ⟨a, xs, ex, hx, q⟩ := q1
  subst ex
  cases r1
  have hst : PO X (some (.UnaryOp .USub (.Constant (.int 1) k p1) p2)) (tPart (tUn (rU fun i => .int (-i)) (tC (.int 1)))) := po_some (pe_un un_neg pe_int)
  refine wpAny_Slice (thn (po_none.run pins s1 σ H1 (fun o H2 => o = none ∧ H2 = H1) I1 ⟨rfl, rfl⟩) fun vl s2 ⟨l, H2, I2, pl, el, e2⟩ => ?_)
  subst el e2
  refine thn (po_none.run pins s2 σ H2 (fun o H3 => o = none ∧ H3 = H2) I2 ⟨rfl, rfl⟩) fun vu s3 ⟨u, H3, I3, pu, eu, e3⟩ => ?_
  subst eu e3
  refine thn (hst.run pins s3 σ H3 (fun o H4 => o = some (-1) ∧ H4 = H3) I3 ⟨1, rfl, -1, rfl, rfl, rfl⟩) fun vs s4 ⟨o, H4, I4, ps, eo, e4⟩ => ?_
  subst eo e4
  cases pl
  cases pu
  have I5 : Inv X pins σ H4 { s4 with heap := s4.heap.push { cls := .type "slice", data := .fields #[.none, .none, vs] } } := I4.kept (t' := s4.toks) fun b ob q => Heap.get?_push_of_some _ q
  obtain ⟨its, r, ht, hz⟩ := I5.tuple hx
  have hlen := r.length
  show wpAny (model X.prog X.w) X.A (subscriptTail e (.Slice none none (some (.UnaryOp .USub (.Constant (.int 1) k p1) p2)) p3) (.ref a) (.ref s4.heap.objs.size)) (EP X pins σ Q) X.xe { s4 with heap := s4.heap.push { cls := .type "slice", data := .fields #[.none, .none, vs] } }
  refine tail_any (ops := [.ref a, .ref s4.heap.objs.size]) ht.typeIs (PyProof.Rows.slot_tuple_getitem.lookup) ?_ (by with_unfolding_all rfl)
  refine getItem_tuple_back ht (Heap.IsSliceOf.new _ .none .none vs) ps ?_ (by omega)
  refine ⟨.ref _, _, I5.laid (t' := s4.toks) (o := .tup xs.reverse) (fun b ob q => Heap.get?_push_of_some _ q) (Nat.le_refl _) ?_, rfl, q _ (I5.hok.fresh (Nat.le_refl _))⟩
  exact ⟨by rw [List.length_reverse]; exact hz, _, r.reverse, ⟨_, Heap.get?_push_size _ rfl, rfl, _, rfl⟩⟩
end Pf

/-! enumerate over a tuple. -/
namespace Pf
open PySem PySem.Spec PyProof.Rows L2
open AutoSeq1 (wpAny_loadPart')
theorem enum_new_tree (l : Addr) (items : Array Value) (n : Nat) (dct : Option Addr) (sl : Array (Option Value)) :
    Meets (Builtin.«enumerate.__new__» ⟨[.type "enumerate", .ref l], []⟩) (fun _ R s => s.heap.get? l = some { cls := .type "tuple", dict := dct, data := .seq items n, slots := sl } ∧
      R (.ok (.ret (.ref (s.heap.push { cls := .type "tuple_iterator", data := .fields #[.ref l, .int 0 0] }).objs.size)))
        { s with heap := (s.heap.push { cls := .type "tuple_iterator", data := .fields #[.ref l, .int 0 0] }).push { cls := .type "enumerate", data := .fields #[.none, .bool false, .ref s.heap.objs.size, rawInt 0, .none, .none] } }) :=
  .of_wp fun prog w A R s h => by
    obtain ⟨hp, g, d, tk, os⟩ := s
    obtain ⟨hl, h⟩ := h
    have hsub := sub_enumerate
    have hL : Heap.IsTuple (Shared.heap ⟨hp, g, d, tk, os⟩) l items := ⟨_, hl, rfl, n, rfl⟩
    wp_walk using wpAny_loadPart' hl
    refine wpAny_stack_any fun st => wpAny_pure ?_
    split
    · rename_i c _ _ _ _ _
      cases (c == Value.type "enumerate")
      · wp_walk using wpAny_loadPart' hl, wpAny_pyIter_tuple hL
        exact ⟨_, rfl, h⟩
      · wp_walk using wpAny_loadPart' hl, wpAny_pyIter_tuple hL
        exact ⟨_, rfl, h⟩
    · wp_walk using wpAny_loadPart' hl, wpAny_pyIter_tuple hL
      exact ⟨_, rfl, h⟩
section
variable {prog : Program} {w : World} {A : Around} {E : Value → Shared → Prop} {s : Shared}
theorem call_enum_tup {l : Addr} {items : Array Value} {Q : Value → Shared → Prop} (hL : s.heap.IsTuple l items)
    (h : ∀ h', IsEnum h' (s.heap.objs.size + 1) s.heap.objs.size 0 .none → h'.IsTupleIter s.heap.objs.size l 0 → h'.objs.size = s.heap.objs.size + 2 →
      (∀ b o, s.heap.get? b = some o → h'.get? b = some o) → Q (.ref (s.heap.objs.size + 1)) { s with heap := h' }) :
    wpAny (model prog w) A (call (.type "enumerate") [.ref l]) Q E s := by
  obtain ⟨⟨c, dct, dt, sl⟩, hl, hc, n, hd⟩ := hL
  replace hc : c = .type "tuple" := hc
  replace hd : dt = .seq items n := hd
  subst hc hd
  refine callType_new F.called_enumerate (by decide) (F.typeCall_enumerate_1 _) (F.newCall_enumerate_1 _) (fun obj => F.args_object_init_2 obj _) F.entry_enumerate_new
    (enum_new_tree l items n dct sl) ⟨hl, ?_⟩
  have hz : (s.heap.push { cls := .type "tuple_iterator", data := .fields #[.ref l, .int 0 0] }).objs.size = s.heap.objs.size + 1 := Heap.size_push ..
  show _ ∧ _
  rw [hz]
  have he : IsEnum ((s.heap.push { cls := .type "tuple_iterator", data := .fields #[.ref l, .int 0 0] }).push
      { cls := .type "enumerate", data := .fields #[.none, .bool false, .ref s.heap.objs.size, rawInt 0, .none, .none] }) (s.heap.objs.size + 1) s.heap.objs.size 0 .none := by
    have q := Heap.get?_push_size (s.heap.push { cls := .type "tuple_iterator", data := .fields #[.ref l, .int 0 0] })
      (o := { cls := .type "enumerate", data := .fields #[.none, .bool false, .ref s.heap.objs.size, rawInt 0, .none, .none] }) rfl
    rw [hz] at q
    exact q
  refine ⟨⟨_, he, rfl⟩, h _ he ⟨_, Heap.get?_push_of_some _ (Heap.get?_push_size _ rfl), rfl, rfl⟩ (by rw [Heap.size_push, hz]) fun b o x => Heap.get?_push_of_some _ (Heap.get?_push_of_some _ x)⟩
end

/-- the tuple at a, its items in new pairs with their places -/
def IteT (K : PySem.W.Frag) (a : Addr) : It :=
  ⟨fun i H => ∃ (xs : List V) (x : V), SqT K H a xs ∧ xs[i]? = some x, fun i H v H' => ∃ T x, v = .ref T ∧ H T = none ∧ H' = upd H T (.tup [.int (i : Nat), x]) ∧ ∀ xs, SqT K H a xs → xs[i]? = some x,
    fun i H => ∃ xs : List V, SqT K H a xs ∧ xs.length = i⟩
theorem turn_enumT {P : Program} {w : World} {K : PySem.W.Frag} {elts : List Expr} {kk : Nat} {tpos : Pos} (a e it : Addr) :
    Turn P w K (.Tuple elts kk tpos) (IteT K a) [e, it] e (fun i h => (∃ old, IsEnum h e it ((i : Nat) : Int) old) ∧ h.IsTupleIter it a i ∧ e ≠ it ∧ a ≠ it ∧ a ≠ e) where
  mem := by simp
  obj := fun i h st b hb => by
    obtain ⟨⟨old, he⟩, ⟨o, ho, hc, hd⟩, _⟩ := st
    have e' : b = e ∨ b = it := by simpa using hb
    rcases e' with z | z
    · rw [z]; exact ⟨_, he, fun v q => nomatch q⟩
    · rw [z]; exact ⟨o, ho, fun v q => by rw [hd] at q; cases q⟩
  keep := fun i h h' st k => let ⟨⟨old, he⟩, hi, hne⟩ := st; ⟨⟨old, k e (by simp) _ he⟩, hi.at fun o q => k it (by simp) o q, hne⟩
  item := by
    intro X hP hw hK hc i pins s σ H E I hf st hg
    subst hP hw hK
    obtain ⟨⟨old, he⟩, hit, hne, hai, hae⟩ := st
    obtain ⟨xs, x, hq, hx⟩ := hg
    obtain ⟨its, rv, p, hz⟩ := I.tuple hq
    obtain ⟨u, hu, ru⟩ := rv.get hx
    have hel : e < s.heap.objs.size := Heap.lt_size he
    have hil : it < s.heap.objs.size := by obtain ⟨_, q, _⟩ := hit; exact Heap.lt_size q
    have hlt : i < its.length := (List.getElem?_eq_some_iff.mp hu).1
    have Dr : Draws X.prog X.w X.A.in1 it [it, a] its.toArray.size (fun i v => its.toArray[i]? = some v) (fun i h => h.IsTupleIter it a i ∧ h.IsTuple a its.toArray) := Draws.tuple (A := X.A.in1) (show X.A.in1.handled = none from I.ok.hd hc) it a hai its.toArray
    refine wpAny_pyNext_enum_itemC Dr he ⟨hit, p⟩ (by simpa using hlt) hne (by simpa using ⟨hne, hae.symm⟩) fun v h' tk hv ho hst' hT hsz hk => ?_
    obtain rfl : u = v := by
      have : its[i]? = some v := by simpa using hv
      rw [hu] at this
      exact Option.some.inj this
    refine ⟨_, rfl, wpAny_letOwnedTupleGo_enum (s := { s with heap := h', toks := tk + 1 }) ho fun h'' he' sb => ?_⟩
    have hT2 : h''.get? s.heap.objs.size = some { cls := .type "tuple", data := .seq #[.int i tk, u] } := (sb.2 _ (Nat.ne_of_gt hel)).trans hT
    have new : ObjOk X.prog X.w (upd H s.heap.objs.size (.tup [.int (i : Nat), x])) h'' s.heap.objs.size (.tup [.int (i : Nat), x]) :=
      ⟨by show 2 ≤ sizeLine; decide, [.int i tk, u], .cons ⟨_, rfl⟩ (.cons ru .nil), ⟨_, hT2, rfl, _, rfl⟩⟩
    have I1 : Inv X pins σ (upd H s.heap.objs.size (.tup [.int (i : Nat), x])) { s with heap := h'', toks := tk + 1 } :=
      I.turnedNew (ch := [e, it]) (fun b ob hb q => (sb.2 b (fun z => hb (by simp [z]))).trans (hk b ob (fun z => hb (by simp [z])) (fun z => hb (by simp [z])) q)) hf (Nat.le_refl _) new
    refine ⟨.ref s.heap.objs.size, _, I1, rfl, ⟨_, x, rfl, I.hok.fresh (Nat.le_refl _), rfl, fun ys hy => by rw [I.tuple_inj hy hq]; exact hx⟩, ⟨⟨u, ?_⟩, hst'.1.at fun o q => (sb.2 it (Ne.symm hne)).trans q, hne, hai, hae⟩, fun b hb => ?_⟩
    · have e1 : ((i + 1 : Nat) : Int) = (i : Int) + 1 := by omega
      rw [e1]; exact he'
    · have hb' : b < s.heap.objs.size := by
        have e' : b = e ∨ b = it := by simpa using hb
        rcases e' with z | z
        · rw [z]; exact hel
        · rw [z]; exact hil
      rw [upd_ne (Nat.ne_of_lt hb')]
      exact (hf b hb).1
  done := by
    intro X hP hw hK hc i pins s σ H E I hf st hg
    subst hP hw hK
    obtain ⟨⟨old, he⟩, hit, hne, hai, hae⟩ := st
    obtain ⟨xs, hq, hx⟩ := hg
    obtain ⟨its, rv, p, hz⟩ := I.tuple hq
    obtain ⟨f0, f1, f2, f3, f4, f5⟩ := hf it (by simp)
    have hl := rv.length
    have hi : i = its.length := by omega
    subst hi
    have Dr : Draws X.prog X.w X.A.in1 it [it, a] its.toArray.size (fun i v => its.toArray[i]? = some v) (fun i h => h.IsTupleIter it a i ∧ h.IsTuple a its.toArray) := Draws.tuple (A := X.A.in1) (show X.A.in1.handled = none from I.ok.hd hc) it a hai its.toArray
    exact wpAny_pyNext_enum_endD Dr he (by rw [List.size_toArray]; exact ⟨hit, p⟩) fun h' eb => ⟨rfl, I.turned (t' := s.toks) (fun b o hb q => eb b o hb q) f0 f1 f3 f4 f5⟩
  self := fun A i s Q E st h => let ⟨⟨_, he⟩, _⟩ := st; wpAny_pyIter_enum he h

def iEnumT (K : PySem.W.Frag) (ta : TA) : TI := fun σ H R => ta σ H fun vs H1 => ∃ a xs, vs = [.ref a] ∧ SqT K H1 a xs ∧ R (IteT K a) H1
theorem pi_enumT {X : Cx} {e : Expr} {ta : TA} {p pos tpos : Pos} {elts : List Expr} {kk : Nat} (hg : Gl X "enumerate") (hm : X.mg "enumerate" = none) (ha : PA X [e] ta) (hs : starEach [e] X.env = [(false, eval e X.env)]) :
    PI X (.Tuple elts kk tpos) (.Call (.Name "enumerate" p) [e] [] pos) (iEnumT X.K ta) := by
  refine ⟨fun pins s σ H R I h => ?_⟩
  refine Call_ (ld_blt I hg hm boot_enumerate (PyProof.Rows.callWith_type1 (thn (ha.run pos pins s σ H _ I h) fun us s1 ⟨vs, H1, I1, r1, q1⟩ => ?_) hs rfl))
  obtain ⟨a, xs, ex, hq, q⟩ := q1
  subst ex
  cases r1 with
  | cons r rr =>
    cases rr
    cases r
    obtain ⟨its, rv, p', hz⟩ := I1.tuple hq
    have hal : a < s1.heap.objs.size := p'.lt
    refine call_enum_tup (show s1.heap.IsTuple a its.toArray from p') fun h' he hit hsz hk => wpAny_pyIter_enum he ?_
    have I2 : Inv X pins σ H1 { s1 with heap := h' } := I1.kept (t' := s1.toks) hk
    refine ⟨s1.heap.objs.size + 1, [s1.heap.objs.size + 1, s1.heap.objs.size], _, _, H1, rfl, I2, turn_enumT a (s1.heap.objs.size + 1) s1.heap.objs.size, ⟨⟨.none, he⟩, hit, Nat.succ_ne_self _, Nat.ne_of_lt hal, Nat.ne_of_lt (Nat.lt_succ_of_lt hal)⟩, fun b hb => ?_, q⟩
    have e' : b = s1.heap.objs.size + 1 ∨ b = s1.heap.objs.size := by simpa using hb
    have hle : s1.heap.objs.size ≤ b := by
      rcases e' with z | z
      · rw [z]; exact Nat.le_add_right _ _
      · rw [z]; exact Nat.le_refl _
    exact I1.fpOk hle (I1.hok.fresh hle)
theorem walk_enumT {K : PySem.W.Frag} {a : Addr} {xs : List V} : Walk (IteT K a) xs.length (fun H => SqT K H a xs) (YPair (fun i => some (.int (i : Nat))) (fun i => xs[i]?)) := by
  refine ⟨fun i _ hi q => ⟨xs, xs[i], q, by simp [hi]⟩, fun _ q => ⟨xs, q, rfl⟩, fun i H v H' _ q y => ?_⟩
  obtain ⟨T, x, h1, h2, h3, h4⟩ := y
  exact ⟨T, .int (i : Nat), x, h1, h2, h3, rfl, h4 xs q⟩
theorem walk_zipT {K : PySem.W.Frag} {a b : Addr} {xs ys : List V} {n : Nat} (hn : n = min xs.length ys.length) : Walk (RZ.ItzT K a b) n (fun H => SqT K H a xs ∧ SqT K H b ys) (YPair (fun i => xs[i]?) (fun i => ys[i]?)) := by
  subst hn
  refine ⟨fun i _ hi q => ?_, fun _ q => ⟨xs, ys, q.1, q.2, by omega⟩, fun i H v H' _ q y => ?_⟩
  · have h1 : i < xs.length := by omega
    have h2 : i < ys.length := by omega
    exact ⟨xs, ys, xs[i], ys[i], q.1, q.2, by simp [h1], by simp [h2]⟩
  · obtain ⟨T, x, z, h1, h2, h3, h4, h5⟩ := y
    exact ⟨T, x, z, h1, h2, h3, h4 xs q.1, h5 ys q.2⟩
end Pf

/-! What the small language computes is what the model does: expressions. -/
namespace Pf
open PySem PySem.Spec PyProof.Rows L2

/-- what is wanted behind an expression of value d, from (η, S, H), the store then S' -/
abbrev Aft (K : PySem.W.Frag) (η : Nat → Addr) (S : Sto) (H : Hp) (d : D) (S' : Sto) (Q : VK) : Prop :=
  ∀ v H' η', Go K η S.length H η' S'.length H' → Rep K η' S'.length H' d v → RepS K η' H' S' → Q v H'
abbrev AftL (K : PySem.W.Frag) (η : Nat → Addr) (S : Sto) (H : Hp) (ds : List D) (S' : Sto) (Q : List V → Hp → Prop) : Prop :=
  ∀ vs H' η', Go K η S.length H η' S'.length H' → Reps K η' S'.length H' ds vs → RepS K η' H' S' → Q vs H'
abbrev AftB (K : PySem.W.Frag) (η : Nat → Addr) (S : Sto) (H : Hp) (S' : Sto) (Q : Hp → Prop) : Prop :=
  ∀ H' η', Go K η S.length H η' S'.length H' → RepS K η' H' S' → Q H'
def tEv (K : PySem.W.Frag) (C : Cfg) (e : Ex) : TE := fun σ H Q => ∃ η S ρ d S', RepE K η S.length H ρ σ ∧ RepS K η H S ∧ evE C e ρ S = some (d, S') ∧ Aft K η S H d S' Q
def tEvT (K : PySem.W.Frag) (C : Cfg) (e : Ex) : TT := fun σ H Q => ∃ η S ρ b S', RepE K η S.length H ρ σ ∧ RepS K η H S ∧ evT C e ρ S = some (b, S') ∧ AftB K η S H S' (Q b)
def tEvs (K : PySem.W.Frag) (C : Cfg) (es : List Ex) : TA := fun σ H Q => ∃ η S ρ ds S', RepE K η S.length H ρ σ ∧ RepS K η H S ∧ evEs C es ρ S = some (ds, S') ∧ AftL K η S H ds S' Q
def tEvAnd (K : PySem.W.Frag) (C : Cfg) (es : List Ex) : TT := fun σ H Q => ∃ η S ρ b S', RepE K η S.length H ρ σ ∧ RepS K η H S ∧ evAnd C es ρ S = some (b, S') ∧ AftB K η S H S' (Q b)
def tEvOr (K : PySem.W.Frag) (C : Cfg) (es : List Ex) : TT := fun σ H Q => ∃ η S ρ b S', RepE K η S.length H ρ σ ∧ RepS K η H S ∧ evOr C es ρ S = some (b, S') ∧ AftB K η S H S' (Q b)
def tEvO (K : PySem.W.Frag) (C : Cfg) (e : Option Ex) : TO := fun σ H Q => ∃ η S ρ o S', RepE K η S.length H ρ σ ∧ RepS K η H S ∧ evO C e ρ S = some (o, S') ∧ AftB K η S H S' (Q o)

section
variable {X : Cx} {C : Cfg} {e : Expr} {t t' : TE}
theorem PE.weak (h : PE X e t) (w : ∀ σ H Q, t' σ H Q → t σ H Q) : PE X e t' := ⟨fun pins s σ H Q I q => h.run pins s σ H Q I (w σ H Q q)⟩
theorem PT.weak {t t' : TT} (h : PT X e t) (w : ∀ σ H Q, t' σ H Q → t σ H Q) : PT X e t' := ⟨fun pins s σ H Q I q => h.run pins s σ H Q I (w σ H Q q)⟩
theorem PW.weak {t t' : TT} (h : PW X e t) (w : ∀ σ H Q, t' σ H Q → t σ H Q) : PW X e t' := ⟨fun wh pins s σ H Q I q => h.run wh pins s σ H Q I (w σ H Q q)⟩
theorem PA.weak {es : List Expr} {t t' : TA} (h : PA X es t) (w : ∀ σ H Q, t' σ H Q → t σ H Q) : PA X es t' := ⟨fun pos pins s σ H Q I q => h.run pos pins s σ H Q I (w σ H Q q)⟩
theorem PO.weak {o : Option Expr} {t t' : TO} (h : PO X o t) (w : ∀ σ H Q, t' σ H Q → t σ H Q) : PO X o t' := ⟨fun pins s σ H Q I q => h.run pins s σ H Q I (w σ H Q q)⟩
theorem PE.or2 (h : PE X e t) (h' : PE X e t') : PE X e (fun σ H Q => t σ H Q ∨ t' σ H Q) := ⟨fun pins s σ H Q I q => q.elim (h.run pins s σ H Q I) (h'.run pins s σ H Q I)⟩
end

section
variable {K : PySem.W.Frag} {C : Cfg} {η η1 η2 : Nat → Addr} {S S1 S2 : Sto} {H H1 H2 : Hp} {σ : L2.St} {ρ : En} {Q : VK}
/-- one expression read, then what follows -/
theorem tEv_mk {e : Ex} {d : D} {S' : Sto} (hρ : RepE K η S.length H ρ σ) (hS : RepS K η H S) (h : evE C e ρ S = some (d, S'))
    (k : ∀ v H' η', Go K η S.length H η' S'.length H' → Rep K η' S'.length H' d v → RepS K η' H' S' → RepE K η' S'.length H' ρ σ → Q v H') : tEv K C e σ H Q :=
  ⟨η, S, ρ, d, S', hρ, hS, h, fun v H' η' g r s => k v H' η' g r s (hρ.go g)⟩
theorem tEvT_mk {e : Ex} {b : Bool} {S' : Sto} {Q : Bool → Hp → Prop} (hρ : RepE K η S.length H ρ σ) (hS : RepS K η H S) (h : evT C e ρ S = some (b, S'))
    (k : ∀ H' η', Go K η S.length H η' S'.length H' → RepS K η' H' S' → RepE K η' S'.length H' ρ σ → Q b H') : tEvT K C e σ H Q :=
  ⟨η, S, ρ, b, S', hρ, hS, h, fun H' η' g s => k H' η' g s (hρ.go g)⟩
theorem tEvs_mk {es : List Ex} {ds : List D} {S' : Sto} {Q : List V → Hp → Prop} (hρ : RepE K η S.length H ρ σ) (hS : RepS K η H S) (h : evEs C es ρ S = some (ds, S'))
    (k : ∀ vs H' η', Go K η S.length H η' S'.length H' → Reps K η' S'.length H' ds vs → RepS K η' H' S' → RepE K η' S'.length H' ρ σ → Q vs H') : tEvs K C es σ H Q :=
  ⟨η, S, ρ, ds, S', hρ, hS, h, fun v H' η' g r s => k v H' η' g r s (hρ.go g)⟩
end

/-! ### operators -/
/-- a rule of two values serves the operator -/
structure Bin2 (X : Cx) (op : BOp) (r : R2) : Prop where
  use : ∀ (η : Nat → Addr) (a b : D) (v u : V) (H : Hp) (S : Sto) (d : D) (S' : Sto) (Q : VK), Rep X.K η S.length H a v → Rep X.K η S.length H b u → RepS X.K η H S → binD op a b S = some (d, S') → Aft X.K η S H d S' Q → r v u H Q
theorem lst_at {K : PySem.W.Frag} {η : Nat → Addr} {H : Hp} {S : Sto} {n : Nat} {xs : List D} (hS : RepS K η H S) (e : S[n]? = some (.lst xs)) : ∃ vs, H (η n) = some (.lst vs) ∧ Reps K η S.length H xs vs := by
  cases hS.at' n _ e with
  | lst h r => exact ⟨_, h, r⟩
theorem items_at {K : PySem.W.Frag} {η : Nat → Addr} {H : Hp} {S : Sto} {n : Nat} {xs : List D} (hS : RepS K η H S) (e : (S[n]?).bind Cell.items = some xs) : ∃ vs, SqL K H (η n) vs ∧ Reps K η S.length H xs vs := by
  cases h : S[n]? with
  | none => rw [h] at e; cases e
  | some c =>
    rw [h] at e
    have q := hS.at' n c h
    cases q with
    | lst h1 h2 => cases e; exact ⟨_, .of h1, h2⟩
    | ro h1 h2 => cases e; exact ⟨_, h1.seq, h2⟩
    | dct _ _ _ => cases e
/-- a new list -/
theorem aft_new {K : PySem.W.Frag} {η : Nat → Addr} {S : Sto} {H : Hp} {xs : List D} {vs : List V} {Q : VK} (hS : RepS K η H S) (r : Reps K η S.length H xs vs) (k : Aft K η S H (.loc S.length) (S ++ [.lst xs]) Q) {p : Addr} (hp : H p = none) : Q (.ref p) (upd H p (.lst vs)) := by
  have g : Go K η S.length H (ext η S.length p) (S.length + 1) (upd H p (.lst vs)) := Go.ext hp
  have hs := hS.add (c := .lst xs) (o := .lst vs) hp (.lst upd_same (r.go g))
  refine k _ _ (ext η S.length p) (by rw [List.length_append]; exact g) ?_ hs
  rw [List.length_append]
  have h : Rep K (ext η S.length p) (S.length + 1) (upd H p (.lst vs)) (.loc S.length) (.ref (ext η S.length p S.length)) := .loc (Nat.lt_succ_self _)
  rw [ext_at] at h
  exact h
/-- a new tuple -/
theorem aft_tup {K : PySem.W.Frag} {η : Nat → Addr} {S : Sto} {H : Hp} {xs : List D} {vs : List V} {Q : VK} (hS : RepS K η H S) (r : Reps K η S.length H xs vs) (k : Aft K η S H (.tup xs) S Q) {p : Addr} (hp : H p = none) : Q (.ref p) (upd H p (.tup vs)) :=
  k _ _ η (Go.new hp) (.tup (.of upd_same) (r.go (Go.new hp))) (hS.new hp)
theorem mul_split {i j : Int} (h : mulOk i j = true) : CMul i j ∨ CMulW i j := by
  unfold mulOk at h
  simp only [Bool.or_eq_true, Bool.and_eq_true, decide_eq_true_eq] at h
  rcases h with (h | h) | h
  · exact .inl (.inl h)
  · exact .inl (.inr h)
  · exact .inr h
theorem div_split {j : Int} (h : divOk j = true) (i : Int) : CDivN i j ∨ CDivW i j := by
  unfold divOk at h
  simp only [Bool.or_eq_true, Bool.and_eq_true, decide_eq_true_eq] at h
  rcases h with h | h
  · exact .inl h
  · exact .inr h
section
variable {X : Cx}
theorem op_pow_mul : OpR X (binaryOp .Mult) (fun x y H Q => rI CMul (fun i j => .int (i * j)) x y H Q ∨ rI CMulW (fun i j => .int (i * j)) x y H Q) := op_mul.or op_mulW
theorem bin_add : Bin2 X .add (fun x y H Q => (rI0 (fun i j => .int (i + j)) x y H Q ∨ rCatA X.K x y H Q) ∨ rCat x y H Q) := ⟨by
  intro η a b v u H S d S' Q ra rb hS h k
  unfold binD at h
  split at h <;> first | cases h; done | skip
  all_goals try (rename_i he; cases he)
  all_goals try (cases h; done)
  · cases ra; cases rb; cases h
    exact .inl (.inl ⟨_, _, rfl, rfl, k _ _ η Go.refl (.int _) hS⟩)
  · cases ra with
    | tup h1 r1 =>
      cases rb with
      | tup h2 r2 =>
        split at h
        · rename_i hl
          cases h
          refine .inl (.inr ⟨_, _, _, _, rfl, rfl, h1, h2, by rw [← r1.length, ← r2.length]; exact hl, fun e => ?_, fun _ e => ?_, fun _ _ p hp => ?_⟩)
          · subst e
            cases r1
            exact k _ _ η Go.refl (.tup h2 r2) hS
          · subst e
            cases r2
            rw [List.append_nil] at k
            exact k _ _ η Go.refl (.tup h1 r1) hS
          · exact aft_tup hS (r1.append r2) k hp
        · cases h
  · cases ra with
    | loc l1 =>
      cases rb with
      | loc l2 =>
        split at h
        · rename_i xs ys e1 e2
          split at h
          · rename_i hl
            cases h
            obtain ⟨vs, h1, r1⟩ := lst_at hS e1
            obtain ⟨us, h2, r2⟩ := lst_at hS e2
            refine .inr ⟨_, _, _, _, rfl, rfl, h1, h2, by rw [← r1.length, ← r2.length]; exact hl, fun p hp => ?_⟩
            exact aft_new hS (r1.append r2) k hp
          · cases h
        · cases h⟩
theorem bin_sub : Bin2 X .sub (rI0 fun i j => .int (i - j)) := ⟨by
  intro η a b v u H S d S' Q ra rb hS h k
  unfold binD at h
  split at h <;> first | cases h; done | skip
  all_goals try (rename_i he; cases he)
  all_goals try (cases h; done)
  · cases ra; cases rb; cases h
    exact ⟨_, _, rfl, rfl, k _ _ η Go.refl (.int _) hS⟩⟩
theorem bin_fdiv : Bin2 X .fdiv (fun x y H Q => rI CDivN (fun i j => .int (i.fdiv j)) x y H Q ∨ rI CDivW (fun i j => .int (i / j)) x y H Q) := ⟨by
  intro η a b v u H S d S' Q ra rb hS h k
  unfold binD at h
  split at h <;> first | cases h; done | skip
  all_goals try (rename_i he; cases he)
  all_goals try (cases h; done)
  · cases ra; cases rb
    split at h
    · rename_i i j hd
      cases h
      rcases div_split hd i with q | q
      · exact .inl ⟨_, _, rfl, rfl, q, k _ _ η Go.refl (.int _) hS⟩
      · refine .inr ⟨_, _, rfl, rfl, q, ?_⟩
        show Q (.int (i / j)) H
        rw [← Int.fdiv_eq_ediv_of_nonneg i (Int.le_of_lt q.1)]
        exact k _ _ η Go.refl (.int _) hS
    · cases h⟩
theorem bin_mod : Bin2 X .mod (rI (fun _ j => j ≠ 0) fun i j => .int (i.fmod j)) := ⟨by
  intro η a b v u H S d S' Q ra rb hS h k
  unfold binD at h
  split at h <;> first | cases h; done | skip
  all_goals try (rename_i he; cases he)
  all_goals try (cases h; done)
  · cases ra; cases rb
    split at h
    · rename_i hd
      cases h
      exact ⟨_, _, rfl, rfl, hd, k _ _ η Go.refl (.int _) hS⟩
    · cases h⟩
theorem bin_pow : Bin2 X .pow (rI CPow fun i j => .int (i ^ j.toNat)) := ⟨by
  intro η a b v u H S d S' Q ra rb hS h k
  unfold binD at h
  split at h <;> first | cases h; done | skip
  all_goals try (rename_i he; cases he)
  all_goals try (cases h; done)
  · cases ra; cases rb
    split at h
    · rename_i hd
      cases h
      exact ⟨_, _, rfl, rfl, hd, k _ _ η Go.refl (.int _) hS⟩
    · cases h⟩
theorem bin_mul : Bin2 X .mul (fun x y H Q => ((rI CMul (fun i j => .int (i * j)) x y H Q ∨ rI CMulW (fun i j => .int (i * j)) x y H Q) ∨ (rRepT X.K x y H Q ∨ rRep01 X.K x y H Q)) ∨ rRep x y H Q) := ⟨by
  intro η a b v u H S d S' Q ra rb hS h k
  unfold binD at h
  split at h <;> first | cases h; done | skip
  all_goals try (rename_i he; cases he)
  all_goals try (cases h; done)
  · cases ra; cases rb
    split at h
    · rename_i hd
      cases h
      rcases mul_split hd with q | q
      · exact .inl (.inl (.inl ⟨_, _, rfl, rfl, q, k _ _ η Go.refl (.int _) hS⟩))
      · exact .inl (.inl (.inr ⟨_, _, rfl, rfl, q, k _ _ η Go.refl (.int _) hS⟩))
    · cases h
  · cases ra with
    | loc l1 =>
      cases rb
      split at h
      · rename_i xs e1
        split at h
        · rename_i hl
          cases h
          obtain ⟨vs, h1, r1⟩ := lst_at hS e1
          exact .inr ⟨_, _, _, rfl, rfl, h1, hl.1, hl.2.1, by rw [← r1.length]; exact hl.2.2, fun p hp => aft_new hS (r1.rep _) k hp⟩
        · cases h
      · cases h
  · cases ra with
    | tup h1 r1 =>
      cases rb
      rename_i xs kk a vs
      split at h
      · rename_i hl
        cases h
        obtain ⟨hne, h0, h1000, hz⟩ := hl
        have hne' : vs ≠ [] := fun e => by
          subst e
          have := r1.length
          exact hne (List.eq_nil_of_length_eq_zero this)
        by_cases k2 : 2 ≤ kk
        · exact .inl (.inr (.inl ⟨_, _, _, rfl, rfl, h1, hne', k2, h1000, by rw [← r1.length]; exact hz, fun p hp => aft_tup hS (r1.rep _) k hp⟩))
        · refine .inl (.inr (.inr ⟨_, _, _, rfl, rfl, h1, hne', ?_⟩))
          by_cases k1 : kk = 1
          · subst k1
            refine .inl ⟨rfl, k _ _ η Go.refl ?_ hS⟩
            have e : (List.replicate (1 : Int).toNat xs).flatten = xs := by simp
            rw [e]
            exact .tup h1 r1
          · have k0 : kk = 0 := by omega
            subst k0
            exact .inr ⟨rfl, fun p hp => aft_tup hS (r1.rep 0) k hp⟩
      · cases h⟩
def bopA : BOp → Operator
  | .add => .Add
  | .sub => .Sub
  | .mul => .Mult
  | .fdiv => .FloorDiv
  | .mod => .Mod
  | .pow => .Pow
theorem bin_all (op : BOp) : ∃ r : R2, OpR X (binaryOp (bopA op)) r ∧ Bin2 X op r := by
  cases op with
  | add => exact ⟨_, (op_add.or op_catA).or op_cat, bin_add⟩
  | sub => exact ⟨_, op_sub, bin_sub⟩
  | mul => exact ⟨_, (op_pow_mul.or (op_repT.or op_rep01)).or op_rep, bin_mul⟩
  | fdiv => exact ⟨_, op_fdivN.or op_fdivW, bin_fdiv⟩
  | mod => exact ⟨_, op_modN, bin_mod⟩
  | pow => exact ⟨_, op_pow, bin_pow⟩
end

/-! ### comparisons -/
structure Cmp2 (X : Cx) (op : COp) (r : R2) : Prop where
  use : ∀ (η : Nat → Addr) (a b : D) (v u : V) (H : Hp) (S : Sto) (d : D) (Q : VK), Rep X.K η S.length H a v → Rep X.K η S.length H b u → RepS X.K η H S → cmpD op a b S = some d → (∀ w, Rep X.K η S.length H d w → Q w H) → r v u H Q
mutual
theorem dp_pure {K : PySem.W.Frag} {η : Nat → Addr} {m : Nat} {H : Hp} : ∀ {d : D} {v : V} {p : PyData}, Rep K η m H d v → pyD d = some p → Dp K H v p
  | _, _, _, .non, h => by cases h; exact .non
  | _, _, _, .bl b, h => by cases h; exact .bl b
  | _, _, _, .int i, h => by cases h; exact .int i
  | _, _, _, .str x, h => by cases h; exact .str x
  | .tup ds, _, p, .tup hs r, h => by
    simp only [pyD, Option.map_eq_some_iff] at h
    obtain ⟨ps, h1, rfl⟩ := h
    exact .tup hs (dps_pure r h1)
  | _, _, _, .loc _, h => by cases h
theorem dps_pure {K : PySem.W.Frag} {η : Nat → Addr} {m : Nat} {H : Hp} : ∀ {ds : List D} {vs : List V} {ps : List PyData}, Reps K η m H ds vs → pyDs ds = some ps → DpAll K H vs ps
  | _, _, _, .nil, h => by cases h; exact .nil
  | d :: ds, _, ps, .cons r q, h => by
    simp only [pyDs, Option.bind_eq_some_iff, Option.map_eq_some_iff] at h
    obtain ⟨p, h1, ps', h2, rfl⟩ := h
    exact .cons (dp_pure r h1) (dps_pure q h2)
end
theorem dp_of {K : PySem.W.Frag} {η : Nat → Addr} {H : Hp} {S : Sto} {d : D} {v : V} {p : PyData} (r : Rep K η S.length H d v) (hS : RepS K η H S) (h : toPy S d = some p) : Dp K H v p := by
  cases r with
  | loc hl =>
    simp only [toPy, Option.bind_eq_some_iff, Option.map_eq_some_iff] at h
    obtain ⟨xs, h1, ps, h2, rfl⟩ := h
    obtain ⟨vs, h3, h4⟩ := items_at hS (by simpa [Option.bind_eq_some_iff] using h1)
    exact .lst h3 (dps_pure h4 h2)
  | non => exact dp_pure (η := η) (m := S.length) .non h
  | bl b => exact dp_pure (η := η) (m := S.length) (.bl b) h
  | int i => exact dp_pure (η := η) (m := S.length) (.int i) h
  | str x => exact dp_pure (η := η) (m := S.length) (.str x) h
  | tup h1 h2 => exact dp_pure (η := η) (m := S.length) (.tup h1 h2) h
section
variable {X : Cx}
def rStrOr (ng : Bool) (r : R2) : R2 := fun x y H Q => (∃ i j, x = .str i ∧ y = .str j ∧ Q (.bl (if ng then !decide (i = j) else decide (i = j))) H) ∨ r x y H Q
theorem op_eqSD (hu : X.A.units + 64 < cLine) : OpR X (compareOp .Eq) (rStrOr false (rEqD X.K)) := fun pins s σ H x y v u Q I rx ry h => by
  rcases h with ⟨i, j, rfl, rfl, q⟩ | h
  · exact op_eq pins s σ H _ _ v u Q I rx ry ⟨rfl, by
      have e : decide (V.str i = V.str j) = decide (i = j) := by
        rw [Bool.eq_iff_iff]
        simp
      rw [e]
      exact q⟩
  · exact op_eqD hu pins s σ H x y v u Q I rx ry h
theorem op_neSD (hu : X.A.units + 64 < cLine) : OpR X (compareOp .NotEq) (rStrOr true (rNeD X.K)) := fun pins s σ H x y v u Q I rx ry h => by
  rcases h with ⟨i, j, rfl, rfl, q⟩ | h
  · exact op_ne pins s σ H _ _ v u Q I rx ry ⟨rfl, by
      have e : decide (V.str i = V.str j) = decide (i = j) := by
        rw [Bool.eq_iff_iff]
        simp
      rw [e]
      exact q⟩
  · exact op_neD hu pins s σ H x y v u Q I rx ry h
theorem twoS_some {a b : D} {c : Bool} (h : twoS a b = some c) : ∃ x y, a = .str x ∧ b = .str y ∧ c = decide (x = y) := by
  cases a <;> cases b <;> simp [twoS] at h
  exact ⟨_, _, rfl, rfl, by simpa using h.symm⟩
theorem cmp_eq : Cmp2 X .eq (rStrOr false (rEqD X.K)) := ⟨by
  intro η a b v u H S d Q ra rb hS h k
  unfold cmpD at h
  simp only at h
  split at h
  · rename_i c e
    obtain ⟨x, y, rfl, rfl, rfl⟩ := twoS_some e
    cases ra; cases rb; cases h
    exact .inl ⟨x, y, rfl, rfl, k _ (.bl _)⟩
  · split at h
    · rename_i p q e1 e2
      split at h
      · rename_i hs
        cases h
        exact .inr ⟨p, q, dp_of ra hS e1, dp_of rb hS e2, hs.1, hs.2, k _ (.bl _)⟩
      · cases h
    · cases h⟩
theorem cmp_ne : Cmp2 X .ne (rStrOr true (rNeD X.K)) := ⟨by
  intro η a b v u H S d Q ra rb hS h k
  unfold cmpD at h
  simp only at h
  split at h
  · rename_i c e
    obtain ⟨x, y, rfl, rfl, rfl⟩ := twoS_some e
    cases ra; cases rb; cases h
    exact .inl ⟨x, y, rfl, rfl, k _ (.bl _)⟩
  · split at h
    · rename_i p q e1 e2
      split at h
      · rename_i hs
        cases h
        exact .inr ⟨p, q, dp_of ra hS e1, dp_of rb hS e2, hs.1, hs.2, k _ (.bl _)⟩
      · cases h
    · cases h⟩
theorem cmp_lt : Cmp2 X .lt (rI0 fun i j => .bl (decide (i < j))) := ⟨by
  intro η a b v u H S d Q ra rb hS h k
  unfold cmpD at h
  simp only at h
  split at h
  · cases ra; cases rb; cases h
    exact ⟨_, _, rfl, rfl, k _ (.bl _)⟩
  · cases h⟩
theorem cmp_le : Cmp2 X .le (rI0 fun i j => .bl (decide (i ≤ j))) := ⟨by
  intro η a b v u H S d Q ra rb hS h k
  unfold cmpD at h
  simp only at h
  split at h
  · cases ra; cases rb; cases h
    exact ⟨_, _, rfl, rfl, k _ (.bl _)⟩
  · cases h⟩
theorem cmp_gt : Cmp2 X .gt (rI0 fun i j => .bl (decide (j < i))) := ⟨by
  intro η a b v u H S d Q ra rb hS h k
  unfold cmpD at h
  simp only at h
  split at h
  · cases ra; cases rb; cases h
    exact ⟨_, _, rfl, rfl, k _ (.bl _)⟩
  · cases h⟩
theorem cmp_ge : Cmp2 X .ge (rI0 fun i j => .bl (decide (j ≤ i))) := ⟨by
  intro η a b v u H S d Q ra rb hS h k
  unfold cmpD at h
  simp only at h
  split at h
  · cases ra; cases rb; cases h
    exact ⟨_, _, rfl, rfl, k _ (.bl _)⟩
  · cases h⟩
theorem cmp_isN : Cmp2 X .isN (fun x y H Q => y = .non ∧ Q (.bl (decide (x = .non))) H) := ⟨by
  intro η a b v u H S d Q ra rb hS h k
  unfold cmpD at h
  simp only at h
  split at h
  · cases rb
    refine ⟨rfl, ?_⟩
    cases ra <;> (cases h; exact k _ (.bl _))
  · cases h⟩
theorem cmp_notN : Cmp2 X .notN (fun x y H Q => y = .non ∧ Q (.bl (!decide (x = .non))) H) := ⟨by
  intro η a b v u H S d Q ra rb hS h k
  unfold cmpD at h
  simp only at h
  split at h
  · cases rb
    refine ⟨rfl, ?_⟩
    cases ra <;> (cases h; exact k _ (.bl _))
  · cases h⟩
def copA : COp → CmpOp
  | .eq => .Eq
  | .ne => .NotEq
  | .lt => .Lt
  | .le => .LtE
  | .gt => .Gt
  | .ge => .GtE
  | .isN => .Is
  | .notN => .IsNot
  | .mem => .In
  | .nmem => .NotIn
theorem cmp_all (hu : X.A.units + 64 < cLine) (op : COp) : ∃ r : R2, OpR X (compareOp (copA op)) r ∧ Cmp2 X op r := by
  cases op with
  | eq => exact ⟨_, op_eqSD hu, cmp_eq⟩
  | ne => exact ⟨_, op_neSD hu, cmp_ne⟩
  | lt => exact ⟨_, op_lt, cmp_lt⟩
  | le => exact ⟨_, op_le, cmp_le⟩
  | gt => exact ⟨_, op_gt, cmp_gt⟩
  | ge => exact ⟨_, op_ge, cmp_ge⟩
  | isN => exact ⟨_, op_isN, cmp_isN⟩
  | notN => exact ⟨_, op_notN, cmp_notN⟩
  | mem => exact ⟨fun _ _ _ _ => False, fun _ _ _ _ _ _ _ _ _ _ _ _ h => h.elim, ⟨fun _ _ _ _ _ _ _ _ _ _ _ _ h => by cases h⟩⟩
  | nmem => exact ⟨fun _ _ _ _ => False, fun _ _ _ _ _ _ _ _ _ _ _ _ h => h.elim, ⟨fun _ _ _ _ _ _ _ _ _ _ _ _ h => by cases h⟩⟩
end
end Pf

/-! Expressions, construct by construct. -/
namespace Pf
open PySem PySem.Spec PyProof.Rows L2

theorem Rep.int' {K : PySem.W.Frag} {η : Nat → Addr} {m : Nat} {H : Hp} {i : Int} {v : V} (r : Rep K η m H (.int i) v) : v = .int i := by
  cases r
  rfl
theorem Rep.bl' {K : PySem.W.Frag} {η : Nat → Addr} {m : Nat} {H : Hp} {i : Bool} {v : V} (r : Rep K η m H (.bl i) v) : v = .bl i := by
  cases r
  rfl
theorem evT_evE {C : Cfg} : ∀ {e : Ex} {ρ : En} {S : Sto} {b : Bool} {S' : Sto}, evT C e ρ S = some (b, S') → evE C e ρ S = some (.bl b, S') := by
  intro e ρ S b S' h
  cases e with
  | not a =>
    unfold evT at h
    unfold evE
    obtain ⟨p, h1, h2⟩ := Option.map_eq_some_iff.mp h
    rw [h1]
    cases h2
    rfl
  | and es =>
    unfold evT at h
    unfold evE
    rw [h]
    rfl
  | or es =>
    unfold evT at h
    unfold evE
    rw [h]
    rfl
  | cmp op a c =>
    unfold evT at h
    unfold evE
    obtain ⟨p, h1, h2⟩ := Option.bind_eq_some_iff.mp h
    obtain ⟨q, h3, h4⟩ := Option.bind_eq_some_iff.mp h2
    rw [h1, Option.bind_some, h3, Option.bind_some]
    split at h4
    · rename_i z hz
      cases h4
      rw [hz]
      rfl
    · cases h4
  | call f es =>
    unfold evT at h
    unfold evE
    obtain ⟨p, h1, h2⟩ := Option.bind_eq_some_iff.mp h
    rw [h1, Option.bind_some]
    split at h2
    · rename_i z hz
      cases h2
      assumption
    · cases h2
  | blt f es =>
    unfold evT at h
    unfold evE
    obtain ⟨p, h1, h2⟩ := Option.bind_eq_some_iff.mp h
    rw [h1, Option.bind_some]
    split at h2
    · rename_i z hz
      cases h2
      assumption
    · cases h2
  | _ => unfold evT at h; cases h

section
variable {X : Cx} {C : Cfg} {a b c : Expr} {ia ib ic : Ex} {pos : Pos}
theorem s_var {i : Nat} {x : Str} (hN : X.N[i]? = some x) (hv : Vis X.env.scope x) (hd : (x == ("__debug__" : Str)) = false) (hcd : (x == ("__classdict__" : Str)) = false) : PE X (.Name x pos) (tEv X.K C (.var i)) := by
  refine PE.weak (pe_var hN hv hd hcd) fun σ H Q h => ?_
  obtain ⟨η, S, ρ, d, S', hρ, hS, hev, k⟩ := h
  unfold evE at hev
  split at hev
  · rename_i d' e
    cases hev
    obtain ⟨v, h1, h2⟩ := hρ.2 i d e
    exact ⟨v, h1, k v H η Go.refl h2 hS⟩
  · cases hev
theorem s_const {t : TE} {e : Expr} {ie : Ex} {d : D} {v : V} (he : PE X e (tC v)) (hd : ∀ ρ S, evE C ie ρ S = some (d, S)) (r : ∀ η m H, Rep X.K η m H d v) : PE X e (tEv X.K C ie) := by
  refine PE.weak he fun σ H Q h => ?_
  obtain ⟨η, S, ρ, d', S', hρ, hS, hev, k⟩ := h
  rw [hd] at hev
  cases hev
  exact k v H η Go.refl (r _ _ _) hS
theorem s_int {i j} : PE X (.Constant (.int i) j pos) (tEv X.K C (.lit (.int i))) := s_const (t := tC (.int i)) pe_int (fun _ _ => by unfold evE; rfl) fun _ _ _ => .int i
theorem s_bl {i j} : PE X (.Constant (.bool i) j pos) (tEv X.K C (.lit (.bl i))) := s_const (t := tC (.bl i)) pe_bl (fun _ _ => by unfold evE; rfl) fun _ _ _ => .bl i
theorem s_non {j} : PE X (.Constant .none j pos) (tEv X.K C (.lit .non)) := s_const (t := tC .non) pe_non (fun _ _ => by unfold evE; rfl) fun _ _ _ => .non
theorem s_str {x j} : PE X (.Constant (.str x) j pos) (tEv X.K C (.lit (.str x))) := s_const (t := tC (.str x)) pe_str (fun _ _ => by unfold evE; rfl) fun _ _ _ => .str x
theorem s_glob {x : Str} {u : Value} {v : V} {d : D} (hg : Gl X x) (hm : X.mg x = some u) (r : RelV v u) (hd : (x == ("__debug__" : Str)) = false) (hc : C.cst x = some d) (hr : ∀ η m H, Rep X.K η m H d v) : PE X (.Name x pos) (tEv X.K C (.glob x)) :=
  s_const (t := tC v) (pe_glob hg hm r hd) (fun _ _ => by unfold evE; rw [hc]; rfl) hr
theorem s_bin {op : BOp} (ha : PE X a (tEv X.K C ia)) (hb : PE X b (tEv X.K C ib)) : PE X (.BinOp a (bopA op) b pos) (tEv X.K C (.bin op ia ib)) := by
  obtain ⟨r, h1, h2⟩ := bin_all (X := X) op
  refine PE.weak (pe_op h1 ha hb) fun σ H Q h => ?_
  obtain ⟨η, S, ρ, d, S', hρ, hS, hev, k⟩ := h
  unfold evE at hev
  obtain ⟨⟨d1, S1⟩, e1, hev⟩ := Option.bind_eq_some_iff.mp hev
  obtain ⟨⟨d2, S2⟩, e2, hev⟩ := Option.bind_eq_some_iff.mp hev
  refine tEv_mk hρ hS e1 fun v1 H1 η1 g1 r1 s1 ρ1 => ?_
  refine tEv_mk ρ1 s1 e2 fun v2 H2 η2 g2 r2 s2 ρ2 => ?_
  exact h2.use η2 d1 d2 v1 v2 H2 S2 d S' Q (r1.go g2) r2 s2 hev fun v H' η' g r s => k v H' η' ((g1.trans g2).trans g) r s
theorem s_neg (ha : PE X a (tEv X.K C ia)) : PE X (.UnaryOp .USub a pos) (tEv X.K C (.neg ia)) := by
  refine PE.weak (pe_un un_neg ha) fun σ H Q h => ?_
  obtain ⟨η, S, ρ, d, S', hρ, hS, hev, k⟩ := h
  unfold evE at hev
  obtain ⟨⟨d1, S1⟩, e1, hev⟩ := Option.bind_eq_some_iff.mp hev
  refine tEv_mk hρ hS e1 fun v1 H1 η1 g1 r1 s1 ρ1 => ?_
  simp only at hev
  split at hev
  · cases hev
    exact ⟨_, r1.int', k _ _ _ g1 (.int _) s1⟩
  · cases hev
theorem s_cmp (hu : X.A.units + 64 < cLine) {op : COp} (ha : PE X a (tEv X.K C ia)) (hb : PE X b (tEv X.K C ib)) (hm : behindInMarks (copA op) b = false) : PE X (.Compare a [copA op] [b] pos) (tEv X.K C (.cmp op ia ib)) := by
  obtain ⟨r, h1, h2⟩ := cmp_all (X := X) hu op
  refine PE.weak (pe_cmpR h1 ha hb hm) fun σ H Q h => ?_
  obtain ⟨η, S, ρ, d, S', hρ, hS, hev, k⟩ := h
  unfold evE at hev
  obtain ⟨⟨d1, S1⟩, e1, hev⟩ := Option.bind_eq_some_iff.mp hev
  obtain ⟨⟨d2, S2⟩, e2, hev⟩ := Option.bind_eq_some_iff.mp hev
  obtain ⟨d3, e3, hev⟩ := Option.map_eq_some_iff.mp hev
  cases hev
  refine tEv_mk hρ hS e1 fun v1 H1 η1 g1 r1 s1 ρ1 => ?_
  refine tEv_mk ρ1 s1 e2 fun v2 H2 η2 g2 r2 s2 ρ2 => ?_
  exact h2.use η2 d1 d2 v1 v2 H2 _ d Q (r1.go g2) r2 s2 e3 fun v r => k v _ η2 (g1.trans g2) r s2
theorem t_cmp (hu : X.A.units + 64 < cLine) {op : COp} (ha : PE X a (tEv X.K C ia)) (hb : PE X b (tEv X.K C ib)) (hm : behindInMarks (copA op) b = false) : PT X (.Compare a [copA op] [b] pos) (tEvT X.K C (.cmp op ia ib)) := by
  obtain ⟨r, h1, h2⟩ := cmp_all (X := X) hu op
  refine PT.weak (pt_cmpR h1 ha hb hm) fun σ H Q h => ?_
  obtain ⟨η, S, ρ, d, S', hρ, hS, hev, k⟩ := h
  unfold evT at hev
  obtain ⟨⟨d1, S1⟩, e1, hev⟩ := Option.bind_eq_some_iff.mp hev
  obtain ⟨⟨d2, S2⟩, e2, hev⟩ := Option.bind_eq_some_iff.mp hev
  simp only at hev
  split at hev
  · rename_i z e3
    cases hev
    refine tEv_mk hρ hS e1 fun v1 H1 η1 g1 r1 s1 ρ1 => ?_
    refine tEv_mk ρ1 s1 e2 fun v2 H2 η2 g2 r2 s2 ρ2 => ?_
    exact h2.use η2 d1 d2 v1 v2 H2 _ _ _ (r1.go g2) r2 s2 e3 fun v r => ⟨_, r.bl', k _ η2 (g1.trans g2) s2⟩
  · cases hev
/-- a test by its value -/
theorem t_val {e : Expr} {ie : Ex} (h : PE X e (tEv X.K C ie)) (he : ∀ whole, isTrue e X.env whole = (do let v ← whole; standAt e.pos; holding [v] (truthy v))) : PT X e (tEvT X.K C ie) := by
  refine PT.weak (pt_val h he) fun σ H Q h => ?_
  obtain ⟨η, S, ρ, b, S', hρ, hS, hev, k⟩ := h
  refine tEv_mk hρ hS (evT_evE hev) fun v H' η' g r s _ => ?_
  exact ⟨b, r.bl', k _ _ g s⟩
theorem t_not (ha : PT X a (tEvT X.K C ia)) : PT X (.UnaryOp .Not a pos) (tEvT X.K C (.not ia)) := by
  refine PT.weak (pt_not ha) fun σ H Q h => ?_
  obtain ⟨η, S, ρ, b, S', hρ, hS, hev, k⟩ := h
  unfold evT at hev
  obtain ⟨⟨b1, S1⟩, e1, hev⟩ := Option.map_eq_some_iff.mp hev
  cases hev
  exact tEvT_mk hρ hS e1 fun H' η' g s _ => k _ _ g s
theorem s_not (ha : PE X a (tEv X.K C ia)) : PE X (.UnaryOp .Not a pos) (tEv X.K C (.not ia)) := by
  refine PE.weak (pe_not ha) fun σ H Q h => ?_
  obtain ⟨η, S, ρ, d, S', hρ, hS, hev, k⟩ := h
  unfold evE at hev
  obtain ⟨⟨b1, S1⟩, e1, hev2⟩ := Option.map_eq_some_iff.mp hev
  clear hev
  cases hev2
  exact tEv_mk hρ hS (evT_evE e1) fun v H' η' g r s _ => ⟨b1, r.bl', k _ _ _ g (.bl _) s⟩
/-- what follows in an 'and' -/
theorem w_and {rest : List Expr} {irest : List Ex} (ha : PT X a (tEvT X.K C ia)) (hb : PW X (.BoolOp .And (b :: rest) pos) (tEvAnd X.K C irest)) : PW X (.BoolOp .And (a :: b :: rest) pos) (tEvAnd X.K C (ia :: irest)) := by
  refine PW.weak (pw_and ha hb) fun σ H Q h => ?_
  obtain ⟨η, S, ρ, d, S', hρ, hS, hev, k⟩ := h
  unfold evAnd at hev
  obtain ⟨⟨b1, S1⟩, e1, hev⟩ := Option.bind_eq_some_iff.mp hev
  refine tEvT_mk hρ hS e1 fun H' η' g s ρ1 => ?_
  cases b1 with
  | true =>
    simp only [if_true] at hev ⊢
    exact ⟨η', S1, ρ, d, S', ρ1, s, hev, fun H2 η2 g2 s2 => k _ _ (g.trans g2) s2⟩
  | false =>
    simp only [Bool.false_eq_true, if_false] at hev ⊢
    cases hev
    exact k _ _ g s
theorem w_and1 (ha : PT X a (tEvT X.K C ia)) : PW X (.BoolOp .And [a] pos) (tEvAnd X.K C [ia]) := by
  refine PW.weak (pw_and1 ha) fun σ H Q h => ?_
  obtain ⟨η, S, ρ, d, S', hρ, hS, hev, k⟩ := h
  unfold evAnd at hev
  obtain ⟨⟨b1, S1⟩, e1, hev⟩ := Option.bind_eq_some_iff.mp hev
  refine tEvT_mk hρ hS e1 fun H' η' g s ρ1 => ?_
  cases b1 with
  | true =>
    simp only [if_true] at hev
    unfold evAnd at hev
    cases hev
    exact k _ _ g s
  | false =>
    simp only [Bool.false_eq_true, if_false] at hev
    cases hev
    exact k _ _ g s
theorem w_or {rest : List Expr} {irest : List Ex} (ha : PT X a (tEvT X.K C ia)) (hb : PW X (.BoolOp .Or (b :: rest) pos) (tEvOr X.K C irest)) : PW X (.BoolOp .Or (a :: b :: rest) pos) (tEvOr X.K C (ia :: irest)) := by
  refine PW.weak (pw_or ha hb) fun σ H Q h => ?_
  obtain ⟨η, S, ρ, d, S', hρ, hS, hev, k⟩ := h
  unfold evOr at hev
  obtain ⟨⟨b1, S1⟩, e1, hev⟩ := Option.bind_eq_some_iff.mp hev
  refine tEvT_mk hρ hS e1 fun H' η' g s ρ1 => ?_
  cases b1 with
  | true =>
    simp only [if_true] at hev ⊢
    cases hev
    exact k _ _ g s
  | false =>
    simp only [Bool.false_eq_true, if_false] at hev ⊢
    exact ⟨η', S1, ρ, d, S', ρ1, s, hev, fun H2 η2 g2 s2 => k _ _ (g.trans g2) s2⟩
theorem w_or1 (ha : PT X a (tEvT X.K C ia)) : PW X (.BoolOp .Or [a] pos) (tEvOr X.K C [ia]) := by
  refine PW.weak (pw_or1 ha) fun σ H Q h => ?_
  obtain ⟨η, S, ρ, d, S', hρ, hS, hev, k⟩ := h
  unfold evOr at hev
  obtain ⟨⟨b1, S1⟩, e1, hev⟩ := Option.bind_eq_some_iff.mp hev
  refine tEvT_mk hρ hS e1 fun H' η' g s ρ1 => ?_
  cases b1 with
  | true =>
    simp only [if_true] at hev
    cases hev
    exact k _ _ g s
  | false =>
    simp only [Bool.false_eq_true, if_false] at hev
    unfold evOr at hev
    cases hev
    exact k _ _ g s
theorem t_and {es : List Ex} {xs : List Expr} (h : PW X (.BoolOp .And xs pos) (tEvAnd X.K C es)) : PT X (.BoolOp .And xs pos) (tEvT X.K C (.and es)) := by
  refine PT.weak h.pt fun σ H Q h => ?_
  obtain ⟨η, S, ρ, d, S', hρ, hS, hev, k⟩ := h
  unfold evT at hev
  exact ⟨η, S, ρ, d, S', hρ, hS, hev, k⟩
theorem t_or {es : List Ex} {xs : List Expr} (h : PW X (.BoolOp .Or xs pos) (tEvOr X.K C es)) : PT X (.BoolOp .Or xs pos) (tEvT X.K C (.or es)) := by
  refine PT.weak h.pt fun σ H Q h => ?_
  obtain ⟨η, S, ρ, d, S', hρ, hS, hev, k⟩ := h
  unfold evT at hev
  exact ⟨η, S, ρ, d, S', hρ, hS, hev, k⟩
theorem s_and {rest : List Expr} {irest : List Ex} (ha : PE X a (tEv X.K C ia)) (hb : PE X (.BoolOp .And (b :: rest) pos) (tEv X.K C (.and irest))) : PE X (.BoolOp .And (a :: b :: rest) pos) (tEv X.K C (.and (ia :: irest))) := by
  refine PE.weak (pe_and ha hb) fun σ H Q h => ?_
  obtain ⟨η, S, ρ, d, S', hρ, hS, hev, k⟩ := h
  unfold evE evAnd at hev
  obtain ⟨⟨b2, S2⟩, hev2, h3⟩ := Option.map_eq_some_iff.mp hev
  clear hev
  cases h3
  obtain ⟨⟨b1, S1⟩, e1, hev⟩ := Option.bind_eq_some_iff.mp hev2
  refine tEv_mk hρ hS (evT_evE e1) fun v H' η' g r s ρ1 => ⟨b1, r.bl', ?_⟩
  cases b1 with
  | true =>
    simp only [if_true] at hev ⊢
    exact ⟨η', S1, ρ, .bl b2, _, ρ1, s, by unfold evE; rw [hev]; rfl, fun v2 H2 η2 g2 r2 s2 => k _ _ _ (g.trans g2) r2 s2⟩
  | false =>
    simp only [Bool.false_eq_true, if_false] at hev ⊢
    cases hev
    exact k _ _ _ g (.bl _) s
theorem s_and1 (ha : PE X a (tEv X.K C ia)) : PE X (.BoolOp .And [a] pos) (tEv X.K C (.and [ia])) := by
  refine PE.weak (pe_one ha) fun σ H Q h => ?_
  obtain ⟨η, S, ρ, d, S', hρ, hS, hev, k⟩ := h
  unfold evE evAnd at hev
  obtain ⟨⟨b2, S2⟩, hev2, h3⟩ := Option.map_eq_some_iff.mp hev
  clear hev
  cases h3
  obtain ⟨⟨b1, S1⟩, e1, hev⟩ := Option.bind_eq_some_iff.mp hev2
  refine tEv_mk hρ hS (evT_evE e1) fun v H' η' g r s ρ1 => ?_
  have : b1 = b2 ∧ S1 = S2 := by
    cases b1 with
    | true =>
      simp only [if_true] at hev
      unfold evAnd at hev
      cases hev
      exact ⟨rfl, rfl⟩
    | false =>
      simp only [Bool.false_eq_true, if_false] at hev
      cases hev
      exact ⟨rfl, rfl⟩
  obtain ⟨rfl, rfl⟩ := this
  exact k _ _ _ g r s
theorem s_or {rest : List Expr} {irest : List Ex} (ha : PE X a (tEv X.K C ia)) (hb : PE X (.BoolOp .Or (b :: rest) pos) (tEv X.K C (.or irest))) : PE X (.BoolOp .Or (a :: b :: rest) pos) (tEv X.K C (.or (ia :: irest))) := by
  refine PE.weak (pe_or ha hb) fun σ H Q h => ?_
  obtain ⟨η, S, ρ, d, S', hρ, hS, hev, k⟩ := h
  unfold evE evOr at hev
  obtain ⟨⟨b2, S2⟩, hev2, h3⟩ := Option.map_eq_some_iff.mp hev
  clear hev
  cases h3
  obtain ⟨⟨b1, S1⟩, e1, hev⟩ := Option.bind_eq_some_iff.mp hev2
  refine tEv_mk hρ hS (evT_evE e1) fun v H' η' g r s ρ1 => ⟨b1, r.bl', ?_⟩
  cases b1 with
  | true =>
    simp only [if_true] at hev ⊢
    cases hev
    exact k _ _ _ g (.bl _) s
  | false =>
    simp only [Bool.false_eq_true, if_false] at hev ⊢
    exact ⟨η', S1, ρ, .bl b2, _, ρ1, s, by unfold evE; rw [hev]; rfl, fun v2 H2 η2 g2 r2 s2 => k _ _ _ (g.trans g2) r2 s2⟩
theorem s_or1 (ha : PE X a (tEv X.K C ia)) : PE X (.BoolOp .Or [a] pos) (tEv X.K C (.or [ia])) := by
  refine PE.weak (pe_one ha) fun σ H Q h => ?_
  obtain ⟨η, S, ρ, d, S', hρ, hS, hev, k⟩ := h
  unfold evE evOr at hev
  obtain ⟨⟨b2, S2⟩, hev2, h3⟩ := Option.map_eq_some_iff.mp hev
  clear hev
  cases h3
  obtain ⟨⟨b1, S1⟩, e1, hev⟩ := Option.bind_eq_some_iff.mp hev2
  refine tEv_mk hρ hS (evT_evE e1) fun v H' η' g r s ρ1 => ?_
  have : b1 = b2 ∧ S1 = S2 := by
    cases b1 with
    | true =>
      simp only [if_true] at hev
      cases hev
      exact ⟨rfl, rfl⟩
    | false =>
      simp only [Bool.false_eq_true, if_false] at hev
      unfold evOr at hev
      cases hev
      exact ⟨rfl, rfl⟩
  obtain ⟨rfl, rfl⟩ := this
  exact k _ _ _ g r s
theorem s_ite (hc : PT X c (tEvT X.K C ic)) (ha : PE X a (tEv X.K C ia)) (hb : PE X b (tEv X.K C ib)) : PE X (.IfExp c a b pos) (tEv X.K C (.ite ic ia ib)) := by
  refine PE.weak (pe_ifExp hc ha hb) fun σ H Q h => ?_
  obtain ⟨η, S, ρ, d, S', hρ, hS, hev, k⟩ := h
  unfold evE at hev
  obtain ⟨⟨b1, S1⟩, e1, hev⟩ := Option.bind_eq_some_iff.mp hev
  refine tEvT_mk hρ hS e1 fun H' η' g s ρ1 => ?_
  cases b1 with
  | true =>
    simp only [if_true] at hev ⊢
    exact ⟨η', S1, ρ, d, S', ρ1, s, hev, fun v2 H2 η2 g2 r2 s2 => k _ _ _ (g.trans g2) r2 s2⟩
  | false =>
    simp only [Bool.false_eq_true, if_false] at hev ⊢
    exact ⟨η', S1, ρ, d, S', ρ1, s, hev, fun v2 H2 η2 g2 r2 s2 => k _ _ _ (g.trans g2) r2 s2⟩
/-! lists of expressions -/
theorem a_nil : PA X [] (tEvs X.K C []) := by
  refine PA.weak pa_nil fun σ H Q h => ?_
  obtain ⟨η, S, ρ, d, S', hρ, hS, hev, k⟩ := h
  unfold evEs at hev
  cases hev
  exact k _ _ η Go.refl .nil hS
theorem a_cons {es : List Expr} {ies : List Ex} (ha : PE X a (tEv X.K C ia)) (hr : PA X es (tEvs X.K C ies)) (hs : starEach (a :: es) X.env = (false, eval a X.env) :: starEach es X.env) : PA X (a :: es) (tEvs X.K C (ia :: ies)) := by
  refine PA.weak (pa_cons ha hr hs) fun σ H Q h => ?_
  obtain ⟨η, S, ρ, d, S', hρ, hS, hev, k⟩ := h
  unfold evEs at hev
  obtain ⟨⟨d1, S1⟩, e1, hev⟩ := Option.bind_eq_some_iff.mp hev
  obtain ⟨⟨ds, S2⟩, e2, hev⟩ := Option.map_eq_some_iff.mp hev
  cases hev
  refine tEv_mk hρ hS e1 fun v1 H1 η1 g1 r1 s1 ρ1 => ?_
  refine tEvs_mk ρ1 s1 e2 fun vs H2 η2 g2 r2 s2 ρ2 => ?_
  exact k _ _ _ (g1.trans g2) (.cons (r1.go g2) r2) s2
theorem s_tup {es : List Expr} {ies : List Ex} {j} (h : PA X es (tEvs X.K C ies)) : PE X (.Tuple es j pos) (tEv X.K C (.tup ies)) := by
  refine PE.weak (pe_tup h) fun σ H Q h => ?_
  obtain ⟨η, S, ρ, d, S', hρ, hS, hev, k⟩ := h
  unfold evE at hev
  obtain ⟨⟨ds, S1⟩, e1, hev⟩ := Option.bind_eq_some_iff.mp hev
  simp only at hev
  split at hev
  · rename_i hl
    cases hev
    refine tEvs_mk hρ hS e1 fun vs H1 η1 g1 r1 s1 ρ1 => ⟨by rw [← r1.length]; exact hl, fun p hp => ?_⟩
    exact aft_tup s1 r1 (fun v H' η' g r s => k v H' η' (g1.trans g) r s) hp
  · cases hev
theorem s_lst {es : List Expr} {ies : List Ex} (h : PA X es (tEvs X.K C ies)) : PE X (.List es pos) (tEv X.K C (.lst ies)) := by
  refine PE.weak (pe_lst h) fun σ H Q h => ?_
  obtain ⟨η, S, ρ, d, S', hρ, hS, hev, k⟩ := h
  unfold evE at hev
  obtain ⟨⟨ds, S1⟩, e1, hev⟩ := Option.bind_eq_some_iff.mp hev
  simp only at hev
  split at hev
  · rename_i hl
    cases hev
    refine tEvs_mk hρ hS e1 fun vs H1 η1 g1 r1 s1 ρ1 => ⟨by rw [← r1.length]; exact hl, fun p hp => ?_⟩
    exact aft_new s1 r1 (fun v H' η' g r s => k v H' η' (g1.trans g) r s) hp
  · cases hev
end
end Pf

/-! Subscripts, slices, built-ins. -/
namespace Pf
open PySem PySem.Spec PyProof.Rows L2
theorem ixN_map {α β : Type} {xs : List α} {ys : List β} (h : xs.length = ys.length) (i : Int) : ixN xs.length i = ixN ys.length i := by rw [h]
theorem Reps.atI {K : PySem.W.Frag} {η : Nat → Addr} {m : Nat} {H : Hp} {xs : List D} {vs : List V} {i : Int} {d : D} (r : Reps K η m H xs vs) (h : L2.atI xs i = some d) : ∃ v, L2.atI vs i = some v ∧ Rep K η m H d v := by
  unfold L2.atI at h ⊢
  rw [← r.length]
  obtain ⟨j, h1, h2⟩ := Option.bind_eq_some_iff.mp h
  obtain ⟨v, h3, h4⟩ := r.get h2
  exact ⟨v, by rw [h1]; exact h3, h4⟩
section
variable {X : Cx} {C : Cfg} {a b c : Expr} {ia ib ic : Ex} {pos : Pos}
theorem find_rep {K : PySem.W.Frag} {η : Nat → Addr} {m : Nat} {H : Hp} {k : Key} : ∀ {kvs : List (Key × D)} {kus : List (Key × V)} {d : D}, kvs.map (·.1) = kus.map (·.1) → Reps K η m H (kvs.map (·.2)) (kus.map (·.2)) → (kvs.find? fun q => decide (q.1 = k)).map (·.2) = some d →
    ∃ v, valV kus k = some v ∧ Rep K η m H d v
  | [], _, _, _, _, h => by cases h
  | (k1, d1) :: r, [], _, h, _, _ => by cases h
  | (k1, d1) :: r, (k2, v2) :: r2, d, h1, h2, h3 => by
    simp only [List.map_cons, List.cons.injEq] at h1
    obtain ⟨rfl, h1⟩ := h1
    cases h2 with
    | cons q1 q2 =>
      by_cases e : k1 = k
      · rw [List.find?_cons_of_pos (by simpa using e)] at h3
        cases h3
        exact ⟨v2, valV_pos e, q1⟩
      · rw [List.find?_cons_of_neg (by simpa using e)] at h3
        obtain ⟨v, h4, h5⟩ := find_rep h1 q2 h3
        exact ⟨v, by rw [valV_neg e]; exact h4, h5⟩
theorem s_idx (hu : X.A.units + 1 < cLine) (ha : PE X a (tEv X.K C ia)) (hb : PE X b (tEv X.K C ib)) (hs : PlainIx b) (hn : NoSl b) : PE X (.Subscript a b pos) (tEv X.K C (.idx ia ib)) := by
  refine PE.weak (PE.or2 (pe_ix (ix_list.or ix_tup) ha hb hs) (pe_dget hu ha hb hn)) fun σ H Q h => ?_
  obtain ⟨η, S, ρ, d, S', hρ, hS, hev, k⟩ := h
  unfold evE at hev
  obtain ⟨⟨d1, S1⟩, e1, hev⟩ := Option.bind_eq_some_iff.mp hev
  obtain ⟨⟨d2, S2⟩, e2, hev⟩ := Option.bind_eq_some_iff.mp hev
  obtain ⟨d3, e3, hev⟩ := Option.map_eq_some_iff.mp hev
  cases hev
  unfold idxD at e3
  simp only at e3
  split at e3
  · refine .inl (tEv_mk hρ hS e1 fun v1 H1 η1 g1 r1 s1 ρ1 => tEv_mk ρ1 s1 e2 fun v2 H2 η2 g2 r2 s2 ρ2 => ?_)
    cases r2
    have r1' := r1.go g2
    cases r1' with
    | tup h1 h2 =>
      obtain ⟨v, h3, h4⟩ := h2.atI e3
      exact .inr ⟨_, _, _, v, rfl, rfl, h1, h3, k _ _ _ (g1.trans g2) h4 s2⟩
  · refine .inl (tEv_mk hρ hS e1 fun v1 H1 η1 g1 r1 s1 ρ1 => tEv_mk ρ1 s1 e2 fun v2 H2 η2 g2 r2 s2 ρ2 => ?_)
    cases r2
    have r1' := r1.go g2
    cases r1' with
    | loc hl =>
      obtain ⟨xs, e4, e5⟩ := Option.bind_eq_some_iff.mp e3
      obtain ⟨vs, h1, h2⟩ := items_at s2 e4
      obtain ⟨v, h3, h4⟩ := h2.atI e5
      exact .inl ⟨_, _, _, v, rfl, rfl, h1, h3, k _ _ _ (g1.trans g2) h4 s2⟩
  · refine .inr (tEv_mk hρ hS e1 fun v1 H1 η1 g1 r1 s1 ρ1 => tEv_mk ρ1 s1 e2 fun v2 H2 η2 g2 r2 s2 ρ2 => ?_)
    cases r2
    have r1' := r1.go g2
    cases r1' with
    | loc hl =>
      split at e3
      · rename_i kvs e4
        cases s2.at' _ _ e4 with
        | dct h1 h2 h3 =>
          obtain ⟨v, h4, h5⟩ := find_rep h2 h3 e3
          exact ⟨_, v, rfl, .inl ⟨_, Sum.inr _, .inl h1, rfl, h4.symm⟩, k _ _ _ (g1.trans g2) h5 s2⟩
      · cases e3
  · cases e3
theorem o_none : PO X none (tEvO X.K C none) := by
  refine PO.weak po_none fun σ H Q h => ?_
  obtain ⟨η, S, ρ, d, S', hρ, hS, hev, k⟩ := h
  unfold evO at hev
  cases hev
  exact k _ η Go.refl hS
theorem o_some (h : PE X a (tEv X.K C ia)) : PO X (some a) (tEvO X.K C (some ia)) := by
  refine PO.weak (po_some h) fun σ H Q h => ?_
  obtain ⟨η, S, ρ, d, S', hρ, hS, hev, k⟩ := h
  unfold evO at hev
  obtain ⟨⟨d1, S1⟩, e1, hev⟩ := Option.bind_eq_some_iff.mp hev
  simp only at hev
  split at hev
  · cases hev
    refine tEv_mk hρ hS e1 fun v1 H1 η1 g1 r1 s1 ρ1 => ⟨_, r1.int', k _ _ g1 s1⟩
  · cases hev
theorem cutL_rep {K : PySem.W.Frag} {η : Nat → Addr} {m : Nat} {H : Hp} {xs : List D} {vs : List V} (r : Reps K η m H xs vs) (lo hi : Option Int) : Reps K η m H (cutL xs lo hi) (cutV vs lo hi) := by
  unfold cutL cutV
  rw [r.length]
  exact (r.drop _).take _
theorem cutL_whole {K : PySem.W.Frag} {η : Nat → Addr} {m : Nat} {H : Hp} {xs : List D} {vs : List V} {lo hi : Option Int} (r : Reps K η m H xs vs) (hw : HT.sIx vs.length 0 lo = 0 ∧ HT.sIx vs.length vs.length hi = vs.length) : cutL xs lo hi = xs := by
  unfold cutL
  rw [r.length, hw.1, hw.2, List.drop_zero, Nat.sub_zero, ← r.length, List.take_length]
theorem s_slice {lo hi : Option Expr} {ilo ihi : Option Ex} {p2 : Pos} (ha : PE X a (tEv X.K C ia)) (hl : PO X lo (tEvO X.K C ilo)) (hh : PO X hi (tEvO X.K C ihi)) : PE X (.Subscript a (.Slice lo hi none p2) pos) (tEv X.K C (.slice ia ilo ihi)) := by
  refine PE.weak (pe_slice (sl_tupA.or sl_list) ha hl hh) fun σ H Q h => ?_
  obtain ⟨η, S, ρ, d, S', hρ, hS, hev, k⟩ := h
  unfold evE at hev
  obtain ⟨⟨d1, S1⟩, e1, hev⟩ := Option.bind_eq_some_iff.mp hev
  obtain ⟨⟨o2, S2⟩, e2, hev⟩ := Option.bind_eq_some_iff.mp hev
  obtain ⟨⟨o3, S3⟩, e3, hev⟩ := Option.bind_eq_some_iff.mp hev
  refine tEv_mk hρ hS e1 fun v1 H1 η1 g1 r1 s1 ρ1 => ?_
  refine ⟨η1, S1, ρ, o2, S2, ρ1, s1, e2, fun H2 η2 g2 s2 => ?_⟩
  refine ⟨η2, S2, ρ, o3, S3, ρ1.go g2, s2, e3, fun H3 η3 g3 s3 => ?_⟩
  have g : Go X.K η S.length H η3 S3.length H3 := (g1.trans g2).trans g3
  have r3 := r1.go (g2.trans g3)
  unfold sliceD at hev
  simp only at hev
  split at hev
  · cases hev
    cases r3 with
    | tup h1 h2 =>
      refine .inl ⟨_, _, rfl, h1, fun hw => ?_, fun _ p hp => ?_⟩
      · refine k _ _ _ g ?_ s3
        rw [cutL_whole h2 hw]
        exact .tup h1 h2
      · exact aft_tup s3 (cutL_rep h2 _ _) (fun v H' η' g' r s => k v H' η' (g.trans g') r s) hp
  · cases r3 with
    | loc hl =>
      obtain ⟨xs, e4, e5⟩ := Option.bind_eq_some_iff.mp hev
      cases e5
      obtain ⟨vs, h1, h2⟩ := items_at s3 e4
      exact .inr ⟨_, _, rfl, h1, fun p hp => aft_new s3 (cutL_rep h2 _ _) (fun v H' η' g' r s => k v H' η' (g.trans g') r s) hp⟩
  · cases hev
theorem s_rev {kk : Nat} {p1 p2 p3 : Pos} (ha : PE X a (tEv X.K C ia)) : PE X (.Subscript a (.Slice none none (some (.UnaryOp .USub (.Constant (.int 1) kk p1) p2)) p3) pos) (tEv X.K C (.rev ia)) := by
  refine PE.weak (PE.or2 (pe_revT ha) (pe_revL ha)) fun σ H Q h => ?_
  obtain ⟨η, S, ρ, d, S', hρ, hS, hev, k⟩ := h
  unfold evE at hev
  obtain ⟨⟨d1, S1⟩, e1, hev⟩ := Option.bind_eq_some_iff.mp hev
  unfold revD at hev
  simp only at hev
  split at hev
  · cases hev
    refine .inl (tEv_mk hρ hS e1 fun v1 H1 η1 g1 r1 s1 ρ1 => ?_)
    cases r1 with
    | tup h1 h2 => exact ⟨_, _, rfl, h1, fun p hp => aft_tup s1 h2.reverse (fun v H' η' g' r s => k v H' η' (g1.trans g') r s) hp⟩
  · refine .inr (tEv_mk hρ hS e1 fun v1 H1 η1 g1 r1 s1 ρ1 => ?_)
    cases r1 with
    | loc hl =>
      obtain ⟨xs, e4, e5⟩ := Option.bind_eq_some_iff.mp hev
      cases e5
      obtain ⟨vs, h1, h2⟩ := items_at s1 e4
      exact ⟨_, _, rfl, h1, fun p hp => aft_new s1 h2.reverse (fun v H' η' g' r s => k v H' η' (g1.trans g') r s) hp⟩
  · cases hev
/-! ### built-ins by value -/
/-- a rule of a called value serves the built-in -/
structure Blt (X : Cx) (f : Str) (r : List V → Hp → VK → Prop) : Prop where
  use : ∀ (η : Nat → Addr) (ds : List D) (vs : List V) (H : Hp) (S : Sto) (d : D) (S' : Sto) (Q : VK), Reps X.K η S.length H ds vs → RepS X.K η H S → bltD f ds S = some (d, S') → Aft X.K η S H d S' Q → r vs H Q
theorem s_blt {f : Str} {ies : List Ex} {e : Expr} {r : List V → Hp → VK → Prop} {t : TE} (B : Blt X f r) (h : PE X e t) (ht : ∀ σ H Q, tEvs X.K C ies σ H (fun vs H1 => r vs H1 Q) → t σ H Q) : PE X e (tEv X.K C (.blt f ies)) := by
  refine PE.weak h fun σ H Q h => ht σ H Q ?_
  obtain ⟨η, S, ρ, d, S', hρ, hS, hev, k⟩ := h
  unfold evE at hev
  obtain ⟨⟨ds, S1⟩, e1, hev⟩ := Option.bind_eq_some_iff.mp hev
  refine tEvs_mk hρ hS e1 fun vs H1 η1 g1 r1 s1 ρ1 => ?_
  exact B.use η1 ds vs H1 S1 d S' Q r1 s1 hev fun v H' η' g' r s => k v H' η' (g1.trans g') r s
theorem seq_at {K : PySem.W.Frag} {η : Nat → Addr} {H : Hp} {S : Sto} {d : D} {v : V} {xs : List D} (r : Rep K η S.length H d v) (hS : RepS K η H S) (e : seqOf S d = some xs) : ∃ a vs, v = .ref a ∧ (SqL K H a vs ∨ SqT K H a vs) ∧ Reps K η S.length H xs vs := by
  cases r with
  | tup h1 h2 => cases e; exact ⟨_, _, rfl, .inr h1, h2⟩
  | loc hl =>
    obtain ⟨vs, h1, h2⟩ := items_at hS (show (S[_]?).bind Cell.items = some xs from e)
    exact ⟨_, _, rfl, .inl h1, h2⟩
  | _ => cases e
theorem bools_rep {K : PySem.W.Frag} {η : Nat → Addr} {m : Nat} {H : Hp} : ∀ {xs : List D} {vs : List V} {bs : List Bool}, Reps K η m H xs vs → bools xs = some bs → vs = bs.map V.bl
  | _, _, _, .nil, h => by cases h; rfl
  | d :: ds, v :: vs, bs, .cons r q, h => by
    cases r with
    | bl b =>
      simp only [bools, Option.map_eq_some_iff] at h
      obtain ⟨bs', h1, rfl⟩ := h
      rw [bools_rep q h1]
      rfl
    | _ => simp only [bools] at h; cases h
theorem b_gcd : Blt X "gcd" rGcd := ⟨by
  intro η ds vs H S d S' Q r hS h k
  unfold bltD at h
  rw [if_pos rfl] at h
  split at h
  · cases h
    cases r with
    | cons r1 r2 => cases r1; cases r2 with
      | cons r3 r4 => cases r3; cases r4; exact ⟨_, _, rfl, k _ _ η Go.refl (.int _) hS⟩
  · cases h⟩
theorem b_abs : Blt X "abs" (fun xs H Q => ∃ i, xs = [.int i] ∧ Q (.int (if i < 0 then -i else i)) H) := ⟨by
  intro η ds vs H S d S' Q r hS h k
  unfold bltD at h
  rw [if_neg (by decide), if_pos rfl] at h
  split at h
  · cases h
    cases r with
    | cons r1 r2 => cases r1; cases r2; exact ⟨_, rfl, k _ _ η Go.refl (.int _) hS⟩
  · cases h⟩
theorem b_int : Blt X "int" (fun xs H Q => (∃ i, xs = [.int i] ∧ Q (.int i) H) ∨ ∃ k, xs = [.bl k] ∧ Q (.int (if k then 1 else 0)) H) := ⟨by
  intro η ds vs H S d S' Q r hS h k
  unfold bltD at h
  rw [if_neg (by decide), if_neg (by decide), if_pos rfl] at h
  split at h
  · cases h
    cases r with
    | cons r1 r2 => cases r1; cases r2; exact .inl ⟨_, rfl, k _ _ η Go.refl (.int _) hS⟩
  · cases h
    cases r with
    | cons r1 r2 => cases r1; cases r2; exact .inr ⟨_, rfl, k _ _ η Go.refl (.int _) hS⟩
  · cases h⟩
theorem b_max : Blt X "max" (fun xs H Q => ∃ i j, xs = [.int i, .int j] ∧ Q (.int (if j > i then j else i)) H) := ⟨by
  intro η ds vs H S d S' Q r hS h k
  unfold bltD at h
  rw [if_neg (by decide), if_neg (by decide), if_neg (by decide), if_pos rfl] at h
  split at h
  · cases h
    cases r with
    | cons r1 r2 => cases r1; cases r2 with
      | cons r3 r4 => cases r3; cases r4; exact ⟨_, _, rfl, k _ _ η Go.refl (.int _) hS⟩
  · cases h⟩
theorem b_min : Blt X "min" (fun xs H Q => ∃ i j, xs = [.int i, .int j] ∧ Q (.int (if j < i then j else i)) H) := ⟨by
  intro η ds vs H S d S' Q r hS h k
  unfold bltD at h
  rw [if_neg (by decide), if_neg (by decide), if_neg (by decide), if_neg (by decide), if_pos rfl] at h
  split at h
  · cases h
    cases r with
    | cons r1 r2 => cases r1; cases r2 with
      | cons r3 r4 => cases r3; cases r4; exact ⟨_, _, rfl, k _ _ η Go.refl (.int _) hS⟩
  · cases h⟩
theorem b_len : Blt X "len" (fun xs H Q => ∃ p ys, xs = [.ref p] ∧ (SqL X.K H p ys ∨ SqT X.K H p ys) ∧ Q (.int ys.length) H) := ⟨by
  intro η ds vs H S d S' Q r hS h k
  unfold bltD at h
  rw [if_neg (by decide), if_neg (by decide), if_neg (by decide), if_neg (by decide), if_neg (by decide), if_pos rfl] at h
  split at h
  · obtain ⟨xs, e1, e2⟩ := Option.map_eq_some_iff.mp h
    cases e2
    cases r with
    | cons r1 r2 =>
      cases r2
      obtain ⟨a, vs, rfl, h1, h2⟩ := seq_at r1 hS e1
      exact ⟨a, vs, rfl, h1, by rw [← h2.length]; exact k _ _ η Go.refl (.int _) hS⟩
  · cases h⟩
theorem b_tuple : Blt X "tuple" (fun xs H Q => ∃ p ys, xs = [.ref p] ∧ ((SqL X.K H p ys ∧ ∀ l, H l = none → Q (.ref l) (upd H l (.tup ys))) ∨ (SqT X.K H p ys ∧ Q (.ref p) H))) := ⟨by
  intro η ds vs H S d S' Q r hS h k
  unfold bltD at h
  rw [if_neg (by decide), if_neg (by decide), if_neg (by decide), if_neg (by decide), if_neg (by decide), if_neg (by decide), if_pos rfl] at h
  split at h
  · obtain ⟨xs, e1, e2⟩ := Option.map_eq_some_iff.mp h
    cases e2
    cases r with
    | cons r1 r2 =>
      cases r2
      obtain ⟨a, vs, rfl, h1, h2⟩ := seq_at r1 hS e1
      refine ⟨a, vs, rfl, ?_⟩
      rcases h1 with h1 | h1
      · exact .inl ⟨h1, fun p hp => aft_tup hS h2 k hp⟩
      · exact .inr ⟨h1, k _ _ η Go.refl (.tup h1 h2) hS⟩
  · cases h⟩
theorem b_list : Blt X "list" (fun xs H Q => ∃ p ys, xs = [.ref p] ∧ (SqL X.K H p ys ∨ SqT X.K H p ys) ∧ ∀ l, H l = none → Q (.ref l) (upd H l (.lst ys))) := ⟨by
  intro η ds vs H S d S' Q r hS h k
  unfold bltD at h
  rw [if_neg (by decide), if_neg (by decide), if_neg (by decide), if_neg (by decide), if_neg (by decide), if_neg (by decide), if_neg (by decide), if_pos rfl] at h
  split at h
  · obtain ⟨xs, e1, e2⟩ := Option.map_eq_some_iff.mp h
    cases e2
    cases r with
    | cons r1 r2 =>
      cases r2
      obtain ⟨a, vs, rfl, h1, h2⟩ := seq_at r1 hS e1
      exact ⟨a, vs, rfl, h1, fun p hp => aft_new hS h2 k hp⟩
  · cases h⟩
theorem b_all : Blt X "all" (rAll X.K) := ⟨by
  intro η ds vs H S d S' Q r hS h k
  unfold bltD at h
  rw [if_neg (by decide), if_neg (by decide), if_neg (by decide), if_neg (by decide), if_neg (by decide), if_neg (by decide), if_neg (by decide), if_neg (by decide), if_pos rfl] at h
  split at h
  · obtain ⟨bs, e1, e2⟩ := Option.map_eq_some_iff.mp h
    cases e2
    obtain ⟨xs, e3, e4⟩ := Option.bind_eq_some_iff.mp e1
    cases r with
    | cons r1 r2 =>
      cases r2
      cases r1 with
      | loc hl =>
        obtain ⟨vs, h1, h2⟩ := items_at hS e3
        have := bools_rep h2 e4
        subst this
        exact ⟨_, bs, rfl, h1, k _ _ η Go.refl (.bl _) hS⟩
  · cases h⟩
/-- repr of a tuple of data -/
def rRepr (K : PySem.W.Frag) : List V → Hp → VK → Prop := fun vs H Q => ∃ (a : Addr) (d : PyData), vs = [.ref a] ∧ Dp K H (.ref a) d ∧ d.showable = true ∧ d.shown.length ≤ sizeLine ∧ d.depth ≤ 60 ∧ d.hasDict = false ∧ Q (.str d.shown) H
mutual
theorem pyD_nodict : ∀ {d : D} {p : PyData}, pyD d = some p → p.hasDict = false
  | .non, _, h => by cases h; simp [PyData.hasDict]
  | .bl b, _, h => by cases h; simp [PyData.hasDict]
  | .int i, _, h => by cases h; simp [PyData.hasDict]
  | .str x, _, h => by cases h; simp [PyData.hasDict]
  | .tup ds, p, h => by
    simp only [pyD, Option.map_eq_some_iff] at h
    obtain ⟨ps, h1, rfl⟩ := h
    simp only [PyData.hasDict]
    exact pyDs_nodict h1
  | .loc _, _, h => by cases h
theorem pyDs_nodict : ∀ {ds : List D} {ps : List PyData}, pyDs ds = some ps → PyData.hasDictAll ps = false
  | [], _, h => by cases h; simp [PyData.hasDictAll]
  | d :: ds, ps, h => by
    simp only [pyDs, Option.bind_eq_some_iff, Option.map_eq_some_iff] at h
    obtain ⟨p, h1, ps', h2, rfl⟩ := h
    simp only [PyData.hasDictAll, pyD_nodict h1, pyDs_nodict h2, Bool.or_self]
end
theorem b_repr : Blt X "repr" (rRepr X.K) := ⟨by
  intro η ds vs H S d S' Q r hS h k
  unfold bltD at h
  rw [if_neg (by decide), if_neg (by decide), if_neg (by decide), if_neg (by decide), if_neg (by decide), if_neg (by decide), if_neg (by decide), if_neg (by decide), if_neg (by decide), if_pos rfl] at h
  split at h
  · obtain ⟨p, e1, e2⟩ := Option.bind_eq_some_iff.mp h
    split at e2
    · rename_i hc
      cases e2
      cases r with
      | cons r1 r2 =>
        cases r2
        cases r1 with
        | tup h1 h2 => exact ⟨_, p, rfl, dp_pure (.tup h1 h2) e1, hc.1, hc.2.1, hc.2.2, pyD_nodict e1, k _ _ η Go.refl (.str _) hS⟩
    · cases e2
  · cases h⟩
theorem cr_repr (hg : X.A.guards = some []) (hu : X.A.units + 64 < cLine) : CallR X (.builtin "repr") (rRepr X.K) := by
  intro pins s σ H vs us Q I r h
  obtain ⟨a, d, rfl, hd, h1, h2, h3, h4, q⟩ := h
  obtain ⟨u, rfl, ru⟩ := Vals.one r
  cases ru
  obtain ⟨as, rd⟩ := Dp.reads I d _ _ hd rfl
  refine repr_of_reads' (h₀ := s.heap) rd h1 (fun h' => by rw [h4] at h'; cases h') hg (by omega) (fun _ _ e => e) (fun h' u tk hk => ?_) h2
  exact ⟨.str d.shown, H, I.kept (t' := tk) hk, ⟨u, rfl⟩, q⟩
end
end Pf

/-! What is walked; comprehensions. -/
namespace Pf
open PySem PySem.Spec PyProof.Rows L2

/-- the items xs are what J gives, while the places at L stand as in S0 -/
structure WalkD (K : PySem.W.Frag) (J : It) (xs : List D) (L : List Nat) (η0 : Nat → Addr) (S0 : Sto) (H0 : Hp) : Prop where
  goes : ∀ i H η S, Go K η0 S0.length H0 η S.length H → RepS K η H S → (∀ l ∈ L, S[l]? = S0[l]?) → i < xs.length → J.go i H
  stops : ∀ H η S, Go K η0 S0.length H0 η S.length H → RepS K η H S → (∀ l ∈ L, S[l]? = S0[l]?) → J.stop xs.length H
  yields : ∀ i H η S v H', Go K η0 S0.length H0 η S.length H → RepS K η H S → (∀ l ∈ L, S[l]? = S0[l]?) → i < xs.length → J.yld i H v H' →
    ∃ d, xs[i]? = some d ∧ Go K η S.length H η S.length H' ∧ Rep K η S.length H' d v ∧ RepS K η H' S
def iEv (K : PySem.W.Frag) (C : Cfg) (k : Kind) (its : List Ex) : TI := fun σ H R => ∃ η S ρ ds S' xs L, RepE K η S.length H ρ σ ∧ RepS K η H S ∧ evEs C its ρ S = some (ds, S') ∧ iterD k ds S' = some (xs, L) ∧
  ∀ J H' η', Go K η S.length H η' S'.length H' → RepS K η' H' S' → RepE K η' S'.length H' ρ σ → WalkD K J xs L η' S' H' → R J H'
section
variable {X : Cx} {tg iter : Expr}
theorem PI.weak {t t' : TI} (h : PI X tg iter t) (w : ∀ σ H R, t' σ H R → t σ H R) : PI X tg iter t' := ⟨fun pins s σ H R I q => h.run pins s σ H R I (w σ H R q)⟩
theorem PI.or2 {t t' : TI} (h : PI X tg iter t) (h' : PI X tg iter t') : PI X tg iter (fun σ H R => t σ H R ∨ t' σ H R) := ⟨fun pins s σ H R I q => q.elim (h.run pins s σ H R I) (h'.run pins s σ H R I)⟩
end
section
variable {K : PySem.W.Frag} {η : Nat → Addr} {S : Sto} {H : Hp}
theorem items_go {K : PySem.W.Frag} {η η' : Nat → Addr} {S S' : Sto} {H H' : Hp} {n : Nat} {xs : List D} (hS : RepS K η H S) (e : (S[n]?).bind Cell.items = some xs) (g : Go K η S.length H η' S'.length H') (hS' : RepS K η' H' S') (hl : S'[n]? = S[n]?) :
    ∃ vs, SqL K H' (η n) vs ∧ Reps K η' S'.length H' xs vs := by
  have hn : n < S.length := by
    cases h : S[n]? with
    | none => rw [h] at e; cases e
    | some c => exact (List.getElem?_eq_some_iff.mp h).1
  rw [← hl] at e
  obtain ⟨vs, h1, h2⟩ := items_at hS' e
  rw [g.ag n hn] at h1
  exact ⟨vs, h1, h2⟩
theorem walkD_tup {a : Addr} {xs : List D} {vs : List V} (h : SqT K H a vs) (r : Reps K η S.length H xs vs) : WalkD K (Itt K a) xs [] η S H where
  goes := fun i H' η' S' g hS _ hi => by
    have w := walk_tup (K := K) (a := a) (xs := vs)
    exact w.goes i H' (by rw [← r.length]; exact hi) (g.keep _ _ h)
  stops := fun H' η' S' g hS _ => by
    have w := walk_tup (K := K) (a := a) (xs := vs)
    rw [r.length]
    exact w.stops H' (g.keep _ _ h)
  yields := fun i H' η' S' v H'' g hS _ hi y => by
    have w := walk_tup (K := K) (a := a) (xs := vs)
    obtain ⟨rfl, e⟩ := w.yields i H' v H'' (by rw [← r.length]; exact hi) (g.keep _ _ h) y
    obtain ⟨u, h1, h2⟩ := (r.go g).get (List.getElem?_eq_getElem hi)
    rw [e] at h1
    cases h1
    exact ⟨xs[i], List.getElem?_eq_getElem hi, Go.refl, h2, hS⟩
theorem walkD_list {n : Nat} {xs : List D} (hS0 : RepS K η H S) (e : (S[n]?).bind Cell.items = some xs) : WalkD K (Itl K (η n)) xs [n] η S H where
  goes := fun i H' η' S' g hS hl hi => by
    obtain ⟨vs, h1, h2⟩ := items_go hS0 e g hS (hl n (by simp))
    exact (walk_list (K := K) (xs := vs)).goes i H' (by rw [← h2.length]; exact hi) h1
  stops := fun H' η' S' g hS hl => by
    obtain ⟨vs, h1, h2⟩ := items_go hS0 e g hS (hl n (by simp))
    rw [h2.length]
    exact (walk_list (K := K) (xs := vs)).stops H' h1
  yields := fun i H' η' S' v H'' g hS hl hi y => by
    obtain ⟨vs, h1, h2⟩ := items_go hS0 e g hS (hl n (by simp))
    obtain ⟨rfl, e⟩ := (walk_list (K := K) (xs := vs)).yields i H' v H'' (by rw [← h2.length]; exact hi) h1 y
    obtain ⟨u, h3, h4⟩ := h2.get (List.getElem?_eq_getElem hi)
    rw [e] at h3
    cases h3
    exact ⟨xs[i], List.getElem?_eq_getElem hi, Go.refl, h4, hS⟩
theorem walkD_range {lo : Int} {n : Nat} : WalkD K (Itr lo n) ((List.range n).map fun t => D.int (lo + (t : Nat))) [] η S H where
  goes := fun i H' η' S' g hS hl hi => (walk_range (lo := lo) (n := n)).goes i H' (by simpa using hi) trivial
  stops := fun H' η' S' g hS hl => by
    have w := (walk_range (lo := lo) (n := n)).stops H' trivial
    simpa using w
  yields := fun i H' η' S' v H'' g hS hl hi y => by
    have hi' : i < n := by simpa using hi
    obtain ⟨rfl, rfl⟩ := (walk_range (lo := lo) (n := n)).yields i H' v H'' hi' trivial y
    exact ⟨.int (lo + (i : Nat)), by simp [hi'], Go.refl, .int _, hS⟩
theorem walkD_rangeC {lo c : Int} {n : Nat} : WalkD K (Itc lo c n) ((List.range n).map fun t => D.int (lo + (t : Nat) * c)) [] η S H where
  goes := fun i H' η' S' g hS hl hi => (walk_rangeC (lo := lo) (c := c) (n := n)).goes i H' (by simpa using hi) trivial
  stops := fun H' η' S' g hS hl => by
    have w := (walk_rangeC (lo := lo) (c := c) (n := n)).stops H' trivial
    simpa using w
  yields := fun i H' η' S' v H'' g hS hl hi y => by
    have hi' : i < n := by simpa using hi
    obtain ⟨rfl, rfl⟩ := (walk_rangeC (lo := lo) (c := c) (n := n)).yields i H' v H'' hi' trivial y
    exact ⟨.int (lo + (i : Nat) * c), by simp [hi'], Go.refl, .int _, hS⟩
/-- a new pair -/
theorem pair_new {η' : Nat → Addr} {S' : Sto} {H' : Hp} {T : Addr} {x y : V} {dx dy : D} (hS : RepS K η' H' S') (hT : H' T = none) (rx : Rep K η' S'.length H' dx x) (ry : Rep K η' S'.length H' dy y) :
    Go K η' S'.length H' η' S'.length (upd H' T (.tup [x, y])) ∧ Rep K η' S'.length (upd H' T (.tup [x, y])) (.tup [dx, dy]) (.ref T) ∧ RepS K η' (upd H' T (.tup [x, y])) S' :=
  ⟨Go.new hT, .tup (.of upd_same) (.cons (rx.go (Go.new hT)) (.cons (ry.go (Go.new hT)) .nil)), hS.new hT⟩
theorem getD_of {xs : List D} {i : Nat} {d : D} (h : xs[i]? = some d) : xs.getD i .non = d := by
  rw [List.getD_eq_getElem?_getD, h]
  rfl
theorem walkD_enumT {a : Addr} {xs : List D} {vs : List V} (h : SqT K H a vs) (r : Reps K η S.length H xs vs) : WalkD K (IteT K a) ((List.range xs.length).map fun i => D.tup [.int (i : Nat), xs.getD i .non]) [] η S H where
  goes := fun i H' η' S' g hS _ hi => (walk_enumT (K := K) (a := a) (xs := vs)).goes i H' (by rw [← r.length]; simpa using hi) (g.keep _ _ h)
  stops := fun H' η' S' g hS _ => by
    have w := (walk_enumT (K := K) (a := a) (xs := vs)).stops H' (g.keep _ _ h)
    rw [← r.length] at w
    simpa using w
  yields := fun i H' η' S' v H'' g hS _ hi y => by
    have hi' : i < xs.length := by simpa using hi
    obtain ⟨T, x, z, rfl, hT, rfl, e1, e2⟩ := (walk_enumT (K := K) (a := a) (xs := vs)).yields i H' v H'' (by rw [← r.length]; exact hi') (g.keep _ _ h) y
    cases e1
    obtain ⟨u, h1, h2⟩ := (r.go g).get (List.getElem?_eq_getElem hi')
    have e2 : vs[i]? = some z := e2
    rw [e2] at h1
    cases h1
    obtain ⟨p1, p2, p3⟩ := pair_new hS hT (.int (i : Nat)) h2
    exact ⟨_, by simp [hi', getD_of (List.getElem?_eq_getElem hi')], p1, p2, p3⟩
theorem walkD_enumL {n : Nat} {xs : List D} (hS0 : RepS K η H S) (e : (S[n]?).bind Cell.items = some xs) : WalkD K (Ite K (η n)) ((List.range xs.length).map fun i => D.tup [.int (i : Nat), xs.getD i .non]) [n] η S H where
  goes := fun i H' η' S' g hS hl hi => by
    obtain ⟨vs, h1, h2⟩ := items_go hS0 e g hS (hl n (by simp))
    exact (walk_enum (K := K) (xs := vs)).goes i H' (by rw [← h2.length]; simpa using hi) h1
  stops := fun H' η' S' g hS hl => by
    obtain ⟨vs, h1, h2⟩ := items_go hS0 e g hS (hl n (by simp))
    have w := (walk_enum (K := K) (xs := vs)).stops H' h1
    rw [← h2.length] at w
    simpa using w
  yields := fun i H' η' S' v H'' g hS hl hi y => by
    have hi' : i < xs.length := by simpa using hi
    obtain ⟨vs, h1, h2⟩ := items_go hS0 e g hS (hl n (by simp))
    obtain ⟨T, x, z, rfl, hT, rfl, e1, e2⟩ := (walk_enum (K := K) (xs := vs)).yields i H' v H'' (by rw [← h2.length]; exact hi') h1 y
    cases e1
    obtain ⟨u, h3, h4⟩ := h2.get (List.getElem?_eq_getElem hi')
    have e2 : vs[i]? = some z := e2
    rw [e2] at h3
    cases h3
    obtain ⟨p1, p2, p3⟩ := pair_new hS hT (.int (i : Nat)) h4
    exact ⟨_, by simp [hi', getD_of (List.getElem?_eq_getElem hi')], p1, p2, p3⟩
theorem walkD_zipT {a b : Addr} {xs ys : List D} {vs us : List V} (h : SqT K H a vs) (r : Reps K η S.length H xs vs) (h2 : SqT K H b us) (r2 : Reps K η S.length H ys us) :
    WalkD K (RZ.ItzT K a b) ((List.range (min xs.length ys.length)).map fun i => D.tup [xs.getD i .non, ys.getD i .non]) [] η S H where
  goes := fun i H' η' S' g hS _ hi => (walk_zipT (K := K) (a := a) (b := b) (xs := vs) (ys := us) rfl).goes i H' (by rw [← r.length, ← r2.length]; simpa using hi) ⟨g.keep _ _ h, g.keep _ _ h2⟩
  stops := fun H' η' S' g hS _ => by
    have w := (walk_zipT (K := K) (a := a) (b := b) (xs := vs) (ys := us) rfl).stops H' ⟨g.keep _ _ h, g.keep _ _ h2⟩
    rw [← r.length, ← r2.length] at w
    simpa using w
  yields := fun i H' η' S' v H'' g hS _ hi y => by
    have hi' : i < min xs.length ys.length := by simpa using hi
    obtain ⟨T, x, z, rfl, hT, rfl, e1, e2⟩ := (walk_zipT (K := K) (a := a) (b := b) (xs := vs) (ys := us) rfl).yields i H' v H'' (by rw [← r.length, ← r2.length]; exact hi') ⟨g.keep _ _ h, g.keep _ _ h2⟩ y
    have i1 : i < xs.length := by omega
    have i2 : i < ys.length := by omega
    obtain ⟨u, q1, q2⟩ := (r.go g).get (List.getElem?_eq_getElem i1)
    obtain ⟨u2, q3, q4⟩ := (r2.go g).get (List.getElem?_eq_getElem i2)
    have e1 : vs[i]? = some x := e1
    have e2 : us[i]? = some z := e2
    rw [e1] at q1
    rw [e2] at q3
    cases q1
    cases q3
    obtain ⟨p1, p2, p3⟩ := pair_new hS hT q2 q4
    exact ⟨_, by simp [hi', i1, i2], p1, p2, p3⟩
theorem walkD_zipL {n m : Nat} {xs ys : List D} (hS0 : RepS K η H S) (e : (S[n]?).bind Cell.items = some xs) (e' : (S[m]?).bind Cell.items = some ys) :
    WalkD K (Itz K (η n) (η m)) ((List.range (min xs.length ys.length)).map fun i => D.tup [xs.getD i .non, ys.getD i .non]) [n, m] η S H where
  goes := fun i H' η' S' g hS hl hi => by
    obtain ⟨vs, h1, h2⟩ := items_go hS0 e g hS (hl n (by simp))
    obtain ⟨us, h3, h4⟩ := items_go hS0 e' g hS (hl m (by simp))
    exact (walk_zip (K := K) (xs := vs) (ys := us) rfl).goes i H' (by rw [← h2.length, ← h4.length]; simpa using hi) ⟨h1, h3⟩
  stops := fun H' η' S' g hS hl => by
    obtain ⟨vs, h1, h2⟩ := items_go hS0 e g hS (hl n (by simp))
    obtain ⟨us, h3, h4⟩ := items_go hS0 e' g hS (hl m (by simp))
    have w := (walk_zip (K := K) (xs := vs) (ys := us) rfl).stops H' ⟨h1, h3⟩
    rw [← h2.length, ← h4.length] at w
    simpa using w
  yields := fun i H' η' S' v H'' g hS hl hi y => by
    have hi' : i < min xs.length ys.length := by simpa using hi
    obtain ⟨vs, h1, h2⟩ := items_go hS0 e g hS (hl n (by simp))
    obtain ⟨us, h3, h4⟩ := items_go hS0 e' g hS (hl m (by simp))
    obtain ⟨T, x, z, rfl, hT, rfl, e1, e2⟩ := (walk_zip (K := K) (xs := vs) (ys := us) rfl).yields i H' v H'' (by rw [← h2.length, ← h4.length]; exact hi') ⟨h1, h3⟩ y
    have i1 : i < xs.length := by omega
    have i2 : i < ys.length := by omega
    obtain ⟨u, q1, q2⟩ := h2.get (List.getElem?_eq_getElem i1)
    obtain ⟨u2, q3, q4⟩ := h4.get (List.getElem?_eq_getElem i2)
    have e1 : vs[i]? = some x := e1
    have e2 : us[i]? = some z := e2
    rw [e1] at q1
    rw [e2] at q3
    cases q1
    cases q3
    obtain ⟨p1, p2, p3⟩ := pair_new hS hT q2 q4
    exact ⟨_, by simp [hi', i1, i2], p1, p2, p3⟩
end
theorem iter_seq {d : D} {S : Sto} {xs : List D} {L : List Nat} (h : iterD .seq [d] S = some (xs, L)) : (d = .tup xs ∧ L = []) ∨ ∃ n, d = .loc n ∧ (S[n]?).bind Cell.items = some xs ∧ L = [n] := by
  cases d with
  | tup ys => simp only [iterD, Option.some.injEq, Prod.mk.injEq] at h; obtain ⟨rfl, rfl⟩ := h; exact .inl ⟨rfl, rfl⟩
  | loc n =>
    simp only [iterD] at h
    obtain ⟨ys, e1, e2⟩ := Option.map_eq_some_iff.mp h
    cases e2
    exact .inr ⟨n, rfl, e1, rfl⟩
  | _ => simp only [iterD] at h; cases h
theorem iter_enum {d : D} {S : Sto} {zs : List D} {L : List Nat} (h : iterD .enum [d] S = some (zs, L)) : (∃ xs, d = .tup xs ∧ L = [] ∧ zs = (List.range xs.length).map fun i => D.tup [.int (i : Nat), xs.getD i .non]) ∨
    ∃ n xs, d = .loc n ∧ (S[n]?).bind Cell.items = some xs ∧ L = [n] ∧ zs = (List.range xs.length).map fun i => D.tup [.int (i : Nat), xs.getD i .non] := by
  cases d with
  | tup ys => simp only [iterD, Option.some.injEq, Prod.mk.injEq] at h; obtain ⟨rfl, rfl⟩ := h; exact .inl ⟨ys, rfl, rfl, rfl⟩
  | loc n =>
    simp only [iterD] at h
    obtain ⟨ys, e1, e2⟩ := Option.map_eq_some_iff.mp h
    cases e2
    exact .inr ⟨n, ys, rfl, e1, rfl, rfl⟩
  | _ => simp only [iterD] at h; cases h
theorem iter_zip {d d2 : D} {S : Sto} {zs : List D} {L : List Nat} (h : iterD .zip [d, d2] S = some (zs, L)) : (∃ xs ys, d = .tup xs ∧ d2 = .tup ys ∧ L = [] ∧ zs = (List.range (min xs.length ys.length)).map fun i => D.tup [xs.getD i .non, ys.getD i .non]) ∨
    ∃ n m xs ys, d = .loc n ∧ d2 = .loc m ∧ (S[n]?).bind Cell.items = some xs ∧ (S[m]?).bind Cell.items = some ys ∧ L = [n, m] ∧ zs = (List.range (min xs.length ys.length)).map fun i => D.tup [xs.getD i .non, ys.getD i .non] := by
  cases d with
  | tup xs => cases d2 with
    | tup ys => simp only [iterD, Option.some.injEq, Prod.mk.injEq] at h; obtain ⟨rfl, rfl⟩ := h; exact .inl ⟨xs, ys, rfl, rfl, rfl, rfl⟩
    | _ => simp only [iterD] at h; cases h
  | loc n => cases d2 with
    | loc m =>
      simp only [iterD] at h
      obtain ⟨xs, e1, e2⟩ := Option.bind_eq_some_iff.mp h
      obtain ⟨ys, e3, e4⟩ := Option.map_eq_some_iff.mp e2
      cases e4
      exact .inr ⟨n, m, xs, ys, rfl, rfl, e1, e3, rfl, rfl⟩
    | _ => simp only [iterD] at h; cases h
  | _ => simp only [iterD] at h; cases h
theorem iter_rng1 {d : D} {S : Sto} {zs : List D} {L : List Nat} (h : iterD .rng [d] S = some (zs, L)) : ∃ j : Int, d = .int j ∧ -(2 ^ 62) ≤ j ∧ j < 2 ^ 62 ∧ L = [] ∧ zs = (List.range j.toNat).map fun i => .int (i : Nat) := by
  cases d with
  | int j =>
    simp only [iterD] at h
    split at h
    · rename_i hc
      cases h
      exact ⟨j, rfl, hc.1, hc.2, rfl, rfl⟩
    · cases h
  | _ => simp only [iterD] at h; cases h
theorem iter_rng2 {d d2 : D} {S : Sto} {zs : List D} {L : List Nat} (h : iterD .rng [d, d2] S = some (zs, L)) : ∃ i j : Int, d = .int i ∧ d2 = .int j ∧ (-(2 ^ 62) ≤ i ∧ i < 2 ^ 62 ∧ -(2 ^ 62) ≤ j ∧ j < 2 ^ 62) ∧ L = [] ∧ zs = (List.range (j - i).toNat).map fun t => .int (i + (t : Nat)) := by
  cases d with
  | int i => cases d2 with
    | int j =>
      simp only [iterD] at h
      split at h
      · rename_i hc
        cases h
        exact ⟨i, j, rfl, rfl, hc, rfl, rfl⟩
      · cases h
    | _ => simp only [iterD] at h; cases h
  | _ => simp only [iterD] at h; cases h
theorem iter_rng3 {d d2 d3 : D} {S : Sto} {zs : List D} {L : List Nat} (h : iterD .rng [d, d2, d3] S = some (zs, L)) : ∃ i j : Int, d = .int i ∧ d2 = .int j ∧ d3 = .int (-1) ∧ (-(2 ^ 62) ≤ i ∧ i < 2 ^ 62 ∧ -(2 ^ 62) ≤ j ∧ j < 2 ^ 62) ∧ L = [] ∧
    zs = (List.range (i - j).toNat).map fun t => .int (i + (t : Nat) * (-1)) := by
  cases d with
  | int i => cases d2 with
    | int j => cases d3 with
      | int c =>
        simp only [iterD] at h
        split at h
        · rename_i hc
          cases h
          obtain ⟨h1, h2, h3, h4, rfl⟩ := hc
          exact ⟨i, j, rfl, rfl, rfl, ⟨h1, h2, h3, h4⟩, rfl, rfl⟩
        · cases h
      | _ => simp only [iterD] at h; cases h
    | _ => simp only [iterD] at h; cases h
  | _ => simp only [iterD] at h; cases h
section
variable {X : Cx} {C : Cfg} {tg : Expr} {p pos tpos : Pos} {elts : List Expr} {kk : Nat}
theorem i_seq {l : Expr} {il : Ex} (h : PE X l (tEv X.K C il)) : PI X tg l (iEv X.K C .seq [il]) := by
  refine PI.weak (PI.or2 (pi_tup h) (pi_list h)) fun σ H R q => ?_
  obtain ⟨η, S, ρ, ds, S', xs, L, hρ, hS, hev, hit, k⟩ := q
  unfold evEs at hev
  obtain ⟨⟨d, S1⟩, e1, hev2⟩ := Option.bind_eq_some_iff.mp hev
  clear hev
  unfold evEs at hev2
  cases hev2
  rcases iter_seq hit with ⟨rfl, rfl⟩ | ⟨n, rfl, e2, rfl⟩
  · refine .inl (tEv_mk hρ hS e1 fun v H1 η1 g1 r1 s1 ρ1 => ?_)
    cases r1 with
    | tup h1 h2 => exact ⟨_, rfl, ⟨_, h1⟩, k _ _ _ g1 s1 ρ1 (walkD_tup h1 h2)⟩
  · refine .inr (tEv_mk hρ hS e1 fun v H1 η1 g1 r1 s1 ρ1 => ?_)
    cases r1 with
    | loc hl =>
      obtain ⟨vs, h1, h2⟩ := items_at s1 e2
      exact ⟨_, rfl, ⟨_, h1⟩, k _ _ _ g1 s1 ρ1 (walkD_list s1 e2)⟩
theorem evEs_length {C : Cfg} : ∀ {es : List Ex} {ρ : En} {S S' : Sto} {ds : List D}, evEs C es ρ S = some (ds, S') → ds.length = es.length
  | [], _, _, _, _, h => by
    unfold evEs at h
    cases h
    rfl
  | e :: es, _, _, _, _, h => by
    unfold evEs at h
    obtain ⟨⟨d, S1⟩, e1, h2⟩ := Option.bind_eq_some_iff.mp h
    obtain ⟨⟨ds, S2⟩, e2, h3⟩ := Option.map_eq_some_iff.mp h2
    cases h3
    simp [evEs_length e2]
/-- from the evaluated arguments -/
theorem iEv_mk {kd : Kind} {its : List Ex} {wi : TI} {f : List V → Hp → (It → Hp → Prop) → Prop} (hw : ∀ σ H R, tEvs X.K C its σ H (fun vs H1 => f vs H1 R) → wi σ H R)
    (hf : ∀ (η : Nat → Addr) (ds : List D) (vs : List V) (H : Hp) (S : Sto) (xs : List D) (L : List Nat) (R : It → Hp → Prop), ds.length = its.length → Reps X.K η S.length H ds vs → RepS X.K η H S → iterD kd ds S = some (xs, L) → (∀ J, WalkD X.K J xs L η S H → R J H) → f vs H R) :
    ∀ σ H R, iEv X.K C kd its σ H R → wi σ H R := fun σ H R q => by
  obtain ⟨η, S, ρ, ds, S', xs, L, hρ, hS, hev, hit, k⟩ := q
  exact hw σ H R (tEvs_mk hρ hS hev fun vs H1 η1 g1 r1 s1 ρ1 => hf η1 ds vs H1 S' xs L R (evEs_length hev) r1 s1 hit fun J w => k J H1 η1 g1 s1 ρ1 w)
theorem reps1 {K : PySem.W.Frag} {η : Nat → Addr} {m : Nat} {H : Hp} {ds : List D} {vs : List V} (h : ds.length = 1) (r : Reps K η m H ds vs) : ∃ d v, ds = [d] ∧ vs = [v] ∧ Rep K η m H d v := by
  cases r with
  | nil => cases h
  | cons r1 r2 => cases r2 with
    | nil => exact ⟨_, _, rfl, rfl, r1⟩
    | cons _ _ => simp at h
theorem reps2 {K : PySem.W.Frag} {η : Nat → Addr} {m : Nat} {H : Hp} {ds : List D} {vs : List V} (h : ds.length = 2) (r : Reps K η m H ds vs) : ∃ d v d2 v2, ds = [d, d2] ∧ vs = [v, v2] ∧ Rep K η m H d v ∧ Rep K η m H d2 v2 := by
  cases r with
  | nil => cases h
  | cons r1 r2 =>
    obtain ⟨d2, v2, rfl, rfl, q⟩ := reps1 (by simpa using h) r2
    exact ⟨_, _, _, _, rfl, rfl, r1, q⟩
theorem reps3 {K : PySem.W.Frag} {η : Nat → Addr} {m : Nat} {H : Hp} {ds : List D} {vs : List V} (h : ds.length = 3) (r : Reps K η m H ds vs) : ∃ d v d2 v2 d3 v3, ds = [d, d2, d3] ∧ vs = [v, v2, v3] ∧ Rep K η m H d v ∧ Rep K η m H d2 v2 ∧ Rep K η m H d3 v3 := by
  cases r with
  | nil => cases h
  | cons r1 r2 =>
    obtain ⟨d2, v2, d3, v3, rfl, rfl, q⟩ := reps2 (by simpa using h) r2
    exact ⟨_, _, _, _, _, _, rfl, rfl, r1, q⟩
theorem i_rng1 {e : Expr} {ie : Ex} (hg : Gl X "range") (hm : X.mg "range" = none) (ha : PA X [e] (tEvs X.K C [ie])) (hs : starEach [e] X.env = [(false, eval e X.env)]) : PI X tg (.Call (.Name "range" p) [e] [] pos) (iEv X.K C .rng [ie]) := by
  refine PI.weak (pi_range1 hg hm ha hs) (iEv_mk (fun σ H R q => q) fun η ds vs H S xs L R hl r hS hit k => ?_)
  obtain ⟨d, v, rfl, rfl, r1⟩ := reps1 hl r
  obtain ⟨j, rfl, h1, h2, rfl, rfl⟩ := iter_rng1 hit
  cases r1
  refine ⟨j, rfl, h1, h2, k _ ?_⟩
  have w := walkD_range (K := X.K) (η := η) (S := S) (H := H) (lo := 0) (n := j.toNat)
  simpa using w
theorem i_rng2 {e e2 : Expr} {ie ie2 : Ex} (hg : Gl X "range") (hm : X.mg "range" = none) (ha : PA X [e, e2] (tEvs X.K C [ie, ie2])) (hs : starEach [e, e2] X.env = [(false, eval e X.env), (false, eval e2 X.env)]) (hs2 : starEach [e2] X.env = [(false, eval e2 X.env)]) :
    PI X tg (.Call (.Name "range" p) [e, e2] [] pos) (iEv X.K C .rng [ie, ie2]) := by
  refine PI.weak (pi_range2 hg hm ha hs hs2) (iEv_mk (fun σ H R q => q) fun η ds vs H S xs L R hl r hS hit k => ?_)
  obtain ⟨d, v, d2, v2, rfl, rfl, r1, r2⟩ := reps2 hl r
  obtain ⟨i, j, rfl, rfl, h1, rfl, rfl⟩ := iter_rng2 hit
  cases r1
  cases r2
  exact ⟨i, j, rfl, h1, k _ walkD_range⟩
theorem i_rng3 {e e2 e3 : Expr} {ie ie2 ie3 : Ex} (hg : Gl X "range") (hm : X.mg "range" = none) (ha : PA X [e, e2, e3] (tEvs X.K C [ie, ie2, ie3])) (hs : starEach [e, e2, e3] X.env = (false, eval e X.env) :: starEach [e2, e3] X.env) (hpl : (backTo pos (starEach [e2, e3] X.env)).any (·.1) = false) :
    PI X tg (.Call (.Name "range" p) [e, e2, e3] [] pos) (iEv X.K C .rng [ie, ie2, ie3]) := by
  refine PI.weak (pi_range3 hg hm ha hs hpl) (iEv_mk (fun σ H R q => q) fun η ds vs H S xs L R hl r hS hit k => ?_)
  obtain ⟨d, v, d2, v2, d3, v3, rfl, rfl, r1, r2, r3⟩ := reps3 hl r
  obtain ⟨i, j, rfl, rfl, rfl, ⟨h1, h2, h3, h4⟩, rfl, rfl⟩ := iter_rng3 hit
  cases r1
  cases r2
  cases r3
  exact ⟨i, j, -1, _, rfl, RgC.neg h1 h2 h3 h4, k _ walkD_rangeC⟩
theorem i_enum {e : Expr} {ie : Ex} (hg : Gl X "enumerate") (hm : X.mg "enumerate" = none) (ha : PA X [e] (tEvs X.K C [ie])) (hs : starEach [e] X.env = [(false, eval e X.env)]) : PI X (.Tuple elts kk tpos) (.Call (.Name "enumerate" p) [e] [] pos) (iEv X.K C .enum [ie]) := by
  refine PI.weak (PI.or2 (pi_enumT hg hm ha hs) (pi_enum hg hm ha hs)) fun σ H R q => ?_
  obtain ⟨η, S, ρ, ds, S', xs, L, hρ, hS, hev, hit, k⟩ := q
  have hl := evEs_length hev
  obtain ⟨d, rfl⟩ : ∃ d, ds = [d] := by
    match ds, hl with
    | [d], _ => exact ⟨d, rfl⟩
  rcases iter_enum hit with ⟨ys, rfl, rfl, rfl⟩ | ⟨n, ys, rfl, e2, rfl, rfl⟩
  · refine .inl (tEvs_mk hρ hS hev fun vs H1 η1 g1 r1 s1 ρ1 => ?_)
    obtain ⟨_, v, e1, rfl, r1⟩ := reps1 rfl r1
    cases e1
    cases r1 with
    | tup h1 h2 => exact ⟨_, _, rfl, h1, k _ _ _ g1 s1 ρ1 (walkD_enumT h1 h2)⟩
  · refine .inr (tEvs_mk hρ hS hev fun vs H1 η1 g1 r1 s1 ρ1 => ?_)
    obtain ⟨_, v, e1, rfl, r1⟩ := reps1 rfl r1
    cases e1
    cases r1 with
    | loc hl =>
      obtain ⟨vs, h1, h2⟩ := items_at s1 e2
      exact ⟨_, _, rfl, h1, k _ _ _ g1 s1 ρ1 (walkD_enumL s1 e2)⟩
theorem i_zip {e e2 : Expr} {ie ie2 : Ex} (hg : Gl X "zip") (hm : X.mg "zip" = none) (ha : PA X [e, e2] (tEvs X.K C [ie, ie2])) (hs : starEach [e, e2] X.env = (false, eval e X.env) :: starEach [e2] X.env) (hpl : (backTo pos (starEach [e2] X.env)).any (·.1) = false) :
    PI X (.Tuple elts kk tpos) (.Call (.Name "zip" p) [e, e2] [] pos) (iEv X.K C .zip [ie, ie2]) := by
  refine PI.weak (RZ.pi_zipA hg hm ha hs hpl) (iEv_mk (fun σ H R q => q) fun η ds vs H S xs L R hl r hS hit k => ?_)
  obtain ⟨d, v, d2, v2, rfl, rfl, r1, r2⟩ := reps2 hl r
  rcases iter_zip hit with ⟨xs, ys, rfl, rfl, rfl, rfl⟩ | ⟨n, m, xs, ys, rfl, rfl, e1, e2, rfl, rfl⟩
  · cases r1 with
    | tup h1 q1 => cases r2 with
      | tup h2 q2 => exact ⟨_, _, _, _, rfl, .inr ⟨h1, h2, k _ (walkD_zipT h1 q1 h2 q2)⟩⟩
  · obtain ⟨vs, h1, _⟩ := items_at hS e1
    obtain ⟨us, h2, _⟩ := items_at hS e2
    cases r1
    cases r2
    exact ⟨_, _, _, _, rfl, .inl ⟨h1, h2, k _ (walkD_zipL hS e1 e2)⟩⟩
end
end Pf

/-! Targets, comprehensions. -/
namespace Pf
open PySem PySem.Spec PyProof.Rows L2

mutual
def T.slots : T → List Nat
  | .nm i => [i]
  | .tup ts => slotsL ts
def slotsL : List T → List Nat
  | [] => []
  | t :: ts => t.slots ++ slotsL ts
end
theorem wipe_set {σ : L2.St} {i : Nat} {x : Option V} : ∀ {vs : List Nat}, i ∈ vs → wipe (σ.set i x) vs = wipe σ vs
  | [], h => by cases h
  | v :: vs, h => by
    unfold L2.wipe
    by_cases hi : i = v
    · subst hi
      by_cases hv : i ∈ vs
      · rw [wipe_set hv]
      · -- the slot itself
        have key : ∀ us : List Nat, wipe (σ.set i x) us = (wipe σ us).set i (if i ∈ us then none else x) ∨ True := fun _ => .inr trivial
        clear key
        have h2 : ∀ (us : List Nat), i ∉ us → wipe (σ.set i x) us = (wipe σ us).set i x := by
          intro us
          induction us with
          | nil => intro _; rfl
          | cons u us ih =>
            intro hu
            rw [List.mem_cons, not_or] at hu
            unfold L2.wipe
            rw [ih hu.2, List.set_comm _ _ hu.1]
        rw [h2 vs hv, List.set_set]
    · rcases List.mem_cons.mp h with h | h
      · exact absurd h hi
      · rw [wipe_set h]
theorem wipe_wipe (σ : L2.St) (vs us : List Nat) (h : ∀ i ∈ us, i ∈ vs) : wipe (wipe σ us) vs = wipe σ vs := by
  induction us with
  | nil => rfl
  | cons u us ih =>
    show wipe ((wipe σ us).set u none) vs = _
    rw [wipe_set (h u List.mem_cons_self)]
    exact ih fun i hi => h i (List.mem_cons_of_mem _ hi)
def tB1 (K : PySem.W.Frag) (t : T) : TG := fun v σ H Q => ∃ η m ρ d ρ', RepE K η m H ρ σ ∧ Rep K η m H d v ∧ bind1 t d ρ = some ρ' ∧
  ∀ σ', RepE K η m H ρ' σ' → (∀ vs, (∀ i ∈ t.slots, i ∈ vs) → wipe σ' vs = wipe σ vs) → Q σ' H
def tBL (K : PySem.W.Frag) (ts : List T) : TGs := fun us σ H Q => ∃ η m ρ ds ρ', RepE K η m H ρ σ ∧ Reps K η m H ds us ∧ bindL ts ds ρ = some ρ' ∧
  ∀ σ', RepE K η m H ρ' σ' → (∀ vs, (∀ i ∈ slotsL ts, i ∈ vs) → wipe σ' vs = wipe σ vs) → Q σ' H
section
variable {X : Cx} {pos : Pos}
theorem PG.weak {tg : Expr} {t t' : TG} (h : PG X tg t) (w : ∀ v σ H Q, t' v σ H Q → t v σ H Q) : PG X tg t' := ⟨fun pins s σ H v u Q I r q => h.run pins s σ H v u Q I r (w v σ H Q q)⟩
theorem PGs.weak {tg : List Expr} {t t' : TGs} (h : PGs X tg t) (w : ∀ v σ H Q, t' v σ H Q → t v σ H Q) : PGs X tg t' := ⟨fun pins s σ H v u Q I r q => h.run pins s σ H v u Q I r (w v σ H Q q)⟩
theorem g_name {i : Nat} {x : Str} (hN : X.N.Nodup) (hi : X.N[i]? = some x) (hx : Loc X.env.scope x) (hf : X.fn x = true ∨ X.env.scope.names.lookup x = some .local) : PG X (.Name x pos) (tB1 X.K (.nm i)) := by
  refine PG.weak (pg_name hN hi hx hf) fun v σ H Q q => ?_
  obtain ⟨η, m, ρ, d, ρ', hρ, r, hb, k⟩ := q
  simp only [bind1, Option.some.injEq] at hb
  subst hb
  exact k _ (hρ.set r i) fun vs hv => wipe_set (hv i (by simp [T.slots]))
theorem g_nil : PGs X [] (tBL X.K []) := by
  refine PGs.weak pgs_nil fun v σ H Q q => ?_
  obtain ⟨η, m, ρ, d, ρ', hρ, r, hb, k⟩ := q
  cases r with
  | nil =>
    simp only [bindL, Option.some.injEq] at hb
    subst hb
    exact ⟨rfl, k σ hρ fun _ _ => rfl⟩
  | cons _ _ => simp only [bindL] at hb; cases hb
theorem g_cons {e : Expr} {es : List Expr} {t : T} {ts : List T} (h1 : PG X e (tB1 X.K t)) (h2 : PGs X es (tBL X.K ts)) (hs : (assignEach (e :: es) X.env).map (·.2) = assign e X.env :: (assignEach es X.env).map (·.2)) : PGs X (e :: es) (tBL X.K (t :: ts)) := by
  refine PGs.weak (pgs_cons h1 h2 hs) fun v σ H Q q => ?_
  obtain ⟨η, m, ρ, d, ρ', hρ, r, hb, k⟩ := q
  cases r with
  | nil => simp only [bindL] at hb; cases hb
  | cons r1 r2 =>
    simp only [bindL] at hb
    obtain ⟨ρ1, e1, e2⟩ := Option.bind_eq_some_iff.mp hb
    refine ⟨_, _, rfl, η, m, ρ, _, ρ1, hρ, r1, e1, fun σ1 q1 w1 => ?_⟩
    refine ⟨η, m, ρ1, _, ρ', q1, r2, e2, fun σ2 q2 w2 => k σ2 q2 fun vs hv => ?_⟩
    rw [w2 vs fun i hi => hv i (by simp only [slotsL, List.mem_append]; exact .inr hi), w1 vs fun i hi => hv i (by simp only [slotsL, List.mem_append]; exact .inl hi)]
theorem bindL_len : ∀ {ts : List T} {ds : List D} {ρ ρ' : En}, bindL ts ds ρ = some ρ' → ds.length = ts.length
  | [], [], _, _, _ => rfl
  | [], _ :: _, _, _, h => by simp only [bindL] at h; cases h
  | _ :: _, [], _, _, h => by simp only [bindL] at h; cases h
  | t :: ts, d :: ds, ρ, _, h => by
    simp only [bindL] at h
    obtain ⟨ρ1, e1, e2⟩ := Option.bind_eq_some_iff.mp h
    simp [bindL_len e2]
theorem g_tup {es : List Expr} {j : Nat} {ts : List T} (hc : X.calm = true) (h : PGs X es (tBL X.K ts)) (hn : (assignEach es X.env).length = ts.length) (hst : (assignEach es X.env).findIdx? (·.1) = none) : PG X (.Tuple es j pos) (tB1 X.K (.tup ts)) := by
  refine PG.weak (pg_tup hc h hn hst) fun v σ H Q q => ?_
  obtain ⟨η, m, ρ, d, ρ', hρ, r, hb, k⟩ := q
  cases r with
  | tup h1 h2 =>
    simp only [bind1] at hb
    refine ⟨_, _, rfl, h1, by rw [← h2.length, bindL_len hb], η, m, ρ, _, ρ', hρ, h2, hb, fun σ' q w => k σ' q fun vs hv => w vs fun i hi => hv i (by simp only [T.slots]; exact hi)⟩
  | _ => simp only [bind1] at hb; cases hb
end

/-! ### comprehensions -/
section
variable {X : Cx} {C : Cfg} {pos : Pos}
theorem PTs.weak {es : List Expr} {t t' : TT} (h : PTs X es t) (w : ∀ σ H Q, t' σ H Q → t σ H Q) : PTs X es t' := ⟨fun pins s σ H Q I q => h.run pins s σ H Q I (w σ H Q q)⟩
theorem f_nil : PTs X [] (tEvAnd X.K C []) := by
  refine PTs.weak pts_nil fun σ H Q h => ?_
  obtain ⟨η, S, ρ, b, S', hρ, hS, hev, k⟩ := h
  unfold evAnd at hev
  cases hev
  exact k _ η Go.refl hS
theorem f_one {c : Expr} {ic : Ex} (h : PT X c (tEvT X.K C ic)) : PTs X [c] (tEvAnd X.K C [ic]) := by
  refine PTs.weak (pts_one h) fun σ H Q h => ?_
  obtain ⟨η, S, ρ, b, S', hρ, hS, hev, k⟩ := h
  unfold evAnd at hev
  obtain ⟨⟨b1, S1⟩, e1, hev⟩ := Option.bind_eq_some_iff.mp hev
  refine tEvT_mk hρ hS e1 fun H' η' g s ρ1 => ?_
  cases b1 with
  | true =>
    simp only [if_true] at hev
    unfold evAnd at hev
    cases hev
    exact k _ _ g s
  | false =>
    simp only [Bool.false_eq_true, if_false] at hev
    cases hev
    exact k _ _ g s
theorem bind_lt {S : Sto} {n : Nat} {xs : List D} (h : (S[n]?).bind Cell.items = some xs) : n < S.length := by
  obtain ⟨c, hc, _⟩ := Option.bind_eq_some_iff.mp h
  exact (List.getElem?_eq_some_iff.mp hc).1
theorem iterD_lt {k : Kind} {ds : List D} {S : Sto} {xs : List D} {L : List Nat} (h : iterD k ds S = some (xs, L)) : ∀ l ∈ L, l < S.length := by
  unfold iterD at h
  intro l hl
  split at h
  · cases h; cases hl
  · obtain ⟨ys, e1, e2⟩ := Option.map_eq_some_iff.mp h
    cases e2
    rw [List.mem_singleton.mp hl]
    exact bind_lt e1
  · split at h <;> cases h
    cases hl
  · split at h <;> cases h
    cases hl
  · split at h <;> cases h
    cases hl
  · cases h; cases hl
  · obtain ⟨ys, e1, e2⟩ := Option.map_eq_some_iff.mp h
    cases e2
    rw [List.mem_singleton.mp hl]
    exact bind_lt e1
  · cases h; cases hl
  · obtain ⟨ys, e1, e2⟩ := Option.bind_eq_some_iff.mp h
    obtain ⟨zs, e3, e4⟩ := Option.map_eq_some_iff.mp e2
    cases e4
    rcases List.mem_cons.mp hl with rfl | hl
    · exact bind_lt e1
    · rw [List.mem_singleton.mp hl]
      exact bind_lt e3
  · cases h
/-- the turns of a comprehension -/
noncomputable abbrev compStep (C : Cfg) (t : T) (ifs : List Ex) (elt : Ex) (own : List Nat) (ρ : En) : D → Sto → Option (Option D × Sto) :=
  fun x S1 => (bind1 t x (wipeE ρ own)).bind fun ρ1 => (evAnd C ifs ρ1 S1).bind fun b => if b.1 = true then (evE C elt ρ1 b.2).map fun y => (some y.1, y.2) else some (none, b.2)
theorem put_list {K : PySem.W.Frag} {η : Nat → Addr} {H : Hp} {S : Sto} {n : Nat} {xs ys : List D} {us vs : List V} (hS : RepS K η H S) (e : S[n]? = some (.lst xs)) (h : H (η n) = some (.lst vs)) (r : Reps K η S.length H ys us) :
    Go K η S.length H η (S.set n (.lst ys)).length (upd H (η n) (.lst us)) ∧ RepS K η (upd H (η n) (.lst us)) (S.set n (.lst ys)) := by
  have g : Go K η S.length H η S.length (upd H (η n) (.lst us)) := ⟨keep_at h (fun _ z => by cases z) (fun _ _ z => by cases z), Nat.le_refl _, fun _ _ => rfl⟩
  exact hS.put e trivial trivial h (fun _ z => by cases z) (fun _ _ z => by cases z) (.lst upd_same (r.go g))
theorem s_comp {elt tg iter : Expr} {ifs : List Expr} {scope : Scope} {own : List (Str × Nat)} {kd : Kind} {its : List Ex} {t : T} {iifs : List Ex} {ielt : Ex} (hc : X.calm = true) (hN : X.N.Nodup) (hi : PI X tg iter (iEv X.K C kd its)) (ok : BlkOk X.N X.env.scope scope own)
    (hsl : ∀ i ∈ t.slots, i ∈ own.map (·.2))
    (hg : ∀ (s : Shared) (H : Hp) (A : Addr) (cl : List (Str × Addr)) (fp : List Addr), PG (X.blk s H scope (compEnvC scope cl A X.env) fp) tg (tB1 X.K t))
    (ht : ∀ (s : Shared) (H : Hp) (A : Addr) (cl : List (Str × Addr)) (fp : List Addr), PTs (X.blk s H scope (compEnvC scope cl A X.env) fp) ifs (tEvAnd X.K C iifs))
    (he : ∀ (s : Shared) (H : Hp) (A : Addr) (cl : List (Str × Addr)) (fp : List Addr), PE (X.blk s H scope (compEnvC scope cl A X.env) fp) elt (tEv X.K C ielt)) (hs : ∀ x, foldedSetIterable iter X.env x = pure x) :
    ∃ tc : TE, (∀ {tl : TE}, tl = tLc (iEv X.K C kd its) (tB1 X.K t) (tEvAnd X.K C iifs) (tEv X.K C ielt) (own.map (·.2)) → tl = tc) ∧ PE X (.ListComp elt [⟨tg, iter, ifs, 0⟩] scope pos) tc ∧ ∀ σ H Q, tEv X.K C (.comp kd its t iifs ielt (own.map (·.2))) σ H Q → tc σ H Q := by
  refine ⟨tLc (iEv X.K C kd its) (tB1 X.K t) (tEvAnd X.K C iifs) (tEv X.K C ielt) (own.map (·.2)), fun h => h, pe_lc hc hN hi ok hg ht he hs, fun σ H Q h => ?_⟩
  obtain ⟨η, S, ρ, d, Sf, hρ, hS, hev, k⟩ := h
  unfold evE at hev
  obtain ⟨⟨ds, S1⟩, e1, hev⟩ := Option.bind_eq_some_iff.mp hev
  obtain ⟨⟨xs, L⟩, e2, hev⟩ := Option.bind_eq_some_iff.mp hev
  obtain ⟨S2, e3, hev⟩ := Option.map_eq_some_iff.mp hev
  cases hev
  refine ⟨η, S, ρ, ds, S1, xs, L, hρ, hS, e1, e2, fun J H1 η1 g1 s1 ρ1 w D hD => ?_⟩
  have gx : Go X.K η1 S1.length H1 (ext η1 S1.length D) (S1.length + 1) (upd H1 D (.lst [])) := Go.ext hD
  have sx : RepS X.K (ext η1 S1.length D) (upd H1 D (.lst [])) (S1 ++ [.lst []]) := s1.add hD (.lst upd_same .nil)
  -- W: as far as i the list has come
  refine ⟨fun i m H' => m = xs.length - i ∧ i ≤ xs.length ∧ ∃ η' S', Go X.K η1 S1.length H1 η' S'.length H' ∧ RepS X.K η' H' S' ∧ S1.length < S'.length ∧ η' S1.length = D ∧ (∀ l ∈ L, S'[l]? = S1[l]?) ∧
    compGo S1.length L S1 (compStep C t iifs ielt (own.map (·.2)) ρ) (xs.drop i) S' = some Sf, ⟨xs.length, by simp, Nat.zero_le _, ext η1 S1.length D, S1 ++ [.lst []], by simpa using gx, sx, by simp, ext_at, fun l hl => ?_, by simpa using e3⟩, ?_⟩
  · -- the new place is none of those that are walked
    have hlt : l < S1.length := iterD_lt e2 l hl
    rw [List.getElem?_append_left hlt]
  · rintro i m H' ⟨rfl, hi, η', S', g', s', hlt, hD', hL, hgo⟩
    by_cases hin : i < xs.length
    · refine .inr ⟨w.goes i H' η' S' g' s' hL hin, fun H'' => ∃ η'' S'', Go X.K η1 S1.length H1 η'' S''.length H'' ∧ RepS X.K η'' H'' S'' ∧ S1.length < S''.length ∧ η'' S1.length = D ∧ (∀ l ∈ L, S''[l]? = S1[l]?) ∧
        compGo S1.length L S1 (compStep C t iifs ielt (own.map (·.2)) ρ) (xs.drop (i + 1)) S'' = some Sf, fun H'' q => ⟨xs.length - (i + 1), by omega, rfl, hin, q⟩, fun x H'' y => ?_⟩
      obtain ⟨dx, hx, gx', rx, sx'⟩ := w.yields i H' η' S' x H'' g' s' hL hin y
      rw [List.drop_eq_getElem_cons hin] at hgo
      have : xs[i] = dx := by
        rw [List.getElem?_eq_getElem hin] at hx
        exact Option.some.inj hx
      rw [this] at hgo
      unfold compGo at hgo
      obtain ⟨⟨o, S3⟩, h3, h4⟩ := Option.bind_eq_some_iff.mp hgo
      obtain ⟨ρb, h5, h6⟩ := Option.bind_eq_some_iff.mp h3
      obtain ⟨⟨b, Sb⟩, h7, h8⟩ := Option.bind_eq_some_iff.mp h6
      have gy : Go X.K η S.length H η' S'.length H'' := (g1.trans g').trans gx'
      refine ⟨η', S'.length, wipeE ρ (own.map (·.2)), dx, ρb, (hρ.go gy).wipe _, rx, h5, fun σ2 q2 wp => ⟨?_, ?_⟩⟩
      · rw [wp _ hsl, wipe_wipe _ _ _ fun _ h => h]
      · refine ⟨η', S', ρb, b, Sb, q2, sx', h7, fun H3 η3 g3 s3 => ?_⟩
        simp only at h8
        cases b with
        | true =>
          simp only [if_true] at h8 ⊢
          obtain ⟨⟨dy, Sy⟩, h9, h10⟩ := Option.map_eq_some_iff.mp h8
          cases h10
          refine ⟨η3, Sb, ρb, dy, _, q2.go g3, s3, h9, fun yv H4 η4 g4 r4 s4 => ?_⟩
          simp only at h4
          split at h4
          · rename_i hcond
            split at h4
            · rename_i acc hacc
              split at h4
              · rename_i hsz
                have eD : η4 S1.length = D := by
                  rw [(g3.trans g4).ag _ hlt]
                  exact hD'
                obtain ⟨vs, hv, rv⟩ := lst_at s4 hacc
                have hgS := (gx'.trans g3).trans g4
                obtain ⟨gp, sp⟩ := put_list s4 hacc hv (rv.append (.cons r4 .nil))
                rw [eD] at hv gp sp
                refine ⟨vs, hv, by rw [← rv.length]; exact hsz, η4, _, (g'.trans hgS).trans gp, sp, ?_, eD, fun l hl => ?_, h4⟩
                · rw [List.length_set]
                  exact (List.getElem?_eq_some_iff.mp hacc).1
                · have q := hcond.1 l hl
                  by_cases hln : S1.length = l
                  · subst hln
                    have q0 := hL S1.length hl
                    rw [q, List.getElem?_eq_none (Nat.le_refl _)] at hacc
                    cases hacc
                  · rw [List.getElem?_set_ne hln]
                    exact q
              · cases h4
            · cases h4
          · cases h4
        | false =>
          simp only [Bool.false_eq_true, if_false] at h8 ⊢
          cases h8
          simp only at h4
          split at h4
          · rename_i hcond
            refine ⟨η3, S3, (g'.trans gx').trans g3, s3, Nat.lt_of_lt_of_le hlt hcond.2, ?_, hcond.1, h4⟩
            rw [g3.ag _ hlt]
            exact hD'
          · cases h4
    · have hie : i = xs.length := by omega
      subst hie
      rw [List.drop_length] at hgo
      unfold compGo at hgo
      cases hgo
      refine .inl ⟨w.stops H' η' _ g' s' hL, k _ H' η' (g1.trans g') ?_ s'⟩
      rw [← hD']
      exact .loc hlt
end
end Pf

/-! Dict displays, methods; statements. -/
namespace Pf
open PySem PySem.Spec PyProof.Rows L2

/-! ### displays -/
theorem putK_new {k : Key} {v : V} : ∀ {kvs : List (Key × V)}, k ∉ kvs.map (·.1) → putK kvs k v = kvs ++ [(k, v)] := fun {kvs} h => by
  unfold putK
  rw [if_neg]
  intro q
  obtain ⟨p, hp, e⟩ := List.any_eq_true.mp q
  exact h (List.mem_map.mpr ⟨p, hp, of_decide_eq_true e⟩)
theorem mergeK_nodup : ∀ (more kvs : List (Key × V)), (more.map (·.1)).Nodup → (∀ k ∈ more.map (·.1), k ∉ kvs.map (·.1)) → mergeK kvs more = kvs ++ more
  | [], kvs, _, _ => by simp [mergeK]
  | (k, v) :: r, kvs, h, h2 => by
    rw [List.map_cons, List.nodup_cons] at h
    show mergeK (putK kvs k v) r = _
    rw [putK_new (h2 k (by simp)), mergeK_nodup r _ h.2 fun j hj => ?_]
    · simp
    · rw [List.map_append, List.mem_append, not_or]
      refine ⟨h2 j (List.mem_cons_of_mem _ hj), ?_⟩
      simp only [List.map_cons, List.map_nil, List.mem_singleton]
      rintro rfl
      exact h.1 hj
theorem zip_key : ∀ (ss : List Str) (us : List V), (ss.map V.str).zip us = ((ss.map (fun z => (Sum.inr z : Key))).zip us).map (fun kv => (kV kv.1, kv.2))
  | [], _ => rfl
  | _ :: _, [] => rfl
  | s :: ss, u :: us => by
    simp only [List.map_cons, List.zip_cons_cons, zip_key ss us]
    rfl
theorem dct_get {K : PySem.W.Frag} {η : Nat → Addr} {m : Nat} {H : Hp} {a : Addr} {kvs : List (Key × D)} (h : RepC K η m H a (.dct kvs)) : ∃ kus, H a = some (.dK kus) ∧ kvs.map (·.1) = kus.map (·.1) ∧ Reps K η m H (kvs.map (·.2)) (kus.map (·.2)) := by
  generalize hc : Cell.dct kvs = c at h
  cases h with
  | dct h1 h2 h3 =>
    cases hc
    exact ⟨_, h1, h2, h3⟩
  | _ => cases hc
theorem dct_nil {K : PySem.W.Frag} {η : Nat → Addr} {m : Nat} {H : Hp} {a : Addr} (h : RepC K η m H a (.dct [])) : H a = some (.dK []) := by
  obtain ⟨kus, h1, h2, _⟩ := dct_get h
  cases kus with
  | nil => exact h1
  | cons _ _ => simp at h2
theorem nodup_inr : ∀ {ss : List Str}, ss.Nodup → (ss.map (fun z => (Sum.inr z : Key))).Nodup
  | [], _ => List.nodup_nil
  | s :: ss, h => by
    rw [List.nodup_cons] at h
    rw [List.map_cons, List.nodup_cons]
    refine ⟨fun z => ?_, nodup_inr h.2⟩
    obtain ⟨y, hy, e⟩ := List.mem_map.mp z
    cases e
    exact h.1 hy
section
variable {X : Cx} {C : Cfg} {pos : Pos}
/-- the pairs of a display whose keys are written texts -/
inductive Disp (X : Cx) (C : Cfg) (pos : Pos) : List (Option Expr) → List Expr → List Str → List Ex → Prop
  | nil : Disp X C pos [] [] [] []
  | cons {k : Str} {j : Nat} {p : Pos} {v : Expr} {ks : List (Option Expr)} {vs : List Expr} {ss : List Str} {iv : Ex} {is : List Ex} : PE X v (tEv X.K C iv) → Disp X C pos ks vs ss is → Disp X C pos (some (.Constant (.str k) j p) :: ks) (v :: vs) (k :: ss) (iv :: is)
theorem Disp.pps {ks : List (Option Expr)} {vs : List Expr} {ss : List Str} {is : List Ex} (h : Disp X C pos ks vs ss is) : PPs X pos ks vs ((ss.zip is).map fun q => (tC (.str q.1), tEv X.K C q.2)) := by
  induction h with
  | nil => exact pps_nil
  | cons hv _ ih => exact pps_cons pe_str hv ih
theorem Disp.len {ks : List (Option Expr)} {vs : List Expr} {ss : List Str} {is : List Ex} (h : Disp X C pos ks vs ss is) : ks.length = ss.length ∧ vs.length = ss.length ∧ is.length = ss.length ∧ ks.all (·.isSome) = true := by
  induction h with
  | nil => simp
  | cons _ _ ih => simp [ih]
theorem pairs_of : ∀ {ss : List Str} {is : List Ex} {η : Nat → Addr} {S : Sto} {ρ : En} {σ : L2.St} {H : Hp} {ds : List D} {S' : Sto} {Q : List (V × V) → Hp → Prop}, ss.length = is.length → RepE X.K η S.length H ρ σ → RepS X.K η H S → evEs C is ρ S = some (ds, S') →
    AftL X.K η S H ds S' (fun vs H' => Q ((ss.map V.str).zip vs) H') → tPairs ((ss.zip is).map fun q => (tC (.str q.1), tEv X.K C q.2)) σ H Q
  | [], [], η, S, ρ, σ, H, ds, S', Q, _, hρ, hS, hev, k => by
    unfold evEs at hev
    cases hev
    exact k [] H η Go.refl .nil hS
  | s :: ss, i :: is, η, S, ρ, σ, H, ds, S', Q, hl, hρ, hS, hev, k => by
    unfold evEs at hev
    obtain ⟨⟨d1, S1⟩, e1, hev⟩ := Option.bind_eq_some_iff.mp hev
    obtain ⟨⟨ds', S2⟩, e2, hev⟩ := Option.map_eq_some_iff.mp hev
    cases hev
    refine tEv_mk hρ hS e1 fun v1 H1 η1 g1 r1 s1 ρ1 => ?_
    exact pairs_of (by simpa using hl) ρ1 s1 e2 fun vs H2 η2 g2 r2 s2 => k (v1 :: vs) H2 η2 (g1.trans g2) (.cons (r1.go g2) r2) s2
  | [], _ :: _, _, _, _, _, _, _, _, _, h, _, _, _, _ => by simp at h
  | _ :: _, [], _, _, _, _, _, _, _, _, h, _, _, _, _ => by simp at h
theorem s_dict {ks : List (Option Expr)} {vs : List Expr} {ss : List Str} {is : List Ex} (h : Disp X C pos ks vs ss is) (h0 : ks ≠ []) (h15 : ks.length ≤ 15) : PE X (.Dict ks vs pos) (tEv X.K C (.dict ss is)) := by
  obtain ⟨l1, l2, l3, hall⟩ := h.len
  refine PE.weak (pe_disp h.pps hall (by omega) h0 h15) fun σ H Q q => ?_
  obtain ⟨η, S, ρ, d, S', hρ, hS, hev, k⟩ := q
  unfold evE at hev
  obtain ⟨⟨ds, S1⟩, e1, hev⟩ := Option.bind_eq_some_iff.mp hev
  simp only at hev
  split at hev
  · rename_i e2
    split at hev
    · rename_i hc
      cases hev
      intro p hp
      have g0 : Go X.K η S.length H (ext η S.length p) (S ++ [Cell.dct []]).length (upd H p (.dK [])) := by
        rw [List.length_append]
        exact Go.ext hp
      have s0 : RepS X.K (ext η S.length p) (upd H p (.dK [])) (S ++ [.dct []]) := hS.add hp (.dct upd_same rfl .nil)
      refine pairs_of (by omega) (hρ.go g0) s0 e1 fun us H1 η1 g1 r1 s1 => ?_
      have hlt : S.length < S1.length := (List.getElem?_eq_some_iff.mp e2).1
      have eD : η1 S.length = p := by
        rw [g1.ag _ (by simp)]
        exact ext_at
      have hD : H1 p = some (.dK []) := by
        have q := s1.at' _ _ e2
        rw [eD] at q
        exact dct_nil q
      refine ⟨hD, (ss.map (fun z => (Sum.inr z : Key))).zip us, ?_, ?_, ?_⟩
      · exact zip_key _ _
      · rw [List.length_zip, List.length_map]
        omega
      · have hl : ss.length = us.length := hc.1.trans r1.length
        have nd : (((ss.map (fun z => (Sum.inr z : Key))).zip us).map (·.1)).Nodup := by
          rw [List.map_fst_zip (by simp; omega)]
          exact nodup_inr hc.2.1
        rw [mergeK_nodup _ _ nd (by simp), List.nil_append]
        have g2 : Go X.K η1 S1.length H1 η1 S1.length (upd H1 p (.dK ((ss.map (fun z => (Sum.inr z : Key))).zip us))) := ⟨keep_at hD (fun _ z => by cases z) (fun _ _ z => by cases z), Nat.le_refl _, fun _ _ => rfl⟩
        have hD' : H1 (η1 S.length) = some (.dK []) := by
          rw [eD]
          exact hD
        have g2' : Go X.K η1 S1.length H1 η1 S1.length (upd H1 (η1 S.length) (.dK ((ss.map (fun z => (Sum.inr z : Key))).zip us))) := by
          rw [eD]
          exact g2
        obtain ⟨gp, sp⟩ := s1.put (o := .dK ((ss.map (fun z => (Sum.inr z : Key))).zip us)) (c' := .dct ((ss.map (fun z => (Sum.inr z : Key))).zip ds)) e2 trivial trivial hD' (fun _ z => by cases z) (fun _ _ z => by cases z) (.dct upd_same (by rw [List.map_fst_zip (by simp; omega), List.map_fst_zip (by simp; omega)]) (by
            rw [List.map_snd_zip (by simp; omega), List.map_snd_zip (by simp; omega)]
            exact r1.go g2'))
        rw [eD] at gp sp
        refine k _ _ η1 ((g0.trans g1).trans gp) ?_ sp
        rw [← eD]
        exact .loc (by rw [List.length_set]; exact hlt)
    · cases hev
  · cases hev
end
end Pf

/-! Methods, statements. -/
namespace Pf
open PySem PySem.Spec PyProof.Rows L2

abbrev AftO (K : PySem.W.Frag) (η : Nat → Addr) (S : Sto) (H : Hp) (o : Out) (S' : Sto) (D : Ends) : Prop :=
  match o with
  | .nx ρ' => ∀ σ' H' η', Go K η S.length H η' S'.length H' → RepE K η' S'.length H' ρ' σ' → RepS K η' H' S' → D.nx σ' H'
  | .brk ρ' => ∀ σ' H' η', Go K η S.length H η' S'.length H' → RepE K η' S'.length H' ρ' σ' → RepS K η' H' S' → D.bk σ' H'
  | .cont ρ' => ∀ σ' H' η', Go K η S.length H η' S'.length H' → RepE K η' S'.length H' ρ' σ' → RepS K η' H' S' → D.ct σ' H'
  | .ret d => ∀ v H' η', Go K η S.length H η' S'.length H' → Rep K η' S'.length H' d v → RepS K η' H' S' → D.rt v H'
theorem AftO.go {K : PySem.W.Frag} {η η1 : Nat → Addr} {S S1 S' : Sto} {H H1 : Hp} {o : Out} {D : Ends} (g : Go K η S.length H η1 S1.length H1) (k : AftO K η S H o S' D) : AftO K η1 S1 H1 o S' D := by
  cases o with
  | nx ρ => exact fun σ' H' η' g' => k σ' H' η' (g.trans g')
  | brk ρ => exact fun σ' H' η' g' => k σ' H' η' (g.trans g')
  | cont ρ => exact fun σ' H' η' g' => k σ' H' η' (g.trans g')
  | ret d => exact fun v H' η' g' => k v H' η' (g.trans g')
def tS (K : PySem.W.Frag) (C : Cfg) (st : Sx) : TS := fun D σ H => ∃ η S ρ o S', RepE K η S.length H ρ σ ∧ RepS K η H S ∧ evS C st ρ S = some (o, S') ∧ AftO K η S H o S' D
def tSs (K : PySem.W.Frag) (C : Cfg) (st : List Sx) : TS := fun D σ H => ∃ η S ρ o S', RepE K η S.length H ρ σ ∧ RepS K η H S ∧ evB C st ρ S = some (o, S') ∧ AftO K η S H o S' D
section
variable {X : Cx} {C : Cfg} {pos : Pos} {e o i : Expr} {ie io ii : Ex}
theorem PS.weak {st : Stmt} {t t' : TS} (h : PS X st t) (w : ∀ D σ H, t' D σ H → t D σ H) : PS X st t' := ⟨fun pins s σ H D I q => h.run pins s σ H D I (w D σ H q)⟩
theorem PSs.weak {st : List Stmt} {t t' : TS} (h : PSs X st t) (w : ∀ D σ H, t' D σ H → t D σ H) : PSs X st t' := ⟨fun pins s σ H D I q => h.run pins s σ H D I (w D σ H q)⟩
theorem PS.or2 {st : Stmt} {t t' : TS} (h : PS X st t) (h' : PS X st t') : PS X st (fun D σ H => t D σ H ∨ t' D σ H) := ⟨fun pins s σ H D I q => q.elim (h.run pins s σ H D I) (h'.run pins s σ H D I)⟩
/-! ### list methods -/
theorem app_rep {K : PySem.W.Frag} {η : Nat → Addr} {H : Hp} {S S' : Sto} {d v : D} {u w : V} (hS : RepS K η H S) (rd : Rep K η S.length H d u) (rv : Rep K η S.length H v w) (h : appD d v S = some S') :
    ∃ a vs, u = .ref a ∧ H a = some (.lst vs) ∧ vs.length < sizeLine ∧ Go K η S.length H η S'.length (upd H a (.lst (vs ++ [w]))) ∧ RepS K η (upd H a (.lst (vs ++ [w]))) S' := by
  cases rd with
  | loc hl =>
    simp only [appD] at h
    split at h
    · rename_i xs e
      split at h
      · rename_i hz
        cases h
        obtain ⟨vs, h1, r1⟩ := lst_at hS e
        obtain ⟨g, s⟩ := put_list hS e h1 (r1.append (.cons rv .nil))
        exact ⟨_, vs, rfl, h1, by rw [← r1.length]; exact hz, g, s⟩
      · cases h
    · cases h
  | _ => simp only [appD] at h; cases h
theorem pop_rep {K : PySem.W.Frag} {η : Nat → Addr} {H : Hp} {S S' : Sto} {d y : D} {u : V} (hS : RepS K η H S) (rd : Rep K η S.length H d u) (h : popD d S = some (y, S')) :
    ∃ a vs w, u = .ref a ∧ H a = some (.lst vs) ∧ vs[vs.length - 1]? = some w ∧ Go K η S.length H η S'.length (upd H a (.lst vs.dropLast)) ∧ RepS K η (upd H a (.lst vs.dropLast)) S' ∧ Rep K η S'.length (upd H a (.lst vs.dropLast)) y w := by
  cases rd with
  | loc hl =>
    simp only [popD] at h
    split at h
    · rename_i xs e
      obtain ⟨y', e1, e2⟩ := Option.map_eq_some_iff.mp h
      cases e2
      obtain ⟨vs, h1, r1⟩ := lst_at hS e
      obtain ⟨w, e3, r2⟩ := r1.get e1
      obtain ⟨g, s⟩ := put_list hS e h1 r1.dropLast
      exact ⟨_, vs, w, rfl, h1, by rw [← r1.length]; exact e3, g, s, r2.go g⟩
    · cases h
  | _ => simp only [popD] at h; cases h
theorem attr_base {m : Str} (h : m ≠ "x" → True) (hno : ∀ id p1 p2, o ≠ .Call (.Name id p1) [] [] p2) : attributeBase o m X.env (eval o X.env) = eval o X.env := by
  unfold attributeBase
  split
  · rename_i id p1 p2
    exact absurd rfl (hno id p1 p2)
  · rfl
theorem s_pop {apos : Pos} (ho : PE X o (tEv X.K C io)) (hb : attributeBase o "pop" X.env (eval o X.env) = eval o X.env) (hl : (apos.endLine == pos.line) = true) : PE X (.Call (.Attribute o "pop" apos) [] [] pos) (tEv X.K C (.pop io)) := by
  refine PE.weak (pe_bm0 PySem.F.plainAttrs_list PySem.F.slot_list_pop PySem.F.type_list_pop mt_pop ho hb hl) fun σ H Q q => ?_
  obtain ⟨η, S, ρ, d, S', hρ, hS, hev, k⟩ := q
  unfold evE at hev
  obtain ⟨⟨d1, S1⟩, e1, hev⟩ := Option.bind_eq_some_iff.mp hev
  refine tEv_mk hρ hS e1 fun v1 H1 η1 g1 r1 s1 ρ1 => ?_
  obtain ⟨a, vs, w, rfl, h1, h2, g, s, r⟩ := pop_rep s1 r1 hev
  exact ⟨.inl ⟨rfl, _, .of h1⟩, a, vs, w, rfl, rfl, h1, h2, k _ _ η1 (g1.trans g) r s⟩
/-! ### statements -/
theorem c_pass : PS X (.Pass pos) (tS X.K C .pass) := by
  refine PS.weak ps_pass fun D σ H q => ?_
  obtain ⟨η, S, ρ, o, S', hρ, hS, hev, k⟩ := q
  unfold evS at hev
  cases hev
  exact k σ H η Go.refl hρ hS
theorem c_brk : PS X (.Break pos) (tS X.K C .brk) := by
  refine PS.weak ps_break fun D σ H q => ?_
  obtain ⟨η, S, ρ, o, S', hρ, hS, hev, k⟩ := q
  unfold evS at hev
  cases hev
  exact k σ H η Go.refl hρ hS
theorem c_cont : PS X (.Continue pos) (tS X.K C .cont) := by
  refine PS.weak ps_continue fun D σ H q => ?_
  obtain ⟨η, S, ρ, o, S', hρ, hS, hev, k⟩ := q
  unfold evS at hev
  cases hev
  exact k σ H η Go.refl hρ hS
theorem c_ret (h : PE X e (tEv X.K C ie)) : PS X (.Return (some e) pos) (tS X.K C (.ret ie)) := by
  refine PS.weak (ps_ret h) fun D σ H q => ?_
  obtain ⟨η, S, ρ, o, S', hρ, hS, hev, k⟩ := q
  unfold evS at hev
  obtain ⟨⟨d, S1⟩, e1, hev⟩ := Option.map_eq_some_iff.mp hev
  cases hev
  exact tEv_mk hρ hS e1 fun v H' η' g r s _ => k v H' η' g r s
theorem c_retN : PS X (.Return none pos) (tS X.K C .retN) := by
  refine PS.weak ps_retN fun D σ H q => ?_
  obtain ⟨η, S, ρ, o, S', hρ, hS, hev, k⟩ := q
  unfold evS at hev
  cases hev
  exact k .non H η Go.refl .non hS
/-- what a target's binding gives -/
theorem asg_use {t : T} {d : D} {ρ ρ' : En} {η : Nat → Addr} {S : Sto} {H : Hp} {v : V} {σ : L2.St} {Q : L2.St → Hp → Prop} (hρ : RepE X.K η S.length H ρ σ) (r : Rep X.K η S.length H d v) (hb : bind1 t d ρ = some ρ') (k : ∀ σ', RepE X.K η S.length H ρ' σ' → Q σ' H) : tB1 X.K t v σ H Q :=
  ⟨η, S.length, ρ, d, ρ', hρ, r, hb, fun σ' q _ => k σ' q⟩
theorem c_asg {tg : Expr} {t : T} (he : PE X e (tEv X.K C ie)) (hg : PG X tg (tB1 X.K t)) (hs : swapsWithSole [tg] e pos.line X.env = pure false) (hw : swappedStores [tg] e X.env = pure none) (h1 : (assignEach [tg] X.env).map (·.2) = [assign tg X.env]) :
    PS X (.Assign [tg] e pos) (tS X.K C (.asg t ie)) := by
  refine PS.weak (ps_asg he hg hs hw h1) fun D σ H q => ?_
  obtain ⟨η, S, ρ, o, S', hρ, hS, hev, k⟩ := q
  unfold evS at hev
  obtain ⟨⟨d, S1⟩, e1, hev⟩ := Option.bind_eq_some_iff.mp hev
  obtain ⟨ρ', e2, hev⟩ := Option.map_eq_some_iff.mp hev
  cases hev
  exact tEv_mk hρ hS e1 fun v H' η' g r s ρ1 => asg_use ρ1 r e2 fun σ' q => k σ' H' η' g q s
theorem c_setLc {n : Nat} {y : Str} {py : Pos} {elt tg iter : Expr} {ifs : List Expr} {scope : Scope} {own : List (Str × Nat)} {kd : Kind} {its : List Ex} {t : T} {iifs : List Ex} {ielt : Ex} {spos : Pos} (hc : X.calm = true) (hN : X.N.Nodup) (hy : X.N[n]? = some y) (hyl : X.env.scope.names.lookup y = some .local)
    (hsw : swapsWith (.ListComp elt [⟨tg, iter, ifs, 0⟩] scope pos) (some (.Name y py)) spos.line X.env = pure true) (hi : PI X tg iter (iEv X.K C kd its)) (ok : BlkOk X.N X.env.scope scope own)
    (hsl : ∀ i ∈ t.slots, i ∈ own.map (·.2))
    (hg : ∀ (s : Shared) (H : Hp) (A : Addr) (cl : List (Str × Addr)) (fp : List Addr), PG (X.blk s H scope (compEnvC scope cl A X.env) fp) tg (tB1 X.K t))
    (ht : ∀ (s : Shared) (H : Hp) (A : Addr) (cl : List (Str × Addr)) (fp : List Addr), PTs (X.blk s H scope (compEnvC scope cl A X.env) fp) ifs (tEvAnd X.K C iifs))
    (he : ∀ (s : Shared) (H : Hp) (A : Addr) (cl : List (Str × Addr)) (fp : List Addr), PE (X.blk s H scope (compEnvC scope cl A X.env) fp) elt (tEv X.K C ielt)) (hs : ∀ x, foldedSetIterable iter X.env x = pure x) :
    PS X (.Assign [.Name y py] (.ListComp elt [⟨tg, iter, ifs, 0⟩] scope pos) spos) (tS X.K C (.asg (.nm n) (.comp kd its t iifs ielt (own.map (·.2))))) := by
  obtain ⟨tc, h1, h2, h3⟩ := s_comp (pos := pos) hc hN hi ok hsl hg ht he hs
  have h1 := h1 rfl
  refine PS.weak (ps_setLc hc hN hy hyl hsw hi ok hg ht he hs) fun D σ H q => ?_
  rw [h1]
  obtain ⟨η, S, ρ, o, S', hρ, hS, hev, k⟩ := q
  unfold evS at hev
  obtain ⟨⟨d, S1⟩, e1, hev⟩ := Option.bind_eq_some_iff.mp hev
  obtain ⟨ρ', e2, hev⟩ := Option.map_eq_some_iff.mp hev
  cases hev
  simp only [bind1, Option.some.injEq] at e2
  subst e2
  exact h3 _ _ _ (tEv_mk hρ hS e1 fun v H' η' g r s ρ1 => k _ H' η' g (ρ1.set r n) s)
theorem c_par2 {n m : Nat} {x y : Str} {a b : Expr} {ia ib : Ex} {px py pt : Pos} {kt k2 pt2} (hc : X.calm = true) (hN : X.N.Nodup) (hi : X.N[n]? = some x) (hj : X.N[m]? = some y) (hij : n ≠ m)
    (hx : X.env.scope.names.lookup x = some .local) (hy : X.env.scope.names.lookup y = some .local) (ha : PA X [a, b] (tEvs X.K C [ia, ib]))
    (hw : swappedStores [.Tuple [.Name x px, .Name y py] kt pt] (.Tuple [a, b] k2 pt2) X.env = pure (some [x, y]))
    (hs : swapsWithSole [.Tuple [.Name x px, .Name y py] kt pt] (.Tuple [a, b] k2 pt2) pos.line X.env = pure false) :
    PS X (.Assign [.Tuple [.Name x px, .Name y py] kt pt] (.Tuple [a, b] k2 pt2) pos) (tS X.K C (.par [n, m] [ia, ib])) := by
  refine PS.weak (ps_par hc hN hi hj hij hx hy ha hw hs) fun D σ H q => ?_
  obtain ⟨η, S, ρ, o, S', hρ, hS, hev, k⟩ := q
  unfold evS at hev
  obtain ⟨⟨ds, S1⟩, e1, hev⟩ := Option.bind_eq_some_iff.mp hev
  obtain ⟨ρ', e2, hev⟩ := Option.map_eq_some_iff.mp hev
  cases hev
  refine tEvs_mk hρ hS e1 fun vs H' η' g r s ρ1 => ?_
  obtain ⟨d, v, d2, v2, rfl, rfl, r1, r2⟩ := reps2 (evEs_length e1) r
  simp only [setAll, Option.some.injEq] at e2
  subst e2
  exact ⟨v, v2, rfl, k _ H' η' g ((ρ1.set r1 n).set r2 m) s⟩
theorem c_par3 {n m l : Nat} {x y z : Str} {a b c : Expr} {ia ib ic : Ex} {px py pz pt : Pos} {kt k2 pt2} (hc : X.calm = true) (hN : X.N.Nodup) (hi : X.N[n]? = some x) (hj : X.N[m]? = some y) (hl : X.N[l]? = some z) (hij : n ≠ m) (hil : n ≠ l) (hjl : m ≠ l)
    (hx : X.env.scope.names.lookup x = some .local) (hy : X.env.scope.names.lookup y = some .local) (hz : X.env.scope.names.lookup z = some .local) (ha : PA X [a, b, c] (tEvs X.K C [ia, ib, ic]))
    (hw : swappedStores [.Tuple [.Name x px, .Name y py, .Name z pz] kt pt] (.Tuple [a, b, c] k2 pt2) X.env = pure (some [x, y, z]))
    (hs : swapsWithSole [.Tuple [.Name x px, .Name y py, .Name z pz] kt pt] (.Tuple [a, b, c] k2 pt2) pos.line X.env = pure false) :
    PS X (.Assign [.Tuple [.Name x px, .Name y py, .Name z pz] kt pt] (.Tuple [a, b, c] k2 pt2) pos) (tS X.K C (.par [n, m, l] [ia, ib, ic])) := by
  refine PS.weak (ps_par3 hc hN hi hj hl hij hil hjl hx hy hz ha hw hs) fun D σ H q => ?_
  obtain ⟨η, S, ρ, o, S', hρ, hS, hev, k⟩ := q
  unfold evS at hev
  obtain ⟨⟨ds, S1⟩, e1, hev⟩ := Option.bind_eq_some_iff.mp hev
  obtain ⟨ρ', e2, hev⟩ := Option.map_eq_some_iff.mp hev
  cases hev
  refine tEvs_mk hρ hS e1 fun vs H' η' g r s ρ1 => ?_
  obtain ⟨d, v, d2, v2, d3, v3, rfl, rfl, r1, r2, r3⟩ := reps3 (evEs_length e1) r
  simp only [setAll, Option.some.injEq] at e2
  subst e2
  exact ⟨v, v2, v3, rfl, k _ H' η' g (((ρ1.set r1 n).set r2 m).set r3 l) s⟩
/-! stores into lists and dicts -/
theorem set_dict (hu : X.A.units + 1 < cLine) : PSet X (fun o i v H Q => ∃ a H', o = .ref a ∧ DPut H a i v H' ∧ Q H') := by
  intro pins s σ H o i v ov iv u Q I ro ri rv h
  obtain ⟨a, H', rfl, g, q⟩ := h
  cases ro
  exact d_setItem hu I g ri rv fun s' I' => ⟨H', I', q⟩
theorem PSet.or2 {t t' : TSet} (h : PSet X t) (h' : PSet X t') : PSet X (fun o i v H Q => t o i v H Q ∨ t' o i v H Q) := by
  intro pins s σ H o i v ov iv u Q I ro ri rv q
  exact q.elim (h pins s σ H o i v ov iv u Q I ro ri rv) (h' pins s σ H o i v ov iv u Q I ro ri rv)
theorem putK_rep {K : PySem.W.Frag} {η : Nat → Addr} {m : Nat} {H : Hp} {k : Key} {d : D} {v : V} {kvs : List (Key × D)} {kus : List (Key × V)} (h1 : kvs.map (·.1) = kus.map (·.1)) (h2 : Reps K η m H (kvs.map (·.2)) (kus.map (·.2))) (r : Rep K η m H d v) :
    (putD kvs k d).map (·.1) = (putK kus k v).map (·.1) ∧ Reps K η m H ((putD kvs k d).map (·.2)) ((putK kus k v).map (·.2)) := by
  have hany : (kvs.any fun q => decide (q.1 = k)) = (kus.any fun kv => decide (kv.1 = k)) := by
    have e1 : (kvs.any fun q => decide (q.1 = k)) = (kvs.map (·.1)).any fun z => decide (z = k) := by rw [List.any_map]; rfl
    have e2 : (kus.any fun q => decide (q.1 = k)) = (kus.map (·.1)).any fun z => decide (z = k) := by rw [List.any_map]; rfl
    rw [e1, e2, h1]
  unfold putD putK
  rw [hany]
  split
  · clear hany
    rename_i hx
    clear hx
    induction kvs generalizing kus with
    | nil =>
      cases kus with
      | nil => exact ⟨rfl, .nil⟩
      | cons _ _ => simp at h1
    | cons p ps ih =>
      cases kus with
      | nil => simp at h1
      | cons q qs =>
        simp only [List.map_cons, List.cons.injEq] at h1
        cases h2 with
        | cons ra rb =>
          obtain ⟨i1, i2⟩ := ih h1.2 rb
          by_cases hp : p.1 = k
          · have hq : q.1 = k := by rw [← h1.1]; exact hp
            simp only [List.map_cons, if_pos hp, if_pos hq, h1.1]
            exact ⟨by rw [i1], .cons r i2⟩
          · have hq : ¬ q.1 = k := by rw [← h1.1]; exact hp
            simp only [List.map_cons, if_neg hp, if_neg hq, h1.1]
            exact ⟨by rw [i1], .cons ra i2⟩
  · rw [List.map_append, List.map_append, List.map_append, List.map_append, h1]
    exact ⟨rfl, h2.append (.cons r .nil)⟩
theorem dset_rep {η : Nat → Addr} {H : Hp} {S : Sto} {n : Nat} {x : Str} {kvs : List (Key × D)} {dV : D} {vv : V} (hS : RepS X.K η H S) (e : S[n]? = some (.dct kvs)) (hz : kvs.length < sizeLine) (rv : Rep X.K η S.length H dV vv) {Q : Hp → Prop}
    (k : ∀ H', Go X.K η S.length H η (S.set n (.dct (putD kvs (Sum.inr x) dV))).length H' → RepS X.K η H' (S.set n (.dct (putD kvs (Sum.inr x) dV))) → Q H') : ∃ a H', V.ref (η n) = .ref a ∧ DPut H a (.str x) vv H' ∧ Q H' := by
  obtain ⟨kus, h1, h2, h3⟩ := dct_get (hS.at' _ _ e)
  obtain ⟨p1, p2⟩ := putK_rep (k := Sum.inr x) h2 h3 rv
  have hlen : kvs.length = kus.length := by
    have q := congrArg List.length h2
    simpa using q
  have g : Go X.K η S.length H η S.length (upd H (η n) (.dK (putK kus (Sum.inr x) vv))) := ⟨keep_at h1 (fun _ z => by cases z) (fun _ _ z => by cases z), Nat.le_refl _, fun _ _ => rfl⟩
  obtain ⟨gp, sp⟩ := hS.put (o := .dK (putK kus (Sum.inr x) vv)) e trivial (c' := .dct (putD kvs (Sum.inr x) dV)) trivial h1 (fun _ z => by cases z) (fun _ _ z => by cases z) (.dct upd_same p1 (p2.go g))
  exact ⟨_, _, rfl, DPut.k (k := Sum.inr x) h1 (by rw [← hlen]; exact hz), k _ gp sp⟩
theorem set_rep {η : Nat → Addr} {H : Hp} {S S' : Sto} {dO dI dV : D} {vo vi vv : V} (hS : RepS X.K η H S) (ro : Rep X.K η S.length H dO vo) (ri : Rep X.K η S.length H dI vi) (rv : Rep X.K η S.length H dV vv) (h : setD dO dI dV S = some S') {Q : Hp → Prop}
    (k : ∀ H', Go X.K η S.length H η S'.length H' → RepS X.K η H' S' → Q H') : rSetL vo vi vv H Q ∨ ∃ a H', vo = .ref a ∧ DPut H a vi vv H' ∧ Q H' := by
  unfold setD at h
  split at h
  · cases ri
    cases ro with
    | loc hl =>
      split at h
      · rename_i xs e
        obtain ⟨j, e1, e2⟩ := Option.map_eq_some_iff.mp h
        cases e2
        obtain ⟨vs, h1, r1⟩ := lst_at hS e
        obtain ⟨g, s⟩ := put_list hS e h1 (r1.set rv j)
        exact .inl ⟨_, vs, _, j, rfl, rfl, h1, by rw [← r1.length]; exact e1, k _ g s⟩
      · cases h
  · cases ri
    cases ro with
    | loc hl =>
      split at h
      · rename_i kvs e
        split at h
        · rename_i hz
          cases h
          exact .inr (dset_rep hS e hz rv k)
        · cases h
      · cases h
  · cases h
theorem c_setI {tpos : Pos} (hu : X.A.units + 1 < cLine) (he : PE X e (tEv X.K C ie)) (ho : PE X o (tEv X.K C io)) (hi : PE X i (tEv X.K C ii)) (hs : swapsWithSole [.Subscript o i tpos] e pos.line X.env = pure false) (hw : swappedStores [.Subscript o i tpos] e X.env = pure none)
    (ha : ∀ v, assign (.Subscript o i tpos) X.env v = (do
      let ov ← holding [v] (eval o X.env)
      let iv ← holding [v, ov] (eval i X.env)
      standAt tpos
      holding [v, ov, iv] (setItem ov iv v)
      release [v, ov, iv] [])) : PS X (.Assign [.Subscript o i tpos] e pos) (tS X.K C (.setI io ii ie)) := by
  refine PS.weak (ps_asg he (pg_sub ho hi (PSet.or2 set_list (set_dict hu)) ha) hs hw rfl) fun D σ H q => ?_
  obtain ⟨η, S, ρ, ot, S', hρ, hS, hev, k⟩ := q
  unfold evS at hev
  obtain ⟨⟨d1, S1⟩, e1, hev⟩ := Option.bind_eq_some_iff.mp hev
  obtain ⟨⟨d2, S2⟩, e2, hev⟩ := Option.bind_eq_some_iff.mp hev
  obtain ⟨⟨d3, S3⟩, e3, hev⟩ := Option.bind_eq_some_iff.mp hev
  obtain ⟨S4, e4, hev⟩ := Option.map_eq_some_iff.mp hev
  cases hev
  refine tEv_mk hρ hS e1 fun v1 H1 η1 g1 r1 s1 ρ1 => ?_
  refine tEv_mk ρ1 s1 e2 fun v2 H2 η2 g2 r2 s2 ρ2 => ?_
  refine tEv_mk ρ2 s2 e3 fun v3 H3 η3 g3 r3 s3 ρ3 => ?_
  exact set_rep s3 (r2.go g3) r3 (r1.go (g2.trans g3)) e4 fun H' g s => k σ H' η3 (((g1.trans g2).trans g3).trans g) (ρ3.go g) s
theorem c_app {apos cpos : Pos} (ho : PE X o (tEv X.K C io)) (he : PE X e (tEv X.K C ie)) (hst : starEach [e] X.env = [(false, eval e X.env)]) (hb : attributeBase o "append" X.env (eval o X.env) = eval o X.env) (hl : (apos.endLine == cpos.line) = true) :
    PS X (.Expr (.Call (.Attribute o "append" apos) [e] [] cpos) pos) (tS X.K C (.app io ie)) := by
  have hA : PA X [e] (tEvs X.K C [ie]) := a_cons he a_nil (by rw [hst]; rfl)
  refine PS.weak (ps_expr (pe_bm PySem.F.plainAttrs_list PySem.F.slot_list_append PySem.F.type_list_append mt_append ho hA hb (by rw [hst]; rfl) hl (by rw [hst]; rfl) (by rfl)) rfl) fun D σ H q => ?_
  obtain ⟨η, S, ρ, ot, S', hρ, hS, hev, k⟩ := q
  unfold evS at hev
  obtain ⟨⟨d1, S1⟩, e1, hev⟩ := Option.bind_eq_some_iff.mp hev
  simp only at hev
  split at hev
  case isFalse => cases hev
  rename_i hlst
  obtain ⟨⟨d2, S2⟩, e2, hev⟩ := Option.bind_eq_some_iff.mp hev
  obtain ⟨S4, e4, hev⟩ := Option.map_eq_some_iff.mp hev
  cases hev
  refine tEv_mk hρ hS e1 fun v1 H1 η1 g1 r1 s1 ρ1 => ⟨?_, ?_⟩
  · unfold isLst at hlst
    split at hlst
    · cases r1
      split at hlst
      · rename_i xs e0
        obtain ⟨vs, h1, _⟩ := lst_at s1 e0
        exact .inl ⟨rfl, _, .of h1⟩
      · cases hlst
    · cases hlst
  · refine ⟨η1, S1, ρ, [d2], S2, ρ1, s1, by unfold evEs; simp only [e2, Option.bind_some]; unfold evEs; rfl, fun vs H2 η2 g2 r2 s2 => ?_⟩
    obtain ⟨_, v2, ed, rfl, r2⟩ := reps1 rfl r2
    cases ed
    obtain ⟨a, vs, rfl, h1, h2, g, s⟩ := app_rep s2 (r1.go g2) r2 e4
    exact ⟨a, vs, v2, rfl, rfl, h1, h2, k σ _ η2 ((g1.trans g2).trans g) ((ρ1.go g2).go g) s⟩
end
end Pf

/-! Statements: branches, loops, blocks. -/
namespace Pf
open PySem PySem.Spec PyProof.Rows L2
section
variable {X : Cx} {C : Cfg} {pos : Pos} {e o i c : Expr} {ie io ii ic : Ex}
theorem c_popS {apos cpos : Pos} (ho : PE X o (tEv X.K C io)) (hb : attributeBase o "pop" X.env (eval o X.env) = eval o X.env) (hl : (apos.endLine == cpos.line) = true) :
    PS X (.Expr (.Call (.Attribute o "pop" apos) [] [] cpos) pos) (tS X.K C (.popS io)) := by
  refine PS.weak (ps_expr (s_pop (pos := cpos) ho hb hl) rfl) fun D σ H q => ?_
  obtain ⟨η, S, ρ, ot, S', hρ, hS, hev, k⟩ := q
  unfold evS at hev
  obtain ⟨⟨d1, S1⟩, e1, hev⟩ := Option.bind_eq_some_iff.mp hev
  obtain ⟨⟨y, S2⟩, e2, hev⟩ := Option.map_eq_some_iff.mp hev
  cases hev
  exact tEv_mk hρ hS (by unfold evE; rw [e1]; exact e2) fun v H' η' g r s ρ1 => k σ H' η' g ρ1 s
theorem k_nil : PSs X [] (tSs X.K C []) := by
  refine PSs.weak pss_nil fun D σ H q => ?_
  obtain ⟨η, S, ρ, ot, S', hρ, hS, hev, k⟩ := q
  unfold evB at hev
  cases hev
  exact k σ H η Go.refl hρ hS
theorem k_cons {st : Stmt} {r : List Stmt} {s : Sx} {rs : List Sx} (h1 : PS X st (tS X.K C s)) (h2 : PSs X r (tSs X.K C rs)) : PSs X (st :: r) (tSs X.K C (s :: rs)) := by
  refine PSs.weak (pss_cons h1 h2) fun D σ H q => ?_
  obtain ⟨η, S, ρ, ot, S', hρ, hS, hev, k⟩ := q
  unfold evB at hev
  obtain ⟨⟨o1, S1⟩, e1, hev⟩ := Option.bind_eq_some_iff.mp hev
  refine ⟨η, S, ρ, o1, S1, hρ, hS, e1, ?_⟩
  cases o1 with
  | nx ρ1 => exact fun σ' H' η' g r s => ⟨η', S1, ρ1, ot, S', r, s, hev, AftO.go g k⟩
  | brk ρ1 => cases hev; exact k
  | cont ρ1 => cases hev; exact k
  | ret d => cases hev; exact k
theorem c_ite {a b : List Stmt} {ia ib : List Sx} (hc : PT X c (tEvT X.K C ic)) (ha : PSs X a (tSs X.K C ia)) (hb : PSs X b (tSs X.K C ib)) : PS X (.If c a b pos) (tS X.K C (.ite ic ia ib)) := by
  refine PS.weak (ps_if hc ha hb) fun D σ H q => ?_
  obtain ⟨η, S, ρ, ot, S', hρ, hS, hev, k⟩ := q
  unfold evS at hev
  obtain ⟨⟨b1, S1⟩, e1, hev⟩ := Option.bind_eq_some_iff.mp hev
  refine tEvT_mk hρ hS e1 fun H' η' g s ρ1 => ?_
  cases b1 with
  | true =>
    simp only [if_true] at hev ⊢
    exact ⟨η', S1, ρ, ot, S', ρ1, s, hev, AftO.go g k⟩
  | false =>
    simp only [Bool.false_eq_true, if_false] at hev ⊢
    exact ⟨η', S1, ρ, ot, S', ρ1, s, hev, AftO.go g k⟩
theorem c_aug {n : Nat} {x : Str} {pos' : Pos} {op : BOp} {oop : Operator} (hN : X.N.Nodup) (hi : X.N[n]? = some x) (hx : Loc X.env.scope x) (he : PE X e (tEv X.K C ie)) (hf : X.fn x = true ∨ X.env.scope.names.lookup x = some .local)
    (hop : (op = .add ∧ oop = .Add) ∨ (op = .sub ∧ oop = .Sub)) : PS X (.AugAssign (.Name x pos') oop e pos) (tS X.K C (.aug n op ie)) := by
  have key : ∀ {f : Int → Int → Int} (hp : PIp X oop (ipI f)) (hb : ∀ x y S, binD op (.int x) (.int y) S = some (.int (f x y), S)), PS X (.AugAssign (.Name x pos') oop e pos) (tS X.K C (.aug n op ie)) := fun {f} hp hb => by
    refine PS.weak (ps_aug hN hi hx he hp hf) fun D σ H q => ?_
    obtain ⟨η, S, ρ, ot, S', hρ, hS, hev, k⟩ := q
    unfold evS at hev
    split at hev
    · rename_i d e0
      obtain ⟨⟨d1, S1⟩, e1, hev⟩ := Option.bind_eq_some_iff.mp hev
      simp only at hev
      split at hev
      · rw [hb] at hev
        cases hev
        obtain ⟨v, h1, h2⟩ := hρ.2 n _ e0
        have e3 := h2.int'
        subst e3
        refine ⟨_, h1, tEv_mk hρ hS e1 fun v1 H' η' g r s ρ1 => ?_⟩
        have e4 := r.int'
        subst e4
        exact ⟨_, _, rfl, rfl, k _ H' η' g (ρ1.set (.int _) n) s⟩
      · cases hev
    · cases hev
  rcases hop with ⟨rfl, rfl⟩ | ⟨rfl, rfl⟩
  · exact key ip_add fun _ _ _ => rfl
  · exact key ip_sub fun _ _ _ => rfl
theorem c_while {body : List Stmt} {ib : List Sx} (hx : X.xe = fun _ _ => False) (hc : PT X c (tEvT X.K C ic)) (hb : PSs X body (tSs X.K C ib)) : PS X (.While c body [] pos) (tS X.K C (.whil ic ib)) := by
  refine PS.weak (ps_while (by rw [hx]; exact PassesOwn.never) hc hb) fun D σ H q => ?_
  obtain ⟨η, S, ρ, ot, S', hρ, hS, hev, k⟩ := q
  unfold evS at hev
  obtain ⟨n, hn⟩ := whileD_some hev
  refine ⟨fun m σ H' => ∃ η' S1 ρ1, RepE X.K η' S1.length H' ρ1 σ ∧ RepS X.K η' H' S1 ∧ whileN (fun ρ1 S1 => evT C ic ρ1 S1) (fun ρ1 S1 => evB C ib ρ1 S1) m ρ1 S1 = some (ot, S') ∧ AftO X.K η' S1 H' ot S' D, ⟨n, η, S, ρ, hρ, hS, hn, k⟩, ?_⟩
  rintro m σ H1 ⟨η1, S1, ρ1, r1, s1, h1, k1⟩
  cases m with
  | zero => unfold whileN at h1; cases h1
  | succ m =>
    unfold whileN at h1
    obtain ⟨⟨b1, S2⟩, e1, h2⟩ := Option.bind_eq_some_iff.mp h1
    refine tEvT_mk r1 s1 e1 fun H2 η2 g2 s2 ρ2 => ?_
    cases b1 with
    | true =>
      simp only [if_true] at h2 ⊢
      obtain ⟨⟨o3, S3⟩, e3, h4⟩ := Option.bind_eq_some_iff.mp h2
      refine ⟨fun σ' H' => ∃ η' S1 ρ1, RepE X.K η' S1.length H' ρ1 σ' ∧ RepS X.K η' H' S1 ∧ whileN (fun ρ1 S1 => evT C ic ρ1 S1) (fun ρ1 S1 => evB C ib ρ1 S1) m ρ1 S1 = some (ot, S') ∧ AftO X.K η' S1 H' ot S' D, fun σ' H' q => ⟨m, Nat.lt_succ_self _, q⟩, ?_⟩
      refine ⟨η2, S2, ρ1, o3, S3, ρ2, s2, e3, ?_⟩
      cases o3 with
      | nx ρ3 => exact fun σ' H' η' g r s => ⟨η', S3, ρ3, r, s, h4, AftO.go (g2.trans g) k1⟩
      | cont ρ3 => exact fun σ' H' η' g r s => ⟨η', S3, ρ3, r, s, h4, AftO.go (g2.trans g) k1⟩
      | brk ρ3 =>
        cases h4
        exact fun σ' H' η' g r s => k1 σ' H' η' (g2.trans g) r s
      | ret d =>
        cases h4
        exact fun σ' H' η' g r s => k1 σ' H' η' (g2.trans g) r s
    | false =>
      simp only [Bool.false_eq_true, if_false] at h2 ⊢
      cases h2
      exact k1 σ H2 η2 g2 ρ2 s2
theorem c_for {tg iter : Expr} {body : List Stmt} {kd : Kind} {its : List Ex} {t : T} {ib : List Sx} (hx : X.xe = fun _ _ => False) (hc : X.calm = true) (hi : PI X tg iter (iEv X.K C kd its)) (hg : PG X tg (tB1 X.K t)) (hb : PSs X body (tSs X.K C ib)) (hs : ∀ x, foldedSetIterable iter X.env x = pure x) :
    PS X (.For tg iter body [] pos) (tS X.K C (.forr kd its t ib)) := by
  refine PS.weak (ps_for (by rw [hx]; exact PassesOwn.never) hc hi hg hb hs) fun D σ H q => ?_
  obtain ⟨η, S, ρ, ot, S', hρ, hS, hev, k⟩ := q
  unfold evS at hev
  obtain ⟨⟨ds, S1⟩, e1, hev⟩ := Option.bind_eq_some_iff.mp hev
  obtain ⟨⟨xs, L⟩, e2, hev⟩ := Option.bind_eq_some_iff.mp hev
  refine ⟨η, S, ρ, ds, S1, xs, L, hρ, hS, e1, e2, fun J H1 η1 g1 s1 ρ1 w => ?_⟩
  refine ⟨fun i m σ H' => m = xs.length - i ∧ i ≤ xs.length ∧ ∃ η' S2 ρ2, Go X.K η1 S1.length H1 η' S2.length H' ∧ RepE X.K η' S2.length H' ρ2 σ ∧ RepS X.K η' H' S2 ∧ (∀ l ∈ L, S2[l]? = S1[l]?) ∧
    forGo L S1 (fun x ρ1 S1 => (bind1 t x ρ1).bind fun ρ2 => evB C ib ρ2 S1) (xs.drop i) ρ2 S2 = some (ot, S'), ⟨xs.length, by simp, Nat.zero_le _, η1, S1, ρ, Go.refl, ρ1, s1, fun _ _ => rfl, by simpa using hev⟩, ?_⟩
  rintro i m σ H2 ⟨rfl, hi2, η2, S2, ρ2, g2, r2, s2, hL, hgo⟩
  by_cases hin : i < xs.length
  · refine .inr ⟨w.goes i H2 η2 S2 g2 s2 hL hin, fun σ' H' => ∃ η' S3 ρ3, Go X.K η1 S1.length H1 η' S3.length H' ∧ RepE X.K η' S3.length H' ρ3 σ' ∧ RepS X.K η' H' S3 ∧ (∀ l ∈ L, S3[l]? = S1[l]?) ∧
      forGo L S1 (fun x ρ1 S1 => (bind1 t x ρ1).bind fun ρ2 => evB C ib ρ2 S1) (xs.drop (i + 1)) ρ3 S3 = some (ot, S'), fun σ' H' q => ⟨xs.length - (i + 1), by omega, rfl, hin, q⟩, fun x H3 y => ?_⟩
    obtain ⟨dx, hx2, gx, rx, sx⟩ := w.yields i H2 η2 S2 x H3 g2 s2 hL hin y
    rw [List.drop_eq_getElem_cons hin] at hgo
    have : xs[i] = dx := by
      rw [List.getElem?_eq_getElem hin] at hx2
      exact Option.some.inj hx2
    rw [this] at hgo
    unfold forGo at hgo
    obtain ⟨⟨o3, S3⟩, h3, h4⟩ := Option.bind_eq_some_iff.mp hgo
    obtain ⟨ρb, h5, h6⟩ := Option.bind_eq_some_iff.mp h3
    refine asg_use (r2.go gx) rx h5 fun σ2 q2 => ⟨η2, S2, ρb, o3, S3, q2, sx, h6, ?_⟩
    cases o3 with
    | nx ρ3 =>
      simp only at h4
      split at h4
      · rename_i hl
        exact fun σ' H' η' g r s => ⟨η', S3, ρ3, (g2.trans gx).trans g, r, s, hl, h4⟩
      · cases h4
    | cont ρ3 =>
      simp only at h4
      split at h4
      · rename_i hl
        exact fun σ' H' η' g r s => ⟨η', S3, ρ3, (g2.trans gx).trans g, r, s, hl, h4⟩
      · cases h4
    | brk ρ3 =>
      cases h4
      exact fun σ' H' η' g r s => k σ' H' η' (((g1.trans g2).trans gx).trans g) r s
    | ret d =>
      cases h4
      exact fun σ' H' η' g r s => k σ' H' η' (((g1.trans g2).trans gx).trans g) r s
  · have hie : i = xs.length := by omega
    subst hie
    rw [List.drop_length] at hgo
    unfold forGo at hgo
    cases hgo
    exact .inl ⟨w.stops H2 η2 _ g2 s2 hL, k σ H2 η2 (g1.trans g2) r2 s2⟩
end
end Pf

/-! Functions: what a def of the text does is what its body computes. -/
namespace Pf
open PySem PySem.Spec PyProof.Rows L2

/-- a def's promise where no repr is under way -/
structure FnG (P : Program) (w : World) (K : PySem.W.Frag) (mg : Str → Option Value) (base : Heap) (k : Nat) (f : Addr) (fd : FuncData) (ps : List Str) (sp : List V → Hp → VK → Prop) : Prop where
  len : ∀ vs H Q, sp vs H Q → vs.length = ps.length
  run : ∀ (A : Around) (outer : List Env) (s : Shared) (H : Hp) (args : Args) (us : List Value) (vs : List V) (Q : VK), Room k A → A.guards = some [] → Env0 P w K mg base A outer s H → BindsTo s fd args (ps.zip us) → Vals vs us → sp vs H Q →
    codeAny (model P w) A (.call (.ref f) args) (CR CX0 outer P w H s Q E0) s
/-- it computes cal -/
def spF (K : PySem.W.Frag) (cal : List D → Sto → Option (D × Sto)) (n : Nat) : List V → Hp → VK → Prop := fun vs H Q => vs.length = n ∧ ∃ η S ds d S', Reps K η S.length H ds vs ∧ RepS K η H S ∧ cal ds S = some (d, S') ∧ Aft K η S H d S' Q
section
variable {X : Cx} {C : Cfg} {k : Nat} {fa : Addr} {fd : FuncData} {ps : List Str} {f : Str} {p pos : Pos}
theorem run_g {sp : List V → Hp → VK → Prop} {pins : List (Addr × Obj)} {σ : L2.St} {H : Hp} {s : Shared} {Q : VK} {us : List Value} {vs : List V} (F : FnG X.prog X.w X.K X.mg X.base k fa fd ps sp) (hr : Room k X.A) (hg : X.A.guards = some []) (hb : Binds X.K fd ps [])
    (I : L2.Inv X pins σ H s) (r : Vals vs us) (h : sp vs H Q) : wpAny (model X.prog X.w) X.A (PySem.call (.ref fa) us) (EP X pins σ Q) X.xe s := by
  have hl : (us ++ []).length = ps.length := by rw [List.append_nil, ← r.length]; exact F.len _ _ _ h
  have hbs : BindsTo s fd ⟨us, []⟩ (ps.zip us) := by
    have q := hb s us I.kIn hl
    rwa [List.append_nil] at q
  refine wpAny_call (codeAny_mono (F.run X.A X.stack s H ⟨us, []⟩ us vs Q hr hg I.env0 hbs r h) fun r s' hq => ?_)
  cases r with
  | error e => exact False.elim hq
  | ok fl =>
    cases fl with
    | ret u => exact I.after hq
    | next => exact False.elim hq
    | brk => exact False.elim hq
    | cont => exact False.elim hq
theorem s_call {e : Expr} {es : List Expr} {ies : List Ex} (F : FnG X.prog X.w X.K X.mg X.base k fa fd ps (spF X.K (C.cal f) ps.length)) (hn : ∀ ds S r, C.cal f ds S = some r → ds.length = ps.length) (hr : Room k X.A) (hgd : X.A.guards = some []) (hg : Gl X f) (hm : X.mg f = some (.ref fa)) (hk : PySem.W.keepIn X.K (.ref fa) = true) (hb : Binds X.K fd ps [])
    (ha : PA X (e :: es) (tEvs X.K C ies)) (hdb : (f == ("__debug__" : Str)) = false) (he : starEach (e :: es) X.env = (false, eval e X.env) :: starEach es X.env) (hpl : (backTo pos (starEach es X.env)).any (·.1) = false) :
    PE X (.Call (.Name f p) (e :: es) [] pos) (tEv X.K C (.call f ies)) := by
  refine ⟨fun pins s σ H Q I h => ?_⟩
  obtain ⟨η, S, ρ, d, S', hρ, hS, hev, kk⟩ := h
  unfold evE at hev
  obtain ⟨⟨ds, S1⟩, e1, hev⟩ := Option.bind_eq_some_iff.mp hev
  refine wpAny_Call_Name_kw (ld_glob I hg hm ?_ hdb)
  refine PySem.W.callWith_K (h₀ := X.base) I.ok.mod.kin hk (thn (ha.run pos pins s σ H (fun vs H1 => spF X.K (C.cal f) ps.length vs H1 Q) I ?_) fun us s1 ⟨vs, H1, I1, r, q⟩ => ⟨I1.kIn, run_g F hr hgd hb I1 r q⟩) he hpl
  refine tEvs_mk hρ hS e1 fun vs H1 η1 g1 r1 s1 ρ1 => ⟨by rw [← r1.length]; exact hn _ _ _ hev, η1, S1, ds, d, S', r1, s1, hev, fun v H' η' g r s => kk v H' η' (g1.trans g) r s⟩
theorem s_call0 (F : FnG X.prog X.w X.K X.mg X.base k fa fd ps (spF X.K (C.cal f) ps.length)) (hn : ∀ ds S r, C.cal f ds S = some r → ds.length = ps.length) (hr : Room k X.A) (hgd : X.A.guards = some []) (hg : Gl X f) (hm : X.mg f = some (.ref fa)) (hk : PySem.W.keepIn X.K (.ref fa) = true) (hb : Binds X.K fd ps [])
    (hdb : (f == ("__debug__" : Str)) = false) : PE X (.Call (.Name f p) [] [] pos) (tEv X.K C (.call f [])) := by
  refine ⟨fun pins s σ H Q I h => ?_⟩
  obtain ⟨η, S, ρ, d, S', hρ, hS, hev, kk⟩ := h
  unfold evE evEs at hev
  rw [Option.bind_some] at hev
  refine wpAny_Call_Name_kw (ld_glob I hg hm ?_ hdb)
  exact PySem.W.callWith_K0 I.kIn hk (run_g (us := []) (vs := []) F hr hgd hb I .nil ⟨hn _ _ _ hev, η, S, [], d, S', .nil, hS, hev, kk⟩)
end
/-- the slots at a def's entry -/
theorem start_rep {K : PySem.W.Frag} {η : Nat → Addr} {m : Nat} {H : Hp} {N : List Str} {ds : List D} {vs : List V} {nl np : Nat} (r : Reps K η m H ds vs) (hl : N.length = nl) (hp : ds.length = np) (hle : np ≤ nl) : RepE K η m H (ds.map some ++ List.replicate (nl - np) none) (L2.start N vs) := by
  have hv : vs.length = np := by rw [← r.length]; exact hp
  unfold L2.start
  refine ⟨by simp [hl, hp, hv], fun i d h => ?_⟩
  by_cases hi : i < ds.length
  · rw [List.getElem?_append_left (by simpa using hi), List.getElem?_map] at h
    cases e : ds[i]? with
    | none => rw [e] at h; cases h
    | some d' =>
      rw [e] at h
      cases h
      obtain ⟨v, h1, h2⟩ := r.get e
      refine ⟨v, ?_, h2⟩
      rw [List.getElem?_append_left (by simp; omega), List.getElem?_map, h1]
      rfl
  · rw [List.getElem?_append_right (by simpa using hi), List.getElem?_replicate] at h
    split at h <;> cases h
/-- behind the body -/
theorem ret_rep {K : PySem.W.Frag} {η : Nat → Addr} {S : Sto} {H : Hp} {o : Out} {S1 : Sto} {d : D} {S' : Sto} {Q : VK} (hS : RepS K η H S) (h : retD S (o, S1) = some (d, S')) (k : Aft K η S H d S' Q) : AftO K η S H o S1 { nx := fun _ H' => Q .non H', rt := Q } := by
  cases o with
  | nx ρ =>
    intro σ' H' η' g r s
    simp only [retD] at h
    split at h
    · rename_i hc
      cases h
      exact k .non H' η ⟨g.keep, Nat.le_refl _, fun _ _ => rfl⟩ .non (hS.back g s hc)
    · cases h
      exact k .non H' η' g .non s
  | ret d1 =>
    intro v H' η' g r s
    simp only [retD] at h
    split at h
    · rename_i hc
      cases h
      exact k v H' η ⟨g.keep, Nat.le_refl _, fun _ _ => rfl⟩ (Rep.pure hc.1 r) (hS.back g s hc.2)
    · cases h
      exact k v H' η' g r s
  | brk ρ => simp only [retD] at h; cases h
  | cont ρ => simp only [retD] at h; cases h
section
variable {P : Program} {w : World} {K : PySem.W.Frag} {mg : Str → Option Value} {base : Heap}
/-- a def, by its body -/
theorem fn_g {x : Str} {st : Stmt} {f : Addr} {fd : FuncData} {N ps : List Str} {k np nl : Nat} {C : Cfg} {body : List Sx} (F : Fun K x x st f fd) (S : FnScope N ps (defScope st)) (hnl : N.length = nl) (hnp : ps.length = np)
    (hbody : ∀ (cdv : Value) (A : Around) (outer : List Env) (s : Shared) (H : Hp), Room k (A.deeper (envOfC x (defScope st) s.heap.objs.size f cdv)) → A.guards = some [] →
      PSs (cxOf CX0 P w K mg base N x (defScope st) f cdv A outer s H E0).nox (defBody st) (tSs K C body)) :
    FnG P w K mg base (k + 1) f fd ps (spF K (fun ds S => if ds.length = np then (evB C body (ds.map some ++ List.replicate (nl - np) none) S).bind (retD S) else none) ps.length) := by
  obtain ⟨oc, od, kV, doc, pm, an, cdv, ct, osl, rfl, lk, hcd⟩ := F.ex
  refine ⟨fun vs H Q q => q.1, fun A outer s H args us vs Q hr hgd e0 hb r hsp => ?_⟩
  have hl : vs.length = ps.length := hsp.1
  have KX : K.In s.heap := e0.mod.kin.keeps fun b o e => (e0.bs b o e).1
  have lim : s.heap.NoLimit := e0.mod.nolimit.keeps fun b o e => (e0.bs b o e).1
  have hle : np ≤ nl := by
    have q := congrArg List.length S.pre
    rw [List.length_take] at q
    omega
  have hkind : ∀ y ∈ ps.zip us, (defScope st).names.lookup y.1 = some .local ∨ ((defScope st).names.lookup y.1 = some .cell ∧ ((cellsFrom (s.heap.objs.size + 1) (defScope st).names []).lookup y.1).isSome = true) := fun ⟨n, v⟩ hy => by
    rcases S.par n (List.of_mem_zip hy).1 with q | q
    · exact .inl q
    · exact .inr ⟨q, PySem.W.cellsFrom_some _ _ _ (.inl q)⟩
  refine codeAny_call_function hr.depth (KX _ _ lk) rfl S.co S.gen rfl (PySem.W.codeRec_of KX hcd) (hb _ _ _ _ ?_)
  refine wpAny_newFunctionEnv_cells S.kind hkind fun env he s1 x1 => ?_
  subst he
  refine ⟨lim.keeps x1.toInCall.keep, codeAny_func ?_⟩
  have ht := hbody cdv A outer s H (hr.deeper _) hgd
  have I0 : L2.Inv (cxOf CX0 P w K mg base N x (defScope st) f cdv A outer s H E0) [] (L2.start N vs) H s1 := inv_start S hr.hd e0 hl r x1
  obtain ⟨_, η, S0, ds, d, S', rds, hS0, hcal, kk⟩ := hsp
  simp only at hcal
  split at hcal
  · rename_i hdl
    obtain ⟨⟨o, S1⟩, e1, e2⟩ := Option.bind_eq_some_iff.mp hcal
    have hq : tSs K C body { nx := fun _ H' => Q .non H', rt := Q } (L2.start N vs) H := ⟨η, S0, _, o, S1, start_rep rds hnl hdl hle, hS0, e1, ret_rep hS0 e2 kk⟩
    refine wpAny_mono (ht.run [] s1 (L2.start N vs) H _ (I0.wish _) hq) (fun fl s' hs => ?_) fun e s' hs => False.elim hs
    have fin : ∀ {σ' : L2.St} {H' : Hp} {v : V} {u : Value}, L2.Inv (cxOf CX0 P w K mg base N x (defScope st) f cdv A outer s H E0).nox [] σ' H' s' → RelV v u → Q v H' → CE outer P w H s Q u s' :=
      fun {σ' H' v u} J rv q => ⟨v, H', J.os, J.bare, J.base, J.hok, rv, q⟩
    cases fl with
    | ret u =>
      obtain ⟨v, σ', H', J, rv, q⟩ := hs
      exact fin J rv q
    | next =>
      obtain ⟨σ', H', J, q⟩ := hs
      exact fin (v := V.non) (u := Value.none) J rfl q
    | brk =>
      obtain ⟨_, _, _, q⟩ := hs
      exact False.elim q
    | cont =>
      obtain ⟨_, _, _, q⟩ := hs
      exact False.elim q
  · cases hcal
end
end Pf

/-! From the text to the small language. -/
namespace Pf
open PySem PySem.Spec PyProof.Rows L2

/-- what the module's names are -/
structure GI where
  fn : List Str
  cst : List Str
  blt : List Str
  deriving Inhabited
/-- a def's or a block's names -/
structure Sc where
  N : List Str
  names : List (Str × NameKind)
  fnc : Str → Bool
def visB (sc : Sc) (x : Str) : Bool := match sc.names.lookup x with
  | some .local => true
  | some .cell => true
  | some .free => true
  | _ => false
def slotOf (sc : Sc) (x : Str) : Option Nat := let i := sc.N.idxOf x
  if sc.N[i]? = some x then some i else none
def glB (sc : Sc) (x : Str) : Bool := match sc.names.lookup x with
  | some .globalImplicit => true
  | _ => false
def isStar : Expr → Bool
  | .Starred .. => true
  | _ => false
def isSlice : Expr → Bool
  | .Slice .. => true
  | _ => false
def isSet : Expr → Bool
  | .Set .. => true
  | _ => false
def isComp : Expr → Bool
  | .ListComp .. => true
  | .SetComp .. => true
  | .DictComp .. => true
  | _ => false
def isCall : Expr → Bool
  | .Call .. => true
  | _ => false
def bopC : Operator → Option BOp
  | .Add => some .add
  | .Sub => some .sub
  | .Mult => some .mul
  | .FloorDiv => some .fdiv
  | .Mod => some .mod
  | .Pow => some .pow
  | _ => none
theorem bopC_A {o : Operator} {op : BOp} (h : bopC o = some op) : o = bopA op := by
  cases o <;> simp [bopC] at h <;> subst h <;> rfl
def copC : CmpOp → COp
  | .Eq => .eq
  | .NotEq => .ne
  | .Lt => .lt
  | .LtE => .le
  | .Gt => .gt
  | .GtE => .ge
  | .Is => .isN
  | .IsNot => .notN
  | .In => .mem
  | .NotIn => .nmem
theorem copC_A (o : CmpOp) : o = copA (copC o) := by cases o <;> rfl
def cLit : Const → Option Lit
  | .none => some .non
  | .bool b => some (.bl b)
  | .int i => some (.int i)
  | .str s => some (.str s)
  | _ => none
/-- the built-ins that are calls of functions, of types -/
def bltKnown (f : Str) (n : Nat) : Bool := (f = "gcd" && n = 2) || (f = "abs" && n = 1) || (f = "int" && n = 1) || (f = "max" && n = 2) || (f = "min" && n = 2) || (f = "len" && n = 1) || (f = "tuple" && n = 1) || (f = "list" && n = 1) || (f = "all" && n = 1) || (f = "repr" && n = 1)
mutual
def cTg (sc : Sc) : Nat → Expr → Option T
  | 0, _ => none
  | n + 1, e => match e with
    | .Name x _ => (slotOf sc x).bind fun i => if sc.names.lookup x = some .local ∨ (sc.names.lookup x = some .cell ∧ sc.fnc x = true) then some (.nm i) else none
    | .Tuple es _ _ => if es.any isStar = true then none else (cTgs sc n es).map .tup
    | _ => none
def cTgs (sc : Sc) : Nat → List Expr → Option (List T)
  | 0, _ => none
  | _ + 1, [] => some []
  | n + 1, e :: es => (cTg sc n e).bind fun t => (cTgs sc n es).map fun ts => t :: ts
end
def isTup : Expr → Bool
  | .Tuple .. => true
  | _ => false
def ownOf (sc : Sc) (scope : Scope) : List (Str × Nat) := scope.names.filterMap fun q => if q.2 = .local ∨ q.2 = .cell then (slotOf sc q.1).map fun i => (q.1, i) else none
def blkSc (sc : Sc) (scope : Scope) : Sc := ⟨sc.N, scope.names.map fun q => if (q.2 == .free && sc.names.lookup q.1 == some .cell) then (q.1, .cell) else q, fun x => scope.names.lookup x == some .cell⟩
mutual
def cE (gi : GI) : Nat → Sc → Expr → Option Ex
  | 0, _, _ => none
  | n + 1, sc, e => match e with
    | .Name x _ => if x = "__debug__" ∨ x = "__classdict__" then none else
      if visB sc x = true then (slotOf sc x).map .var else if glB sc x = true ∧ x ∈ gi.cst then some (.glob x) else none
    | .Constant c _ _ => (cLit c).map .lit
    | .BinOp a op b _ => (bopC op).bind fun o => (cE gi n sc a).bind fun ia => (cE gi n sc b).map fun ib => .bin o ia ib
    | .UnaryOp .USub a _ => (cE gi n sc a).map .neg
    | .UnaryOp .Not a _ => (cE gi n sc a).map .not
    | .BoolOp .And (e :: es) _ => (cEs gi n sc (e :: es)).map .and
    | .BoolOp .Or (e :: es) _ => (cEs gi n sc (e :: es)).map .or
    | .Compare a [op] [b] _ => if behindInMarks op b = true then none else (cE gi n sc a).bind fun ia => (cE gi n sc b).map fun ib => .cmp (copC op) ia ib
    | .IfExp c a b _ => (cE gi n sc c).bind fun ic => (cE gi n sc a).bind fun ia => (cE gi n sc b).map fun ib => .ite ic ia ib
    | .Tuple es _ _ => if es.any isStar = true then none else (cEs gi n sc es).map .tup
    | .List es _ => if es.any isStar = true then none else (cEs gi n sc es).map .lst
    | .Call (.Name f _) args [] _ => if f = "__debug__" ∨ visB sc f = true ∨ glB sc f = false ∨ args.any isStar = true then none else
      (cEs gi n sc args).bind fun is => if f ∈ gi.fn then some (.call f is) else if f ∈ gi.blt ∧ bltKnown f args.length = true then some (.blt f is) else none
    | .Call (.Attribute o m apos) [] [] pos => if m = "pop" ∧ isCall o = false ∧ (apos.endLine == pos.line) = true then (cE gi n sc o).map .pop else none
    | .Subscript a (.Slice none none (some (.UnaryOp .USub (.Constant (.int 1) _ _) _)) _) _ => (cE gi n sc a).map .rev
    | .Subscript a (.Slice lo hi none _) _ => (cE gi n sc a).bind fun ia => (cO gi n sc lo).bind fun il => (cO gi n sc hi).map fun ih => .slice ia il ih
    | .Subscript a i _ => if isSlice i = true then none else (cE gi n sc a).bind fun ia => (cE gi n sc i).map fun ii => .idx ia ii
    | .ListComp elt [⟨tg, iter, ifs, 0⟩] scope _ => if isSet iter = true ∨ 1 < ifs.length ∨ blkC sc.N ⟨.function, sc.names, false, false, []⟩ scope (ownOf sc scope) = false then none else
      (cI gi n sc (isTup tg) iter).bind fun q => (cTg (blkSc sc scope) n tg).bind fun t => if t.slots.all (fun i => (ownOf sc scope).map (·.2) |>.contains i) = false then none else
        (cEs gi n (blkSc sc scope) ifs).bind fun iifs => (cE gi n (blkSc sc scope) elt).map fun ie => .comp q.1 q.2 t iifs ie ((ownOf sc scope).map (·.2))
    | .Dict keys vals _ => if keys.length ≤ 15 then (cD gi n sc keys vals).bind fun q => if q.1 = [] then none else some (.dict q.1 q.2) else none
    | _ => none
def cEs (gi : GI) : Nat → Sc → List Expr → Option (List Ex)
  | 0, _, _ => none
  | _ + 1, _, [] => some []
  | n + 1, sc, e :: es => (cE gi n sc e).bind fun i => (cEs gi n sc es).map fun is => i :: is
def cO (gi : GI) : Nat → Sc → Option Expr → Option (Option Ex)
  | 0, _, _ => none
  | _ + 1, _, none => some none
  | n + 1, sc, some e => (cE gi n sc e).map some
def cD (gi : GI) : Nat → Sc → List (Option Expr) → List Expr → Option (List Str × List Ex)
  | 0, _, _, _ => none
  | _ + 1, _, [], [] => some ([], [])
  | n + 1, sc, some (.Constant (.str k) _ _) :: ks, v :: vs => (cE gi n sc v).bind fun i => (cD gi n sc ks vs).map fun q => (k :: q.1, i :: q.2)
  | _ + 1, _, _, _ => none
def cI (gi : GI) : Nat → Sc → Bool → Expr → Option (Kind × List Ex)
  | 0, _, _, _ => none
  | n + 1, sc, tt, e => match e with
    | .Call (.Name f _) args [] _ =>
      if f = "range" ∧ f ∈ gi.blt ∧ visB sc f = false ∧ glB sc f = true ∧ args.any isStar = false ∧ 1 ≤ args.length ∧ args.length ≤ 3 then (cEs gi n sc args).map fun is => (.rng, is)
      else if f = "enumerate" ∧ f ∈ gi.blt ∧ visB sc f = false ∧ glB sc f = true ∧ args.any isStar = false ∧ args.length = 1 ∧ tt = true then (cEs gi n sc args).map fun is => (.enum, is)
      else if f = "zip" ∧ f ∈ gi.blt ∧ visB sc f = false ∧ glB sc f = true ∧ args.any isStar = false ∧ args.length = 2 ∧ tt = true then (cEs gi n sc args).map fun is => (.zip, is)
      else (cE gi n sc e).map fun i => (.seq, [i])
    | e => (cE gi n sc e).map fun i => (.seq, [i])
end
end Pf

/-! What is compiled is what the text does: expressions. -/
namespace Pf
open PySem PySem.Spec PyProof.Rows L2

structure CtxOk (gi : GI) (C : Cfg) (k : Nat) (X : Cx) : Prop where
  calm : X.calm = true
  xe : X.xe = fun _ _ => False
  nd : X.N.Nodup
  guards : X.A.guards = some []
  room : Room k X.A
  fn : ∀ f, f ∈ gi.fn → ∃ (fa : Addr) (fd : FuncData) (ps : List Str), X.mg f = some (.ref fa) ∧ PySem.W.keepIn X.K (.ref fa) = true ∧ Binds X.K fd ps [] ∧ (∀ ds S r, C.cal f ds S = some r → ds.length = ps.length) ∧
    FnG X.prog X.w X.K X.mg X.base k fa fd ps (spF X.K (C.cal f) ps.length)
  cst : ∀ x, x ∈ gi.cst → ∃ (u : Value) (v : V) (d : D), X.mg x = some u ∧ RelV v u ∧ C.cst x = some d ∧ ∀ η m H, Rep X.K η m H d v
  blt : ∀ b, b ∈ gi.blt → if b = "gcd" then X.mg b = some (.builtin "math.gcd") else X.mg b = none
structure ScOk (sc : Sc) (X : Cx) : Prop where
  N : X.N = sc.N
  names : X.env.scope.names = sc.names
  kind : X.env.scope.kind = .function
  fnc : ∀ x, sc.fnc x = true → X.fn x = true
theorem CtxOk.blk {gi : GI} {C : Cfg} {k : Nat} {X : Cx} (h : CtxOk gi C k X) (s : Shared) (H : Hp) (scope : Scope) (ce : Env) (fp : List Addr) : CtxOk gi C k (X.blk s H scope ce fp) :=
  ⟨h.calm, rfl, h.nd, h.guards, h.room, h.fn, h.cst, h.blt⟩
theorem ScOk.blk {sc : Sc} {X : Cx} (h : ScOk sc X) (s : Shared) (H : Hp) (scope : Scope) (hk : scope.kind = .function) (cl : List (Str × Addr)) (A : Addr) (fp : List Addr) : ScOk (blkSc sc scope) (X.blk s H scope (compEnvC scope cl A X.env) fp) := by
  refine ⟨h.N, ?_, hk, fun x q => q⟩
  show (relS scope X.env.scope).names = _
  unfold relS blkSc
  simp only [h.names, h.kind]
  refine List.map_congr_left fun q _ => ?_
  obtain ⟨n, kk⟩ := q
  simp
section
variable {gi : GI} {C : Cfg} {k : Nat} {X : Cx} {sc : Sc}
theorem slot_ok {x : Str} {i : Nat} (h : ScOk sc X) (e : slotOf sc x = some i) : X.N[i]? = some x := by
  unfold slotOf at e
  simp only at e
  split at e
  · rename_i q
    cases e
    rw [h.N]
    exact q
  · cases e
theorem vis_ok {x : Str} (h : ScOk sc X) (e : visB sc x = true) : Vis X.env.scope x := by
  unfold visB at e
  unfold Vis
  rw [h.names]
  split at e
  · exact .inl (by assumption)
  · exact .inr (.inl (by assumption))
  · exact .inr (.inr (by assumption))
  · cases e
theorem gl_ok {x : Str} (h : ScOk sc X) (e : glB sc x = true) : Gl X x := by
  unfold glB at e
  unfold Gl
  show X.env.scope.names.lookup x = _
  rw [h.names]
  split at e
  · assumption
  · cases e
theorem star_cons {e : Expr} {es : List Expr} {env : Env} (h : isStar e = false) : starEach (e :: es) env = (false, eval e env) :: starEach es env := by
  cases e <;> first | rfl | (simp [isStar] at h)
theorem star_plain : ∀ {es : List Expr} {env : Env} {pos : Pos}, es.any isStar = false → (backTo pos (starEach es env)).any (·.1) = false
  | [], _, _, _ => rfl
  | e :: es, env, pos, h => by
    rw [List.any_cons, Bool.or_eq_false_iff] at h
    rw [star_cons h.1]
    show (false || (backTo pos (starEach es env)).any (·.1)) = false
    rw [star_plain h.2]
    rfl
theorem plainIx {i : Expr} (h : isSlice i = false) : PlainIx i := by
  intro o v
  cases i <;> first | rfl | (simp [isSlice] at h)
theorem fold_ok {e : Expr} {env : Env} (h : isSet e = false) (x : Value) : foldedSetIterable e env x = pure x := by
  cases e <;> first | rfl | (simp [isSet] at h)
theorem base_ok {o : Expr} {m : Str} {env : Env} (h : isCall o = false) : attributeBase o m env (eval o env) = eval o env := by
  cases o <;> first | rfl | (simp [isCall] at h)
/-- each of them -/
inductive Each (X : Cx) (C : Cfg) : List Expr → List Ex → Prop
  | nil : Each X C [] []
  | cons {e : Expr} {i : Ex} {es : List Expr} {is : List Ex} : PE X e (tEv X.K C i) → PT X e (tEvT X.K C i) → Each X C es is → Each X C (e :: es) (i :: is)
theorem Each.pa {es : List Expr} {is : List Ex} (h : Each X C es is) (hs : es.any isStar = false) : PA X es (tEvs X.K C is) := by
  induction h with
  | nil => exact a_nil
  | cons h1 _ _ ih =>
    rw [List.any_cons, Bool.or_eq_false_iff] at hs
    exact a_cons h1 (ih hs.2) (star_cons hs.1)
theorem Each.wand {pos : Pos} {e : Expr} {es : List Expr} {i : Ex} {is : List Ex} (h : Each X C (e :: es) (i :: is)) : PW X (.BoolOp .And (e :: es) pos) (tEvAnd X.K C (i :: is)) := by
  generalize he : e :: es = l at h
  generalize hi : i :: is = il at h
  induction h generalizing e es i is with
  | nil => cases he
  | cons h1 h2 h3 ih =>
    cases he
    cases hi
    cases h3 with
    | nil => exact w_and1 h2
    | cons a b c => exact w_and h2 (ih rfl rfl)
theorem Each.wor {pos : Pos} {e : Expr} {es : List Expr} {i : Ex} {is : List Ex} (h : Each X C (e :: es) (i :: is)) : PW X (.BoolOp .Or (e :: es) pos) (tEvOr X.K C (i :: is)) := by
  generalize he : e :: es = l at h
  generalize hi : i :: is = il at h
  induction h generalizing e es i is with
  | nil => cases he
  | cons h1 h2 h3 ih =>
    cases he
    cases hi
    cases h3 with
    | nil => exact w_or1 h2
    | cons a b c => exact w_or h2 (ih rfl rfl)
theorem Each.sand {pos : Pos} {e : Expr} {es : List Expr} {i : Ex} {is : List Ex} (h : Each X C (e :: es) (i :: is)) : PE X (.BoolOp .And (e :: es) pos) (tEv X.K C (.and (i :: is))) := by
  generalize he : e :: es = l at h
  generalize hi : i :: is = il at h
  induction h generalizing e es i is with
  | nil => cases he
  | cons h1 h2 h3 ih =>
    cases he
    cases hi
    cases h3 with
    | nil => exact s_and1 h1
    | cons a b c => exact s_and h1 (ih rfl rfl)
theorem Each.sor {pos : Pos} {e : Expr} {es : List Expr} {i : Ex} {is : List Ex} (h : Each X C (e :: es) (i :: is)) : PE X (.BoolOp .Or (e :: es) pos) (tEv X.K C (.or (i :: is))) := by
  generalize he : e :: es = l at h
  generalize hi : i :: is = il at h
  induction h generalizing e es i is with
  | nil => cases he
  | cons h1 h2 h3 ih =>
    cases he
    cases hi
    cases h3 with
    | nil => exact s_or1 h1
    | cons a b c => exact s_or h1 (ih rfl rfl)
theorem Each.pts {es : List Expr} {is : List Ex} (h : Each X C es is) (hl : es.length ≤ 1) : PTs X es (tEvAnd X.K C is) := by
  cases h with
  | nil => exact f_nil
  | cons h1 h2 h3 => cases h3 with
    | nil => exact f_one h2
    | cons _ _ _ => simp at hl
theorem Each.len {es : List Expr} {is : List Ex} (h : Each X C es is) : es.length = is.length := by
  induction h with
  | nil => rfl
  | cons _ _ _ ih => simp [ih]
/-- a test that the little language does not take -/
theorem t_no {e : Expr} {i : Ex} (h : ∀ ρ S, evT C i ρ S = none) : PT X e (tEvT X.K C i) := ⟨fun _ _ _ _ _ _ q => by
  obtain ⟨η, S, ρ, b, S', _, _, hev, _⟩ := q
  rw [h] at hev
  cases hev⟩
/-! ### targets -/
theorem asgEach_cons {e : Expr} {es : List Expr} {env : Env} (h : isStar e = false) : assignEach (e :: es) env = (false, assign e env) :: assignEach es env := by
  cases e <;> first | rfl | (simp [isStar] at h)
theorem asgEach_ok : ∀ {es : List Expr} {env : Env}, es.any isStar = false → (assignEach es env).length = es.length ∧ (assignEach es env).findIdx? (·.1) = none
  | [], _, _ => ⟨rfl, rfl⟩
  | e :: es, env, h => by
    rw [List.any_cons, Bool.or_eq_false_iff] at h
    obtain ⟨h1, h2⟩ := asgEach_ok (env := env) h.2
    rw [asgEach_cons h.1]
    refine ⟨by simp [h1], ?_⟩
    rw [List.findIdx?_cons, h2]
    rfl
theorem cTg_ok (hc : CtxOk gi C k X) (hs : ScOk sc X) : ∀ n, (∀ e t, cTg sc n e = some t → PG X e (tB1 X.K t)) ∧ (∀ es ts, cTgs sc n es = some ts → es.any isStar = false → PGs X es (tBL X.K ts) ∧ es.length = ts.length)
  | 0 => by
    refine ⟨fun e t h => ?_, fun es ts h _ => ?_⟩
    · unfold cTg at h
      cases h
    · unfold cTgs at h
      cases h
  | n + 1 => by
    obtain ⟨ih1, ih2⟩ := cTg_ok hc hs n
    refine ⟨fun e t h => ?_, fun es ts h hst => ?_⟩
    · unfold cTg at h
      cases e with
      | Name x pos =>
        obtain ⟨i, h1, h2⟩ := Option.bind_eq_some_iff.mp h
        split at h2
        · rename_i hl
          cases h2
          refine g_name hc.nd (slot_ok hs h1) ?_ ?_
          · unfold L2.Loc
            rw [hs.names]
            rcases hl with hl | hl
            · exact .inl hl
            · exact .inr hl.1
          · rw [hs.names]
            rcases hl with hl | hl
            · exact .inr hl
            · exact .inl (hs.fnc x hl.2)
        · cases h2
      | Tuple es j pos =>
        simp only at h
        split at h
        · cases h
        · rename_i hst
          have hst : es.any isStar = false := by simpa using hst
          obtain ⟨ts, h1, h2⟩ := Option.map_eq_some_iff.mp h
          cases h2
          obtain ⟨a1, a2⟩ := ih2 es ts h1 hst
          obtain ⟨b1, b2⟩ := asgEach_ok (env := X.env) hst
          exact g_tup hc.calm a1 (by rw [b1, a2]) b2
      | _ => cases h
    · cases es with
      | nil =>
        unfold cTgs at h
        cases h
        exact ⟨g_nil, rfl⟩
      | cons e es =>
        unfold cTgs at h
        obtain ⟨t, h1, h2⟩ := Option.bind_eq_some_iff.mp h
        obtain ⟨ts', h3, h4⟩ := Option.map_eq_some_iff.mp h2
        cases h4
        rw [List.any_cons, Bool.or_eq_false_iff] at hst
        obtain ⟨a1, a2⟩ := ih2 es ts' h3 hst.2
        exact ⟨g_cons (ih1 e t h1) a1 (by rw [asgEach_cons hst.1]; rfl), by simp [a2]⟩
/-! ### built-ins by name -/
theorem blt_ok {f : Str} {args : List Expr} {is : List Ex} {p pos : Pos} (hc : CtxOk gi C k X) (hg : Gl X f) (hb : f ∈ gi.blt) (hk : bltKnown f args.length = true) (ha : PA X args (tEvs X.K C is)) (hst : args.any isStar = false) : PE X (.Call (.Name f p) args [] pos) (tEv X.K C (.blt f is)) := by
  have hm := hc.blt f hb
  have hu : X.A.units + 64 < cLine := hc.room.units
  cases args with
  | nil => simp [bltKnown] at hk
  | cons e es =>
    rw [List.any_cons, Bool.or_eq_false_iff] at hst
    have he := star_cons (env := X.env) (es := es) hst.1
    have hpl := star_plain (env := X.env) (pos := pos) hst.2
    simp only [bltKnown, Bool.or_eq_true, Bool.and_eq_true, decide_eq_true_eq] at hk
    rcases hk with ((((((((hk | hk) | hk) | hk) | hk) | hk) | hk) | hk) | hk) | hk
    all_goals obtain ⟨rfl, _⟩ := hk
    · rw [if_pos rfl] at hm
      exact s_blt b_gcd (pe_callBfun cr_gcd hg hm ha (by decide) he hpl) fun _ _ _ q => q
    · rw [if_neg (by decide)] at hm
      exact s_blt b_abs (pe_callB call_abs hg hm (by decide +kernel) ha (by decide) (by decide) he hpl) fun _ _ _ q => q
    · rw [if_neg (by decide)] at hm
      exact s_blt b_int (pe_callTy call_int1 hg hm (by decide +kernel) ha (by decide) (by decide) he hpl) fun _ _ _ q => q
    · rw [if_neg (by decide)] at hm
      exact s_blt b_max (pe_callB (call_max2 hc.calm) hg hm (by decide +kernel) ha (by decide) (by decide) he hpl) fun _ _ _ q => q
    · rw [if_neg (by decide)] at hm
      exact s_blt b_min (pe_callB (call_min2 hc.calm) hg hm (by decide +kernel) ha (by decide) (by decide) he hpl) fun _ _ _ q => q
    · rw [if_neg (by decide)] at hm
      exact s_blt b_len (pe_callB call_len_seq hg hm (by decide +kernel) ha (by decide) (by decide) he hpl) fun _ _ _ q => q
    · rw [if_neg (by decide)] at hm
      exact s_blt b_tuple (pe_callTy call_tuple_of hg hm (by decide +kernel) ha (by decide) (by decide) he hpl) fun _ _ _ q => q
    · rw [if_neg (by decide)] at hm
      exact s_blt b_list (pe_callTy call_list_of hg hm (by decide +kernel) ha (by decide) (by decide) he hpl) fun _ _ _ q => q
    · rw [if_neg (by decide)] at hm
      exact s_blt b_all (pe_callB (cr_all hc.calm) hg hm (by decide +kernel) ha (by decide) (by decide) he hpl) fun _ _ _ q => q
    · rw [if_neg (by decide)] at hm
      exact s_blt b_repr (pe_callB (cr_repr hc.guards hu) hg hm (by decide +kernel) ha (by decide) (by decide) he hpl) fun _ _ _ q => q
end
end Pf

/-! What is compiled is what the text does: all expressions at once. -/
namespace Pf
open PySem PySem.Spec PyProof.Rows L2
structure EAll (gi : GI) (C : Cfg) (k n : Nat) : Prop where
  e : ∀ {X : Cx} {sc : Sc}, CtxOk gi C k X → ScOk sc X → ∀ x i, cE gi n sc x = some i → PE X x (tEv X.K C i) ∧ PT X x (tEvT X.K C i)
  es : ∀ {X : Cx} {sc : Sc}, CtxOk gi C k X → ScOk sc X → ∀ x i, cEs gi n sc x = some i → Each X C x i
  o : ∀ {X : Cx} {sc : Sc}, CtxOk gi C k X → ScOk sc X → ∀ x i, cO gi n sc x = some i → PO X x (tEvO X.K C i)
  d : ∀ {X : Cx} {sc : Sc} {pos : Pos}, CtxOk gi C k X → ScOk sc X → ∀ ks vs q, cD gi n sc ks vs = some q → Disp X C pos ks vs q.1 q.2
  i : ∀ {X : Cx} {sc : Sc}, CtxOk gi C k X → ScOk sc X → ∀ tg x q, cI gi n sc (isTup tg) x = some q → PI X tg x (iEv X.K C q.1 q.2)
theorem any_star1 {e : Expr} (h : ([e] : List Expr).any isStar = false) : isStar e = false := by simpa using h
section
variable {gi : GI} {C : Cfg} {k n : Nat}
theorem evT_no (i : Ex) (h : match i with | .not _ => False | .and _ => False | .or _ => False | .cmp _ _ _ => False | .call _ _ => False | .blt _ _ => False | _ => True) (ρ : En) (S : Sto) : evT C i ρ S = none := by
  cases i <;> first | exact h.elim | (unfold evT; rfl)
theorem eall_e (ih : EAll gi C k n) {X : Cx} {sc : Sc} (hc : CtxOk gi C k X) (hs : ScOk sc X) : ∀ x i, cE gi (n + 1) sc x = some i → PE X x (tEv X.K C i) ∧ PT X x (tEvT X.K C i) := by
  have hu : X.A.units + 64 < cLine := hc.room.units
  have hu1 : X.A.units + 1 < cLine := Nat.lt_of_le_of_lt (Nat.add_le_add_left (by decide : 1 ≤ 64) _) hu
  intro x i h
  unfold cE at h
  split at h
  case _ => -- Name
    rename_i x pos
    split at h
    · cases h
    · rename_i hx
      rw [not_or] at hx
      have hd : (x == ("__debug__" : Str)) = false := by simpa using hx.1
      have hcd : (x == ("__classdict__" : Str)) = false := by simpa using hx.2
      split at h
      · rename_i hv
        obtain ⟨j, h1, h2⟩ := Option.map_eq_some_iff.mp h
        cases h2
        exact ⟨s_var (slot_ok hs h1) (vis_ok hs hv) hd hcd, t_no (evT_no _ trivial)⟩
      · split at h
        · rename_i hv hg
          cases h
          obtain ⟨u, v, d, h1, h2, h3, h4⟩ := hc.cst x hg.2
          exact ⟨s_glob (gl_ok hs hg.1) h1 h2 hd h3 h4, t_no (evT_no _ trivial)⟩
        · cases h
  case _ => -- Constant
    rename_i c j pos
    obtain ⟨l, h1, h2⟩ := Option.map_eq_some_iff.mp h
    cases h2
    refine ⟨?_, t_no (evT_no _ trivial)⟩
    cases c <;> first | (cases h1; done) | (cases h1; first | exact s_non | exact s_bl | exact s_int | exact s_str)
  case _ => -- BinOp
    rename_i a op b pos
    obtain ⟨o, h1, h2⟩ := Option.bind_eq_some_iff.mp h
    obtain ⟨ia, h3, h4⟩ := Option.bind_eq_some_iff.mp h2
    obtain ⟨ib, h5, h6⟩ := Option.map_eq_some_iff.mp h4
    cases h6
    rw [bopC_A h1]
    exact ⟨s_bin (ih.e hc hs _ _ h3).1 (ih.e hc hs _ _ h5).1, t_no (evT_no _ trivial)⟩
  case _ => -- USub
    obtain ⟨ia, h1, h2⟩ := Option.map_eq_some_iff.mp h
    cases h2
    exact ⟨s_neg (ih.e hc hs _ _ h1).1, t_no (evT_no _ trivial)⟩
  case _ => -- Not
    obtain ⟨ia, h1, h2⟩ := Option.map_eq_some_iff.mp h
    cases h2
    exact ⟨s_not (ih.e hc hs _ _ h1).1, t_not (ih.e hc hs _ _ h1).2⟩
  case _ => -- And
    obtain ⟨is, h1, h2⟩ := Option.map_eq_some_iff.mp h
    cases h2
    have q := ih.es hc hs _ _ h1
    cases q with
    | cons a b c =>
      have q : Each X C _ _ := .cons a b c
      exact ⟨q.sand, t_and q.wand⟩
  case _ => -- Or
    obtain ⟨is, h1, h2⟩ := Option.map_eq_some_iff.mp h
    cases h2
    have q := ih.es hc hs _ _ h1
    cases q with
    | cons a b c =>
      have q : Each X C _ _ := .cons a b c
      exact ⟨q.sor, t_or q.wor⟩
  case _ => -- Compare
    rename_i a op b pos
    split at h
    · cases h
    · rename_i hm
      have hm : behindInMarks op b = false := by simpa using hm
      obtain ⟨ia, h3, h4⟩ := Option.bind_eq_some_iff.mp h
      obtain ⟨ib, h5, h6⟩ := Option.map_eq_some_iff.mp h4
      cases h6
      rw [copC_A op] at hm
      have q1 := s_cmp (pos := pos) hu (ih.e hc hs _ _ h3).1 (ih.e hc hs _ _ h5).1 hm
      have q2 := t_cmp (pos := pos) hu (ih.e hc hs _ _ h3).1 (ih.e hc hs _ _ h5).1 hm
      rw [← copC_A op] at q1 q2
      exact ⟨q1, q2⟩
  case _ => -- IfExp
    obtain ⟨ic, h1, h2⟩ := Option.bind_eq_some_iff.mp h
    obtain ⟨ia, h3, h4⟩ := Option.bind_eq_some_iff.mp h2
    obtain ⟨ib, h5, h6⟩ := Option.map_eq_some_iff.mp h4
    cases h6
    exact ⟨s_ite (ih.e hc hs _ _ h1).2 (ih.e hc hs _ _ h3).1 (ih.e hc hs _ _ h5).1, t_no (evT_no _ trivial)⟩
  case _ => -- Tuple
    split at h
    · cases h
    · rename_i hst
      obtain ⟨is, h1, h2⟩ := Option.map_eq_some_iff.mp h
      cases h2
      exact ⟨s_tup ((ih.es hc hs _ _ h1).pa (by simpa using hst)), t_no (evT_no _ trivial)⟩
  case _ => -- List
    split at h
    · cases h
    · rename_i hst
      obtain ⟨is, h1, h2⟩ := Option.map_eq_some_iff.mp h
      cases h2
      exact ⟨s_lst ((ih.es hc hs _ _ h1).pa (by simpa using hst)), t_no (evT_no _ trivial)⟩
  case _ => -- Call
    rename_i f p args pos
    split at h
    · cases h
    · rename_i hx
      simp only [not_or] at hx
      obtain ⟨x1, x2, x3, x4⟩ := hx
      have hd : (f == ("__debug__" : Str)) = false := by simpa using x1
      have hg : Gl X f := gl_ok hs (by simpa using x3)
      have hst : args.any isStar = false := by simpa using x4
      obtain ⟨is, h1, h2⟩ := Option.bind_eq_some_iff.mp h
      have q := ih.es hc hs _ _ h1
      split at h2
      · rename_i hf
        cases h2
        obtain ⟨fa, fd, ps, a1, a2, a3, a4, a5⟩ := hc.fn f hf
        have key : PE X (.Call (.Name f p) args [] pos) (tEv X.K C (.call f is)) := by
          cases args with
          | nil =>
            cases q
            exact s_call0 a5 a4 hc.room hc.guards hg a1 a2 a3 hd
          | cons e es =>
            rw [List.any_cons, Bool.or_eq_false_iff] at hst
            exact s_call a5 a4 hc.room hc.guards hg a1 a2 a3 (q.pa (by rw [List.any_cons, Bool.or_eq_false_iff]; exact hst)) hd (star_cons hst.1) (star_plain hst.2)
        exact ⟨key, t_val key fun _ => rfl⟩
      · split at h2
        · rename_i hb
          cases h2
          have key := blt_ok (p := p) (pos := pos) hc hg hb.1 hb.2 (q.pa hst) hst
          exact ⟨key, t_val key fun _ => rfl⟩
        · cases h2
  case _ => -- pop
    rename_i o m apos pos
    split at h
    · rename_i hx
      obtain ⟨rfl, h2, h3⟩ := hx
      obtain ⟨io, h4, h5⟩ := Option.map_eq_some_iff.mp h
      cases h5
      exact ⟨s_pop (ih.e hc hs _ _ h4).1 (base_ok h2) h3, t_no (evT_no _ trivial)⟩
    · cases h
  case _ => -- [::-1]
    obtain ⟨ia, h1, h2⟩ := Option.map_eq_some_iff.mp h
    cases h2
    exact ⟨s_rev (ih.e hc hs _ _ h1).1, t_no (evT_no _ trivial)⟩
  case _ => -- slice
    obtain ⟨ia, h1, h2⟩ := Option.bind_eq_some_iff.mp h
    obtain ⟨il, h3, h4⟩ := Option.bind_eq_some_iff.mp h2
    obtain ⟨ir, h5, h6⟩ := Option.map_eq_some_iff.mp h4
    cases h6
    exact ⟨s_slice (ih.e hc hs _ _ h1).1 (ih.o hc hs _ _ h3) (ih.o hc hs _ _ h5), t_no (evT_no _ trivial)⟩
  case _ => -- idx
    split at h
    · cases h
    · rename_i hx
      simp only [Bool.not_eq_true] at hx
      obtain ⟨ia, h1, h2⟩ := Option.bind_eq_some_iff.mp h
      obtain ⟨ii, h3, h4⟩ := Option.map_eq_some_iff.mp h2
      cases h4
      exact ⟨s_idx hu1 (ih.e hc hs _ _ h1).1 (ih.e hc hs _ _ h3).1 (plainIx hx) (plainIx hx), t_no (evT_no _ trivial)⟩
  case _ => -- ListComp
    rename_i elt tg iter ifs scope pos
    split at h
    · cases h
    · rename_i hx
      simp only [not_or] at hx
      obtain ⟨x1, x2, x3⟩ := hx
      have x1 : isSet iter = false := by simpa using x1
      have x2 : ifs.length ≤ 1 := by omega
      have x3 : blkC sc.N ⟨.function, sc.names, false, false, []⟩ scope (ownOf sc scope) = true := by simpa using x3
      obtain ⟨q, h1, h2⟩ := Option.bind_eq_some_iff.mp h
      obtain ⟨t, h3, h4⟩ := Option.bind_eq_some_iff.mp h2
      split at h4
      · cases h4
      · rename_i hsl
        obtain ⟨iifs, h5, h6⟩ := Option.bind_eq_some_iff.mp h4
        obtain ⟨ie, h7, h8⟩ := Option.map_eq_some_iff.mp h6
        cases h8
        have b0 := blkOk_by x3
        have bk : BlkOk X.N X.env.scope scope (ownOf sc scope) := by
          refine ⟨b0.kind, b0.uniq, fun p hp => by rw [hs.N]; exact b0.ix p hp, fun y hy e => by rw [hs.names]; exact b0.free y hy e, fun y hy e => by rw [hs.N]; exact b0.own y hy e⟩
        have hsl : ∀ i ∈ t.slots, i ∈ (ownOf sc scope).map (·.2) := by
          have hsl : t.slots.all (fun i => ((ownOf sc scope).map (·.2)).contains i) = true := by simpa using hsl
          intro i hi
          simpa using List.all_eq_true.mp hsl i hi
        have blk : ∀ (s : Shared) (H : Hp) (A : Addr) (cl : List (Str × Addr)) (fp : List Addr), CtxOk gi C k (X.blk s H scope (compEnvC scope cl A X.env) fp) ∧ ScOk (blkSc sc scope) (X.blk s H scope (compEnvC scope cl A X.env) fp) := fun s H A cl fp => ⟨hc.blk s H scope _ fp, hs.blk s H scope b0.kind cl A fp⟩
        obtain ⟨tc, _, a1, a2⟩ := s_comp (C := C) (pos := pos) (own := ownOf sc scope) (ifs := ifs) (iifs := iifs) (ielt := ie) (elt := elt) hc.calm hc.nd (ih.i hc hs tg iter q h1) bk hsl
          (fun s H A cl fp => (cTg_ok (blk s H A cl fp).1 (blk s H A cl fp).2 n).1 tg t h3)
          (fun s H A cl fp => (ih.es (blk s H A cl fp).1 (blk s H A cl fp).2 ifs iifs h5).pts x2)
          (fun s H A cl fp => (ih.e (blk s H A cl fp).1 (blk s H A cl fp).2 elt ie h7).1) (fold_ok x1)
        exact ⟨Pf.PE.weak a1 a2, t_no (evT_no _ trivial)⟩
  case _ => -- Dict
    rename_i keys vals dpos
    split at h
    · rename_i hl
      obtain ⟨q, h1, h2⟩ := Option.bind_eq_some_iff.mp h
      split at h2
      · cases h2
      · rename_i hq
        cases h2
        have r := ih.d (pos := dpos) hc hs _ _ q h1
        refine ⟨s_dict r (fun e => ?_) hl, t_no (evT_no _ trivial)⟩
        have := r.len.1
        rw [e] at this
        exact hq (List.eq_nil_of_length_eq_zero this.symm)
    · cases h
  case _ => cases h
theorem eall_es (ih : EAll gi C k n) {X : Cx} {sc : Sc} (hc : CtxOk gi C k X) (hs : ScOk sc X) : ∀ x i, cEs gi (n + 1) sc x = some i → Each X C x i := by
  intro x i h
  cases x with
  | nil =>
    unfold cEs at h
    cases h
    exact .nil
  | cons e es =>
    unfold cEs at h
    obtain ⟨ie, h1, h2⟩ := Option.bind_eq_some_iff.mp h
    obtain ⟨is, h3, h4⟩ := Option.map_eq_some_iff.mp h2
    cases h4
    exact .cons (ih.e hc hs _ _ h1).1 (ih.e hc hs _ _ h1).2 (ih.es hc hs _ _ h3)
theorem eall_o (ih : EAll gi C k n) {X : Cx} {sc : Sc} (hc : CtxOk gi C k X) (hs : ScOk sc X) : ∀ x i, cO gi (n + 1) sc x = some i → PO X x (tEvO X.K C i) := by
  intro x i h
  cases x with
  | none =>
    unfold cO at h
    cases h
    exact o_none
  | some e =>
    unfold cO at h
    obtain ⟨ie, h1, h2⟩ := Option.map_eq_some_iff.mp h
    cases h2
    exact o_some (ih.e hc hs _ _ h1).1
theorem eall_d (ih : EAll gi C k n) {X : Cx} {sc : Sc} {pos : Pos} (hc : CtxOk gi C k X) (hs : ScOk sc X) : ∀ ks vs q, cD gi (n + 1) sc ks vs = some q → Disp X C pos ks vs q.1 q.2 := by
  intro ks vs q h
  unfold cD at h
  split at h
  · rename_i h0
    cases h0
  · cases h
    exact .nil
  · rename_i n' _ ks' v vs' k' j p h0
    cases h0
    obtain ⟨iv, h1, h2⟩ := Option.bind_eq_some_iff.mp h
    obtain ⟨q', h3, h4⟩ := Option.map_eq_some_iff.mp h2
    cases h4
    exact .cons (ih.e hc hs _ _ h1).1 (ih.d hc hs _ _ _ h3)
  · cases h
theorem isTup_ok {tg : Expr} (h : isTup tg = true) : ∃ es j p, tg = .Tuple es j p := by
  cases tg <;> first | exact ⟨_, _, _, rfl⟩ | (simp [isTup] at h)
theorem eall_i (ih : EAll gi C k n) {X : Cx} {sc : Sc} (hc : CtxOk gi C k X) (hs : ScOk sc X) : ∀ tg x q, cI gi (n + 1) sc (isTup tg) x = some q → PI X tg x (iEv X.K C q.1 q.2) := by
  intro tg x q h
  have seqC : ∀ {x}, (cE gi n sc x).map (fun i => ((Kind.seq, [i]) : Kind × List Ex)) = some q → PI X tg x (iEv X.K C q.1 q.2) := fun {x} h => by
    obtain ⟨i, h1, h2⟩ := Option.map_eq_some_iff.mp h
    cases h2
    exact i_seq (ih.e hc hs _ _ h1).1
  unfold cI at h
  split at h
  · rename_i f p args pos
    split at h
    · rename_i hx
      obtain ⟨rfl, h2, h3, h4, h5, h6, h7⟩ := hx
      obtain ⟨is, h8, h9⟩ := Option.map_eq_some_iff.mp h
      cases h9
      have hm := hc.blt _ h2
      rw [if_neg (by decide)] at hm
      have hg := gl_ok hs h4
      have q := ih.es hc hs _ _ h8
      have qa := q.pa h5
      cases q with
      | nil => simp at h6
      | cons a1 b1 q1 =>
        rw [List.any_cons, Bool.or_eq_false_iff] at h5
        obtain ⟨s1, h5'⟩ := h5
        cases q1 with
        | nil => exact i_rng1 hg hm qa (by rw [star_cons s1]; rfl)
        | cons a2 b2 q2 =>
          have h5r := h5'
          rw [List.any_cons, Bool.or_eq_false_iff] at h5'
          obtain ⟨s2, h5''⟩ := h5'
          cases q2 with
          | nil => exact i_rng2 hg hm qa (by rw [star_cons s1, star_cons s2]; rfl) (by rw [star_cons s2]; rfl)
          | cons a3 b3 q3 => cases q3 with
            | nil => exact i_rng3 hg hm qa (star_cons s1) (star_plain h5r)
            | cons _ _ _ => simp at h7
    · split at h
      · rename_i hx
        obtain ⟨rfl, h2, h3, h4, h5, h6, h7⟩ := hx
        obtain ⟨is, h8, h9⟩ := Option.map_eq_some_iff.mp h
        cases h9
        have hm := hc.blt _ h2
        rw [if_neg (by decide)] at hm
        have hg := gl_ok hs h4
        have q := ih.es hc hs _ _ h8
        have qa := q.pa h5
        obtain ⟨es, j, pt, rfl⟩ := isTup_ok h7
        cases q with
        | nil => simp at h6
        | cons a1 b1 q1 => cases q1 with
          | nil => exact i_enum hg hm qa (by rw [star_cons (any_star1 h5)]; rfl)
          | cons _ _ _ => simp at h6
      · split at h
        · rename_i hx
          obtain ⟨rfl, h2, h3, h4, h5, h6, h7⟩ := hx
          obtain ⟨is, h8, h9⟩ := Option.map_eq_some_iff.mp h
          cases h9
          have hm := hc.blt _ h2
          rw [if_neg (by decide)] at hm
          have hg := gl_ok hs h4
          have q := ih.es hc hs _ _ h8
          have qa := q.pa h5
          obtain ⟨es, j, pt, rfl⟩ := isTup_ok h7
          cases q with
          | nil => simp at h6
          | cons a1 b1 q1 => cases q1 with
            | nil => simp at h6
            | cons a2 b2 q2 => cases q2 with
              | nil =>
                rw [List.any_cons, Bool.or_eq_false_iff] at h5
                exact i_zip hg hm qa (star_cons h5.1) (star_plain h5.2)
              | cons _ _ _ => simp at h6
        · exact seqC h
  · exact seqC h
end
theorem eall (gi : GI) (C : Cfg) (k : Nat) : ∀ n, EAll gi C k n
  | 0 => by
    refine ⟨fun _ _ x i h => ?_, fun _ _ x i h => ?_, fun _ _ x i h => ?_, fun _ _ ks vs q h => ?_, fun _ _ tg x q h => ?_⟩
    · unfold cE at h
      cases h
    · unfold cEs at h
      cases h
    · unfold cO at h
      cases h
    · unfold cD at h
      cases h
    · unfold cI at h
      cases h
  | n + 1 => ⟨eall_e (eall gi C k n), eall_es (eall gi C k n), eall_o (eall gi C k n), eall_d (eall gi C k n), eall_i (eall gi C k n)⟩
end Pf

/-! What is compiled is what the text does: statements. -/
namespace Pf
open PySem PySem.Spec PyProof.Rows L2

/-- how a tuple of names is stored at once: none: not told; some none: one after another; some (some names): from the right -/
def swC (sc : Sc) (ts vs : List Expr) : Option (Option (List Str)) :=
  if !(ts.length == 2 || ts.length == 3) || vs.length != ts.length then some none
  else if vs.any (fun | .Starred .. => true | _ => false) then some none
  else
    let line := (ts.head?.map (·.pos.line)).getD 0
    let names := ts.filterMap fun
      | .Name id pos => if sc.names.lookup id == some .local && pos.line == line then some id else none
      | _ => none
    if names.length != ts.length || names.eraseDups.length != names.length then some none
    else if vs.all (foldedForSure 8) then some none
    else if vs.all (constantsAlone 8) then none
    else some (some names)
theorem swC_ok {sc : Sc} {env : Env} {ts vs : List Expr} {k1 k2 : Nat} {p1 p2 : Pos} {r : Option (List Str)} (hn : env.scope.names = sc.names) (hk : env.scope.kind = .function) (h : swC sc ts vs = some r) : swappedStores [.Tuple ts k1 p1] (.Tuple vs k2 p2) env = pure r := by
  have hb : env.blockKind = .function := by
    unfold Env.blockKind
    rw [hk]
    rfl
  have hkd : ∀ id, env.kindOf id = sc.names.lookup id := fun id => by
    unfold Env.kindOf
    rw [hn]
  unfold swC at h
  unfold swappedStores
  simp only [hb, hkd]
  split at h
  · rename_i h1
    cases h
    simp only [bne_self_eq_false, Bool.or_false]
    exact if_pos h1
  · rename_i h1
    simp only [bne_self_eq_false, Bool.or_false]
    refine (if_neg h1).trans ?_
    split at h
    · rename_i h2
      cases h
      exact if_pos h2
    · rename_i h2
      refine (if_neg h2).trans ?_
      simp only at h
      split at h
      · rename_i h3
        cases h
        exact if_pos h3
      · rename_i h3
        refine (if_neg h3).trans ?_
        split at h
        · rename_i h4
          cases h
          exact if_pos h4
        · rename_i h4
          refine (if_neg h4).trans ?_
          split at h
          · cases h
          · rename_i h5
            cases h
            exact (if_neg h5).trans rfl

theorem swaps_plain {e : Expr} {t : Option Expr} {l : Nat} {env : Env} (h : isComp e = false) : swapsWith e t l env = pure false := by
  cases e <;> first | rfl | (simp [isComp] at h)
def isName : Expr → Bool
  | .Name .. => true
  | _ => false
theorem swaps_other {e tg : Expr} {l : Nat} {env : Env} (h : isName tg = false) : swapsWith e (some tg) l env = pure false := by
  cases e <;> first | rfl | (cases tg <;> first | rfl | (simp [isName] at h))
theorem sole {e tg : Expr} {l : Nat} {env : Env} : swapsWithSole [tg] e l env = swapsWith e (some tg) l env := by
  unfold swapsWithSole
  rfl
theorem soleP {e tg : Expr} {l : Nat} {env : Env} (h : isComp e = false) : swapsWithSole [tg] e l env = pure false := sole.trans (swaps_plain h)
theorem soleO {e tg : Expr} {l : Nat} {env : Env} (h : isName tg = false) : swapsWithSole [tg] e l env = pure false := sole.trans (swaps_other h)
theorem stores_none {e tg : Expr} {env : Env} (h : isTup tg = false ∨ isTup e = false) (h2 : match tg with | .List .. => False | _ => True) : swappedStores [tg] e env = pure none := by
  unfold swappedStores
  cases tg <;> first | exact h2.elim | rfl | (cases e <;> first | rfl | (rcases h with h | h <;> simp [isTup] at h))
/-- whether a comprehension is put at a name's place at once -/
def lcSwap (sc : Sc) (y : Str) (py pos : Pos) (scope : Scope) : Bool := (sc.names.lookup y == some .local) && py.line == pos.line && !(scope.names.any fun q => q.1 == y && (q.2 == .local || q.2 == .cell))
theorem lcSwap_ok {sc : Sc} {env : Env} {y : Str} {py pos : Pos} {scope : Scope} {elt : Expr} {gs : List Comprehension} {l : Nat} (hn : env.scope.names = sc.names) (hk : env.scope.kind = .function) : swapsWith (.ListComp elt gs scope pos) (some (.Name y py)) l env = pure (lcSwap sc y py pos scope) := by
  have hb : env.blockKind = .function := by
    unfold Env.blockKind
    rw [hk]
    rfl
  have hkd : ∀ id, env.kindOf id = sc.names.lookup id := fun id => by
    unfold Env.kindOf
    rw [hn]
  unfold swapsWith lcSwap
  simp only [hb, hkd, Expr.pos]
  rfl
def nameSlots (sc : Sc) : List Str → Option (List Nat)
  | [] => some []
  | x :: xs => (slotOf sc x).bind fun i => (nameSlots sc xs).map fun is => i :: is
mutual
def cS (gi : GI) : Nat → Sc → Stmt → Option Sx
  | 0, _, _ => none
  | n + 1, sc, st => match st with
    | .Pass _ => some .pass
    | .Break _ => some .brk
    | .Continue _ => some .cont
    | .Return (some e) _ => (cE gi n sc e).map .ret
    | .Return none _ => some .retN
    | .If c a b _ => (cE gi n sc c).bind fun ic => (cB gi n sc a).bind fun ia => (cB gi n sc b).map fun ib => .ite ic ia ib
    | .While c body [] _ => (cE gi n sc c).bind fun ic => (cB gi n sc body).map fun ib => .whil ic ib
    | .For tg iter body [] _ => if isSet iter = true then none else (cI gi n sc (isTup tg) iter).bind fun q => (cTg sc n tg).bind fun t => (cB gi n sc body).map fun ib => .forr q.1 q.2 t ib
    | .AugAssign (.Name x _) op e _ => (slotOf sc x).bind fun i => if sc.names.lookup x = some .local ∨ (sc.names.lookup x = some .cell ∧ sc.fnc x = true) then
        match op with
        | .Add => (cE gi n sc e).map fun ie => .aug i .add ie
        | .Sub => (cE gi n sc e).map fun ie => .aug i .sub ie
        | _ => none
      else none
    | .Expr (.Call (.Attribute o m apos) args [] cpos) _ =>
      if isCall o = false ∧ (apos.endLine == cpos.line) = true then
        if m = "append" ∧ args.length = 1 ∧ args.any isStar = false then (cE gi n sc o).bind fun io => (cEs gi n sc args).bind fun is => match is with
          | [ie] => some (.app io ie)
          | _ => none
        else if m = "pop" ∧ args.length = 0 then (cE gi n sc o).map .popS
        else none
      else none
    | .Assign [.Subscript o i _] e _ => if isSlice i = true then none else (cE gi n sc e).bind fun ie => (cE gi n sc o).bind fun io => (cE gi n sc i).map fun ii => .setI io ii ie
    | .Assign [.Name y py] (.ListComp elt gs scope pos) _ => (slotOf sc y).bind fun i => if lcSwap sc y py pos scope = true then (cE gi n sc (.ListComp elt gs scope pos)).map fun ie => .asg (.nm i) ie
      else (cTg sc n (.Name y py)).bind fun t => (cE gi n sc (.ListComp elt gs scope pos)).map fun ie => .asg t ie
    | .Assign [.Tuple ts k1 p1] (.Tuple vs k2 p2) _ => match swC sc ts vs with
      | some none => (cTg sc n (.Tuple ts k1 p1)).bind fun t => (cE gi n sc (.Tuple vs k2 p2)).map fun ie => .asg t ie
      | some (some names) => if vs.any isStar = true then none else match ts with
        | [.Name x _, .Name y _] => if names = [x, y] ∧ sc.names.lookup x = some .local ∧ sc.names.lookup y = some .local then (slotOf sc x).bind fun i => (slotOf sc y).bind fun j => if i = j then none else (cEs gi n sc vs).map fun is => .par [i, j] is else none
        | [.Name x _, .Name y _, .Name z _] => if names = [x, y, z] ∧ sc.names.lookup x = some .local ∧ sc.names.lookup y = some .local ∧ sc.names.lookup z = some .local then
            (slotOf sc x).bind fun i => (slotOf sc y).bind fun j => (slotOf sc z).bind fun l => if i = j ∨ i = l ∨ j = l then none else (cEs gi n sc vs).map fun is => .par [i, j, l] is else none
        | _ => none
      | none => none
    | .Assign [tg] e _ => if isComp e = true then none else match tg with
      | .Name _ _ => (cTg sc n tg).bind fun t => (cE gi n sc e).map fun ie => .asg t ie
      | .Tuple _ _ _ => if isTup e = true then none else (cTg sc n tg).bind fun t => (cE gi n sc e).map fun ie => .asg t ie
      | _ => none
    | _ => none
def cB (gi : GI) : Nat → Sc → List Stmt → Option (List Sx)
  | 0, _, _ => none
  | _ + 1, _, [] => some []
  | n + 1, sc, s :: ss => (cS gi n sc s).bind fun i => (cB gi n sc ss).map fun is => i :: is
end
section
variable {gi : GI} {C : Cfg} {k n : Nat} {X : Cx} {sc : Sc}
theorem each2 {vs : List Expr} {is : List Ex} (h : Each X C vs is) (hl : vs.length = 2) : ∃ a b ia ib, vs = [a, b] ∧ is = [ia, ib] := by
  cases h with
  | nil => cases hl
  | cons _ _ q => cases q with
    | nil => simp at hl
    | cons _ _ q => cases q with
      | nil => exact ⟨_, _, _, _, rfl, rfl⟩
      | cons _ _ _ => simp at hl
theorem each3 {vs : List Expr} {is : List Ex} (h : Each X C vs is) (hl : vs.length = 3) : ∃ a b c ia ib ic, vs = [a, b, c] ∧ is = [ia, ib, ic] := by
  cases h with
  | nil => cases hl
  | cons _ _ q =>
    obtain ⟨a, b, ia, ib, rfl, rfl⟩ := each2 q (by simpa using hl)
    exact ⟨_, _, _, _, _, _, rfl, rfl⟩
theorem swC_len {ts vs : List Expr} {names : List Str} (h : swC sc ts vs = some (some names)) : vs.length = ts.length := by
  unfold swC at h
  split at h
  · cases h
  · rename_i h1
    simp only [Bool.or_eq_true, not_or] at h1
    simpa using h1.2
structure SAll (gi : GI) (C : Cfg) (k n : Nat) : Prop where
  s : ∀ {X : Cx} {sc : Sc}, CtxOk gi C k X → ScOk sc X → ∀ x i, cS gi n sc x = some i → PS X x (tS X.K C i)
  b : ∀ {X : Cx} {sc : Sc}, CtxOk gi C k X → ScOk sc X → ∀ x i, cB gi n sc x = some i → PSs X x (tSs X.K C i)
theorem asg_one {tg : Expr} {env : Env} (h : isStar tg = false) : (assignEach [tg] env).map (·.2) = [assign tg env] := by
  rw [asgEach_cons h]
  rfl
/-- y = [..] -/
theorem lc_stmt {m : Nat} (ih : EAll gi C k m) (hc : CtxOk gi C k X) (hs : ScOk sc X) {j : Nat} {y : Str} {py pos spos : Pos} {elt : Expr} {gs : List Comprehension} {scope : Scope} {ie : Ex} (hy : X.N[j]? = some y) (hyl : X.env.scope.names.lookup y = some .local)
    (hsw : swapsWith (.ListComp elt gs scope pos) (some (.Name y py)) spos.line X.env = pure true) (h : cE gi (m + 1) sc (.ListComp elt gs scope pos) = some ie) : PS X (.Assign [.Name y py] (.ListComp elt gs scope pos) spos) (tS X.K C (.asg (.nm j) ie)) := by
  unfold cE at h
  split at h <;> first | (rename_i he; cases he; done) | skip
  all_goals first | (cases h; done) | skip
  rename_i elt' tg iter ifs scope' pos' he
  cases he
  split at h
  · cases h
  · rename_i hx
    simp only [not_or] at hx
    obtain ⟨x1, x2, x3⟩ := hx
    have x1 : isSet iter = false := by simpa using x1
    have x2 : ifs.length ≤ 1 := by omega
    have x3 : blkC sc.N ⟨.function, sc.names, false, false, []⟩ scope (ownOf sc scope) = true := by simpa using x3
    obtain ⟨q, h1, h2⟩ := Option.bind_eq_some_iff.mp h
    obtain ⟨t, h3, h4⟩ := Option.bind_eq_some_iff.mp h2
    split at h4
    · cases h4
    · rename_i hsl
      obtain ⟨iifs, h5, h6⟩ := Option.bind_eq_some_iff.mp h4
      obtain ⟨ie', h7, h8⟩ := Option.map_eq_some_iff.mp h6
      cases h8
      have b0 := blkOk_by x3
      have bk : BlkOk X.N X.env.scope scope (ownOf sc scope) := by
        refine ⟨b0.kind, b0.uniq, fun p hp => by rw [hs.N]; exact b0.ix p hp, fun y hy e => by rw [hs.names]; exact b0.free y hy e, fun y hy e => by rw [hs.N]; exact b0.own y hy e⟩
      have hsl : ∀ i ∈ t.slots, i ∈ (ownOf sc scope).map (·.2) := by
        have hsl : t.slots.all (fun i => ((ownOf sc scope).map (·.2)).contains i) = true := by simpa using hsl
        intro i hi
        simpa using List.all_eq_true.mp hsl i hi
      have blk : ∀ (s : Shared) (H : Hp) (A : Addr) (cl : List (Str × Addr)) (fp : List Addr), CtxOk gi C k (X.blk s H scope (compEnvC scope cl A X.env) fp) ∧ ScOk (blkSc sc scope) (X.blk s H scope (compEnvC scope cl A X.env) fp) := fun s H A cl fp => ⟨hc.blk s H scope _ fp, hs.blk s H scope b0.kind cl A fp⟩
      exact c_setLc hc.calm hc.nd hy hyl hsw (ih.i hc hs tg iter q h1) bk hsl
        (fun s H A cl fp => (cTg_ok (blk s H A cl fp).1 (blk s H A cl fp).2 m).1 tg t h3)
        (fun s H A cl fp => (ih.es (blk s H A cl fp).1 (blk s H A cl fp).2 ifs iifs h5).pts x2)
        (fun s H A cl fp => (ih.e (blk s H A cl fp).1 (blk s H A cl fp).2 elt ie' h7).1) (fold_ok x1)
theorem sall_s (ih : SAll gi C k n) (hc : CtxOk gi C k X) (hs : ScOk sc X) : ∀ x i, cS gi (n + 1) sc x = some i → PS X x (tS X.K C i) := by
  have E := eall gi C k n
  have hu : X.A.units + 64 < cLine := hc.room.units
  have hu1 : X.A.units + 1 < cLine := Nat.lt_of_le_of_lt (Nat.add_le_add_left (by decide : 1 ≤ 64) _) hu
  intro x i h
  unfold cS at h
  split at h
  case _ => cases h; exact c_pass
  case _ => cases h; exact c_brk
  case _ => cases h; exact c_cont
  case _ =>
    obtain ⟨ie, h1, h2⟩ := Option.map_eq_some_iff.mp h
    cases h2
    exact c_ret (E.e hc hs _ _ h1).1
  case _ => cases h; exact c_retN
  case _ =>
    obtain ⟨ic, h1, h2⟩ := Option.bind_eq_some_iff.mp h
    obtain ⟨ia, h3, h4⟩ := Option.bind_eq_some_iff.mp h2
    obtain ⟨ib, h5, h6⟩ := Option.map_eq_some_iff.mp h4
    cases h6
    exact c_ite (E.e hc hs _ _ h1).2 (ih.b hc hs _ _ h3) (ih.b hc hs _ _ h5)
  case _ =>
    obtain ⟨ic, h1, h2⟩ := Option.bind_eq_some_iff.mp h
    obtain ⟨ib, h5, h6⟩ := Option.map_eq_some_iff.mp h2
    cases h6
    exact c_while hc.xe (E.e hc hs _ _ h1).2 (ih.b hc hs _ _ h5)
  case _ =>
    split at h
    · cases h
    · rename_i hx
      obtain ⟨q, h1, h2⟩ := Option.bind_eq_some_iff.mp h
      obtain ⟨t, h3, h4⟩ := Option.bind_eq_some_iff.mp h2
      obtain ⟨ib, h5, h6⟩ := Option.map_eq_some_iff.mp h4
      cases h6
      exact c_for hc.xe hc.calm (E.i hc hs _ _ _ h1) ((cTg_ok hc hs n).1 _ _ h3) (ih.b hc hs _ _ h5) (fold_ok (by simpa using hx))
  case _ =>
    rename_i x px op e pos
    obtain ⟨j, h1, h2⟩ := Option.bind_eq_some_iff.mp h
    split at h2
    · rename_i hl
      have l1 : L2.Loc X.env.scope x := by
        unfold L2.Loc
        rw [hs.names]
        rcases hl with hl | hl
        · exact .inl hl
        · exact .inr hl.1
      have l2 : X.fn x = true ∨ X.env.scope.names.lookup x = some .local := by
        rw [hs.names]
        rcases hl with hl | hl
        · exact .inr hl
        · exact .inl (hs.fnc _ hl.2)
      split at h2
      · obtain ⟨ie, h3, h4⟩ := Option.map_eq_some_iff.mp h2
        cases h4
        exact c_aug hc.nd (slot_ok hs h1) l1 (E.e hc hs _ _ h3).1 l2 (.inl ⟨rfl, rfl⟩)
      · obtain ⟨ie, h3, h4⟩ := Option.map_eq_some_iff.mp h2
        cases h4
        exact c_aug hc.nd (slot_ok hs h1) l1 (E.e hc hs _ _ h3).1 l2 (.inr ⟨rfl, rfl⟩)
      · cases h2
    · cases h2
  case _ =>
    rename_i o m apos args cpos pos
    split at h
    · rename_i hx
      split at h
      · rename_i hm
        obtain ⟨rfl, hl, hst⟩ := hm
        obtain ⟨io, h1, h2⟩ := Option.bind_eq_some_iff.mp h
        obtain ⟨is, h3, h4⟩ := Option.bind_eq_some_iff.mp h2
        split at h4
        · cases h4
          have q := E.es hc hs _ _ h3
          cases q with
          | cons a b c => cases c with
            | nil => exact c_app (E.e hc hs _ _ h1).1 a (by rw [star_cons (any_star1 hst)]; rfl) (base_ok hx.1) hx.2
        · cases h4
      · split at h
        · rename_i hm
          obtain ⟨rfl, hl⟩ := hm
          obtain ⟨io, h1, h2⟩ := Option.map_eq_some_iff.mp h
          cases h2
          have : args = [] := List.eq_nil_of_length_eq_zero hl
          subst this
          exact c_popS (E.e hc hs _ _ h1).1 (base_ok hx.1) hx.2
        · cases h
    · cases h
  case _ =>
    rename_i o i tpos e pos
    split at h
    · cases h
    · rename_i hx
      simp only [Bool.not_eq_true] at hx
      obtain ⟨ie, h1, h2⟩ := Option.bind_eq_some_iff.mp h
      obtain ⟨io, h3, h4⟩ := Option.bind_eq_some_iff.mp h2
      obtain ⟨ii, h5, h6⟩ := Option.map_eq_some_iff.mp h4
      cases h6
      refine c_setI hu1 (E.e hc hs _ _ h1).1 (E.e hc hs _ _ h3).1 (E.e hc hs _ _ h5).1 (soleO rfl) (stores_none (.inl rfl) trivial) fun v => ?_
      cases i <;> first | rfl | (simp [isSlice] at hx)
  case _ =>
    rename_i y py elt gs scope pos spos
    obtain ⟨j, h1, h2⟩ := Option.bind_eq_some_iff.mp h
    split at h2
    · rename_i hsw
      obtain ⟨ie, h3, h4⟩ := Option.map_eq_some_iff.mp h2
      cases h4
      cases n with
      | zero => unfold cE at h3; cases h3
      | succ m =>
        have hyl : X.env.scope.names.lookup y = some .local := by
          rw [hs.names]
          unfold lcSwap at hsw
          simp only [Bool.and_eq_true, beq_iff_eq] at hsw
          exact hsw.1.1
        have hsw2 : swapsWith (.ListComp elt gs scope pos) (some (.Name y py)) spos.line X.env = pure true := by
          rw [lcSwap_ok hs.names hs.kind, hsw]
        exact lc_stmt (eall gi C k m) hc hs (slot_ok hs h1) hyl hsw2 h3
    · rename_i hsw
      obtain ⟨t, h3, h4⟩ := Option.bind_eq_some_iff.mp h2
      obtain ⟨ie, h5, h6⟩ := Option.map_eq_some_iff.mp h4
      cases h6
      refine c_asg (E.e hc hs _ _ h5).1 ((cTg_ok hc hs n).1 _ _ h3) ?_ (stores_none (.inl rfl) trivial) (asg_one rfl)
      rw [sole, lcSwap_ok hs.names hs.kind]
      simp only [Bool.not_eq_true] at hsw
      rw [hsw]
  case _ =>
    rename_i ts k1 p1 vs k2 p2 spos
    split at h
    · rename_i hsw
      obtain ⟨t, h3, h4⟩ := Option.bind_eq_some_iff.mp h
      obtain ⟨ie, h5, h6⟩ := Option.map_eq_some_iff.mp h4
      cases h6
      exact c_asg (E.e hc hs _ _ h5).1 ((cTg_ok hc hs n).1 _ _ h3) (soleP rfl) (swC_ok hs.names hs.kind hsw) (asg_one rfl)
    · rename_i names hsw
      have hlen := swC_len hsw
      split at h
      · cases h
      · rename_i hst
        have hst : vs.any isStar = false := by simpa using hst
        split at h
        · rename_i x px y py
          split at h
          · rename_i hx
            obtain ⟨rfl, hx1, hx2⟩ := hx
            obtain ⟨i1, h1, h2⟩ := Option.bind_eq_some_iff.mp h
            obtain ⟨i2, h3, h4⟩ := Option.bind_eq_some_iff.mp h2
            split at h4
            · cases h4
            · rename_i hne
              obtain ⟨is, h5, h6⟩ := Option.map_eq_some_iff.mp h4
              cases h6
              have q := E.es hc hs _ _ h5
              obtain ⟨a, b, ia, ib, rfl, rfl⟩ := each2 q hlen
              exact c_par2 hc.calm hc.nd (slot_ok hs h1) (slot_ok hs h3) hne (by rw [hs.names]; exact hx1) (by rw [hs.names]; exact hx2) (q.pa hst) (swC_ok hs.names hs.kind hsw) (soleP rfl)
          · cases h
        · rename_i x px y py z pz
          split at h
          · rename_i hx
            obtain ⟨rfl, hx1, hx2, hx3⟩ := hx
            obtain ⟨i1, h1, h2⟩ := Option.bind_eq_some_iff.mp h
            obtain ⟨i2, h3, h4⟩ := Option.bind_eq_some_iff.mp h2
            obtain ⟨i3, h7, h8⟩ := Option.bind_eq_some_iff.mp h4
            split at h8
            · cases h8
            · rename_i hne
              simp only [not_or] at hne
              obtain ⟨is, h5, h6⟩ := Option.map_eq_some_iff.mp h8
              cases h6
              have q := E.es hc hs _ _ h5
              obtain ⟨a, b, c, ia, ib, ic, rfl, rfl⟩ := each3 q hlen
              exact c_par3 hc.calm hc.nd (slot_ok hs h1) (slot_ok hs h3) (slot_ok hs h7) hne.1 hne.2.1 hne.2.2 (by rw [hs.names]; exact hx1) (by rw [hs.names]; exact hx2) (by rw [hs.names]; exact hx3) (q.pa hst) (swC_ok hs.names hs.kind hsw) (soleP rfl)
          · cases h
        · cases h
    · cases h
  case _ =>
    split at h
    · cases h
    · rename_i hx
      simp only [Bool.not_eq_true] at hx
      split at h
      · obtain ⟨t, h3, h4⟩ := Option.bind_eq_some_iff.mp h
        obtain ⟨ie, h5, h6⟩ := Option.map_eq_some_iff.mp h4
        cases h6
        exact c_asg (E.e hc hs _ _ h5).1 ((cTg_ok hc hs n).1 _ _ h3) (soleP hx) (stores_none (.inl rfl) trivial) (asg_one rfl)
      · split at h
        · cases h
        · rename_i ht
          obtain ⟨t, h3, h4⟩ := Option.bind_eq_some_iff.mp h
          obtain ⟨ie, h5, h6⟩ := Option.map_eq_some_iff.mp h4
          cases h6
          exact c_asg (E.e hc hs _ _ h5).1 ((cTg_ok hc hs n).1 _ _ h3) (soleP hx) (stores_none (.inr (by simpa using ht)) trivial) (asg_one rfl)
      · cases h
  case _ => cases h
theorem sall_b (ih : SAll gi C k n) (hc : CtxOk gi C k X) (hs : ScOk sc X) : ∀ x i, cB gi (n + 1) sc x = some i → PSs X x (tSs X.K C i) := by
  intro x i h
  cases x with
  | nil =>
    unfold cB at h
    cases h
    exact k_nil
  | cons s ss =>
    unfold cB at h
    obtain ⟨ie, h1, h2⟩ := Option.bind_eq_some_iff.mp h
    obtain ⟨is, h3, h4⟩ := Option.map_eq_some_iff.mp h2
    cases h4
    exact k_cons (ih.s hc hs _ _ h1) (ih.b hc hs _ _ h3)
end
theorem sall (gi : GI) (C : Cfg) (k : Nat) : ∀ n, SAll gi C k n
  | 0 => by
    refine ⟨fun _ _ x i h => ?_, fun _ _ x i h => ?_⟩
    · unfold cS at h
      cases h
    · unfold cB at h
      cases h
  | n + 1 => ⟨sall_s (sall gi C k n), sall_b (sall gi C k n)⟩
end Pf

/-! A whole program; the end of a law. -/
namespace Pf
open PySem PySem.Spec PyProof.Rows L2

/-- a def of the program: its text compiles to the body -/
structure DefOk (K : PySem.W.Frag) (mg : Str → Option Value) (gi : GI) (f : Str) (fd : FD) : Prop where
  ex : ∃ (st : Stmt) (N ps : List Str) (fa : Addr) (fdat : FuncData) (fuel : Nat), mg f = some (.ref fa) ∧ Fun K f f st fa fdat ∧ Binds K fdat ps [] ∧ FnScope N ps (defScope st) ∧ N.length = fd.nl ∧ ps.length = fd.np ∧
    cB gi fuel ⟨N, (defScope st).names, fun _ => true⟩ (defBody st) = some fd.body
/-- what the module's names hold -/
structure GlobOk (K : PySem.W.Frag) (mg : Str → Option Value) (gi : GI) (cst : Str → Option D) (tb : Str → Option FD) : Prop where
  fn : ∀ f, f ∈ gi.fn → ∃ fd, tb f = some fd
  def' : ∀ f fd, tb f = some fd → DefOk K mg gi f fd
  cst : ∀ x, x ∈ gi.cst → ∃ (u : Value) (v : V) (d : D), mg x = some u ∧ RelV v u ∧ cst x = some d ∧ ∀ η m H, Rep K η m H d v
  blt : ∀ b, b ∈ gi.blt → if b = "gcd" then mg b = some (.builtin "math.gcd") else mg b = none
section
variable {P : Program} {w : World} {K : PySem.W.Frag} {mg : Str → Option Value} {base : Heap} {gi : GI} {cst : Str → Option D} {tb : Str → Option FD}
theorem runF_len {k : Nat} {f : Str} {fd : FD} (h : tb f = some fd) {ds : List D} {S : Sto} {r : D × Sto} (e : runF cst tb k f ds S = some r) : ds.length = fd.np := by
  cases k with
  | zero => unfold runF at e; cases e
  | succ k =>
    unfold runF at e
    rw [h, Option.bind_some] at e
    split at e
    · assumption
    · cases e
theorem runF_eq {k : Nat} {f : Str} {fd : FD} (h : tb f = some fd) : runF cst tb (k + 1) f = fun ds S => if ds.length = fd.np then (evB ⟨runF cst tb k, cst⟩ fd.body (ds.map some ++ List.replicate (fd.nl - fd.np) none) S).bind (retD S) else none := by
  funext ds S
  conv => lhs; unfold runF
  rw [h, Option.bind_some]
theorem prog_fn (G : GlobOk K mg gi cst tb) : ∀ (k : Nat) {f : Str} {fd : FD} {st : Stmt} {N ps : List Str} {fa : Addr} {fdat : FuncData} {fuel : Nat}, tb f = some fd → Fun K f f st fa fdat → FnScope N ps (defScope st) → N.length = fd.nl → ps.length = fd.np →
    cB gi fuel ⟨N, (defScope st).names, fun _ => true⟩ (defBody st) = some fd.body → FnG P w K mg base k fa fdat ps (spF K (runF cst tb k f) ps.length)
  | 0, f, fd, st, N, ps, fa, fdat, fuel, h, h2, h4, h5, h6, h7 => by
    refine ⟨fun vs H Q q => q.1, fun A outer s H args us vs Q _ _ _ _ _ q => ?_⟩
    obtain ⟨_, η, S, ds, d, S', _, _, e, _⟩ := q
    unfold runF at e
    cases e
  | k + 1, f, fd, st, N, ps, fa, fdat, fuel, h, h2, h4, h5, h6, h7 => by
    rw [runF_eq h]
    refine fn_g h2 h4 h5 h6 fun cdv A outer s H hr hg => ?_
    refine (sall gi ⟨runF cst tb k, cst⟩ k fuel).b (sc := ⟨N, (defScope st).names, fun _ => true⟩) ⟨rfl, rfl, h4.nd, hg, hr, fun g hgn => ?_, G.cst, G.blt⟩ ⟨rfl, rfl, h4.kind, fun _ _ => rfl⟩ _ _ h7
    obtain ⟨gd, hgd⟩ := G.fn g hgn
    obtain ⟨st', N', ps', fa', fdat', fuel', a1, a2, a3, a4, a5, a6, a7⟩ := (G.def' g gd hgd).ex
    exact ⟨fa', fdat', ps', a1, a2.kp, a3, fun ds S r e => (runF_len hgd e).trans a6.symm, prog_fn G k hgd a2 a4 a5 a6 a7⟩
end

/-! ### the end of a law -/
section
variable {P : Program} {w : World} {K : PySem.W.Frag} {mg mb : Str → Option Value}
/-- the law's def, called with the script -/
theorem law_end {k : Nat} {fa a : Addr} {fd : FuncData} {x : Str} {cal : List D → Sto → Option (D × Sto)} {s₁ : Shared} {vs : List Value} {ns : List Int} {S' : Sto}
    (KX : K.In s₁.heap) (hns : s₁.heap.Ns mainGlobals mg) (hb : s₁.heap.Ns builtinsNs mb) (hbb : ∀ x : Str, x ≠ "__name__" → mb x = bootBuiltins x) (hlim : s₁.heap.NoLimit) (hgen : s₁.gens = #[])
    (ha : s₁.heap.get? a = some { cls := .type "list", data := .seq vs.toArray }) (hi : IntsAre vs ns) (hl : ns.length ≤ sizeLine) (hr : Room k callerA)
    (F : ∀ base : Heap, K.In base → base.Ns mainGlobals mg → FnG P w K mg base k fa fd [x] (spF K cal 1)) (hbind : BindsTo s₁ fd ⟨[.ref a], []⟩ [(x, .ref a)])
    (hcal : cal [.loc 0] [.ro (ns.map D.int)] = some (.bl true, S')) :
    codeAny (model P w) callerA (.call (.ref fa) ⟨[.ref a], []⟩) (fun r s' => r = .ok (.ret (.bool true)) ∧ OldK s₁.heap s'.heap ∧ s'.os = s₁.os ∧ AllBare s'.gens) s₁ := by
  have rv := vals_ints hi
  have lenV := hi.length
  have repI : ∀ {H : Hp} (l : List Int), Reps K (fun _ => a) 1 H (l.map D.int) (l.map V.int) := fun {H} l => by
    induction l with
    | nil => exact .nil
    | cons i r ih => exact .cons (.int i) ih
  have core : ∀ H : Hp, (∀ b, H b = none ∨ ∃ o xs, H b = some (.frz o (.lst xs))) → RoL K H a (ns.map V.int) → HOk P w H s₁.heap → (∀ b, H b ≠ none → b = a) → (H a ≠ none → K.lookup a = none) →
      codeAny (model P w) callerA (.call (.ref fa) ⟨[.ref a], []⟩) (fun r s' => r = .ok (.ret (.bool true)) ∧ OldK s₁.heap s'.heap ∧ s'.os = s₁.os ∧ AllBare s'.gens) s₁ := by
    intro H hO hS hok hA hK
    have free : ∀ {b : Addr}, b ≠ a → H b = none := fun {b} hb => by
      cases q : H b with
      | none => rfl
      | some u => exact absurd (hA b (by rw [q]; simp)) hb
    have nod : ∀ {b : Addr} {o : Obj} {es : Array DictEntry} {ep : Nat}, s₁.heap.get? b = some o → o.data = .dict es ep → H b = none := fun {b o es ep} e d => by
      refine free fun hb => ?_
      subst hb
      rw [ha] at e
      cases e
      cases (show Data.seq vs.toArray _ = Data.dict es ep from d)
    have nsK : ∀ {b : Addr} {m : Str → Option Value}, s₁.heap.Ns b m → (hidT s₁.heap H).Ns b m := fun {b m} ⟨o, es, ep, e, d, r⟩ => ⟨o, es, ep, hidT_get e (nod e d), d, r⟩
    have hKb : K.In (hidT s₁.heap H) := fun b o e => hidT_get (KX b o e) (by
      by_cases hb : b = a
      · subst hb
        cases q : H b with
        | none => rfl
        | some u =>
          rw [hK (by rw [q]; simp)] at e
          cases e
      · exact free hb)
    have hM : Mod K mg (hidT s₁.heap H) := ⟨hKb, nsK hns, ⟨mb, nsK hb, hbb⟩, let ⟨mc, h1, h2⟩ := hlim; ⟨mc, nsK h1, h2⟩⟩
    have e0 : Env0 P w K mg (hidT s₁.heap H) callerA [] s₁ H := ⟨rfl, hM, fun b o e => of_hidT e, Nat.le_of_eq (hidT_size _ _), trivial, fun b hb => absurd (show b ∈ ([] : List Addr) from hb) (by simp), hok, .of_eq hgen⟩
    have hsp : spF K cal 1 [.ref a] H (fun v _ => v = .bl true) := by
      refine ⟨rfl, fun _ => a, [.ro (ns.map D.int)], [.loc 0], .bl true, S', .cons (.loc (Nat.zero_lt_one)) .nil, ⟨fun n c e => ?_, fun i j c d e1 e2 m1 m2 _ => ?_⟩, hcal, fun v H' η' _ r _ => r.bl'⟩
      · cases n with
        | zero => cases e; exact .ro hS (repI ns)
        | succ n => cases e
      · cases i with
        | zero => cases e1; exact m1.elim
        | succ i => cases e1
    refine codeAny_mono ((F _ hKb (nsK hns)).run callerA [] s₁ H ⟨[.ref a], []⟩ [.ref a] [.ref a] _ hr rfl e0 hbind (.cons rfl .nil) hsp) fun r s' h => ?_
    cases r with
    | error e => exact False.elim h
    | ok fl =>
      cases fl with
      | next => exact False.elim h
      | brk => exact False.elim h
      | cont => exact False.elim h
      | ret u =>
        obtain ⟨v, H', os, bare, un, hok', r', q⟩ := h
        have q' : v = .bl true := q
        subst q'
        obtain rfl : u = Value.bool true := r'
        refine ⟨rfl, OldK.of_keep fun b o e => ?_, os, bare⟩
        cases q : H b with
        | none => exact un.keep b o e q (by intro z; exact absurd (show b ∈ ([] : List Addr) from z) (by simp)) (by simp)
        | some u =>
          rcases hO b with z | ⟨ob, xs, z⟩
          · rw [q] at z; cases z
          · have z2 := un.frzs b ob _ z
            obtain ⟨e1, _⟩ := hok b _ z
            obtain ⟨e2, _⟩ := hok' b _ z2
            rw [e] at e1
            cases e1
            exact e2
  cases hk : K.lookup a with
  | some o =>
    have e := KX a o hk
    rw [ha] at e
    cases e
    exact core (fun _ => none) (fun _ => .inl rfl) (.inr ⟨_, vs.toArray, _, hk, rfl, rfl, rfl, by rw [List.size_toArray, lenV]; exact hl, by simpa using rv⟩) (fun b u z => by have z' : (none : Option HO) = some u := z; cases z') (fun b z => absurd rfl z) fun z => absurd rfl z
  | none =>
    refine core (fun b => if b = a then some (.frz { cls := .type "list", data := .seq vs.toArray } (.lst (ns.map V.int))) else none) (fun b => ?_) (.inl ⟨{ cls := .type "list", data := .seq vs.toArray }, if_pos rfl⟩) (fun b u z => ?_) (fun b z => ?_) fun _ => hk
    · by_cases hb : b = a
      · exact .inr ⟨_, _, if_pos hb⟩
      · exact .inl (if_neg hb)
    · by_cases hb : b = a
      · have z' := (if_pos hb).symm.trans z
        cases z'
        subst hb
        exact ⟨ha, by rw [List.length_map]; exact hl, vs, _, rv, ha⟩
      · have z' := (if_neg hb).symm.trans z
        cases z'
    · by_cases hb : b = a
      · exact hb
      · exact absurd (if_neg hb) z
end
/-- the goal that k_head leaves, from what the law computes of every script -/
theorem walk_D {l : PySem.W.OpenLaw} {n k : Nat} {q : Program} {loose : List Str} {XP : (Str → Option Value) → Heap → Prop} {YP : World → Heap → Prop} {d : DefRec} {K : Params → PySem.W.Frag} {gi : GI} {cst : Str → Option D} {tb : Str → Option FD} {fdl : FD}
    (hn : l.most = some n) (hn2 : n ≤ sizeLine) (hdf : d.params.defaults = []) (hr : Room k callerA)
    (hY : ∀ (w : World) (h : Heap), YP w h → (K w.params).In h)
    (htb : tb d.name = some fdl) (hnp : fdl.np = 1)
    (F : ∀ (w : World) (mg : Str → Option Value) (fa : Addr) (h : Heap), (K w.params).In h → h.Ns mainGlobals mg → mg d.name = some (.ref fa) →
      GlobOk (K w.params) mg gi cst tb)
    (hrun : ∀ ns : List Int, ns.length ≤ n → ∃ S', runF cst tb k d.name [.loc 0] [.ro (ns.map D.int)] = some (.bl true, S')) :
    PySem.W.WalkO q loose XP YP l.row.toRowW d [] (fun f vs => PySem.call f vs) := by
  refine Att.attach_call hn hdf fun w s₀ s₁ mg mb fa o pm cd doc a vs ns G Y ho hd hcd hmg hobj hints hlen hg => ?_
  have KX := hY w _ Y
  have GO := F w mg fa _ KX G.T.g hmg
  obtain ⟨S', hS⟩ := hrun ns hlen
  obtain ⟨st, N, ps, fa', fdat, fuel, h1, h2, h3, h4, h5, h6, h7⟩ := (GO.def' d.name fdl htb).ex
  rw [hmg] at h1
  cases h1
  obtain ⟨y, rfl⟩ : ∃ y, ps = [y] := by
    rw [hnp] at h6
    match ps, h6 with
    | [y], _ => exact ⟨y, rfl⟩
  refine law_end KX G.T.g G.T.b G.T.builtins G.T.nolimit hg hobj hints (Nat.le_trans hlen hn2) hr (fun base _ _ => prog_fn GO k htb h2 h4 h5 h6 h7) ?_ hS
  have q := h3 s₁ [.ref a] KX rfl
  exact q
end Pf

/-! A claim's facts: what stands in the text alone, what stands on the heap. -/
namespace Pf
open PySem PySem.Spec PyProof.Rows L2

/-- what the text alone says of a def -/
structure TxOk (gi : GI) (f : Str) (fd : FD) (st : Stmt) (N ps : List Str) : Prop where
  sc : FnScope N ps (defScope st)
  nl : N.length = fd.nl
  np : ps.length = fd.np
  bd : ∀ (kV doc pm : Value) (an : Option Addr) (cdv ct : Value) (us : List Value), us.length = ps.length → bindArgs (PySem.W.fnOf f f (defArgs st) (defBody st) (defScope st) .none kV doc pm an cdv ct) ⟨us, []⟩ = pure (ps.zip us)
  cb : ∃ fuel, cB gi fuel ⟨N, (defScope st).names, fun _ => true⟩ (defBody st) = some fd.body
section
variable {K : PySem.W.Frag} {mg : Str → Option Value} {gi : GI} {h : Heap}
theorem def_mk {f : Str} {fd : FD} {st : Stmt} {N ps : List Str} {fa : Addr} {oc : Value} {od an : Option Addr} {osl : Array (Option Value)} {kV doc pm cdv ct : Value} (T : TxOk gi f fd st N ps) (X : K.In h) (G : h.Ns mainGlobals mg)
    (a : PySem.W.nsIn K mainGlobals f = some (some (.ref fa))) (l : K.lookup fa = some ⟨oc, od, .func (PySem.W.fnOf f f (defArgs st) (defBody st) (defScope st) .none kV doc pm an cdv ct), osl⟩) (c : PySem.W.codeIn K cdv f = true) (k : PySem.W.keepIn K (.ref fa) = true) : DefOk K mg gi f fd := by
  have F := fun_mk (st := st) l c k
  obtain ⟨fuel, cb⟩ := T.cb
  exact ⟨st, N, ps, fa, _, fuel, PySem.W.mg_of X G a, F, F.binds T.bd, T.sc, T.nl, T.np, cb⟩
mutual
inductive KD (K : PySem.W.Frag) : D → Value → Prop
  | non : KD K .non .none
  | bl (b : Bool) : KD K (.bl b) (.bool b)
  | int (i : Int) (t : Tok) : KD K (.int i) (.int i t)
  | str (x : Str) (t : Tok) : KD K (.str x) (.str x t)
  | tup {a : Addr} {od : Option Addr} {its : List Value} {n : Nat} {sl : Array (Option Value)} {ds : List D} : K.lookup a = some ⟨.type "tuple", od, .seq its.toArray n, sl⟩ → its.length ≤ sizeLine → KDs K ds its → KD K (.tup ds) (.ref a)
inductive KDs (K : PySem.W.Frag) : List D → List Value → Prop
  | nil : KDs K [] []
  | cons {d : D} {v : Value} {ds : List D} {vs : List Value} : KD K d v → KDs K ds vs → KDs K (d :: ds) (v :: vs)
end
mutual
theorem KD.rep : ∀ {d : D} {u : Value}, KD K d u → ∃ v, RelV v u ∧ ∀ η m H, Rep K η m H d v
  | _, _, .non => ⟨.non, rfl, fun _ _ _ => .non⟩
  | _, _, .bl b => ⟨.bl b, rfl, fun _ _ _ => .bl b⟩
  | _, _, .int i t => ⟨.int i, ⟨t, rfl⟩, fun _ _ _ => .int i⟩
  | _, _, .str x t => ⟨.str x, ⟨t, rfl⟩, fun _ _ _ => .str x⟩
  | _, _, .tup l hl r => by
    obtain ⟨vs, h1, h2⟩ := KDs.rep r
    exact ⟨.ref _, rfl, fun η m H => .tup (.inr ⟨_, _, _, l, rfl, rfl, by simpa using hl, by simpa using h1⟩) (h2 η m H)⟩
theorem KDs.rep : ∀ {ds : List D} {us : List Value}, KDs K ds us → ∃ vs, Vals vs us ∧ ∀ η m H, Reps K η m H ds vs
  | _, _, .nil => ⟨[], .nil, fun _ _ _ => .nil⟩
  | _, _, .cons a b => by
    obtain ⟨v, h1, h2⟩ := KD.rep a
    obtain ⟨vs, h3, h4⟩ := KDs.rep b
    exact ⟨v :: vs, .cons h1 h3, fun η m H => .cons (h2 η m H) (h4 η m H)⟩
end
theorem const_mk {x : Str} {d : D} {u : Value} (a : PySem.W.nsIn K mainGlobals x = some (some u)) (b : KD K d u) : ∃ u, PySem.W.nsIn K mainGlobals x = some (some u) ∧ KD K d u := ⟨u, a, b⟩
theorem kd_tup {a : Addr} {od : Option Addr} {v : Value} {its : List Value} {n : Nat} {sl : Array (Option Value)} {ds : List D} (e : v = .ref a) (l : K.lookup a = some ⟨.type "tuple", od, .seq its.toArray n, sl⟩) (h : its.length ≤ sizeLine) (r : KDs K ds its) : KD K (.tup ds) v := e ▸ .tup l h r
/-- the names' facts, one by one -/
theorem glob_mk {cs : List (Str × D)} {tl : List (Str × FD)} {bs : List Str} (hgi : gi = ⟨tl.map (·.1), cs.map (·.1), bs⟩) (X : K.In h) (G : h.Ns mainGlobals mg)
    (hd : ∀ q ∈ tl, DefOk K mg gi q.1 q.2) (hc : ∀ q ∈ cs, ∃ u, PySem.W.nsIn K mainGlobals q.1 = some (some u) ∧ KD K q.2 u)
    (hb : ∀ b ∈ bs, if b = "gcd" then mg b = some (.builtin "math.gcd") else mg b = none) : GlobOk K mg gi (fun x => cs.lookup x) (fun x => tl.lookup x) := by
  have lk : ∀ {β : Type} {l : List (Str × β)} {x : Str} {d : β}, l.lookup x = some d → (x, d) ∈ l := fun {β l x d} => by
    induction l with
    | nil => intro e; cases e
    | cons y r ih =>
      obtain ⟨y1, y2⟩ := y
      intro e
      rw [List.lookup] at e
      split at e
      · rename_i q
        cases e
        rw [beq_iff_eq.mp q]
        exact .head _
      · exact .tail _ (ih e)
  have kl : ∀ {β : Type} {l : List (Str × β)} {x : Str}, x ∈ l.map (·.1) → ∃ d, l.lookup x = some d := fun {β l x} => by
    induction l with
    | nil => intro e; cases e
    | cons y r ih =>
      obtain ⟨y1, y2⟩ := y
      intro e
      rw [List.lookup]
      split
      · exact ⟨_, rfl⟩
      · rename_i q
        rcases List.mem_cons.mp e with e | e
        · rw [e, beq_self_eq_true] at q; cases q
        · exact ih e
  subst hgi
  refine ⟨fun f hf => kl hf, fun f fd e => hd _ (lk e), fun x hx => ?_, hb⟩
  obtain ⟨d, e⟩ := kl hx
  obtain ⟨u, h1, h2⟩ := hc _ (lk e)
  obtain ⟨v, h3, h4⟩ := h2.rep
  exact ⟨u, v, d, PySem.W.mg_of X G h1, h3, e, h4⟩
end
end Pf

/-! The defs of the law's program, printed by gen.py. -/
namespace Pf
open PySem PySem.Spec PyProof.Rows L2
/-- common_divisor: one other -/
def d_common_divisor : FD := ⟨2, 2, [.ret (.blt "gcd" [.var 0, .var 1])]⟩
/-- fraction_of: p q by -/
def d_fraction_of : FD := ⟨2, 3, [.asg (.nm 2) (.ite (.cmp .gt (.var 1) (.lit (.int 0))) (.call "common_divisor" [.var 0, .var 1]) (.neg (.call "common_divisor" [.var 0, .var 1]))), .ret (.tup [.bin .fdiv (.var 0) (.var 2), .bin .fdiv (.var 1) (.var 2)])]⟩
/-- fraction_sum: one other -/
def d_fraction_sum : FD := ⟨2, 2, [.ret (.call "fraction_of" [.bin .add (.bin .mul (.idx (.var 0) (.lit (.int 0))) (.idx (.var 1) (.lit (.int 1)))) (.bin .mul (.idx (.var 1) (.lit (.int 0))) (.idx (.var 0) (.lit (.int 1)))), .bin .mul (.idx (.var 0) (.lit (.int 1))) (.idx (.var 1) (.lit (.int 1)))])]⟩
/-- fraction_times: one other -/
def d_fraction_times : FD := ⟨2, 2, [.ret (.call "fraction_of" [.bin .mul (.idx (.var 0) (.lit (.int 0))) (.idx (.var 1) (.lit (.int 0))), .bin .mul (.idx (.var 0) (.lit (.int 1))) (.idx (.var 1) (.lit (.int 1)))])]⟩
/-- fraction_by: one other -/
def d_fraction_by : FD := ⟨2, 2, [.ret (.call "fraction_of" [.bin .mul (.idx (.var 0) (.lit (.int 0))) (.idx (.var 1) (.lit (.int 1))), .bin .mul (.idx (.var 0) (.lit (.int 1))) (.idx (.var 1) (.lit (.int 0)))])]⟩
/-- fraction_power: one k found turn -/
def d_fraction_power : FD := ⟨2, 4, [.asg (.nm 2) (.tup [.lit (.int 1), .lit (.int 1)]), .forr .rng [.var 1] (.nm 3) [.asg (.nm 2) (.call "fraction_times" [.var 2, .var 0])], .ret (.var 2)]⟩
/-- poly_of: numbers found -/
def d_poly_of : FD := ⟨1, 2, [.asg (.nm 1) (.blt "list" [.var 0]), .whil (.and [.cmp .ne (.var 1) (.lst []), .cmp .eq (.idx (.var 1) (.neg (.lit (.int 1)))) (.glob "NONE")]) [.popS (.var 1)], .ret (.blt "tuple" [.var 1])]⟩
/-- flat_of: c -/
def d_flat_of : FD := ⟨1, 1, [.ret (.call "poly_of" [.lst [.var 0]])]⟩
/-- number_at: f i -/
def d_number_at : FD := ⟨2, 2, [.ret (.ite (.cmp .lt (.var 1) (.blt "len" [.var 0])) (.idx (.var 0) (.var 1)) (.glob "NONE"))]⟩
/-- poly_sum: f g i -/
def d_poly_sum : FD := ⟨2, 3, [.ret (.call "poly_of" [.comp .rng [.blt "max" [.blt "len" [.var 0], .blt "len" [.var 1]]] (.nm 2) [] (.call "fraction_sum" [.call "number_at" [.var 0, .var 2], .call "number_at" [.var 1, .var 2]]) [2]])]⟩
/-- poly_often: c f a -/
def d_poly_often : FD := ⟨2, 3, [.ret (.call "poly_of" [.comp .seq [.var 1] (.nm 2) [] (.call "fraction_times" [.var 0, .var 2]) [2]])]⟩
/-- poly_less: f g -/
def d_poly_less : FD := ⟨2, 2, [.ret (.call "poly_sum" [.var 0, .call "poly_often" [.tup [.neg (.lit (.int 1)), .lit (.int 1)], .var 1]])]⟩
/-- whole_numbers: f bottom p q -/
def d_whole_numbers : FD := ⟨1, 4, [.asg (.nm 1) (.lit (.int 1)), .forr .seq [.var 0] (.tup [.nm 2, .nm 3]) [.asg (.nm 1) (.bin .mul (.bin .fdiv (.var 1) (.call "common_divisor" [.var 1, .var 3])) (.var 3))], .ret (.tup [.var 1, .comp .seq [.var 0] (.tup [.nm 2, .nm 3]) [] (.bin .mul (.var 2) (.bin .fdiv (.var 1) (.var 3))) [2, 3]])]⟩
/-- poly_times: f g found i a one some other late j b -/
def d_poly_times : FD := ⟨2, 11, [.asg (.tup [.tup [.nm 5, .nm 6], .tup [.nm 7, .nm 8]]) (.tup [.call "whole_numbers" [.var 0], .call "whole_numbers" [.var 1]]), .asg (.nm 2) (.bin .mul (.lst [.lit (.int 0)]) (.bin .add (.blt "len" [.var 0]) (.blt "len" [.var 1]))), .forr .enum [.var 6] (.tup [.nm 3, .nm 4]) [.forr .enum [.var 8] (.tup [.nm 9, .nm 10]) [.setI (.var 2) (.bin .add (.var 3) (.var 9)) (.bin .add (.idx (.var 2) (.bin .add (.var 3) (.var 9))) (.bin .mul (.var 4) (.var 10)))]], .ret (.call "poly_of" [.comp .seq [.var 2] (.nm 4) [] (.call "fraction_of" [.var 4, .bin .mul (.var 5) (.var 7)]) [4]])]⟩
/-- poly_power: f k found turn -/
def d_poly_power : FD := ⟨2, 4, [.asg (.nm 2) (.tup [.glob "ONE"]), .forr .rng [.var 1] (.nm 3) [.asg (.nm 2) (.call "poly_times" [.var 2, .var 0])], .ret (.var 2)]⟩
/-- poly_within: g h found c -/
def d_poly_within : FD := ⟨2, 4, [.asg (.nm 2) (.tup []), .forr .seq [.rev (.var 0)] (.nm 3) [.asg (.nm 2) (.call "poly_sum" [.call "poly_times" [.var 2, .var 1], .call "flat_of" [.var 3]])], .ret (.var 2)]⟩
/-- poly_divided: f h k rest found often i a -/
def d_poly_divided : FD := ⟨2, 8, [.par [3, 4] [.blt "list" [.var 0], .bin .mul (.lst [.glob "NONE"]) (.blt "max" [.lit (.int 0), .bin .add (.bin .sub (.blt "len" [.var 0]) (.blt "len" [.var 1])) (.lit (.int 1))])], .forr .rng [.bin .sub (.blt "len" [.var 4]) (.lit (.int 1)), .neg (.lit (.int 1)), .neg (.lit (.int 1))] (.nm 2) [.asg (.nm 5) (.call "fraction_by" [.idx (.var 3) (.bin .sub (.bin .add (.var 2) (.blt "len" [.var 1])) (.lit (.int 1))), .idx (.var 1) (.neg (.lit (.int 1)))]), .setI (.var 4) (.var 2) (.var 5), .forr .enum [.var 1] (.tup [.nm 6, .nm 7]) [.setI (.var 3) (.bin .add (.var 2) (.var 6)) (.call "fraction_sum" [.idx (.var 3) (.bin .add (.var 2) (.var 6)), .call "fraction_times" [.tup [.neg (.idx (.var 5) (.lit (.int 0))), .idx (.var 5) (.lit (.int 1))], .var 7]])]], .ret (.tup [.call "poly_of" [.var 4], .call "poly_of" [.var 3]])]⟩
/-- poly_at: f c found a -/
def d_poly_at : FD := ⟨2, 4, [.asg (.nm 2) (.glob "NONE"), .forr .seq [.rev (.var 0)] (.nm 3) [.asg (.nm 2) (.call "fraction_sum" [.call "fraction_times" [.var 2, .var 1], .var 3])], .ret (.var 2)]⟩
/-- slope_of: f i -/
def d_slope_of : FD := ⟨1, 2, [.ret (.call "poly_of" [.comp .rng [.lit (.int 1), .blt "len" [.var 0]] (.nm 1) [] (.call "fraction_times" [.tup [.var 1, .lit (.int 1)], .idx (.var 0) (.var 1)]) [1]])]⟩
/-- normal_of: f c b -/
def d_normal_of : FD := ⟨1, 3, [.par [1, 2] [.idx (.var 0) (.neg (.lit (.int 1))), .idx (.var 0) (.lit (.int 0))], .ret (.tup [.var 1, .var 2, .call "poly_often" [.call "fraction_by" [.glob "ONE", .var 1], .call "poly_less" [.var 0, .call "flat_of" [.var 2]]]])]⟩
/-- dickson: n t turn here late -/
def d_dickson : FD := ⟨2, 5, [.par [3, 4] [.call "flat_of" [.tup [.lit (.int 2), .lit (.int 1)]], .glob "X"], .forr .rng [.var 0] (.nm 2) [.par [3, 4] [.var 4, .call "poly_less" [.call "poly_times" [.glob "X", .var 4], .call "poly_often" [.var 1, .var 3]]]], .ret (.var 3)]⟩
/-- dickson_normal: n t -/
def d_dickson_normal : FD := ⟨2, 2, [.ret (.idx (.call "normal_of" [.call "dickson" [.var 0, .var 1]]) (.lit (.int 2)))]⟩
/-- exchanged_steps: a b t one -/
def d_exchanged_steps : FD := ⟨3, 4, [.asg (.nm 3) (.tup [.call "dickson" [.var 0, .call "fraction_power" [.var 2, .var 1]], .call "dickson" [.var 1, .var 2]]), .ret (.tup [.var 3, .tup [.call "dickson" [.var 1, .call "fraction_power" [.var 2, .var 0]], .call "dickson" [.var 0, .var 2]]])]⟩
/-- digits_of: f h found rest -/
def d_digits_of : FD := ⟨2, 4, [.asg (.nm 2) (.lst []), .whil (.cmp .ne (.var 0) (.tup [])) [.asg (.tup [.nm 0, .nm 3]) (.call "poly_divided" [.var 0, .var 1]), .app (.var 2) (.var 3)], .ret (.blt "tuple" [.var 2])]⟩
/-- is_flat: f -/
def d_is_flat : FD := ⟨1, 1, [.ret (.cmp .lt (.blt "len" [.var 0]) (.lit (.int 2)))]⟩
/-- are_fraction_digits: digits digit -/
def d_are_fraction_digits : FD := ⟨1, 2, [.ret (.blt "all" [.comp .seq [.var 0] (.nm 1) [] (.call "is_flat" [.var 1]) [1]])]⟩
/-- outer_part: f h digits digit -/
def d_outer_part : FD := ⟨2, 4, [.asg (.nm 2) (.call "digits_of" [.var 0, .var 1]), .ret (.ite (.call "are_fraction_digits" [.var 2]) (.call "poly_of" [.comp .seq [.var 2] (.nm 3) [] (.call "number_at" [.var 3, .lit (.int 0)]) [3]]) (.lit .non))]⟩
/-- wave_rest: f t round_one far late n slope -/
def d_wave_rest : FD := ⟨2, 7, [.par [5, 6] [.bin .sub (.blt "len" [.var 0]) (.lit (.int 1)), .call "slope_of" [.var 0]], .asg (.nm 2) (.call "poly_of" [.lst [.call "fraction_times" [.tup [.neg (.lit (.int 4)), .lit (.int 1)], .var 1], .glob "NONE", .glob "ONE"]]), .asg (.nm 3) (.call "flat_of" [.call "fraction_times" [.tup [.lit (.int 4), .lit (.int 1)], .call "fraction_power" [.var 1, .var 5]]]), .asg (.nm 4) (.call "poly_often" [.tup [.bin .mul (.var 5) (.var 5), .lit (.int 1)], .call "poly_less" [.call "poly_power" [.var 0, .lit (.int 2)], .var 3]]), .ret (.call "poly_less" [.call "poly_times" [.var 2, .call "poly_power" [.var 6, .lit (.int 2)]], .var 4])]⟩
/-- _law_source: script mixed cell -/
def d__law_source : FD := ⟨1, 3, [.asg (.nm 1) (.lit (.int 11)), .forr .seq [.var 0] (.nm 2) [.asg (.nm 1) (.bin .mod (.blt "int" [.bin .add (.bin .add (.bin .mul (.var 1) (.lit (.int 69069))) (.bin .mul (.var 2) (.lit (.int 31)))) (.lit (.int 5))]) (.lit (.int 2147483629)))], .ret (.dict ["cells", "left", "mixed", "turn"] [.rev (.comp .seq [.var 0] (.nm 2) [] (.blt "abs" [.var 2]) [2]), .lit (.int 1), .var 1, .lit (.int 0)])]⟩
/-- _law_pick: source many left mixed -/
def d__law_pick : FD := ⟨2, 4, [.whil (.and [.cmp .gt (.var 1) (.lit (.int 1)), .cmp .lt (.idx (.var 0) (.lit (.str "left"))) (.lit (.int 2)), .cmp .gt (.blt "len" [.idx (.var 0) (.lit (.str "cells"))]) (.lit (.int 0))]) [.setI (.var 0) (.lit (.str "left")) (.pop (.idx (.var 0) (.lit (.str "cells"))))], .asg (.nm 2) (.idx (.var 0) (.lit (.str "left"))), .ite (.or [.cmp .lt (.var 1) (.lit (.int 2)), .cmp .gt (.var 2) (.lit (.int 1))]) [.setI (.var 0) (.lit (.str "left")) (.bin .fdiv (.var 2) (.blt "max" [.lit (.int 1), .var 1])), .ret (.bin .mod (.blt "int" [.var 2]) (.blt "max" [.lit (.int 1), .var 1]))] [], .setI (.var 0) (.lit (.str "turn")) (.bin .add (.idx (.var 0) (.lit (.str "turn"))) (.lit (.int 1))), .asg (.nm 3) (.bin .mod (.blt "int" [.bin .add (.idx (.var 0) (.lit (.str "mixed"))) (.bin .mul (.idx (.var 0) (.lit (.str "turn"))) (.lit (.int 104729)))]) (.lit (.int 998244353))), .asg (.nm 3) (.bin .mod (.blt "int" [.bin .add (.bin .mul (.var 3) (.var 3)) (.bin .mul (.idx (.var 0) (.lit (.str "turn"))) (.lit (.int 17)))]) (.lit (.int 2147483647))), .setI (.var 0) (.lit (.str "mixed")) (.var 3), .ret (.bin .mod (.blt "int" [.bin .fdiv (.var 3) (.lit (.int 16))]) (.var 1))]⟩
/-- _law_of: source some -/
def d__law_of : FD := ⟨2, 2, [.ret (.idx (.var 1) (.call "_law_pick" [.var 0, .blt "len" [.var 1]]))]⟩
/-- _law_low: p q a b -/
def d__law_low : FD := ⟨2, 4, [.par [2, 3] [.blt "abs" [.var 0], .blt "abs" [.var 1]], .whil (.cmp .gt (.var 3) (.lit (.int 0))) [.par [2, 3] [.var 3, .bin .mod (.blt "int" [.var 2]) (.var 3)]], .asg (.nm 2) (.ite (.cmp .gt (.var 1) (.lit (.int 0))) (.var 2) (.bin .sub (.lit (.int 0)) (.var 2))), .ret (.tup [.bin .fdiv (.var 0) (.var 2), .bin .fdiv (.var 1) (.var 2)])]⟩
/-- _law_plus: one other -/
def d__law_plus : FD := ⟨2, 2, [.ret (.call "_law_low" [.bin .add (.bin .mul (.idx (.var 0) (.lit (.int 0))) (.idx (.var 1) (.lit (.int 1)))) (.bin .mul (.idx (.var 1) (.lit (.int 0))) (.idx (.var 0) (.lit (.int 1)))), .bin .mul (.idx (.var 0) (.lit (.int 1))) (.idx (.var 1) (.lit (.int 1)))])]⟩
/-- _law_by: one other -/
def d__law_by : FD := ⟨2, 2, [.ret (.call "_law_low" [.bin .mul (.idx (.var 0) (.lit (.int 0))) (.idx (.var 1) (.lit (.int 0))), .bin .mul (.idx (.var 0) (.lit (.int 1))) (.idx (.var 1) (.lit (.int 1)))])]⟩
/-- _law_poly: numbers found -/
def d__law_poly : FD := ⟨1, 2, [.asg (.nm 1) (.blt "list" [.var 0]), .whil (.and [.cmp .ne (.var 1) (.lst []), .cmp .eq (.idx (.idx (.var 1) (.neg (.lit (.int 1)))) (.lit (.int 0))) (.lit (.int 0))]) [.popS (.var 1)], .ret (.blt "tuple" [.var 1])]⟩
/-- _law_sum: f g many one other a b -/
def d__law_sum : FD := ⟨2, 7, [.asg (.nm 2) (.blt "max" [.blt "len" [.var 0], .blt "len" [.var 1]]), .par [3, 4] [.bin .add (.blt "list" [.var 0]) (.bin .mul (.lst [.tup [.lit (.int 0), .lit (.int 1)]]) (.bin .sub (.var 2) (.blt "len" [.var 0]))), .bin .add (.blt "list" [.var 1]) (.bin .mul (.lst [.tup [.lit (.int 0), .lit (.int 1)]]) (.bin .sub (.var 2) (.blt "len" [.var 1])))], .ret (.call "_law_poly" [.comp .zip [.var 3, .var 4] (.tup [.nm 5, .nm 6]) [] (.call "_law_plus" [.var 5, .var 6]) [5, 6]])]⟩
/-- _law_often: c f a -/
def d__law_often : FD := ⟨2, 3, [.ret (.call "_law_poly" [.comp .seq [.var 1] (.nm 2) [] (.call "_law_by" [.var 0, .var 2]) [2]])]⟩
/-- _law_product: f g found i a j b -/
def d__law_product : FD := ⟨2, 7, [.asg (.nm 2) (.bin .mul (.lst [.tup [.lit (.int 0), .lit (.int 1)]]) (.bin .add (.blt "len" [.var 0]) (.blt "len" [.var 1]))), .forr .enum [.var 0] (.tup [.nm 3, .nm 4]) [.forr .enum [.var 1] (.tup [.nm 5, .nm 6]) [.setI (.var 2) (.bin .add (.var 3) (.var 5)) (.call "_law_plus" [.idx (.var 2) (.bin .add (.var 3) (.var 5)), .call "_law_by" [.var 4, .var 6]])]], .ret (.call "_law_poly" [.var 2])]⟩
/-- _law_within: g h c found power -/
def d__law_within : FD := ⟨2, 5, [.asg (.tup [.nm 3, .nm 4]) (.tup [.tup [], .tup [.tup [.lit (.int 1), .lit (.int 1)]]]), .forr .seq [.var 0] (.nm 2) [.par [3, 4] [.call "_law_sum" [.var 3, .call "_law_often" [.var 2, .var 4]], .call "_law_product" [.var 4, .var 1]]], .ret (.var 3)]⟩
/-- _law_normal_of: f low c b -/
def d__law_normal_of : FD := ⟨1, 4, [.par [2, 3] [.idx (.var 0) (.neg (.lit (.int 1))), .idx (.var 0) (.lit (.int 0))], .asg (.nm 1) (.call "_law_often" [.call "_law_low" [.idx (.var 2) (.lit (.int 1)), .idx (.var 2) (.lit (.int 0))], .call "_law_sum" [.var 0, .ite (.cmp .ne (.idx (.var 3) (.lit (.int 0))) (.lit (.int 0))) (.tup [.tup [.bin .sub (.lit (.int 0)) (.idx (.var 3) (.lit (.int 0))), .idx (.var 3) (.lit (.int 1))]]) (.tup [])]]), .ret (.tup [.var 2, .var 3, .var 1])]⟩
/-- _law_to: c k found turn -/
def d__law_to : FD := ⟨2, 4, [.asg (.nm 2) (.tup [.lit (.int 1), .lit (.int 1)]), .forr .rng [.var 1] (.nm 3) [.asg (.nm 2) (.call "_law_by" [.var 2, .var 0])], .ret (.var 2)]⟩
/-- _law_choose: n k found i -/
def d__law_choose : FD := ⟨2, 4, [.asg (.nm 2) (.lit (.int 1)), .forr .rng [.var 1] (.nm 3) [.asg (.nm 2) (.bin .fdiv (.bin .mul (.var 2) (.bin .sub (.var 0) (.var 3))) (.bin .add (.var 3) (.lit (.int 1))))], .ret (.var 2)]⟩
/-- _law_dickson: n t i found low -/
def d__law_dickson : FD := ⟨2, 5, [.par [3, 4] [.bin .mul (.lst [.tup [.lit (.int 0), .lit (.int 1)]]) (.bin .add (.var 0) (.lit (.int 1))), .tup [.bin .sub (.lit (.int 0)) (.idx (.var 1) (.lit (.int 0))), .idx (.var 1) (.lit (.int 1))]], .forr .rng [.bin .add (.bin .fdiv (.var 0) (.lit (.int 2))) (.lit (.int 1))] (.nm 2) [.setI (.var 3) (.bin .sub (.var 0) (.bin .mul (.lit (.int 2)) (.var 2))) (.call "_law_by" [.tup [.bin .fdiv (.bin .mul (.var 0) (.call "_law_choose" [.bin .sub (.var 0) (.var 2), .var 2])) (.bin .sub (.var 0) (.var 2)), .lit (.int 1)], .call "_law_to" [.var 4, .var 2]])], .ret (.blt "tuple" [.var 3])]⟩
/-- _law_told_t: source -/
def d__law_told_t : FD := ⟨1, 1, [.ret (.call "_law_of" [.var 0, .lst [.tup [.lit (.int 0), .lit (.int 1)], .tup [.lit (.int 1), .lit (.int 1)], .tup [.neg (.lit (.int 1)), .lit (.int 1)], .tup [.lit (.int 2), .lit (.int 1)], .tup [.lit (.int 1), .lit (.int 4)], .tup [.neg (.lit (.int 1)), .lit (.int 2)], .tup [.lit (.int 4), .lit (.int 1)], .tup [.lit (.int 3), .lit (.int 2)]]])]⟩
/-- _law_at: f x c found power -/
def d__law_at : FD := ⟨2, 5, [.asg (.tup [.nm 3, .nm 4]) (.tup [.tup [.lit (.int 0), .lit (.int 1)], .tup [.lit (.int 1), .lit (.int 1)]]), .forr .seq [.var 0] (.nm 2) [.par [3, 4] [.call "_law_plus" [.var 3, .call "_law_by" [.var 2, .var 4]], .call "_law_by" [.var 4, .var 1]]], .ret (.var 3)]⟩
/-- law: script source lap f y late due c small bent n t m k upper lower one other sized power -/
def d_law : FD := ⟨1, 20, [.asg (.nm 1) (.call "_law_source" [.var 0]), .forr .rng [.lit (.int 4)] (.nm 2) [.par [10, 11] [.bin .add (.lit (.int 1)) (.call "_law_pick" [.var 1, .idx (.lst [.lit (.int 4), .lit (.int 8), .lit (.int 12), .lit (.int 20)]) (.var 2)]), .call "_law_told_t" [.var 1]], .asg (.nm 3) (.call "_law_dickson" [.var 10, .var 11]), .ite (.or [.cmp .ne (.blt "repr" [.call "dickson" [.var 10, .var 11]]) (.blt "repr" [.var 3]), .cmp .ne (.blt "repr" [.call "dickson_normal" [.var 10, .var 11]]) (.blt "repr" [.idx (.call "_law_normal_of" [.var 3]) (.lit (.int 2))])]) [.ret (.lit (.bl false))] [], .asg (.nm 4) (.call "_law_low" [.call "_law_of" [.var 1, .lst [.lit (.int 1), .neg (.lit (.int 1)), .lit (.int 2), .neg (.lit (.int 3)), .lit (.int 5)]], .bin .add (.lit (.int 1)) (.call "_law_pick" [.var 1, .lit (.int 3)])]), .asg (.nm 5) (.call "_law_by" [.var 11, .call "_law_low" [.idx (.var 4) (.lit (.int 1)), .idx (.var 4) (.lit (.int 0))]]), .ite (.cmp .ne (.call "poly_at" [.call "dickson" [.var 10, .var 11], .call "_law_plus" [.var 4, .var 5]]) (.call "_law_plus" [.call "_law_to" [.var 4, .var 10], .call "_law_to" [.var 5, .var 10]])) [.ret (.lit (.bl false))] [], .ite (.cmp .ne (.call "_law_at" [.var 3, .tup [.bin .sub (.lit (.int 0)) (.idx (.var 4) (.lit (.int 0))), .idx (.var 4) (.lit (.int 1))]]) (.call "_law_by" [.tup [.bin .sub (.lit (.int 1)) (.bin .mul (.lit (.int 2)) (.bin .mod (.blt "int" [.var 10]) (.lit (.int 2)))), .lit (.int 1)], .call "_law_at" [.var 3, .var 4]])) [.ret (.lit (.bl false))] [], .par [12, 13] [.bin .add (.lit (.int 1)) (.call "_law_pick" [.var 1, .lit (.int 4)]), .bin .add (.lit (.int 1)) (.call "_law_pick" [.var 1, .lit (.int 4)])], .par [14, 15] [.call "dickson" [.var 12, .call "_law_to" [.var 11, .var 13]], .call "dickson" [.var 13, .var 11]], .ite (.cmp .ne (.call "poly_within" [.var 14, .var 15]) (.call "_law_dickson" [.bin .mul (.var 12) (.var 13), .var 11])) [.ret (.lit (.bl false))] [], .ite (.cmp .ne (.blt "repr" [.call "outer_part" [.call "dickson" [.bin .mul (.var 12) (.var 13), .var 11], .call "dickson_normal" [.var 13, .var 11]]]) (.blt "repr" [.call "_law_within" [.var 14, .call "_law_poly" [.lst [.idx (.var 15) (.lit (.int 0)), .tup [.lit (.int 1), .lit (.int 1)]]]]])) [.ret (.lit (.bl false))] [], .asg (.tup [.nm 16, .nm 17]) (.call "exchanged_steps" [.var 12, .var 13, .var 11]), .asg (.nm 6) (.tup [.call "_law_dickson" [.var 12, .call "_law_to" [.var 11, .var 13]], .call "_law_dickson" [.var 13, .var 11]]), .asg (.nm 6) (.tup [.var 6, .tup [.call "_law_dickson" [.var 13, .call "_law_to" [.var 11, .var 12]], .call "_law_dickson" [.var 12, .var 11]]]), .ite (.or [.cmp .ne (.blt "repr" [.tup [.var 16, .var 17]]) (.blt "repr" [.var 6]), .cmp .ne (.call "poly_within" [.idx (.var 16) (.lit (.int 0)), .idx (.var 16) (.lit (.int 1))]) (.call "poly_within" [.idx (.var 17) (.lit (.int 0)), .idx (.var 17) (.lit (.int 1))])]) [.ret (.lit (.bl false))] [], .par [18, 19] [.lst [], .tup [.lit (.int 1), .lit (.int 1)]], .forr .seq [.var 3] (.nm 7) [.app (.var 18) (.call "_law_by" [.var 7, .var 19]), .asg (.nm 19) (.call "_law_by" [.var 19, .var 4])], .asg (.nm 8) (.call "_law_by" [.var 11, .call "_law_to" [.call "_law_low" [.idx (.var 4) (.lit (.int 1)), .idx (.var 4) (.lit (.int 0))], .lit (.int 2)]]), .ite (.cmp .ne (.call "_law_often" [.call "_law_to" [.var 4, .var 10], .call "dickson" [.var 10, .var 8]]) (.blt "tuple" [.var 18])) [.ret (.lit (.bl false))] [], .asg (.nm 9) (.call "_law_sum" [.var 3, .bin .add (.bin .mul (.tup [.tup [.lit (.int 0), .lit (.int 1)]]) (.call "_law_pick" [.var 1, .var 10])) (.tup [.call "_law_of" [.var 1, .lst [.tup [.lit (.int 1), .lit (.int 1)], .tup [.neg (.lit (.int 1)), .lit (.int 2)]]]])]), .ite (.or [.cmp .ne (.call "wave_rest" [.var 3, .var 11]) (.tup []), .cmp .ne (.call "wave_rest" [.call "_law_often" [.tup [.neg (.lit (.int 1)), .lit (.int 1)], .var 3], .var 11]) (.tup []), .cmp .eq (.call "wave_rest" [.var 9, .var 11]) (.tup [])]) [.ret (.lit (.bl false))] []], .ret (.and [.cmp .eq (.call "dickson" [.lit (.int 0), .tup [.lit (.int 5), .lit (.int 1)]]) (.tup [.tup [.lit (.int 2), .lit (.int 1)]]), .cmp .eq (.call "dickson" [.lit (.int 4), .tup [.lit (.int 1), .lit (.int 1)]]) (.tup [.tup [.lit (.int 2), .lit (.int 1)], .tup [.lit (.int 0), .lit (.int 1)], .tup [.neg (.lit (.int 4)), .lit (.int 1)], .tup [.lit (.int 0), .lit (.int 1)], .tup [.lit (.int 1), .lit (.int 1)]])])]⟩
end Pf

/-! Step by step: rules by which simp evaluates the small language, without going into what comes later. -/
namespace Pf.Z
open PySem PySem.Spec PyProof.Rows L2
noncomputable section
variable {C : Cfg} {ρ : En} {S : Sto}
def vK : Option (Option D) → Sto → Option (D × Sto)
  | some (some d), S => some (d, S)
  | _, _ => none
theorem vK_some (d : D) : vK (some (some d)) S = some (d, S) := rfl
theorem e_var (i : Nat) : evE C (.var i) ρ S = vK ρ[i]? S := by
  simp only [evE, vK]
  split <;> simp_all
theorem e_lit (l : Lit) : evE C (.lit l) ρ S = some (l.d, S) := by simp only [evE]
theorem lit_non : Lit.non.d = D.non := rfl
theorem lit_bl (b : Bool) : (Lit.bl b).d = D.bl b := rfl
theorem lit_int (i : Int) : (Lit.int i).d = D.int i := rfl
theorem lit_str (x : Str) : (Lit.str x).d = D.str x := rfl
theorem e_glob (x : Str) : evE C (.glob x) ρ S = (C.cst x).map fun d => (d, S) := by simp only [evE]
/-- one value, then more -/
def oneK (o : Option (D × Sto)) (f : D → Sto → Option (D × Sto)) : Option (D × Sto) := o.bind fun p => f p.1 p.2
theorem oneK_some (d : D) (f : D → Sto → Option (D × Sto)) : oneK (some (d, S)) f = f d S := rfl
def bin1 (C : Cfg) (op : BOp) (b : Ex) (ρ : En) : Option (D × Sto) → Option (D × Sto)
  | some (x, S) => (evE C b ρ S).bind fun q => binD op x q.1 q.2
  | none => none
def bin2 (op : BOp) (x : D) : Option (D × Sto) → Option (D × Sto)
  | some (y, S) => binD op x y S
  | none => none
theorem e_bin (op : BOp) (a b : Ex) : evE C (.bin op a b) ρ S = bin1 C op b ρ (evE C a ρ S) := by
  simp only [evE]
  cases evE C a ρ S <;> rfl
theorem bin1_some (op : BOp) (b : Ex) (x : D) : bin1 C op b ρ (some (x, S)) = bin2 op x (evE C b ρ S) := by
  unfold bin1
  simp only
  cases evE C b ρ S <;> rfl
theorem bin2_some (op : BOp) (x y : D) : bin2 op x (some (y, S)) = binD op x y S := rfl
theorem d_add (i j : Int) : binD .add (.int i) (.int j) S = some (.int (i + j), S) := by simp only [binD]
theorem d_sub (i j : Int) : binD .sub (.int i) (.int j) S = some (.int (i - j), S) := by simp only [binD]
theorem d_mul {i j : Int} (h : mulOk i j = true) : binD .mul (.int i) (.int j) S = some (.int (i * j), S) := by simp only [binD, h, if_true]
theorem d_fdiv {i j : Int} (h : divOk j = true) : binD .fdiv (.int i) (.int j) S = some (.int (i.fdiv j), S) := by simp only [binD, h, if_true]
theorem d_mod {i j : Int} (h : j ≠ 0) : binD .mod (.int i) (.int j) S = some (.int (i.fmod j), S) := by simp [binD, h]
def negK : Option (D × Sto) → Option (D × Sto)
  | some (.int i, S) => some (.int (-i), S)
  | _ => none
theorem e_neg (a : Ex) : evE C (.neg a) ρ S = negK (evE C a ρ S) := by
  simp only [evE]
  cases evE C a ρ S with
  | none => rfl
  | some p => obtain ⟨d, S'⟩ := p; cases d <;> rfl
theorem negK_some (i : Int) : negK (some (.int i, S)) = some (.int (-i), S) := rfl
def cmp1 (C : Cfg) (op : COp) (b : Ex) (ρ : En) : Option (D × Sto) → Option (D × Sto)
  | some (x, S) => (evE C b ρ S).bind fun q => (cmpD op x q.1 q.2).map fun d => (d, q.2)
  | none => none
def cmp2 (op : COp) (x : D) : Option (D × Sto) → Option (D × Sto)
  | some (y, S) => (cmpD op x y S).map fun d => (d, S)
  | none => none
theorem e_cmp (op : COp) (a b : Ex) : evE C (.cmp op a b) ρ S = cmp1 C op b ρ (evE C a ρ S) := by
  simp only [evE]
  cases evE C a ρ S <;> rfl
theorem cmp1_some (op : COp) (b : Ex) (x : D) : cmp1 C op b ρ (some (x, S)) = cmp2 op x (evE C b ρ S) := by
  unfold cmp1
  simp only
  cases evE C b ρ S <;> rfl
theorem cmp2_some (op : COp) (x y : D) : cmp2 op x (some (y, S)) = (cmpD op x y S).map fun d => (d, S) := rfl
theorem map_some2 (d : D) : (Option.map (fun d => (d, S)) (some d) : Option (D × Sto)) = some (d, S) := rfl
theorem c_lt (i j : Int) : cmpD .lt (.int i) (.int j) S = some (.bl (decide (i < j))) := rfl
theorem c_le (i j : Int) : cmpD .le (.int i) (.int j) S = some (.bl (decide (i ≤ j))) := rfl
theorem c_gt (i j : Int) : cmpD .gt (.int i) (.int j) S = some (.bl (decide (j < i))) := rfl
theorem c_ge (i j : Int) : cmpD .ge (.int i) (.int j) S = some (.bl (decide (j ≤ i))) := rfl
theorem c_eqI (i j : Int) : cmpD .eq (.int i) (.int j) S = some (.bl (decide (i = j))) := by
  simp [cmpD, twoS, toPy, pyD, SeqAt.shaped, PyData.canLay0, PyData.depth, PyData.eqv]
  rw [Bool.eq_iff_iff]; simp
theorem c_neI (i j : Int) : cmpD .ne (.int i) (.int j) S = some (.bl (!decide (i = j))) := by
  simp [cmpD, twoS, toPy, pyD, SeqAt.shaped, PyData.canLay0, PyData.depth, PyData.eqv]
  rw [Bool.eq_iff_iff]; simp
theorem c_eqS (x y : Str) : cmpD .eq (.str x) (.str y) S = some (.bl (decide (x = y))) := rfl
theorem c_neS (x y : Str) : cmpD .ne (.str x) (.str y) S = some (.bl (!decide (x = y))) := rfl
theorem c_isN (a : D) : cmpD .isN a .non S = some (.bl (match a with | .non => true | _ => false)) := rfl
theorem c_notN (a : D) : cmpD .notN a .non S = some (.bl (match a with | .non => false | _ => true)) := rfl
/-! truth -/
def tK : Option (D × Sto) → Option (Bool × Sto)
  | some (.bl c, S) => some (c, S)
  | _ => none
theorem tK_some (c : Bool) : tK (some (.bl c, S)) = some (c, S) := rfl
def notK : Option (Bool × Sto) → Option (Bool × Sto)
  | some (c, S) => some (!c, S)
  | none => none
theorem notK_some (c : Bool) : notK (some (c, S)) = some (!c, S) := rfl
def blK : Option (Bool × Sto) → Option (D × Sto)
  | some (c, S) => some (.bl c, S)
  | none => none
theorem blK_some (c : Bool) : blK (some (c, S)) = some (.bl c, S) := rfl
theorem e_not (a : Ex) : evE C (.not a) ρ S = blK (notK (evT C a ρ S)) := by
  simp only [evE]
  cases evT C a ρ S <;> rfl
theorem e_and (es : List Ex) : evE C (.and es) ρ S = blK (evAnd C es ρ S) := by
  simp only [evE]
  cases evAnd C es ρ S <;> rfl
theorem e_or (es : List Ex) : evE C (.or es) ρ S = blK (evOr C es ρ S) := by
  simp only [evE]
  cases evOr C es ρ S <;> rfl
theorem t_not (a : Ex) : evT C (.not a) ρ S = notK (evT C a ρ S) := by
  simp only [evT]
  cases evT C a ρ S <;> rfl
theorem t_and (es : List Ex) : evT C (.and es) ρ S = evAnd C es ρ S := by simp only [evT]
theorem t_or (es : List Ex) : evT C (.or es) ρ S = evOr C es ρ S := by simp only [evT]
theorem t_cmp (op : COp) (a b : Ex) : evT C (.cmp op a b) ρ S = tK (evE C (.cmp op a b) ρ S) := by
  simp only [evT, evE]
  cases evE C a ρ S with
  | none => rfl
  | some p =>
    simp only [Option.bind_some]
    cases evE C b ρ p.2 with
    | none => rfl
    | some q =>
      simp only [Option.bind_some]
      cases cmpD op p.1 q.1 q.2 with
      | none => rfl
      | some d => cases d <;> rfl
theorem t_call (f : Str) (es : List Ex) : evT C (.call f es) ρ S = tK (evE C (.call f es) ρ S) := by
  simp only [evT, evE]
  cases evEs C es ρ S with
  | none => rfl
  | some p =>
    simp only [Option.bind_some]
    cases C.cal f p.1 p.2 with
    | none => rfl
    | some q => obtain ⟨d, S'⟩ := q; cases d <;> rfl
theorem t_blt (f : Str) (es : List Ex) : evT C (.blt f es) ρ S = tK (evE C (.blt f es) ρ S) := by
  simp only [evT, evE]
  cases evEs C es ρ S with
  | none => rfl
  | some p =>
    simp only [Option.bind_some]
    cases bltD f p.1 p.2 with
    | none => rfl
    | some q => obtain ⟨d, S'⟩ := q; cases d <;> rfl
def andK (C : Cfg) (es : List Ex) (ρ : En) : Option (Bool × Sto) → Option (Bool × Sto)
  | some (c, S) => if c = true then evAnd C es ρ S else some (false, S)
  | none => none
theorem a_nil : evAnd C [] ρ S = some (true, S) := by simp only [evAnd]
theorem a_cons (e : Ex) (es : List Ex) : evAnd C (e :: es) ρ S = andK C es ρ (evT C e ρ S) := by
  simp only [evAnd]
  cases evT C e ρ S <;> rfl
theorem andK_some (c : Bool) (es : List Ex) : andK C es ρ (some (c, S)) = if c = true then evAnd C es ρ S else some (false, S) := rfl
theorem andK_t (es : List Ex) : andK C es ρ (some (true, S)) = evAnd C es ρ S := rfl
theorem andK_f (es : List Ex) : andK C es ρ (some (false, S)) = some (false, S) := rfl
def orK (C : Cfg) (es : List Ex) (ρ : En) : Option (Bool × Sto) → Option (Bool × Sto)
  | some (c, S) => if c = true then some (true, S) else evOr C es ρ S
  | none => none
theorem o_nil : evOr C [] ρ S = some (false, S) := by simp only [evOr]
theorem o_cons (e : Ex) (es : List Ex) : evOr C (e :: es) ρ S = orK C es ρ (evT C e ρ S) := by
  simp only [evOr]
  cases evT C e ρ S <;> rfl
theorem orK_some (c : Bool) (es : List Ex) : orK C es ρ (some (c, S)) = if c = true then some (true, S) else evOr C es ρ S := rfl
theorem orK_t (es : List Ex) : orK C es ρ (some (true, S)) = some (true, S) := rfl
theorem orK_f (es : List Ex) : orK C es ρ (some (false, S)) = evOr C es ρ S := rfl
def iteK (C : Cfg) (a b : Ex) (ρ : En) : Option (Bool × Sto) → Option (D × Sto)
  | some (c, S) => if c = true then evE C a ρ S else evE C b ρ S
  | none => none
theorem e_ite (c a b : Ex) : evE C (.ite c a b) ρ S = iteK C a b ρ (evT C c ρ S) := by
  simp only [evE]
  cases evT C c ρ S <;> rfl
theorem iteK_some (c : Bool) (a b : Ex) : iteK C a b ρ (some (c, S)) = if c = true then evE C a ρ S else evE C b ρ S := rfl
theorem iteK_t (a b : Ex) : iteK C a b ρ (some (true, S)) = evE C a ρ S := rfl
theorem iteK_f (a b : Ex) : iteK C a b ρ (some (false, S)) = evE C b ρ S := rfl
/-! lists -/
def es1 (C : Cfg) (es : List Ex) (ρ : En) : Option (D × Sto) → Option (List D × Sto)
  | some (d, S) => (evEs C es ρ S).map fun q => (d :: q.1, q.2)
  | none => none
def es2 (d : D) : Option (List D × Sto) → Option (List D × Sto)
  | some (ds, S) => some (d :: ds, S)
  | none => none
theorem s_nil : evEs C [] ρ S = some ([], S) := by simp only [evEs]
theorem s_cons (e : Ex) (es : List Ex) : evEs C (e :: es) ρ S = es1 C es ρ (evE C e ρ S) := by
  simp only [evEs]
  cases evE C e ρ S <;> rfl
theorem es1_some (es : List Ex) (d : D) : es1 C es ρ (some (d, S)) = es2 d (evEs C es ρ S) := by
  unfold es1
  simp only
  cases evEs C es ρ S <;> rfl
theorem es2_some (d : D) (ds : List D) : es2 d (some (ds, S)) = some (d :: ds, S) := rfl
def tupK : Option (List D × Sto) → Option (D × Sto)
  | some (ds, S) => if ds.length ≤ sizeLine then some (.tup ds, S) else none
  | none => none
theorem e_tup (es : List Ex) : evE C (.tup es) ρ S = tupK (evEs C es ρ S) := by
  simp only [evE]
  cases evEs C es ρ S <;> rfl
theorem tupK0 : tupK (some ([], S)) = some (.tup [], S) := rfl
theorem tupK1 (a : D) : tupK (some ([a], S)) = some (.tup [a], S) := rfl
theorem tupK2 (a b : D) : tupK (some ([a, b], S)) = some (.tup [a, b], S) := rfl
theorem tupK3 (a b c : D) : tupK (some ([a, b, c], S)) = some (.tup [a, b, c], S) := rfl
theorem tupK4 (a b c d : D) : tupK (some ([a, b, c, d], S)) = some (.tup [a, b, c, d], S) := rfl
theorem tupK5 (a b c d e : D) : tupK (some ([a, b, c, d, e], S)) = some (.tup [a, b, c, d, e], S) := rfl
def lstK : Option (List D × Sto) → Option (D × Sto)
  | some (ds, S) => if ds.length ≤ sizeLine then some (.loc S.length, S ++ [.lst ds]) else none
  | none => none
theorem e_lst (es : List Ex) : evE C (.lst es) ρ S = lstK (evEs C es ρ S) := by
  simp only [evE]
  cases evEs C es ρ S <;> rfl
theorem lstK_some {ds : List D} (h : ds.length ≤ sizeLine) : lstK (some (ds, S)) = some (.loc S.length, S ++ [.lst ds]) := if_pos h
theorem lstK0 : lstK (some ([], S)) = some (.loc S.length, S ++ [.lst []]) := rfl
theorem lstK1 (a : D) : lstK (some ([a], S)) = some (.loc S.length, S ++ [.lst [a]]) := rfl
def calK (C : Cfg) (f : Str) : Option (List D × Sto) → Option (D × Sto)
  | some (ds, S) => C.cal f ds S
  | none => none
theorem e_call (f : Str) (es : List Ex) : evE C (.call f es) ρ S = calK C f (evEs C es ρ S) := by
  simp only [evE]
  cases evEs C es ρ S <;> rfl
theorem calK_some (cal : Str → List D → Sto → Option (D × Sto)) (cst : Str → Option D) (f : Str) (ds : List D) : calK ⟨cal, cst⟩ f (some (ds, S)) = cal f ds S := rfl
def bltK (f : Str) : Option (List D × Sto) → Option (D × Sto)
  | some (ds, S) => bltD f ds S
  | none => none
theorem e_blt (f : Str) (es : List Ex) : evE C (.blt f es) ρ S = bltK f (evEs C es ρ S) := by
  simp only [evE]
  cases evEs C es ρ S <;> rfl
theorem bltK_some (f : Str) (ds : List D) : bltK f (some (ds, S)) = bltD f ds S := rfl
theorem b_gcd (a b : Int) : bltD "gcd" [.int a, .int b] S = some (.int ((Nat.gcd a.natAbs b.natAbs : Nat) : Int), S) := rfl
theorem b_abs (a : Int) : bltD "abs" [.int a] S = some (.int (if a < 0 then -a else a), S) := rfl
theorem b_int (a : Int) : bltD "int" [.int a] S = some (.int a, S) := rfl
theorem b_max (i j : Int) : bltD "max" [.int i, .int j] S = some (.int (if j > i then j else i), S) := rfl
theorem b_min (i j : Int) : bltD "min" [.int i, .int j] S = some (.int (if j < i then j else i), S) := rfl
theorem b_lenT (xs : List D) : bltD "len" [.tup xs] S = some (.int xs.length, S) := rfl
theorem b_lenL (n : Nat) : bltD "len" [.loc n] S = ((S[n]?).bind Cell.items).map fun xs => (.int xs.length, S) := rfl
theorem b_tupT (xs : List D) : bltD "tuple" [.tup xs] S = some (.tup xs, S) := rfl
theorem b_tupL (n : Nat) : bltD "tuple" [.loc n] S = ((S[n]?).bind Cell.items).map fun xs => (.tup xs, S) := rfl
theorem b_lstT (xs : List D) : bltD "list" [.tup xs] S = some (.loc S.length, S ++ [.lst xs]) := rfl
theorem b_lstL (n : Nat) : bltD "list" [.loc n] S = ((S[n]?).bind Cell.items).map fun xs => (.loc S.length, S ++ [.lst xs]) := rfl
theorem b_all (n : Nat) : bltD "all" [.loc n] S = (((S[n]?).bind Cell.items).bind bools).map fun bs => (.bl (bs.all id), S) := rfl
theorem items_lst (xs : List D) : Cell.items (.lst xs) = some xs := rfl
theorem items_ro (xs : List D) : Cell.items (.ro xs) = some xs := rfl
theorem bindS {α β : Type} (x : α) (f : α → Option β) : (some x).bind f = f x := rfl
theorem map_some3 {α β : Type} (f : α → β) (x : α) : Option.map f (some x) = some (f x) := rfl
def idx1 (C : Cfg) (i : Ex) (ρ : En) : Option (D × Sto) → Option (D × Sto)
  | some (x, S) => (evE C i ρ S).bind fun q => (idxD x q.1 q.2).map fun d => (d, q.2)
  | none => none
def idx2 (x : D) : Option (D × Sto) → Option (D × Sto)
  | some (y, S) => (idxD x y S).map fun d => (d, S)
  | none => none
theorem e_idx (a i : Ex) : evE C (.idx a i) ρ S = idx1 C i ρ (evE C a ρ S) := by
  simp only [evE]
  cases evE C a ρ S <;> rfl
theorem idx1_some (i : Ex) (x : D) : idx1 C i ρ (some (x, S)) = idx2 x (evE C i ρ S) := by
  unfold idx1
  simp only
  cases evE C i ρ S <;> rfl
theorem idx2_some (x y : D) : idx2 x (some (y, S)) = (idxD x y S).map fun d => (d, S) := rfl
theorem i_tup (xs : List D) (k : Int) : idxD (.tup xs) (.int k) S = atI xs k := rfl
theorem i_loc (n : Nat) (k : Int) : idxD (.loc n) (.int k) S = ((S[n]?).bind Cell.items).bind fun xs => atI xs k := rfl
theorem i_dct (n : Nat) (x : Str) (kvs : List (Key × D)) (h : S[n]? = some (.dct kvs)) : idxD (.loc n) (.str x) S = (kvs.find? fun q => decide (q.1 = Sum.inr x)).map (·.2) := by simp only [idxD, h]
theorem at_nat {α : Type} (xs : List α) (j : Nat) : atI xs (j : Int) = xs[j]? := by
  unfold atI ixN
  rw [if_pos (by omega)]
  by_cases h : (j : Int) < xs.length
  · rw [if_pos h]; simp
  · rw [if_neg h, List.getElem?_eq_none (by omega)]; rfl
theorem at_0 {α : Type} (a : α) (r : List α) : atI (a :: r) 0 = some a := at_nat (a :: r) 0
theorem at_1 {α : Type} (a b : α) (r : List α) : atI (a :: b :: r) 1 = some b := at_nat (a :: b :: r) 1
theorem at_2 {α : Type} (a b c : α) (r : List α) : atI (a :: b :: c :: r) 2 = some c := at_nat (a :: b :: c :: r) 2
theorem at_3 {α : Type} (a b c d : α) (r : List α) : atI (a :: b :: c :: d :: r) 3 = some d := at_nat (a :: b :: c :: d :: r) 3
def slK (C : Cfg) (lo hi : Option Ex) (ρ : En) : Option (D × Sto) → Option (D × Sto)
  | some (x, S) => (evO C lo ρ S).bind fun q => (evO C hi ρ q.2).bind fun r => sliceD x q.1 r.1 r.2
  | none => none
theorem e_slice (a : Ex) (lo hi : Option Ex) : evE C (.slice a lo hi) ρ S = slK C lo hi ρ (evE C a ρ S) := by
  simp only [evE]
  cases evE C a ρ S <;> rfl
def slK1 (C : Cfg) (x : D) (hi : Option Ex) (ρ : En) : Option (Option Int × Sto) → Option (D × Sto)
  | some (lo, S) => (evO C hi ρ S).bind fun r => sliceD x lo r.1 r.2
  | none => none
def slK2 (x : D) (lo : Option Int) : Option (Option Int × Sto) → Option (D × Sto)
  | some (hi, S) => sliceD x lo hi S
  | none => none
theorem slK_some (lo hi : Option Ex) (x : D) : slK C lo hi ρ (some (x, S)) = slK1 C x hi ρ (evO C lo ρ S) := by
  unfold slK
  simp only
  cases evO C lo ρ S <;> rfl
theorem slK1_some (hi : Option Ex) (x : D) (lo : Option Int) : slK1 C x hi ρ (some (lo, S)) = slK2 x lo (evO C hi ρ S) := by
  unfold slK1
  simp only
  cases evO C hi ρ S <;> rfl
theorem slK2_some (x : D) (lo hi : Option Int) : slK2 x lo (some (hi, S)) = sliceD x lo hi S := rfl
theorem o_none : evO C none ρ S = some (none, S) := by simp only [evO]
def oK : Option (D × Sto) → Option (Option Int × Sto)
  | some (.int i, S) => some (some i, S)
  | _ => none
theorem o_some (e : Ex) : evO C (some e) ρ S = oK (evE C e ρ S) := by
  simp only [evO]
  cases evE C e ρ S with
  | none => rfl
  | some p => obtain ⟨d, S'⟩ := p; cases d <;> rfl
theorem oK_some (i : Int) : oK (some (.int i, S)) = some (some i, S) := rfl
theorem sl_tup (xs : List D) (lo hi : Option Int) : sliceD (.tup xs) lo hi S = some (.tup (cutL xs lo hi), S) := rfl
theorem sl_loc (n : Nat) (lo hi : Option Int) : sliceD (.loc n) lo hi S = ((S[n]?).bind Cell.items).bind fun xs => some (.loc S.length, S ++ [.lst (cutL xs lo hi)]) := rfl
def revK : Option (D × Sto) → Option (D × Sto)
  | some (d, S) => revD d S
  | none => none
theorem e_rev (a : Ex) : evE C (.rev a) ρ S = revK (evE C a ρ S) := by
  simp only [evE]
  cases evE C a ρ S <;> rfl
theorem revK_some (d : D) : revK (some (d, S)) = revD d S := rfl
theorem rv_tup (xs : List D) : revD (.tup xs) S = some (.tup xs.reverse, S) := rfl
theorem rv_loc (n : Nat) : revD (.loc n) S = ((S[n]?).bind Cell.items).bind fun xs => some (.loc S.length, S ++ [.lst xs.reverse]) := rfl
def popK : Option (D × Sto) → Option (D × Sto)
  | some (d, S) => popD d S
  | none => none
theorem e_pop (a : Ex) : evE C (.pop a) ρ S = popK (evE C a ρ S) := by
  simp only [evE]
  cases evE C a ρ S <;> rfl
theorem popK_some (d : D) : popK (some (d, S)) = popD d S := rfl
theorem pop_loc {n : Nat} {xs : List D} {y : D} (h : S[n]? = some (.lst (xs ++ [y]))) : popD (.loc n) S = some (y, S.set n (.lst xs)) := by
  simp [popD, h]
/-! comprehensions -/
def cmpStep (C : Cfg) (t : T) (ifs : List Ex) (elt : Ex) (own : List Nat) (ρ : En) : D → Sto → Option (Option D × Sto) := fun x S1 => (bind1 t x (wipeE ρ own)).bind fun ρ1 => (evAnd C ifs ρ1 S1).bind fun b => if b.1 = true then (evE C elt ρ1 b.2).map fun y => (some y.1, y.2) else some (none, b.2)
def compK (C : Cfg) (k : Kind) (t : T) (ifs : List Ex) (elt : Ex) (own : List Nat) (ρ : En) : Option (List D × Sto) → Option (D × Sto)
  | some (ds, S) => (iterD k ds S).bind fun q => (compGo S.length q.2 S (cmpStep C t ifs elt own ρ) q.1 (S ++ [.lst []])).map fun S2 => (.loc S.length, S2)
  | none => none
def compI (C : Cfg) (t : T) (ifs : List Ex) (elt : Ex) (own : List Nat) (ρ : En) (S : Sto) : Option (List D × List Nat) → Option (D × Sto)
  | some q => (compGo S.length q.2 S (cmpStep C t ifs elt own ρ) q.1 (S ++ [.lst []])).map fun S2 => (.loc S.length, S2)
  | none => none
theorem e_comp (k : Kind) (its : List Ex) (t : T) (ifs : List Ex) (elt : Ex) (own : List Nat) : evE C (.comp k its t ifs elt own) ρ S = compK C k t ifs elt own ρ (evEs C its ρ S) := by
  simp only [evE]
  cases evEs C its ρ S <;> rfl
theorem compK_some (k : Kind) (t : T) (ifs : List Ex) (elt : Ex) (own : List Nat) (ds : List D) : compK C k t ifs elt own ρ (some (ds, S)) = compI C t ifs elt own ρ S (iterD k ds S) := by
  unfold compK
  simp only
  cases iterD k ds S <;> rfl
theorem it_tup (xs : List D) : iterD .seq [.tup xs] S = some (xs, []) := rfl
theorem it_loc (n : Nat) : iterD .seq [.loc n] S = ((S[n]?).bind Cell.items).map fun xs => (xs, [n]) := rfl
theorem it_rng (j : Int) (h : -(2 ^ 62) ≤ j ∧ j < 2 ^ 62) : iterD .rng [.int j] S = some ((List.range j.toNat).map fun i => .int (i : Nat), []) := if_pos h
theorem it_rng2 (i j : Int) (h : -(2 ^ 62) ≤ i ∧ i < 2 ^ 62 ∧ -(2 ^ 62) ≤ j ∧ j < 2 ^ 62) : iterD .rng [.int i, .int j] S = some ((List.range (j - i).toNat).map fun t => .int (i + (t : Nat)), []) := if_pos h
theorem it_rng3 (i j : Int) (h : -(2 ^ 62) ≤ i ∧ i < 2 ^ 62 ∧ -(2 ^ 62) ≤ j ∧ j < 2 ^ 62) : iterD .rng [.int i, .int j, .int (-1)] S = some ((List.range (i - j).toNat).map fun t => .int (i + (t : Nat) * (-1)), []) := if_pos ⟨h.1, h.2.1, h.2.2.1, h.2.2.2, rfl⟩
theorem it_enumT (xs : List D) : iterD .enum [.tup xs] S = some ((List.range xs.length).map fun i => .tup [.int (i : Nat), xs.getD i .non], []) := rfl
theorem it_enumL (n : Nat) : iterD .enum [.loc n] S = ((S[n]?).bind Cell.items).map fun xs => ((List.range xs.length).map fun i => .tup [.int (i : Nat), xs.getD i .non], [n]) := rfl
theorem it_zipT (xs ys : List D) : iterD .zip [.tup xs, .tup ys] S = some ((List.range (min xs.length ys.length)).map fun i => .tup [xs.getD i .non, ys.getD i .non], []) := rfl
theorem it_zipL (n m : Nat) : iterD .zip [.loc n, .loc m] S = ((S[n]?).bind Cell.items).bind fun xs => ((S[m]?).bind Cell.items).map fun ys => ((List.range (min xs.length ys.length)).map fun i => .tup [xs.getD i .non, ys.getD i .non], [n, m]) := rfl
/-! dict displays -/
def dctK (ks : List Str) (n : Nat) : Option (List D × Sto) → Option (D × Sto)
  | some (ds, S) => match S[n]? with
    | some (.dct []) => if ks.length = ds.length ∧ ks.Nodup ∧ ks.length ≤ 15 then some (.loc n, S.set n (.dct ((ks.map Sum.inr).zip ds))) else none
    | _ => none
  | none => none
theorem e_dict (ks : List Str) (es : List Ex) : evE C (.dict ks es) ρ S = dctK ks S.length (evEs C es ρ (S ++ [.dct []])) := by
  simp only [evE]
  cases evEs C es ρ (S ++ [.dct []]) <;> rfl
/-! statements -/
def seqK (C : Cfg) (r : List Sx) : Option (Out × Sto) → Option (Out × Sto)
  | some (.nx ρ, S) => evB C r ρ S
  | o => o
theorem B_nil : evB C [] ρ S = some (.nx ρ, S) := by simp only [evB]
theorem B_cons (s : Sx) (r : List Sx) : evB C (s :: r) ρ S = seqK C r (evS C s ρ S) := by
  simp only [evB]
  cases evS C s ρ S with
  | none => rfl
  | some p => obtain ⟨o, S'⟩ := p; cases o <;> rfl
theorem seqK_nx (r : List Sx) : seqK C r (some (.nx ρ, S)) = evB C r ρ S := rfl
theorem seqK_ret (r : List Sx) (d : D) : seqK C r (some (.ret d, S)) = some (.ret d, S) := rfl
theorem seqK_brk (r : List Sx) : seqK C r (some (.brk ρ, S)) = some (.brk ρ, S) := rfl
theorem seqK_cont (r : List Sx) : seqK C r (some (.cont ρ, S)) = some (.cont ρ, S) := rfl
def asgK (t : T) (ρ : En) : Option (D × Sto) → Option (Out × Sto)
  | some (d, S) => (bind1 t d ρ).map fun ρ' => (.nx ρ', S)
  | none => none
def nxK (S : Sto) : Option En → Option (Out × Sto)
  | some ρ => some (.nx ρ, S)
  | none => none
theorem S_asg (t : T) (e : Ex) : evS C (.asg t e) ρ S = asgK t ρ (evE C e ρ S) := by
  simp only [evS]
  cases evE C e ρ S <;> rfl
theorem asgK_some (t : T) (d : D) : asgK t ρ (some (d, S)) = nxK S (bind1 t d ρ) := by
  unfold asgK
  simp only
  cases bind1 t d ρ <;> rfl
theorem nxK_some : nxK S (some ρ) = some (.nx ρ, S) := rfl
theorem bd_nm (i : Nat) (d : D) : bind1 (.nm i) d ρ = some (ρ.set i (some d)) := by simp only [bind1]
theorem bd_tup (ts : List T) (ds : List D) : bind1 (.tup ts) (.tup ds) ρ = bindL ts ds ρ := by simp only [bind1]
def bdK (ts : List T) (ds : List D) : Option En → Option En
  | some ρ => bindL ts ds ρ
  | none => none
theorem bd_nil : bindL [] [] ρ = some ρ := by simp only [bindL]
theorem bd_cons (t : T) (ts : List T) (d : D) (ds : List D) : bindL (t :: ts) (d :: ds) ρ = bdK ts ds (bind1 t d ρ) := by
  simp only [bindL]
  cases bind1 t d ρ <;> rfl
theorem bdK_some (ts : List T) (ds : List D) : bdK ts ds (some ρ) = bindL ts ds ρ := rfl
def parK (is : List Nat) (ρ : En) : Option (List D × Sto) → Option (Out × Sto)
  | some (ds, S) => nxK S (setAll is ds ρ)
  | none => none
theorem S_par (is : List Nat) (es : List Ex) : evS C (.par is es) ρ S = parK is ρ (evEs C es ρ S) := by
  simp only [evS]
  cases evEs C es ρ S with
  | none => rfl
  | some p =>
    show Option.map _ (setAll is p.1 ρ) = nxK p.2 (setAll is p.1 ρ)
    cases setAll is p.1 ρ <;> rfl
theorem parK_some (is : List Nat) (ds : List D) : parK is ρ (some (ds, S)) = nxK S (setAll is ds ρ) := rfl
theorem sa_nil : setAll [] [] ρ = some ρ := rfl
theorem sa_cons (i : Nat) (is : List Nat) (d : D) (ds : List D) : setAll (i :: is) (d :: ds) ρ = setAll is ds (ρ.set i (some d)) := rfl
def stK (C : Cfg) (o i : Ex) (ρ : En) : Option (D × Sto) → Option (Out × Sto)
  | some (v, S) => (evE C o ρ S).bind fun p => (evE C i ρ p.2).bind fun q => (setD p.1 q.1 v q.2).map fun S' => (.nx ρ, S')
  | none => none
def stK1 (C : Cfg) (v : D) (i : Ex) (ρ : En) : Option (D × Sto) → Option (Out × Sto)
  | some (o, S) => (evE C i ρ S).bind fun q => (setD o q.1 v q.2).map fun S' => (.nx ρ, S')
  | none => none
def stK2 (v o : D) (ρ : En) : Option (D × Sto) → Option (Out × Sto)
  | some (i, S) => (setD o i v S).map fun S' => (.nx ρ, S')
  | none => none
def nxS (ρ : En) : Option Sto → Option (Out × Sto)
  | some S => some (.nx ρ, S)
  | none => none
theorem S_setI (o i e : Ex) : evS C (.setI o i e) ρ S = stK C o i ρ (evE C e ρ S) := by
  simp only [evS]
  cases evE C e ρ S <;> rfl
theorem stK_some (o i : Ex) (v : D) : stK C o i ρ (some (v, S)) = stK1 C v i ρ (evE C o ρ S) := by
  unfold stK
  simp only
  cases evE C o ρ S <;> rfl
theorem stK1_some (i : Ex) (v o : D) : stK1 C v i ρ (some (o, S)) = stK2 v o ρ (evE C i ρ S) := by
  unfold stK1
  simp only
  cases evE C i ρ S <;> rfl
theorem stK2_some (v o i : D) : stK2 v o ρ (some (i, S)) = nxS ρ (setD o i v S) := by
  unfold stK2
  simp only
  cases setD o i v S <;> rfl
theorem nxS_some : nxS ρ (some S) = some (.nx ρ, S) := rfl
theorem set_lst {n : Nat} {xs : List D} {k : Nat} {v : D} (h : S[n]? = some (.lst xs)) (hk : k < xs.length) : setD (.loc n) (.int (k : Int)) v S = some (S.set n (.lst (xs.set k v))) := by
  have e : ixN xs.length (k : Int) = some k := by
    unfold ixN
    rw [if_pos (by omega), if_pos (by omega)]; simp
  simp [setD, h, e]
theorem set_dct {n : Nat} {kvs : List (Key × D)} {x : Str} {v : D} (h : S[n]? = some (.dct kvs)) (hl : kvs.length < sizeLine) : setD (.loc n) (.str x) v S = some (S.set n (.dct (putD kvs (Sum.inr x) v))) := by
  simp [setD, h, hl]
def augK (i : Nat) (op : BOp) (d : D) (ρ : En) : Option (D × Sto) → Option (Out × Sto)
  | some (y, S) => match d, y with
    | .int x, .int y => (binD op (.int x) (.int y) S).map fun q => (.nx (ρ.set i (some q.1)), q.2)
    | _, _ => none
  | none => none
theorem S_aug (i : Nat) (op : BOp) (e : Ex) {d : D} (h : ρ[i]? = some (some d)) : evS C (.aug i op e) ρ S = augK i op d ρ (evE C e ρ S) := by
  simp only [evS, h]
  cases evE C e ρ S <;> rfl
def appK (C : Cfg) (e : Ex) (ρ : En) : Option (D × Sto) → Option (Out × Sto)
  | some (o, S) => if isLst o S = true then (evE C e ρ S).bind fun q => (appD o q.1 q.2).map fun S' => (.nx ρ, S') else none
  | none => none
def appK2 (o : D) (ρ : En) : Option (D × Sto) → Option (Out × Sto)
  | some (v, S) => nxS ρ (appD o v S)
  | none => none
theorem S_app (o e : Ex) : evS C (.app o e) ρ S = appK C e ρ (evE C o ρ S) := by
  simp only [evS]
  cases evE C o ρ S <;> rfl
theorem appK_some {n : Nat} {xs : List D} (e : Ex) (h : S[n]? = some (.lst xs)) : appK C e ρ (some (.loc n, S)) = appK2 (.loc n) ρ (evE C e ρ S) := by
  unfold appK
  simp only [isLst, h, if_true]
  cases evE C e ρ S with
  | none => rfl
  | some p =>
    show Option.map _ (appD (.loc n) p.1 p.2) = nxS ρ (appD (.loc n) p.1 p.2)
    cases appD (.loc n) p.1 p.2 <;> rfl
theorem appK2_some (o v : D) : appK2 o ρ (some (v, S)) = nxS ρ (appD o v S) := rfl
theorem app_lst {n : Nat} {xs : List D} {v : D} (h : S[n]? = some (.lst xs)) (hl : xs.length < sizeLine) : appD (.loc n) v S = some (S.set n (.lst (xs ++ [v]))) := by simp [appD, h, hl]
def popSK (ρ : En) : Option (D × Sto) → Option (Out × Sto)
  | some (d, S) => (popD d S).map fun q => (.nx ρ, q.2)
  | none => none
theorem S_popS (o : Ex) : evS C (.popS o) ρ S = popSK ρ (evE C o ρ S) := by
  simp only [evS]
  cases evE C o ρ S <;> rfl
theorem popSK_some (d : D) : popSK ρ (some (d, S)) = (popD d S).map fun q => (.nx ρ, q.2) := rfl
def retK : Option (D × Sto) → Option (Out × Sto)
  | some (d, S) => some (.ret d, S)
  | none => none
theorem S_ret (e : Ex) : evS C (.ret e) ρ S = retK (evE C e ρ S) := by
  simp only [evS]
  cases evE C e ρ S <;> rfl
theorem retK_some (d : D) : retK (some (d, S)) = some (.ret d, S) := rfl
theorem S_retN : evS C .retN ρ S = some (.ret .non, S) := by simp only [evS]
theorem S_pass : evS C .pass ρ S = some (.nx ρ, S) := by simp only [evS]
theorem S_brk : evS C .brk ρ S = some (.brk ρ, S) := by simp only [evS]
theorem S_cont : evS C .cont ρ S = some (.cont ρ, S) := by simp only [evS]
def ifK (C : Cfg) (a b : List Sx) (ρ : En) : Option (Bool × Sto) → Option (Out × Sto)
  | some (c, S) => if c = true then evB C a ρ S else evB C b ρ S
  | none => none
theorem S_ite (c : Ex) (a b : List Sx) : evS C (.ite c a b) ρ S = ifK C a b ρ (evT C c ρ S) := by
  simp only [evS]
  cases evT C c ρ S <;> rfl
theorem ifK_some (c : Bool) (a b : List Sx) : ifK C a b ρ (some (c, S)) = if c = true then evB C a ρ S else evB C b ρ S := rfl
theorem ifK_t (a b : List Sx) : ifK C a b ρ (some (true, S)) = evB C a ρ S := rfl
theorem ifK_f (a b : List Sx) : ifK C a b ρ (some (false, S)) = evB C b ρ S := rfl
def forStep (C : Cfg) (t : T) (body : List Sx) : D → En → Sto → Option (Out × Sto) := fun x ρ1 S1 => (bind1 t x ρ1).bind fun ρ2 => evB C body ρ2 S1
def forK (C : Cfg) (k : Kind) (t : T) (body : List Sx) (ρ : En) : Option (List D × Sto) → Option (Out × Sto)
  | some (ds, S) => (iterD k ds S).bind fun q => forGo q.2 S (forStep C t body) q.1 ρ S
  | none => none
def forI (C : Cfg) (t : T) (body : List Sx) (ρ : En) (S : Sto) : Option (List D × List Nat) → Option (Out × Sto)
  | some q => forGo q.2 S (forStep C t body) q.1 ρ S
  | none => none
theorem S_for (k : Kind) (its : List Ex) (t : T) (body : List Sx) : evS C (.forr k its t body) ρ S = forK C k t body ρ (evEs C its ρ S) := by
  simp only [evS]
  cases evEs C its ρ S <;> rfl
theorem forK_some (k : Kind) (t : T) (body : List Sx) (ds : List D) : forK C k t body ρ (some (ds, S)) = forI C t body ρ S (iterD k ds S) := by
  unfold forK
  simp only
  cases iterD k ds S <;> rfl
theorem forI_some (t : T) (body : List Sx) (q : List D × List Nat) : forI C t body ρ S (some q) = forGo q.2 S (forStep C t body) q.1 ρ S := rfl
def whK (C : Cfg) (c : Ex) (body : List Sx) (ρ : En) (S : Sto) : Option (Out × Sto) := whileD (fun ρ1 S1 => evT C c ρ1 S1) (fun ρ1 S1 => evB C body ρ1 S1) ρ S
theorem S_whil (c : Ex) (body : List Sx) : evS C (.whil c body) ρ S = whK C c body ρ S := by simp only [evS, whK]
theorem whK_of {c : Ex} {body : List Sx} {n : Nat} {r : Out × Sto} (h : whileN (fun ρ1 S1 => evT C c ρ1 S1) (fun ρ1 S1 => evB C body ρ1 S1) n ρ S = some r) : whK C c body ρ S = some r := whileD_of h
end
/-! places -/
theorem getA {α : Type} (S L : List α) (n : Nat) : (S ++ L)[S.length + n]? = L[n]? := by
  rw [List.getElem?_append_right (by omega)]
  congr 1
  omega
theorem getA0 {α : Type} (S : List α) (a : α) (L : List α) : (S ++ a :: L)[S.length]? = some a := by
  rw [List.getElem?_append_right (by omega)]
  simp
theorem setA {α : Type} (S L : List α) (n : Nat) (c : α) : (S ++ L).set (S.length + n) c = S ++ L.set n c := by
  rw [List.set_append_right _ _ (by omega)]
  congr 2
  omega
theorem setA0 {α : Type} (S : List α) (a : α) (L : List α) (c : α) : (S ++ a :: L).set S.length c = S ++ c :: L := by
  rw [List.set_append_right _ _ (by omega)]
  simp
theorem lenA {α : Type} (S L : List α) : (S ++ L).length = S.length + L.length := List.length_append
theorem appA {α : Type} (S L M : List α) : (S ++ L) ++ M = S ++ (L ++ M) := List.append_assoc ..
theorem catA {α : Type} (a : α) (L M : List α) : (a :: L) ++ M = a :: (L ++ M) := rfl
theorem nilA {α : Type} (M : List α) : [] ++ M = M := rfl
theorem lenC {α : Type} (a : α) (L : List α) : (a :: L).length = L.length + 1 := rfl
theorem len0 {α : Type} : ([] : List α).length = 0 := rfl

theorem g_0 {α : Type} (x0 : α) (r : List α) : (x0 :: r)[0]? = some x0 := rfl
theorem t_0 {α : Type} (x0 y : α) (r : List α) : (x0 :: r).set 0 y = y :: r := rfl
theorem g_1 {α : Type} (x0 x1 : α) (r : List α) : (x0 :: x1 :: r)[1]? = some x1 := rfl
theorem t_1 {α : Type} (x0 x1 y : α) (r : List α) : (x0 :: x1 :: r).set 1 y = x0 :: y :: r := rfl
theorem g_2 {α : Type} (x0 x1 x2 : α) (r : List α) : (x0 :: x1 :: x2 :: r)[2]? = some x2 := rfl
theorem t_2 {α : Type} (x0 x1 x2 y : α) (r : List α) : (x0 :: x1 :: x2 :: r).set 2 y = x0 :: x1 :: y :: r := rfl
theorem g_3 {α : Type} (x0 x1 x2 x3 : α) (r : List α) : (x0 :: x1 :: x2 :: x3 :: r)[3]? = some x3 := rfl
theorem t_3 {α : Type} (x0 x1 x2 x3 y : α) (r : List α) : (x0 :: x1 :: x2 :: x3 :: r).set 3 y = x0 :: x1 :: x2 :: y :: r := rfl
theorem g_4 {α : Type} (x0 x1 x2 x3 x4 : α) (r : List α) : (x0 :: x1 :: x2 :: x3 :: x4 :: r)[4]? = some x4 := rfl
theorem t_4 {α : Type} (x0 x1 x2 x3 x4 y : α) (r : List α) : (x0 :: x1 :: x2 :: x3 :: x4 :: r).set 4 y = x0 :: x1 :: x2 :: x3 :: y :: r := rfl
theorem g_5 {α : Type} (x0 x1 x2 x3 x4 x5 : α) (r : List α) : (x0 :: x1 :: x2 :: x3 :: x4 :: x5 :: r)[5]? = some x5 := rfl
theorem t_5 {α : Type} (x0 x1 x2 x3 x4 x5 y : α) (r : List α) : (x0 :: x1 :: x2 :: x3 :: x4 :: x5 :: r).set 5 y = x0 :: x1 :: x2 :: x3 :: x4 :: y :: r := rfl
theorem g_6 {α : Type} (x0 x1 x2 x3 x4 x5 x6 : α) (r : List α) : (x0 :: x1 :: x2 :: x3 :: x4 :: x5 :: x6 :: r)[6]? = some x6 := rfl
theorem t_6 {α : Type} (x0 x1 x2 x3 x4 x5 x6 y : α) (r : List α) : (x0 :: x1 :: x2 :: x3 :: x4 :: x5 :: x6 :: r).set 6 y = x0 :: x1 :: x2 :: x3 :: x4 :: x5 :: y :: r := rfl
theorem g_7 {α : Type} (x0 x1 x2 x3 x4 x5 x6 x7 : α) (r : List α) : (x0 :: x1 :: x2 :: x3 :: x4 :: x5 :: x6 :: x7 :: r)[7]? = some x7 := rfl
theorem t_7 {α : Type} (x0 x1 x2 x3 x4 x5 x6 x7 y : α) (r : List α) : (x0 :: x1 :: x2 :: x3 :: x4 :: x5 :: x6 :: x7 :: r).set 7 y = x0 :: x1 :: x2 :: x3 :: x4 :: x5 :: x6 :: y :: r := rfl
theorem g_8 {α : Type} (x0 x1 x2 x3 x4 x5 x6 x7 x8 : α) (r : List α) : (x0 :: x1 :: x2 :: x3 :: x4 :: x5 :: x6 :: x7 :: x8 :: r)[8]? = some x8 := rfl
theorem t_8 {α : Type} (x0 x1 x2 x3 x4 x5 x6 x7 x8 y : α) (r : List α) : (x0 :: x1 :: x2 :: x3 :: x4 :: x5 :: x6 :: x7 :: x8 :: r).set 8 y = x0 :: x1 :: x2 :: x3 :: x4 :: x5 :: x6 :: x7 :: y :: r := rfl
theorem g_9 {α : Type} (x0 x1 x2 x3 x4 x5 x6 x7 x8 x9 : α) (r : List α) : (x0 :: x1 :: x2 :: x3 :: x4 :: x5 :: x6 :: x7 :: x8 :: x9 :: r)[9]? = some x9 := rfl
theorem t_9 {α : Type} (x0 x1 x2 x3 x4 x5 x6 x7 x8 x9 y : α) (r : List α) : (x0 :: x1 :: x2 :: x3 :: x4 :: x5 :: x6 :: x7 :: x8 :: x9 :: r).set 9 y = x0 :: x1 :: x2 :: x3 :: x4 :: x5 :: x6 :: x7 :: x8 :: y :: r := rfl
theorem g_10 {α : Type} (x0 x1 x2 x3 x4 x5 x6 x7 x8 x9 x10 : α) (r : List α) : (x0 :: x1 :: x2 :: x3 :: x4 :: x5 :: x6 :: x7 :: x8 :: x9 :: x10 :: r)[10]? = some x10 := rfl
theorem t_10 {α : Type} (x0 x1 x2 x3 x4 x5 x6 x7 x8 x9 x10 y : α) (r : List α) : (x0 :: x1 :: x2 :: x3 :: x4 :: x5 :: x6 :: x7 :: x8 :: x9 :: x10 :: r).set 10 y = x0 :: x1 :: x2 :: x3 :: x4 :: x5 :: x6 :: x7 :: x8 :: x9 :: y :: r := rfl
theorem g_11 {α : Type} (x0 x1 x2 x3 x4 x5 x6 x7 x8 x9 x10 x11 : α) (r : List α) : (x0 :: x1 :: x2 :: x3 :: x4 :: x5 :: x6 :: x7 :: x8 :: x9 :: x10 :: x11 :: r)[11]? = some x11 := rfl
theorem t_11 {α : Type} (x0 x1 x2 x3 x4 x5 x6 x7 x8 x9 x10 x11 y : α) (r : List α) : (x0 :: x1 :: x2 :: x3 :: x4 :: x5 :: x6 :: x7 :: x8 :: x9 :: x10 :: x11 :: r).set 11 y = x0 :: x1 :: x2 :: x3 :: x4 :: x5 :: x6 :: x7 :: x8 :: x9 :: x10 :: y :: r := rfl
theorem g_12 {α : Type} (x0 x1 x2 x3 x4 x5 x6 x7 x8 x9 x10 x11 x12 : α) (r : List α) : (x0 :: x1 :: x2 :: x3 :: x4 :: x5 :: x6 :: x7 :: x8 :: x9 :: x10 :: x11 :: x12 :: r)[12]? = some x12 := rfl
theorem t_12 {α : Type} (x0 x1 x2 x3 x4 x5 x6 x7 x8 x9 x10 x11 x12 y : α) (r : List α) : (x0 :: x1 :: x2 :: x3 :: x4 :: x5 :: x6 :: x7 :: x8 :: x9 :: x10 :: x11 :: x12 :: r).set 12 y = x0 :: x1 :: x2 :: x3 :: x4 :: x5 :: x6 :: x7 :: x8 :: x9 :: x10 :: x11 :: y :: r := rfl
theorem g_13 {α : Type} (x0 x1 x2 x3 x4 x5 x6 x7 x8 x9 x10 x11 x12 x13 : α) (r : List α) : (x0 :: x1 :: x2 :: x3 :: x4 :: x5 :: x6 :: x7 :: x8 :: x9 :: x10 :: x11 :: x12 :: x13 :: r)[13]? = some x13 := rfl
theorem t_13 {α : Type} (x0 x1 x2 x3 x4 x5 x6 x7 x8 x9 x10 x11 x12 x13 y : α) (r : List α) : (x0 :: x1 :: x2 :: x3 :: x4 :: x5 :: x6 :: x7 :: x8 :: x9 :: x10 :: x11 :: x12 :: x13 :: r).set 13 y = x0 :: x1 :: x2 :: x3 :: x4 :: x5 :: x6 :: x7 :: x8 :: x9 :: x10 :: x11 :: x12 :: y :: r := rfl
end Pf.Z

/-! Calls and loops. -/
namespace Pf.Z
open PySem PySem.Spec PyProof.Rows L2
section
variable {cst : Str → Option D} {tb : Str → Option FD} {k : Nat} {S : Sto}
/-- a call that hands back data, from its body -/
theorem run_ret {f : Str} {fd : FD} {ds : List D} {d : D} {G : Sto} (h : tb f = some fd) (hl : ds.length = fd.np) (e : evB ⟨runF cst tb k, cst⟩ fd.body (ds.map some ++ List.replicate (fd.nl - fd.np) none) S = some (.ret d, S ++ G)) (hn : NoLoc d) :
    runF cst tb (k + 1) f ds S = some (d, S) := by
  rw [runF, h, Option.bind_some, if_pos hl, e, Option.bind_some]
  simp only [retD]
  rw [if_pos ⟨hn, by simp⟩]
theorem run_ret0 {f : Str} {fd : FD} {ds : List D} {d : D} (h : tb f = some fd) (hl : ds.length = fd.np) (e : evB ⟨runF cst tb k, cst⟩ fd.body (ds.map some ++ List.replicate (fd.nl - fd.np) none) S = some (.ret d, S)) (hn : NoLoc d) :
    runF cst tb (k + 1) f ds S = some (d, S) := run_ret (G := []) h hl (by rw [e]; simp) hn
/-- a call that may change what stood, or hands out a place -/
theorem run_loc {f : Str} {fd : FD} {ds : List D} {d : D} {S' : Sto} (h : tb f = some fd) (hl : ds.length = fd.np) (e : evB ⟨runF cst tb k, cst⟩ fd.body (ds.map some ++ List.replicate (fd.nl - fd.np) none) S = some (.ret d, S')) (hn : ¬ (NoLoc d ∧ S'.take S.length = S)) :
    runF cst tb (k + 1) f ds S = some (d, S') := by
  rw [runF, h, Option.bind_some, if_pos hl, e, Option.bind_some]
  simp only [retD]
  rw [if_neg hn]
end
/-- a walk by an invariant: every turn goes on -/
theorem forGo_inv {L : List Nat} {S0 : Sto} {step : D → En → Sto → Option (Out × Sto)} (I : Nat → En → Sto → Prop) : ∀ (xs : List D) (j : Nat) (ρ : En) (S : Sto), I j ρ S →
    (∀ i x ρ S, xs[i]? = some x → I (j + i) ρ S → ∃ ρ' S', step x ρ S = some (.nx ρ', S') ∧ (∀ l ∈ L, S'[l]? = S0[l]?) ∧ I (j + i + 1) ρ' S') →
    ∃ ρ' S', forGo L S0 step xs ρ S = some (.nx ρ', S') ∧ I (j + xs.length) ρ' S'
  | [], j, ρ, S, h0, _ => ⟨ρ, S, by simp only [forGo], h0⟩
  | x :: xs, j, ρ, S, h0, h => by
    obtain ⟨ρ', S', e, hl, hI⟩ := h 0 x ρ S rfl h0
    obtain ⟨ρ2, S2, e2, hI2⟩ := forGo_inv I xs (j + 1) ρ' S' hI fun i y ρ S q hi => by
      have := h (i + 1) y ρ S q (by rw [show j + (i + 1) = j + 1 + i by omega]; exact hi)
      rw [show j + (i + 1) + 1 = j + 1 + i + 1 by omega] at this
      exact this
    refine ⟨ρ2, S2, ?_, by rw [List.length_cons, show j + (xs.length + 1) = j + 1 + xs.length by omega]; exact hI2⟩
    simp only [forGo, e, Option.bind_some]
    rw [if_pos hl]
    exact e2
theorem for_inv {L : List Nat} {S0 : Sto} {step : D → En → Sto → Option (Out × Sto)} (I : Nat → En → Sto → Prop) {xs : List D} {ρ : En} {S : Sto} (h0 : I 0 ρ S)
    (h : ∀ i x ρ S, xs[i]? = some x → I i ρ S → ∃ ρ' S', step x ρ S = some (.nx ρ', S') ∧ (∀ l ∈ L, S'[l]? = S0[l]?) ∧ I (i + 1) ρ' S') :
    ∃ ρ' S', forGo L S0 step xs ρ S = some (.nx ρ', S') ∧ I xs.length ρ' S' := by
  obtain ⟨ρ', S', e, q⟩ := forGo_inv I xs 0 ρ S h0 fun i x ρ S e q => by
    simp only [Nat.zero_add] at q ⊢
    exact h i x ρ S e q
  exact ⟨ρ', S', e, by rw [Nat.zero_add] at q; exact q⟩
/-- a comprehension whose turns leave the store as it is -/
theorem compGo_map {L : List Nat} {S : Sto} {step : D → Sto → Option (Option D × Sto)} {g : Nat → D} (hL : ∀ l ∈ L, l < S.length) : ∀ (xs : List D) (j : Nat) (acc : List D), acc.length + xs.length < sizeLine →
    (∀ i x acc, xs[i]? = some x → step x (S ++ [.lst acc]) = some (some (g (j + i)), S ++ [.lst acc])) →
    compGo S.length L S step xs (S ++ [.lst acc]) = some (S ++ [.lst (acc ++ (List.range xs.length).map fun i => g (j + i))])
  | [], j, acc, _, _ => by simp [compGo]
  | x :: xs, j, acc, hl, h => by
    have e := h 0 x acc rfl
    simp only [Nat.add_zero] at e
    simp only [List.length_cons] at hl
    have lk : ∀ l ∈ L, (S ++ [Cell.lst acc])[l]? = S[l]? := fun l h => List.getElem?_append_left (hL l h)
    simp only [compGo, e, Option.bind_some]
    rw [if_pos ⟨lk, Nat.le_refl _⟩, getA0]
    simp only
    rw [if_pos (by omega), setA0, compGo_map hL xs (j + 1) (acc ++ [g j]) (by simp; omega) fun i y acc q => by
      have := h (i + 1) y acc q
      rw [show j + (i + 1) = j + 1 + i by omega] at this
      exact this]
    rw [List.length_cons, List.range_succ_eq_map, List.map_cons, List.map_map]
    simp only [List.append_assoc, List.cons_append, List.nil_append, Nat.add_zero]
    congr 6
    refine List.map_congr_left fun i _ => ?_
    show g (j + 1 + i) = g (j + (i + 1))
    congr 1
    omega
theorem comp_map {L : List Nat} {S : Sto} {step : D → Sto → Option (Option D × Sto)} (g : Nat → D) (hL : ∀ l ∈ L, l < S.length) {xs : List D} (hl : xs.length < sizeLine)
    (h : ∀ i x acc, xs[i]? = some x → step x (S ++ [.lst acc]) = some (some (g i), S ++ [.lst acc])) :
    compGo S.length L S step xs (S ++ [.lst []]) = some (S ++ [.lst ((List.range xs.length).map g)]) := by
  have := compGo_map (g := g) hL xs 0 [] (by simpa using hl) fun i x acc e => by rw [Nat.zero_add]; exact h i x acc e
  simpa using this
/-- a while by an invariant and a measure -/
theorem while_inv {c : En → Sto → Option (Bool × Sto)} {b : En → Sto → Option (Out × Sto)} (I : Nat → En → Sto → Prop) : ∀ (n : Nat) (ρ : En) (S : Sto), I n ρ S →
    (∀ n ρ S, I (n + 1) ρ S → ∃ S1 ρ' S', c ρ S = some (true, S1) ∧ b ρ S1 = some (.nx ρ', S') ∧ I n ρ' S') → {P : En → Sto → Prop} → (∀ ρ S, I 0 ρ S → ∃ S', c ρ S = some (false, S') ∧ P ρ S') →
    ∃ ρ' S', whileD c b ρ S = some (.nx ρ', S') ∧ P ρ' S' := by
  intro n ρ S h0 h P hz
  have : ∀ (n : Nat) (ρ : En) (S : Sto), I n ρ S → ∃ m ρ' S', whileN c b m ρ S = some (.nx ρ', S') ∧ P ρ' S' := by
    intro n
    induction n with
    | zero =>
      intro ρ S h0
      obtain ⟨S', e, p⟩ := hz ρ S h0
      exact ⟨1, ρ, S', by simp [whileN, e], p⟩
    | succ n ih =>
      intro ρ S h0
      obtain ⟨S1, ρ', S', e1, e2, h1⟩ := h n ρ S h0
      obtain ⟨m, ρ2, S2, e3, p⟩ := ih ρ' S' h1
      exact ⟨m + 1, ρ2, S2, by simp [whileN, e1, e2, e3], p⟩
  obtain ⟨m, ρ', S', e, p⟩ := this n ρ S h0
  exact ⟨ρ', S', whileD_of e, p⟩
end Pf.Z

/-! Fractions, what the defs of fractions compute. -/
namespace Pf.Z
open PySem PySem.Spec PyProof.Rows L2
variable {cst : Str → Option D} {tb : Str → Option FD} {k : Nat} {S : Sto}

def eF (q : Rat) : D := .tup [.int q.num, .int q.den]
theorem NoLoc_eF (q : Rat) : NoLoc (eF q) := by simp [eF, NoLoc, NoLocs]
/-- a fraction whose numbers are short -/
def Sz (B : Nat) (q : Rat) : Prop := q.num.natAbs < 2 ^ B ∧ q.den < 2 ^ B
theorem Sz.mono {B C : Nat} {q : Rat} (h : Sz B q) (hl : B ≤ C) : Sz C q := ⟨Nat.lt_of_lt_of_le h.1 (Nat.pow_le_pow_right (by decide) hl), Nat.lt_of_lt_of_le h.2 (Nat.pow_le_pow_right (by decide) hl)⟩

theorem mulOk_lt {B : Nat} {i j : Int} (h : B ≤ 400000) (hi : i.natAbs < 2 ^ B) (hj : j.natAbs < 2 ^ B) : mulOk i j = true := by
  have l : ∀ n : Nat, n < 2 ^ B → n.log2 < B + 1 := fun n hn => by
    by_cases z : n = 0
    · subst z; simp
    · exact Nat.lt_succ_of_lt ((Nat.log2_lt z).2 hn)
  have h1 := l _ hi
  have h2 := l _ hj
  simp [mulOk]
  right
  omega
theorem divOk_pos {B : Nat} {j : Int} (h : B < 9000) (h0 : 0 < j) (hj : j.natAbs < 2 ^ B) : divOk j = true := by
  have : j.natAbs.log2 < B := (Nat.log2_lt (by omega)).2 hj
  simp [divOk]
  right
  exact ⟨h0, by omega⟩
theorem divOk_small {j : Int} (h0 : j ≠ 0) (hj : j.natAbs < 1073741824) : divOk j = true := by
  simp [divOk]
  left
  exact ⟨h0, hj⟩

theorem r_common_divisor (h : tb "common_divisor" = some d_common_divisor) (a b : Int) : runF cst tb (k + 1) "common_divisor" [.int a, .int b] S = some (.int ((Nat.gcd a.natAbs b.natAbs : Nat) : Int), S) := by
  refine run_ret0 h rfl ?_ trivial
  simp only [d_common_divisor, List.map, List.replicate, Nat.sub_self, vK_some, e_var, e_lit, lit_non, lit_bl, lit_int, lit_str, e_glob, oneK_some, e_bin, bin1_some, bin2_some, d_add, d_sub, e_neg, negK_some, e_cmp, cmp1_some, cmp2_some, map_some2, c_lt, c_le, c_gt, c_ge, c_eqI, c_neI, c_eqS, c_neS, tK_some, notK_some, blK_some, e_not, e_and, e_or, t_not, t_and, t_or, t_cmp, t_call, t_blt, a_nil, a_cons, andK_t, andK_f, o_nil, o_cons, orK_t, orK_f, e_ite, iteK_t, iteK_f, s_nil, s_cons, es1_some, es2_some, e_tup, tupK0, tupK1, tupK2, tupK3, tupK4, tupK5, e_lst, lstK0, lstK1, e_call, calK_some, e_blt, bltK_some, b_gcd, b_abs, b_int, b_max, b_min, b_lenT, b_lenL, b_tupT, b_tupL, b_lstT, b_lstL, b_all, items_lst, items_ro, map_some3, e_idx, idx1_some, idx2_some, i_tup, i_loc, at_0, at_1, at_2, at_3, e_slice, slK_some, slK1_some, slK2_some, o_none, o_some, oK_some, sl_tup, sl_loc, e_rev, revK_some, rv_tup, rv_loc, e_pop, popK_some, e_comp, it_tup, it_loc, it_enumT, it_enumL, it_zipT, it_zipL, e_dict, B_nil, B_cons, seqK_nx, seqK_ret, seqK_brk, seqK_cont, S_asg, asgK_some, nxK_some, bd_nm, bd_tup, bd_nil, bd_cons, bdK_some, S_par, parK_some, sa_nil, sa_cons, S_setI, stK_some, stK1_some, stK2_some, nxS_some, S_app, appK2_some, S_popS, popSK_some, S_ret, retK_some, S_retN, S_pass, S_brk, S_cont, S_ite, ifK_t, ifK_f, forK_some, getA, getA0, setA, setA0, lenA, appA, catA, nilA, lenC, len0, g_0, t_0, g_1, t_1, g_2, t_2, g_3, t_3, g_4, t_4, g_5, t_5, g_6, t_6, g_7, t_7, g_8, t_8, g_9, t_9, g_10, t_10, g_11, t_11, g_12, t_12, g_13, t_13, bindS, S_whil, S_for, compK_some]
/-- what a def of fractions needs of the table -/
structure FrT (tb : Str → Option FD) : Prop where
  cd : tb "common_divisor" = some d_common_divisor
  of : tb "fraction_of" = some d_fraction_of
theorem eF_divInt (p q : Int) (hq : q ≠ 0) : eF (Rat.divInt p q) = .tup [.int (p.fdiv (if q > 0 then ((Nat.gcd p.natAbs q.natAbs : Nat) : Int) else -((Nat.gcd p.natAbs q.natAbs : Nat) : Int))), .int (q.fdiv (if q > 0 then ((Nat.gcd p.natAbs q.natAbs : Nat) : Int) else -((Nat.gcd p.natAbs q.natAbs : Nat) : Int)))] := by
  have hg : Nat.gcd p.natAbs q.natAbs ≠ 0 := fun z => hq (by have := (Nat.gcd_eq_zero_iff.1 z).2; omega)
  have e1 : ((Nat.gcd p.natAbs q.natAbs : Nat) : Int) = (q.gcd p : Int) := by rw [Int.gcd_comm]; rfl
  rw [e1]
  have d1 : (q.gcd p : Int) ∣ p := Int.gcd_dvd_right ..
  have d2 : (q.gcd p : Int) ∣ q := Int.gcd_dvd_left ..
  have hn : ((q.natAbs / q.gcd p : Nat) : Int) = (q.natAbs : Int) / (q.gcd p : Int) := by rw [Int.natCast_ediv]
  unfold eF
  rw [Rat.num_divInt, Rat.den_divInt, if_neg hq, hn]
  by_cases hp : q > 0
  · rw [if_pos hp, Int.sign_eq_one_of_pos hp, Int.one_mul, Int.fdiv_eq_ediv_of_dvd d1, Int.fdiv_eq_ediv_of_dvd d2, Int.natAbs_of_nonneg (by omega)]
  · have hq' : q < 0 := by omega
    rw [if_neg hp, Int.sign_eq_neg_one_of_neg hq', Int.fdiv_eq_ediv_of_dvd (Int.neg_dvd.2 d1), Int.fdiv_eq_ediv_of_dvd (Int.neg_dvd.2 d2), Int.ediv_neg, Int.ediv_neg, show (q.natAbs : Int) = -q by omega, show -1 * p = -p by omega, Int.neg_ediv_of_dvd d1, Int.neg_ediv_of_dvd d2]
/-- p // q in lowest terms: what is asked of the sizes -/
def LowOk (p q : Int) : Prop := q ≠ 0 ∧ divOk (if q > 0 then ((Nat.gcd p.natAbs q.natAbs : Nat) : Int) else -((Nat.gcd p.natAbs q.natAbs : Nat) : Int)) = true
theorem LowOk.pos {B : Nat} {p q : Int} (hB : B < 9000) (h : 0 < q) (hq : q.natAbs < 2 ^ B) : LowOk p q := by
  refine ⟨by omega, ?_⟩
  rw [if_pos h]
  have hg : 0 < Nat.gcd p.natAbs q.natAbs := Nat.gcd_pos_of_pos_right _ (by omega)
  have hl : Nat.gcd p.natAbs q.natAbs ≤ q.natAbs := Nat.gcd_le_right _ (by omega)
  exact divOk_pos hB (by omega) (Nat.lt_of_le_of_lt (by omega) hq)
theorem LowOk.small {p q : Int} (h : q ≠ 0) (hs : Nat.gcd p.natAbs q.natAbs < 1073741824) : LowOk p q := by
  refine ⟨h, ?_⟩
  have hg : 0 < Nat.gcd p.natAbs q.natAbs := Nat.gcd_pos_of_pos_right _ (by omega)
  split
  · exact divOk_small (by omega) (by omega)
  · exact divOk_small (by omega) (by omega)
theorem r_fraction_of (T : FrT tb) {p q : Int} (h : LowOk p q) : runF cst tb (k + 2) "fraction_of" [.int p, .int q] S = some (eF (Rat.divInt p q), S) := by
  obtain ⟨h0, h1⟩ := h
  refine run_ret0 T.of rfl ?_ (NoLoc_eF _)
  rw [eF_divInt p q h0]
  have h2 := h1
  by_cases hp : q > 0
  · rw [if_pos hp] at h2 ⊢
    have hd : decide ((0 : Int) < q) = true := decide_eq_true hp
    have f1 := fun i => d_fdiv (S := S) (i := i) h2
    simp only [d_fraction_of, List.map, List.replicate, Nat.reduceSub, List.cons_append, List.nil_append, iteK_t, hd, r_common_divisor T.cd, f1, vK_some, e_var, e_lit, lit_non, lit_bl, lit_int, lit_str, e_glob, oneK_some, e_bin, bin1_some, bin2_some, d_add, d_sub, e_neg, negK_some, e_cmp, cmp1_some, cmp2_some, map_some2, c_lt, c_le, c_gt, c_ge, c_eqI, c_neI, c_eqS, c_neS, tK_some, notK_some, blK_some, e_not, e_and, e_or, t_not, t_and, t_or, t_cmp, t_call, t_blt, a_nil, a_cons, andK_t, andK_f, o_nil, o_cons, orK_t, orK_f, e_ite, iteK_t, iteK_f, s_nil, s_cons, es1_some, es2_some, e_tup, tupK0, tupK1, tupK2, tupK3, tupK4, tupK5, e_lst, lstK0, lstK1, e_call, calK_some, e_blt, bltK_some, b_gcd, b_abs, b_int, b_max, b_min, b_lenT, b_lenL, b_tupT, b_tupL, b_lstT, b_lstL, b_all, items_lst, items_ro, map_some3, e_idx, idx1_some, idx2_some, i_tup, i_loc, at_0, at_1, at_2, at_3, e_slice, slK_some, slK1_some, slK2_some, o_none, o_some, oK_some, sl_tup, sl_loc, e_rev, revK_some, rv_tup, rv_loc, e_pop, popK_some, e_comp, it_tup, it_loc, it_enumT, it_enumL, it_zipT, it_zipL, e_dict, B_nil, B_cons, seqK_nx, seqK_ret, seqK_brk, seqK_cont, S_asg, asgK_some, nxK_some, bd_nm, bd_tup, bd_nil, bd_cons, bdK_some, S_par, parK_some, sa_nil, sa_cons, S_setI, stK_some, stK1_some, stK2_some, nxS_some, S_app, appK2_some, S_popS, popSK_some, S_ret, retK_some, S_retN, S_pass, S_brk, S_cont, S_ite, ifK_t, ifK_f, forK_some, getA, getA0, setA, setA0, lenA, appA, catA, nilA, lenC, len0, g_0, t_0, g_1, t_1, g_2, t_2, g_3, t_3, g_4, t_4, g_5, t_5, g_6, t_6, g_7, t_7, g_8, t_8, g_9, t_9, g_10, t_10, g_11, t_11, g_12, t_12, g_13, t_13, bindS, S_whil, S_for, compK_some]
  · rw [if_neg hp] at h2 ⊢
    have hd : decide ((0 : Int) < q) = false := decide_eq_false hp
    have f1 := fun i => d_fdiv (S := S) (i := i) h2
    simp only [d_fraction_of, List.map, List.replicate, Nat.reduceSub, List.cons_append, List.nil_append, iteK_f, hd, r_common_divisor T.cd, f1, vK_some, e_var, e_lit, lit_non, lit_bl, lit_int, lit_str, e_glob, oneK_some, e_bin, bin1_some, bin2_some, d_add, d_sub, e_neg, negK_some, e_cmp, cmp1_some, cmp2_some, map_some2, c_lt, c_le, c_gt, c_ge, c_eqI, c_neI, c_eqS, c_neS, tK_some, notK_some, blK_some, e_not, e_and, e_or, t_not, t_and, t_or, t_cmp, t_call, t_blt, a_nil, a_cons, andK_t, andK_f, o_nil, o_cons, orK_t, orK_f, e_ite, iteK_t, iteK_f, s_nil, s_cons, es1_some, es2_some, e_tup, tupK0, tupK1, tupK2, tupK3, tupK4, tupK5, e_lst, lstK0, lstK1, e_call, calK_some, e_blt, bltK_some, b_gcd, b_abs, b_int, b_max, b_min, b_lenT, b_lenL, b_tupT, b_tupL, b_lstT, b_lstL, b_all, items_lst, items_ro, map_some3, e_idx, idx1_some, idx2_some, i_tup, i_loc, at_0, at_1, at_2, at_3, e_slice, slK_some, slK1_some, slK2_some, o_none, o_some, oK_some, sl_tup, sl_loc, e_rev, revK_some, rv_tup, rv_loc, e_pop, popK_some, e_comp, it_tup, it_loc, it_enumT, it_enumL, it_zipT, it_zipL, e_dict, B_nil, B_cons, seqK_nx, seqK_ret, seqK_brk, seqK_cont, S_asg, asgK_some, nxK_some, bd_nm, bd_tup, bd_nil, bd_cons, bdK_some, S_par, parK_some, sa_nil, sa_cons, S_setI, stK_some, stK1_some, stK2_some, nxS_some, S_app, appK2_some, S_popS, popSK_some, S_ret, retK_some, S_retN, S_pass, S_brk, S_cont, S_ite, ifK_t, ifK_f, forK_some, getA, getA0, setA, setA0, lenA, appA, catA, nilA, lenC, len0, g_0, t_0, g_1, t_1, g_2, t_2, g_3, t_3, g_4, t_4, g_5, t_5, g_6, t_6, g_7, t_7, g_8, t_8, g_9, t_9, g_10, t_10, g_11, t_11, g_12, t_12, g_13, t_13, bindS, S_whil, S_for, compK_some]
theorem Sz.mul_num {B C : Nat} {a b : Int} (ha : a.natAbs < 2 ^ B) (hb : b.natAbs < 2 ^ C) : (a * b).natAbs < 2 ^ (B + C) := by
  rw [Int.natAbs_mul, Nat.pow_add]
  exact Nat.mul_lt_mul'' ha hb
end Pf.Z

/-! Data compared; fractions added, multiplied, divided, powers. -/
namespace Pf.Z
open PySem PySem.Spec PyProof.Rows L2

/-! ### data of whole numbers, None and tuples -/
mutual
def NB : D → Prop
  | .non => True
  | .int _ => True
  | .tup xs => NBs xs
  | _ => False
def NBs : List D → Prop
  | [] => True
  | x :: xs => NB x ∧ NBs xs
end
mutual
def dpt : D → Nat
  | .tup xs => dpts xs + 1
  | _ => 0
def dpts : List D → Nat
  | [] => 0
  | x :: xs => max (dpt x) (dpts xs)
end
mutual
theorem NB.py : ∀ {a : D}, NB a → ∃ p, pyD a = some p ∧ p.canLay0 = true ∧ p.depth = dpt a
  | .non, _ => ⟨.none, rfl, rfl, rfl⟩
  | .int i, _ => ⟨.int i, rfl, rfl, rfl⟩
  | .tup xs, h => by
    obtain ⟨ps, h1, h2, h3⟩ := NBs.py (by simpa only [NB] using h)
    exact ⟨.tuple ps, by simp only [pyD, h1, Option.map_some], by simpa only [PyData.canLay0] using h2, by simp only [PyData.depth, dpt, h3]⟩
  | .bl _, h => (by simp only [NB] at h)
  | .str _, h => (by simp only [NB] at h)
  | .loc _, h => (by simp only [NB] at h)
theorem NBs.py : ∀ {a : List D}, NBs a → ∃ p, pyDs a = some p ∧ PyData.canLayAll0 p = true ∧ PyData.depthAll p = dpts a
  | [], _ => ⟨[], rfl, rfl, rfl⟩
  | x :: xs, h => by
    simp only [NBs] at h
    obtain ⟨p, h1, h2, h3⟩ := NB.py h.1
    obtain ⟨ps, h4, h5, h6⟩ := NBs.py h.2
    exact ⟨p :: ps, by simp only [pyDs, h1, h4, Option.bind_some, Option.map_some], by simp only [PyData.canLayAll0, h2, h5, Bool.and_true], by simp only [PyData.depthAll, dpts, h3, h6]⟩
end
mutual
theorem NB.eqv : ∀ {a b : D} {p q : PyData}, NB a → NB b → pyD a = some p → pyD b = some q → (PyData.eqv p q = true ↔ a = b)
  | .non, b, p, q, _, hb, e, e2 => by
    cases e
    cases b <;> simp only [NB] at hb <;> simp only [pyD] at e2
    · cases e2; simp [PyData.eqv]
    · cases e2; simp [PyData.eqv]
    · rename_i xs
      cases h : pyDs xs with
      | none => rw [h] at e2; cases e2
      | some ps => rw [h] at e2; cases e2; simp [PyData.eqv]
  | .int i, b, p, q, _, hb, e, e2 => by
    cases e
    cases b <;> simp only [NB] at hb <;> simp only [pyD] at e2
    · cases e2; simp [PyData.eqv]
    · cases e2; simp [PyData.eqv]
    · rename_i xs
      cases h : pyDs xs with
      | none => rw [h] at e2; cases e2
      | some ps => rw [h] at e2; cases e2; simp [PyData.eqv]
  | .tup xs, b, p, q, ha, hb, e, e2 => by
    simp only [pyD] at e
    cases h : pyDs xs with
    | none => rw [h] at e; cases e
    | some ps =>
      rw [h] at e; cases e
      cases b <;> simp only [NB] at hb <;> simp only [pyD] at e2
      · cases e2; simp [PyData.eqv]
      · cases e2; simp [PyData.eqv]
      · rename_i ys
        cases h' : pyDs ys with
        | none => rw [h'] at e2; cases e2
        | some qs =>
          rw [h'] at e2; cases e2
          have := NBs.eqv (by simpa only [NB] using ha) hb h h'
          simp only [PyData.eqv, D.tup.injEq]
          exact this
  | .bl _, _, _, _, h, _, _, _ => (by simp only [NB] at h)
  | .str _, _, _, _, h, _, _, _ => (by simp only [NB] at h)
  | .loc _, _, _, _, h, _, _, _ => (by simp only [NB] at h)
theorem NBs.eqv : ∀ {a b : List D} {p q : List PyData}, NBs a → NBs b → pyDs a = some p → pyDs b = some q → (PyData.eqvAll p q = true ↔ a = b)
  | [], [], p, q, _, _, e, e2 => by cases e; cases e2; simp [PyData.eqvAll]
  | [], y :: ys, p, q, _, hb, e, e2 => by
    cases e
    obtain ⟨q', h', _⟩ := NBs.py hb
    rw [h'] at e2; cases e2
    cases q with
    | nil =>
      exfalso
      simp only [pyDs, Option.bind_eq_some_iff, Option.map_eq_some_iff] at h'
      obtain ⟨_, _, _, _, z⟩ := h'
      cases z
    | cons _ _ => simp [PyData.eqvAll]
  | x :: xs, [], p, q, ha, _, e, e2 => by
    cases e2
    obtain ⟨q', h', _⟩ := NBs.py ha
    rw [h'] at e; cases e
    cases p with
    | nil =>
      exfalso
      simp only [pyDs, Option.bind_eq_some_iff, Option.map_eq_some_iff] at h'
      obtain ⟨_, _, _, _, z⟩ := h'
      cases z
    | cons _ _ => simp [PyData.eqvAll]
  | x :: xs, y :: ys, p, q, ha, hb, e, e2 => by
    simp only [NBs] at ha hb
    simp only [pyDs, Option.bind_eq_some_iff, Option.map_eq_some_iff] at e e2
    obtain ⟨p1, e3, ps, e4, rfl⟩ := e
    obtain ⟨q1, e5, qs, e6, rfl⟩ := e2
    simp only [PyData.eqvAll, Bool.and_eq_true, NB.eqv ha.1 hb.1 e3 e5, NBs.eqv ha.2 hb.2 e4 e6, List.cons.injEq]
end
section
variable {S : Sto}
theorem toPy_NB {a : D} {p : PyData} (h : NB a) (e : pyD a = some p) : toPy S a = some p := by
  cases a <;> first | exact e | (simp only [NB] at h)
theorem twoS_NB {a b : D} (h : NB a) : twoS a b = none := by
  cases a <;> simp only [NB] at h <;> rfl
theorem shaped_of {p : PyData} (h : p.canLay0 = true) (h2 : p.depth ≤ 64) : SeqAt.shaped p = true := by simp [SeqAt.shaped, h, h2]
theorem c_eqN {a b : D} [Decidable (a = b)] (ha : NB a) (hb : NB b) (h1 : dpt a ≤ 64) (h2 : dpt b ≤ 64) : cmpD .eq a b S = some (.bl (decide (a = b))) := by
  obtain ⟨p, e1, e2, e3⟩ := ha.py
  obtain ⟨q, e4, e5, e6⟩ := hb.py
  unfold cmpD
  simp only [twoS_NB ha, toPy_NB ha e1, toPy_NB hb e4]
  rw [if_pos ⟨shaped_of e2 (by omega), shaped_of e5 (by omega)⟩]
  congr 2
  rw [Bool.eq_iff_iff, decide_eq_true_iff]
  exact NB.eqv ha hb e1 e4
theorem c_neN {a b : D} [Decidable (a = b)] (ha : NB a) (hb : NB b) (h1 : dpt a ≤ 64) (h2 : dpt b ≤ 64) : cmpD .ne a b S = some (.bl (!decide (a = b))) := by
  obtain ⟨p, e1, e2, e3⟩ := ha.py
  obtain ⟨q, e4, e5, e6⟩ := hb.py
  unfold cmpD
  simp only [twoS_NB ha, toPy_NB ha e1, toPy_NB hb e4]
  rw [if_pos ⟨shaped_of e2 (by omega), shaped_of e5 (by omega)⟩]
  congr 3
  rw [Bool.eq_iff_iff, decide_eq_true_iff]
  exact NB.eqv ha hb e1 e4
/-- a list of such data and an empty one -/
theorem c_neE {n m : Nat} {xs : List D} (h : NBs xs) (hd : dpts xs ≤ 63) (e : S[n]? = some (.lst xs)) (e2 : S[m]? = some (.lst [])) : cmpD .ne (.loc n) (.loc m) S = some (.bl (!xs.isEmpty)) := by
  obtain ⟨ps, h1, h2, h3⟩ := h.py
  have t1 : toPy S (.loc n) = some (.list ps) := by simp only [toPy, e, Option.bind_some, Cell.items, h1, Option.map_some]
  have t2 : toPy S (.loc m) = some (.list []) := by simp only [toPy, e2, Option.bind_some, Cell.items, pyDs, Option.map_some]
  unfold cmpD
  simp only [twoS, t1, t2]
  rw [if_pos ⟨shaped_of (by simpa only [PyData.canLay0] using h2) (by simp only [PyData.depth]; omega), rfl⟩]
  congr 3
  cases xs with
  | nil => cases h1; rfl
  | cons x r =>
    simp only [pyDs, Option.bind_eq_some_iff, Option.map_eq_some_iff] at h1
    obtain ⟨p, _, qs, _, rfl⟩ := h1
    rfl
end
theorem NB_eF (q : Rat) : NB (eF q) := by simp [eF, NB, NBs]
theorem dpt_eF (q : Rat) : dpt (eF q) = 1 := by simp [eF, dpt, dpts]
theorem eF_inj {a b : Rat} (h : eF a = eF b) : a = b := by
  simp only [eF, D.tup.injEq, List.cons.injEq, D.int.injEq, and_true] at h
  exact Rat.ext h.1 (by omega)
def eP (f : List Rat) : D := .tup (f.map eF)
theorem NBs_eFs : ∀ f : List Rat, NBs (f.map eF)
  | [] => trivial
  | a :: f => ⟨NB_eF a, NBs_eFs f⟩
theorem dpts_eFs : ∀ f : List Rat, dpts (f.map eF) ≤ 1
  | [] => by simp [dpts]
  | a :: f => by
    have := dpts_eFs f
    simp only [List.map, dpts, dpt_eF]
    omega
theorem eFs_inj : ∀ {f g : List Rat}, f.map eF = g.map eF → f = g
  | [], [], _ => rfl
  | [], _ :: _, h => by cases h
  | _ :: _, [], h => by cases h
  | a :: f, b :: g, h => by
    simp only [List.map, List.cons.injEq] at h
    rw [eF_inj h.1, eFs_inj h.2]
theorem NB_eP (f : List Rat) : NB (eP f) := NBs_eFs f
theorem dpt_eP (f : List Rat) : dpt (eP f) ≤ 2 := by
  have := dpts_eFs f
  simp only [eP, dpt]
  omega
theorem eP_inj {f g : List Rat} (h : eP f = eP g) : f = g := eFs_inj (D.tup.inj h)
theorem NoLocs_eFs : ∀ f : List Rat, NoLocs (f.map eF)
  | [] => trivial
  | a :: f => ⟨NoLoc_eF a, NoLocs_eFs f⟩
theorem NoLoc_eP (f : List Rat) : NoLoc (eP f) := NoLocs_eFs f
section
variable {S : Sto}
theorem c_eqF (a b : Rat) : cmpD .eq (eF a) (eF b) S = some (.bl (decide (a = b))) := by
  have : Decidable (eF a = eF b) := Classical.propDecidable _
  rw [c_eqN (NB_eF a) (NB_eF b) (by rw [dpt_eF]; decide) (by rw [dpt_eF]; decide)]
  congr 2
  rw [Bool.eq_iff_iff, decide_eq_true_iff, decide_eq_true_iff]
  exact ⟨eF_inj, fun h => h ▸ rfl⟩
theorem c_neF (a b : Rat) : cmpD .ne (eF a) (eF b) S = some (.bl (!decide (a = b))) := by
  have : Decidable (eF a = eF b) := Classical.propDecidable _
  rw [c_neN (NB_eF a) (NB_eF b) (by rw [dpt_eF]; decide) (by rw [dpt_eF]; decide)]
  congr 3
  rw [Bool.eq_iff_iff, decide_eq_true_iff, decide_eq_true_iff]
  exact ⟨eF_inj, fun h => h ▸ rfl⟩
theorem c_eqP (f g : List Rat) : cmpD .eq (eP f) (eP g) S = some (.bl (decide (f = g))) := by
  have : Decidable (eP f = eP g) := Classical.propDecidable _
  have h1 := dpt_eP f
  have h2 := dpt_eP g
  rw [c_eqN (NB_eP f) (NB_eP g) (by omega) (by omega)]
  congr 2
  rw [Bool.eq_iff_iff, decide_eq_true_iff, decide_eq_true_iff]
  exact ⟨eP_inj, fun h => h ▸ rfl⟩
theorem c_neP (f g : List Rat) : cmpD .ne (eP f) (eP g) S = some (.bl (!decide (f = g))) := by
  have : Decidable (eP f = eP g) := Classical.propDecidable _
  have h1 := dpt_eP f
  have h2 := dpt_eP g
  rw [c_neN (NB_eP f) (NB_eP g) (by omega) (by omega)]
  congr 3
  rw [Bool.eq_iff_iff, decide_eq_true_iff, decide_eq_true_iff]
  exact ⟨eP_inj, fun h => h ▸ rfl⟩
end

/-! ### fractions -/
section
variable {cst : Str → Option D} {tb : Str → Option FD} {k : Nat} {S : Sto} {a b : Rat}
theorem Rat.add_eq (a b : Rat) : Rat.divInt (a.num * b.den + b.num * a.den) (a.den * b.den) = a + b := by
  conv => rhs; rw [← Rat.num_divInt_den a, ← Rat.num_divInt_den b]
  rw [Rat.divInt_add_divInt _ _ (by have := a.den_nz; omega) (by have := b.den_nz; omega)]
theorem Rat.mul_eq (a b : Rat) : Rat.divInt (a.num * b.num) (a.den * b.den) = a * b := by
  conv => rhs; rw [← Rat.num_divInt_den a, ← Rat.num_divInt_den b]
  rw [Rat.divInt_mul_divInt]
theorem Rat.by_eq (a b : Rat) : Rat.divInt (a.num * b.den) (a.den * b.num) = a / b := by
  conv => rhs; rw [← Rat.num_divInt_den a, ← Rat.num_divInt_den b]
  rw [Rat.div_def, Rat.inv_divInt, Rat.divInt_mul_divInt]
theorem den_pos' (a : Rat) : (0 : Int) < a.den := by have := a.den_nz; omega
theorem mul_pos' (a b : Rat) : (0 : Int) < (a.den : Int) * b.den := Int.mul_pos (den_pos' a) (den_pos' b)
theorem Sz.den {B C : Nat} (ha : Sz B a) (hb : Sz C b) : ((a.den : Int) * b.den).natAbs < 2 ^ (B + C) := Sz.mul_num (by simpa using ha.2) (by simpa using hb.2)
theorem r_fraction_sum (T : FrT tb) (h : tb "fraction_sum" = some d_fraction_sum) (ha : Sz 4000 a) (hb : Sz 4000 b) : runF cst tb (k + 3) "fraction_sum" [eF a, eF b] S = some (eF (a + b), S) := by
  refine run_ret0 h rfl ?_ (NoLoc_eF _)
  have m1 := fun S => d_mul (S := S) (mulOk_lt (B := 4000) (by decide) ha.1 (by simpa using hb.2 : (b.den : Int).natAbs < 2 ^ 4000))
  have m2 := fun S => d_mul (S := S) (mulOk_lt (B := 4000) (by decide) hb.1 (by simpa using ha.2 : (a.den : Int).natAbs < 2 ^ 4000))
  have m3 := fun S => d_mul (S := S) (mulOk_lt (B := 4000) (by decide) (by simpa using ha.2 : (a.den : Int).natAbs < 2 ^ 4000) (by simpa using hb.2 : (b.den : Int).natAbs < 2 ^ 4000))
  have l : LowOk (a.num * b.den + b.num * a.den) (a.den * b.den) := LowOk.pos (B := 8000) (by decide) (mul_pos' a b) (Sz.den ha hb)
  have r := fun k S => r_fraction_of (cst := cst) (k := k) (S := S) T l
  simp only [d_fraction_sum, eF, List.map, List.replicate, Nat.sub_self, m1, m2, m3, r, vK_some, e_var, e_lit, lit_non, lit_bl, lit_int, lit_str, e_glob, oneK_some, e_bin, bin1_some, bin2_some, d_add, d_sub, e_neg, negK_some, e_cmp, cmp1_some, cmp2_some, map_some2, c_lt, c_le, c_gt, c_ge, c_eqI, c_neI, c_eqS, c_neS, tK_some, notK_some, blK_some, e_not, e_and, e_or, t_not, t_and, t_or, t_cmp, t_call, t_blt, a_nil, a_cons, andK_t, andK_f, o_nil, o_cons, orK_t, orK_f, e_ite, iteK_t, iteK_f, s_nil, s_cons, es1_some, es2_some, e_tup, tupK0, tupK1, tupK2, tupK3, tupK4, tupK5, e_lst, lstK0, lstK1, e_call, calK_some, e_blt, bltK_some, b_gcd, b_abs, b_int, b_max, b_min, b_lenT, b_lenL, b_tupT, b_tupL, b_lstT, b_lstL, b_all, items_lst, items_ro, map_some3, e_idx, idx1_some, idx2_some, i_tup, i_loc, at_0, at_1, at_2, at_3, e_slice, slK_some, slK1_some, slK2_some, o_none, o_some, oK_some, sl_tup, sl_loc, e_rev, revK_some, rv_tup, rv_loc, e_pop, popK_some, e_comp, it_tup, it_loc, it_enumT, it_enumL, it_zipT, it_zipL, e_dict, B_nil, B_cons, seqK_nx, seqK_ret, seqK_brk, seqK_cont, S_asg, asgK_some, nxK_some, bd_nm, bd_tup, bd_nil, bd_cons, bdK_some, S_par, parK_some, sa_nil, sa_cons, S_setI, stK_some, stK1_some, stK2_some, nxS_some, S_app, appK2_some, S_popS, popSK_some, S_ret, retK_some, S_retN, S_pass, S_brk, S_cont, S_ite, ifK_t, ifK_f, forK_some, getA, getA0, setA, setA0, lenA, appA, catA, nilA, lenC, len0, g_0, t_0, g_1, t_1, g_2, t_2, g_3, t_3, g_4, t_4, g_5, t_5, g_6, t_6, g_7, t_7, g_8, t_8, g_9, t_9, g_10, t_10, g_11, t_11, g_12, t_12, g_13, t_13, bindS, S_whil, S_for, compK_some]
  rw [← Rat.add_eq a b]
theorem r_fraction_times (T : FrT tb) (h : tb "fraction_times" = some d_fraction_times) (ha : Sz 4000 a) (hb : Sz 4000 b) : runF cst tb (k + 3) "fraction_times" [eF a, eF b] S = some (eF (a * b), S) := by
  refine run_ret0 h rfl ?_ (NoLoc_eF _)
  have m1 := fun S => d_mul (S := S) (mulOk_lt (B := 4000) (by decide) ha.1 hb.1)
  have m3 := fun S => d_mul (S := S) (mulOk_lt (B := 4000) (by decide) (by simpa using ha.2 : (a.den : Int).natAbs < 2 ^ 4000) (by simpa using hb.2 : (b.den : Int).natAbs < 2 ^ 4000))
  have l : LowOk (a.num * b.num) (a.den * b.den) := LowOk.pos (B := 8000) (by decide) (mul_pos' a b) (Sz.den ha hb)
  have r := fun k S => r_fraction_of (cst := cst) (k := k) (S := S) T l
  simp only [d_fraction_times, eF, List.map, List.replicate, Nat.sub_self, m1, m3, r, vK_some, e_var, e_lit, lit_non, lit_bl, lit_int, lit_str, e_glob, oneK_some, e_bin, bin1_some, bin2_some, d_add, d_sub, e_neg, negK_some, e_cmp, cmp1_some, cmp2_some, map_some2, c_lt, c_le, c_gt, c_ge, c_eqI, c_neI, c_eqS, c_neS, tK_some, notK_some, blK_some, e_not, e_and, e_or, t_not, t_and, t_or, t_cmp, t_call, t_blt, a_nil, a_cons, andK_t, andK_f, o_nil, o_cons, orK_t, orK_f, e_ite, iteK_t, iteK_f, s_nil, s_cons, es1_some, es2_some, e_tup, tupK0, tupK1, tupK2, tupK3, tupK4, tupK5, e_lst, lstK0, lstK1, e_call, calK_some, e_blt, bltK_some, b_gcd, b_abs, b_int, b_max, b_min, b_lenT, b_lenL, b_tupT, b_tupL, b_lstT, b_lstL, b_all, items_lst, items_ro, map_some3, e_idx, idx1_some, idx2_some, i_tup, i_loc, at_0, at_1, at_2, at_3, e_slice, slK_some, slK1_some, slK2_some, o_none, o_some, oK_some, sl_tup, sl_loc, e_rev, revK_some, rv_tup, rv_loc, e_pop, popK_some, e_comp, it_tup, it_loc, it_enumT, it_enumL, it_zipT, it_zipL, e_dict, B_nil, B_cons, seqK_nx, seqK_ret, seqK_brk, seqK_cont, S_asg, asgK_some, nxK_some, bd_nm, bd_tup, bd_nil, bd_cons, bdK_some, S_par, parK_some, sa_nil, sa_cons, S_setI, stK_some, stK1_some, stK2_some, nxS_some, S_app, appK2_some, S_popS, popSK_some, S_ret, retK_some, S_retN, S_pass, S_brk, S_cont, S_ite, ifK_t, ifK_f, forK_some, getA, getA0, setA, setA0, lenA, appA, catA, nilA, lenC, len0, g_0, t_0, g_1, t_1, g_2, t_2, g_3, t_3, g_4, t_4, g_5, t_5, g_6, t_6, g_7, t_7, g_8, t_8, g_9, t_9, g_10, t_10, g_11, t_11, g_12, t_12, g_13, t_13, bindS, S_whil, S_for, compK_some]
  rw [← Rat.mul_eq a b]
/-- division by a number that is above zero, or short -/
theorem r_fraction_by (T : FrT tb) (h : tb "fraction_by" = some d_fraction_by) (ha : Sz 4000 a) (hb : Sz 4000 b) (h0 : b ≠ 0) (hs : 0 < b.num ∨ b.num.natAbs * b.den < 1073741824) : runF cst tb (k + 3) "fraction_by" [eF a, eF b] S = some (eF (a / b), S) := by
  refine run_ret0 h rfl ?_ (NoLoc_eF _)
  have m1 := fun S => d_mul (S := S) (mulOk_lt (B := 4000) (by decide) ha.1 (by simpa using hb.2 : (b.den : Int).natAbs < 2 ^ 4000))
  have m3 := fun S => d_mul (S := S) (mulOk_lt (B := 4000) (by decide) (by simpa using ha.2 : (a.den : Int).natAbs < 2 ^ 4000) hb.1)
  have hn : b.num ≠ 0 := fun z => h0 (Rat.num_eq_zero.1 z)
  have l : LowOk (a.num * b.den) (a.den * b.num) := by
    rcases hs with hs | hs
    · exact LowOk.pos (B := 8000) (by decide) (Int.mul_pos (den_pos' a) hs) (Sz.mul_num (B := 4000) (C := 4000) (by simpa using ha.2) hb.1)
    · refine LowOk.small (Int.mul_ne_zero (by have := den_pos' a; omega) hn) (Nat.lt_of_le_of_lt (Nat.le_of_dvd ?_ ?_) hs)
      · exact Nat.mul_pos (by omega) b.den_pos
      · rw [Int.natAbs_mul, Int.natAbs_mul, Int.natAbs_natCast, Int.natAbs_natCast]
        have c1 : Nat.gcd a.num.natAbs a.den = 1 := a.reduced
        have c2 : Nat.gcd b.num.natAbs b.den = 1 := b.reduced
        have e : Nat.gcd (a.num.natAbs * b.den) (a.den * b.num.natAbs) ∣ b.den * b.num.natAbs := by
          have h1 : Nat.gcd (a.num.natAbs * b.den) (a.den * b.num.natAbs) ∣ a.num.natAbs * (b.den * b.num.natAbs) := by
            rw [← Nat.mul_assoc]
            exact Nat.dvd_trans (Nat.gcd_dvd_left _ _) (Nat.dvd_mul_right _ _)
          have h2 : Nat.gcd (a.num.natAbs * b.den) (a.den * b.num.natAbs) ∣ a.den * (b.den * b.num.natAbs) := by
            rw [Nat.mul_left_comm]
            exact Nat.dvd_trans (Nat.gcd_dvd_right _ _) (Nat.dvd_mul_left _ _)
          have := Nat.dvd_gcd h1 h2
          rwa [Nat.gcd_mul_right, c1, Nat.one_mul] at this
        rw [Nat.mul_comm b.num.natAbs]
        exact e
  have r := fun k S => r_fraction_of (cst := cst) (k := k) (S := S) T l
  simp only [d_fraction_by, eF, List.map, List.replicate, Nat.sub_self, m1, m3, r, vK_some, e_var, e_lit, lit_non, lit_bl, lit_int, lit_str, e_glob, oneK_some, e_bin, bin1_some, bin2_some, d_add, d_sub, e_neg, negK_some, e_cmp, cmp1_some, cmp2_some, map_some2, c_lt, c_le, c_gt, c_ge, c_eqI, c_neI, c_eqS, c_neS, tK_some, notK_some, blK_some, e_not, e_and, e_or, t_not, t_and, t_or, t_cmp, t_call, t_blt, a_nil, a_cons, andK_t, andK_f, o_nil, o_cons, orK_t, orK_f, e_ite, iteK_t, iteK_f, s_nil, s_cons, es1_some, es2_some, e_tup, tupK0, tupK1, tupK2, tupK3, tupK4, tupK5, e_lst, lstK0, lstK1, e_call, calK_some, e_blt, bltK_some, b_gcd, b_abs, b_int, b_max, b_min, b_lenT, b_lenL, b_tupT, b_tupL, b_lstT, b_lstL, b_all, items_lst, items_ro, map_some3, e_idx, idx1_some, idx2_some, i_tup, i_loc, at_0, at_1, at_2, at_3, e_slice, slK_some, slK1_some, slK2_some, o_none, o_some, oK_some, sl_tup, sl_loc, e_rev, revK_some, rv_tup, rv_loc, e_pop, popK_some, e_comp, it_tup, it_loc, it_enumT, it_enumL, it_zipT, it_zipL, e_dict, B_nil, B_cons, seqK_nx, seqK_ret, seqK_brk, seqK_cont, S_asg, asgK_some, nxK_some, bd_nm, bd_tup, bd_nil, bd_cons, bdK_some, S_par, parK_some, sa_nil, sa_cons, S_setI, stK_some, stK1_some, stK2_some, nxS_some, S_app, appK2_some, S_popS, popSK_some, S_ret, retK_some, S_retN, S_pass, S_brk, S_cont, S_ite, ifK_t, ifK_f, forK_some, getA, getA0, setA, setA0, lenA, appA, catA, nilA, lenC, len0, g_0, t_0, g_1, t_1, g_2, t_2, g_3, t_3, g_4, t_4, g_5, t_5, g_6, t_6, g_7, t_7, g_8, t_8, g_9, t_9, g_10, t_10, g_11, t_11, g_12, t_12, g_13, t_13, bindS, S_whil, S_for, compK_some]
  rw [← Rat.by_eq a b]
end
end Pf.Z

/-! Polynomials as lists of fractions; what the defs of the kit compute: taking off, sums, often. -/
namespace Pf.Z
open PySem PySem.Spec PyProof.Rows L2

/-! ### lists of fractions -/
def trim : List Rat → List Rat
  | [] => []
  | a :: r => match trim r with
    | [] => if a = 0 then [] else [a]
    | b :: t => a :: b :: t
def co (f : List Rat) (i : Nat) : Rat := f.getD i 0
theorem co_nil (i : Nat) : co [] i = 0 := rfl
theorem co_cons0 (a : Rat) (f : List Rat) : co (a :: f) 0 = a := rfl
theorem co_consS (a : Rat) (f : List Rat) (i : Nat) : co (a :: f) (i + 1) = co f i := rfl
theorem co_of_le {f : List Rat} {i : Nat} (h : f.length ≤ i) : co f i = 0 := by
  rw [co, List.getD_eq_getElem?_getD, List.getElem?_eq_none h]
  rfl
theorem co_get {f : List Rat} {i : Nat} (h : i < f.length) : f[i]? = some (co f i) := by
  rw [co, List.getD_eq_getElem?_getD, List.getElem?_eq_getElem h]
  rfl
theorem co_mem {f : List Rat} {i : Nat} (h : i < f.length) : co f i ∈ f := by
  rw [co, List.getD_eq_getElem?_getD, List.getElem?_eq_getElem h]
  exact List.getElem_mem h
theorem co_trim : ∀ (f : List Rat) (i : Nat), co (trim f) i = co f i
  | [], i => rfl
  | a :: r, i => by
    have ih := co_trim r
    simp only [trim]
    split
    · rename_i e
      rw [e] at ih
      split
      · rename_i h0
        cases i with
        | zero => rw [co_nil, co_cons0, h0]
        | succ i => rw [co_nil, co_consS, ← ih i, co_nil]
      · cases i with
        | zero => rfl
        | succ i => rw [co_consS, co_consS, ← ih i, co_nil]
    · rename_i b t e
      rw [e] at ih
      cases i with
      | zero => rfl
      | succ i => rw [co_consS, co_consS, ← ih i]
/-- no zeros at the end -/
def Nm (f : List Rat) : Prop := trim f = f
theorem trim_len : ∀ f : List Rat, (trim f).length ≤ f.length
  | [] => Nat.le_refl _
  | a :: r => by
    have := trim_len r
    simp only [trim]
    split
    · split <;> simp
    · rename_i e; rw [e] at this; simpa using this
theorem Nm_nil : Nm [] := rfl
theorem trim_cons_ne {a : Rat} {r : List Rat} (h : trim r ≠ []) : trim (a :: r) = a :: trim r := by
  simp only [trim]
  split
  · rename_i e; exact absurd e h
  · rename_i e; rw [e]
theorem trim_cons_nil {a : Rat} {r : List Rat} (h : trim r = []) : trim (a :: r) = if a = 0 then [] else [a] := by
  simp only [trim, h]
theorem trim_trim : ∀ f : List Rat, trim (trim f) = trim f
  | [] => rfl
  | a :: r => by
    by_cases h : trim r = []
    · rw [trim_cons_nil h]
      split
      · rfl
      · rename_i h0; simp [trim, h0]
    · rw [trim_cons_ne h, trim_cons_ne (by rw [trim_trim r]; exact h), trim_trim r]
theorem Nm_trim (f : List Rat) : Nm (trim f) := trim_trim f
theorem trim_eq_nil : ∀ {f : List Rat}, trim f = [] ↔ ∀ i, co f i = 0
  | [] => by simp [trim, co_nil]
  | a :: r => by
    have ih := @trim_eq_nil r
    constructor
    · intro h i
      rw [← co_trim, h, co_nil]
    · intro h
      have hr : trim r = [] := ih.2 fun i => h (i + 1)
      rw [trim_cons_nil hr, if_pos (show a = 0 from h 0)]
theorem trim_ext : ∀ {f g : List Rat}, (∀ i, co f i = co g i) → trim f = trim g
  | [], g, h => (trim_eq_nil.2 fun i => (h i).symm.trans rfl).symm
  | a :: f, [], h => trim_eq_nil.2 fun i => h i
  | a :: f, b :: g, h => by
    have h0 : a = b := h 0
    have ih : trim f = trim g := trim_ext fun i => h (i + 1)
    simp only [trim, h0, ih]
theorem Nm_ext {f g : List Rat} (hf : Nm f) (hg : Nm g) (h : ∀ i, co f i = co g i) : f = g := by
  rw [← hf, ← hg]
  exact trim_ext h
theorem trim_snoc (f : List Rat) (a : Rat) : trim (f ++ [a]) = if a = 0 then trim f else f ++ [a] := by
  induction f with
  | nil => by_cases h : a = 0 <;> simp [trim, h]
  | cons b r ih =>
    by_cases h : a = 0
    · rw [if_pos h] at ih ⊢
      simp only [List.cons_append, trim, ih]
    · rw [if_neg h] at ih ⊢
      have : trim (r ++ [a]) ≠ [] := by rw [ih]; simp
      rw [List.cons_append, trim_cons_ne this, ih]
theorem Nm_last {f : List Rat} {a : Rat} (h : a ≠ 0) : Nm (f ++ [a]) := by
  unfold Nm
  rw [trim_snoc, if_neg h]
theorem mem_trim : ∀ {f : List Rat} {a : Rat}, a ∈ trim f → a ∈ f
  | [], _, h => h
  | b :: r, a, h => by
    by_cases e : trim r = []
    · rw [trim_cons_nil e] at h
      split at h
      · cases h
      · cases h with
        | head => exact .head _
        | tail _ h => cases h
    · rw [trim_cons_ne e] at h
      cases h with
      | head => exact .head _
      | tail _ h => exact .tail _ (mem_trim h)

section
variable {cst : Str → Option D} {tb : Str → Option FD} {k : Nat} {S : Sto}
/-- the constants of the polynomials -/
structure CsT (cst : Str → Option D) : Prop where
  none : cst "NONE" = some (eF 0)
  one : cst "ONE" = some (eF 1)
  x : cst "X" = some (eP [0, 1])
theorem run_retX {f : Str} {fd : FD} {ds : List D} {d : D} {S' : Sto} (h : tb f = some fd) (hl : ds.length = fd.np) (e : evB ⟨runF cst tb k, cst⟩ fd.body (ds.map some ++ List.replicate (fd.nl - fd.np) none) S = some (.ret d, S')) (hn : NoLoc d) (hp : S'.take S.length = S) :
    runF cst tb (k + 1) f ds S = some (d, S) := by
  rw [runF, h, Option.bind_some, if_pos hl, e, Option.bind_some]
  simp only [retD]
  rw [if_pos ⟨hn, hp⟩]
/-- what the loop of poly_of does: from the list at p -/
theorem of_loop {d0 : D} (hN : cst "NONE" = some (eF 0)) : ∀ (n : Nat) (f : List Rat) (G : Sto), f.length = n → ∃ m ρ' G', whileN (fun ρ1 S1 => evT ⟨runF cst tb k, cst⟩ (.and [.cmp .ne (.var 1) (.lst []), .cmp .eq (.idx (.var 1) (.neg (.lit (.int 1)))) (.glob "NONE")]) ρ1 S1) (fun ρ1 S1 => evB ⟨runF cst tb k, cst⟩ [.popS (.var 1)] ρ1 S1) m [some d0, some (.loc S.length)] (S ++ .lst (f.map eF) :: G) = some (.nx ρ', S ++ .lst ((trim f).map eF) :: G') ∧ ρ' = [some d0, some (.loc S.length)]
  | n, f, G, hn => by
    have c1 : cmpD .ne (.loc S.length) (.loc (S.length + (G.length + 1))) (S ++ .lst (f.map eF) :: (G ++ [.lst []])) = some (.bl (!(f.map eF).isEmpty)) :=
      c_neE (NBs_eFs f) (by have := dpts_eFs f; omega) (getA0 ..) (by rw [getA]; simp)
    have hp : ∀ b : Bool, evT ⟨runF cst tb k, cst⟩ (.and [.cmp .ne (.var 1) (.lst []), .cmp .eq (.idx (.var 1) (.neg (.lit (.int 1)))) (.glob "NONE")]) [some d0, some (.loc S.length)] (S ++ .lst (f.map eF) :: G) = andK ⟨runF cst tb k, cst⟩ [.cmp .eq (.idx (.var 1) (.neg (.lit (.int 1)))) (.glob "NONE")] [some d0, some (.loc S.length)] (some (!(f.map eF).isEmpty, S ++ .lst (f.map eF) :: (G ++ [.lst []]))) := fun _ => by
      simp only [c1, lstK0, vK_some, e_var, e_lit, lit_non, lit_bl, lit_int, lit_str, e_glob, oneK_some, e_bin, bin1_some, bin2_some, d_add, d_sub, e_neg, negK_some, e_cmp, cmp1_some, cmp2_some, map_some2, c_lt, c_le, c_gt, c_ge, c_eqI, c_neI, c_eqS, c_neS, tK_some, notK_some, blK_some, e_not, e_and, e_or, t_not, t_and, t_or, t_cmp, t_call, t_blt, a_nil, a_cons, andK_t, andK_f, o_nil, o_cons, orK_t, orK_f, e_ite, iteK_t, iteK_f, s_nil, s_cons, es1_some, es2_some, e_tup, tupK0, tupK1, tupK2, tupK3, tupK4, tupK5, e_lst, lstK0, lstK1, e_call, calK_some, e_blt, bltK_some, b_gcd, b_abs, b_int, b_max, b_min, b_lenT, b_lenL, b_tupT, b_tupL, b_lstT, b_lstL, b_all, items_lst, items_ro, map_some3, e_idx, idx1_some, idx2_some, i_tup, i_loc, at_0, at_1, at_2, at_3, e_slice, slK_some, slK1_some, slK2_some, o_none, o_some, oK_some, sl_tup, sl_loc, e_rev, revK_some, rv_tup, rv_loc, e_pop, popK_some, e_comp, it_tup, it_loc, it_enumT, it_enumL, it_zipT, it_zipL, e_dict, B_nil, B_cons, seqK_nx, seqK_ret, seqK_brk, seqK_cont, S_asg, asgK_some, nxK_some, bd_nm, bd_tup, bd_nil, bd_cons, bdK_some, S_par, parK_some, sa_nil, sa_cons, S_setI, stK_some, stK1_some, stK2_some, nxS_some, S_app, appK2_some, S_popS, popSK_some, S_ret, retK_some, S_retN, S_pass, S_brk, S_cont, S_ite, ifK_t, ifK_f, forK_some, getA, getA0, setA, setA0, lenA, appA, catA, nilA, lenC, len0, g_0, t_0, g_1, t_1, g_2, t_2, g_3, t_3, g_4, t_4, g_5, t_5, g_6, t_6, g_7, t_7, g_8, t_8, g_9, t_9, g_10, t_10, g_11, t_11, g_12, t_12, g_13, t_13, bindS, S_whil, S_for, compK_some]
    rcases List.eq_nil_or_concat f with rfl | ⟨r, a, rfl⟩
    · refine ⟨1, [some d0, some (.loc S.length)], G ++ [.lst []], ?_, rfl⟩
      have hc := hp true
      rw [show (!(([] : List Rat).map eF).isEmpty) = false from rfl, andK_f] at hc
      simp only [whileN, hc, Option.bind_some]
      rfl
    · have e0 : ((r.concat a).map eF).isEmpty = false := by simp
      have e1 : (r.concat a).map eF = r.map eF ++ [eF a] := by simp
      have hc : evT ⟨runF cst tb k, cst⟩ (.and [.cmp .ne (.var 1) (.lst []), .cmp .eq (.idx (.var 1) (.neg (.lit (.int 1)))) (.glob "NONE")]) [some d0, some (.loc S.length)] (S ++ .lst ((r.concat a).map eF) :: G) = some (decide (a = 0), S ++ .lst ((r.concat a).map eF) :: (G ++ [.lst []])) := by
        rw [hp true, e0, e1]
        simp only [Bool.not_false, andK_t, atI_last, c_eqF, hN, vK_some, e_var, e_lit, lit_non, lit_bl, lit_int, lit_str, e_glob, oneK_some, e_bin, bin1_some, bin2_some, d_add, d_sub, e_neg, negK_some, e_cmp, cmp1_some, cmp2_some, map_some2, c_lt, c_le, c_gt, c_ge, c_eqI, c_neI, c_eqS, c_neS, tK_some, notK_some, blK_some, e_not, e_and, e_or, t_not, t_and, t_or, t_cmp, t_call, t_blt, a_nil, a_cons, andK_t, andK_f, o_nil, o_cons, orK_t, orK_f, e_ite, iteK_t, iteK_f, s_nil, s_cons, es1_some, es2_some, e_tup, tupK0, tupK1, tupK2, tupK3, tupK4, tupK5, e_lst, lstK0, lstK1, e_call, calK_some, e_blt, bltK_some, b_gcd, b_abs, b_int, b_max, b_min, b_lenT, b_lenL, b_tupT, b_tupL, b_lstT, b_lstL, b_all, items_lst, items_ro, map_some3, e_idx, idx1_some, idx2_some, i_tup, i_loc, at_0, at_1, at_2, at_3, e_slice, slK_some, slK1_some, slK2_some, o_none, o_some, oK_some, sl_tup, sl_loc, e_rev, revK_some, rv_tup, rv_loc, e_pop, popK_some, e_comp, it_tup, it_loc, it_enumT, it_enumL, it_zipT, it_zipL, e_dict, B_nil, B_cons, seqK_nx, seqK_ret, seqK_brk, seqK_cont, S_asg, asgK_some, nxK_some, bd_nm, bd_tup, bd_nil, bd_cons, bdK_some, S_par, parK_some, sa_nil, sa_cons, S_setI, stK_some, stK1_some, stK2_some, nxS_some, S_app, appK2_some, S_popS, popSK_some, S_ret, retK_some, S_retN, S_pass, S_brk, S_cont, S_ite, ifK_t, ifK_f, forK_some, getA, getA0, setA, setA0, lenA, appA, catA, nilA, lenC, len0, g_0, t_0, g_1, t_1, g_2, t_2, g_3, t_3, g_4, t_4, g_5, t_5, g_6, t_6, g_7, t_7, g_8, t_8, g_9, t_9, g_10, t_10, g_11, t_11, g_12, t_12, g_13, t_13, bindS, S_whil, S_for, compK_some]
        by_cases ha : a = 0 <;> simp [ha, andK, evAnd]
      by_cases ha : a = 0
      · obtain ⟨m, ρ', G', e, h2⟩ := of_loop hN (n - 1) r (G ++ [.lst []]) (by simp at hn; omega)
        refine ⟨m + 1, ρ', G', ?_, h2⟩
        have hb : evB ⟨runF cst tb k, cst⟩ [.popS (.var 1)] [some d0, some (.loc S.length)] (S ++ .lst ((r.concat a).map eF) :: (G ++ [.lst []])) = some (.nx [some d0, some (.loc S.length)], S ++ .lst (r.map eF) :: (G ++ [.lst []])) := by
          have hq : popD (.loc S.length) (S ++ Cell.lst (r.map eF ++ [eF a]) :: (G ++ [Cell.lst []])) = some (eF a, (S ++ Cell.lst (r.map eF ++ [eF a]) :: (G ++ [Cell.lst []])).set S.length (.lst (r.map eF))) := pop_loc (getA0 ..)
          rw [e1]
          simp only [hq, vK_some, e_var, e_lit, lit_non, lit_bl, lit_int, lit_str, e_glob, oneK_some, e_bin, bin1_some, bin2_some, d_add, d_sub, e_neg, negK_some, e_cmp, cmp1_some, cmp2_some, map_some2, c_lt, c_le, c_gt, c_ge, c_eqI, c_neI, c_eqS, c_neS, tK_some, notK_some, blK_some, e_not, e_and, e_or, t_not, t_and, t_or, t_cmp, t_call, t_blt, a_nil, a_cons, andK_t, andK_f, o_nil, o_cons, orK_t, orK_f, e_ite, iteK_t, iteK_f, s_nil, s_cons, es1_some, es2_some, e_tup, tupK0, tupK1, tupK2, tupK3, tupK4, tupK5, e_lst, lstK0, lstK1, e_call, calK_some, e_blt, bltK_some, b_gcd, b_abs, b_int, b_max, b_min, b_lenT, b_lenL, b_tupT, b_tupL, b_lstT, b_lstL, b_all, items_lst, items_ro, map_some3, e_idx, idx1_some, idx2_some, i_tup, i_loc, at_0, at_1, at_2, at_3, e_slice, slK_some, slK1_some, slK2_some, o_none, o_some, oK_some, sl_tup, sl_loc, e_rev, revK_some, rv_tup, rv_loc, e_pop, popK_some, e_comp, it_tup, it_loc, it_enumT, it_enumL, it_zipT, it_zipL, e_dict, B_nil, B_cons, seqK_nx, seqK_ret, seqK_brk, seqK_cont, S_asg, asgK_some, nxK_some, bd_nm, bd_tup, bd_nil, bd_cons, bdK_some, S_par, parK_some, sa_nil, sa_cons, S_setI, stK_some, stK1_some, stK2_some, nxS_some, S_app, appK2_some, S_popS, popSK_some, S_ret, retK_some, S_retN, S_pass, S_brk, S_cont, S_ite, ifK_t, ifK_f, forK_some, getA, getA0, setA, setA0, lenA, appA, catA, nilA, lenC, len0, g_0, t_0, g_1, t_1, g_2, t_2, g_3, t_3, g_4, t_4, g_5, t_5, g_6, t_6, g_7, t_7, g_8, t_8, g_9, t_9, g_10, t_10, g_11, t_11, g_12, t_12, g_13, t_13, bindS, S_whil, S_for, compK_some]
        rw [show decide (a = 0) = true from decide_eq_true ha] at hc
        simp only [whileN, hc, hb, Option.bind_some, if_true]
        have : trim (r.concat a) = trim r := by rw [List.concat_eq_append, trim_snoc, if_pos ha]
        rw [e, this]
      · refine ⟨1, [some d0, some (.loc S.length)], G ++ [.lst []], ?_, rfl⟩
        rw [show decide (a = 0) = false from decide_eq_false ha] at hc
        simp only [whileN, hc, Option.bind_some]
        have : trim (r.concat a) = r.concat a := by rw [List.concat_eq_append, trim_snoc, if_neg ha]
        rw [this]
        rfl
termination_by n => n
decreasing_by simp at hn; omega
theorem r_poly_of (h : tb "poly_of" = some d_poly_of) (hN : cst "NONE" = some (eF 0)) {d : D} {f : List Rat} (hd : bltD "list" [d] S = some (.loc S.length, S ++ [.lst (f.map eF)])) : runF cst tb (k + 1) "poly_of" [d] S = some (eP (trim f), S) := by
  obtain ⟨m, ρ', G', e, rfl⟩ := of_loop (cst := cst) (tb := tb) (k := k) (S := S) (d0 := d) hN f.length f [] rfl
  refine run_ret (G := .lst ((trim f).map eF) :: G') h rfl ?_ (NoLoc_eP _)
  simp only [d_poly_of, List.map, List.replicate, Nat.reduceSub, List.cons_append, List.nil_append, hd, whK_of e, vK_some, e_var, e_lit, lit_non, lit_bl, lit_int, lit_str, e_glob, oneK_some, e_bin, bin1_some, bin2_some, d_add, d_sub, e_neg, negK_some, e_cmp, cmp1_some, cmp2_some, map_some2, c_lt, c_le, c_gt, c_ge, c_eqI, c_neI, c_eqS, c_neS, tK_some, notK_some, blK_some, e_not, e_and, e_or, t_not, t_and, t_or, t_cmp, t_call, t_blt, a_nil, a_cons, andK_t, andK_f, o_nil, o_cons, orK_t, orK_f, e_ite, iteK_t, iteK_f, s_nil, s_cons, es1_some, es2_some, e_tup, tupK0, tupK1, tupK2, tupK3, tupK4, tupK5, e_lst, lstK0, lstK1, e_call, calK_some, e_blt, bltK_some, b_gcd, b_abs, b_int, b_max, b_min, b_lenT, b_lenL, b_tupT, b_tupL, b_lstT, b_lstL, b_all, items_lst, items_ro, map_some3, e_idx, idx1_some, idx2_some, i_tup, i_loc, at_0, at_1, at_2, at_3, e_slice, slK_some, slK1_some, slK2_some, o_none, o_some, oK_some, sl_tup, sl_loc, e_rev, revK_some, rv_tup, rv_loc, e_pop, popK_some, e_comp, it_tup, it_loc, it_enumT, it_enumL, it_zipT, it_zipL, e_dict, B_nil, B_cons, seqK_nx, seqK_ret, seqK_brk, seqK_cont, S_asg, asgK_some, nxK_some, bd_nm, bd_tup, bd_nil, bd_cons, bdK_some, S_par, parK_some, sa_nil, sa_cons, S_setI, stK_some, stK1_some, stK2_some, nxS_some, S_app, appK2_some, S_popS, popSK_some, S_ret, retK_some, S_retN, S_pass, S_brk, S_cont, S_ite, ifK_t, ifK_f, forK_some, getA, getA0, setA, setA0, lenA, appA, catA, nilA, lenC, len0, g_0, t_0, g_1, t_1, g_2, t_2, g_3, t_3, g_4, t_4, g_5, t_5, g_6, t_6, g_7, t_7, g_8, t_8, g_9, t_9, g_10, t_10, g_11, t_11, g_12, t_12, g_13, t_13, bindS, S_whil, S_for, compK_some]
  rfl
/-! ### rules for polynomials as data -/
theorem b_lenP (f : List Rat) : bltD "len" [eP f] S = some (.int f.length, S) := by
  show some (D.int (f.map eF).length, S) = _
  rw [List.length_map]
theorem i_P {f : List Rat} {j : Nat} (h : j < f.length) : idxD (eP f) (.int (j : Int)) S = some (eF (co f j)) := by
  show atI (f.map eF) j = _
  rw [at_nat, List.getElem?_map, co_get h]
  rfl
theorem i_F0 (a : Rat) : idxD (eF a) (.int 0) S = some (.int a.num) := rfl
theorem i_F1 (a : Rat) : idxD (eF a) (.int 1) S = some (.int a.den) := rfl
theorem i_Plast {f : List Rat} (h : f ≠ []) : idxD (eP f) (.int (-1)) S = some (eF (co f (f.length - 1))) := by
  have e : f = f.dropLast ++ [f.getLast h] := (List.dropLast_concat_getLast h).symm
  have hc : co f (f.length - 1) = f.getLast h := by
    have hl : f.length - 1 < f.length := by
      have := List.length_pos_iff.2 h
      omega
    have h1 := co_get hl
    rw [← List.getLast?_eq_getElem?, List.getLast?_eq_getLast h] at h1
    exact (Option.some.inj h1).symm
  rw [hc]
  show atI (f.map eF) (-1) = _
  conv => lhs; rw [e]
  rw [List.map_append, List.map_cons, List.map_nil, atI_last]
theorem rv_P (f : List Rat) : revD (eP f) S = some (eP f.reverse, S) := by
  show some (D.tup (f.map eF).reverse, S) = _
  rw [← List.map_reverse]
  rfl
theorem it_P (f : List Rat) : iterD .seq [eP f] S = some (f.map eF, []) := rfl
theorem b_lstP (f : List Rat) : bltD "list" [eP f] S = some (.loc S.length, S ++ [.lst (f.map eF)]) := rfl
theorem b_tupP (f : List Rat) : bltD "tuple" [eP f] S = some (eP f, S) := rfl
theorem w_nil (ρ : En) : wipeE ρ [] = ρ := rfl
theorem w_cons (ρ : En) (v : Nat) (vs : List Nat) : wipeE ρ (v :: vs) = (wipeE ρ vs).set v none := rfl
theorem cs0 {C : Cfg} {t : T} {elt : Ex} {own : List Nat} {ρ ρ1 : En} {x y : D} {S1 S2 : Sto} (hb : bind1 t x (wipeE ρ own) = some ρ1) (he : evE C elt ρ1 S1 = some (y, S2)) : cmpStep C t [] elt own ρ x S1 = some (some y, S2) := by
  simp only [cmpStep, hb, Option.bind_some, evAnd, if_true, he, Option.map_some]
theorem compI_map {C : Cfg} {t : T} {ifs : List Ex} {elt : Ex} {own : List Nat} {ρ : En} {xs : List D} {L : List Nat} (g : Nat → D) (hL : ∀ l ∈ L, l < S.length) (hl : xs.length < sizeLine)
    (h : ∀ i x acc, xs[i]? = some x → cmpStep C t ifs elt own ρ x (S ++ [.lst acc]) = some (some (g i), S ++ [.lst acc])) : compI C t ifs elt own ρ S (some (xs, L)) = some (.loc S.length, S ++ [.lst ((List.range xs.length).map g)]) := by
  unfold compI
  simp only
  rw [comp_map g hL hl h]
  rfl
theorem range_map {α β : Type} (f : List α) (g : α → β) (d : α) : (List.range f.length).map (fun i => g (f.getD i d)) = f.map g := by
  apply List.ext_getElem
  · simp
  · intro i h1 h2
    simp at h1
    simp [List.getD_eq_getElem?_getD, List.getElem?_eq_getElem h1]
theorem max_nat (m n : Nat) : (if (n : Int) > m then (n : Int) else m) = ((max m n : Nat) : Int) := by
  split <;> omega
theorem r_number_at (h : tb "number_at" = some d_number_at) (hN : cst "NONE" = some (eF 0)) (f : List Rat) (i : Nat) : runF cst tb (k + 1) "number_at" [eP f, .int (i : Int)] S = some (eF (co f i), S) := by
  refine run_ret0 h rfl ?_ (NoLoc_eF _)
  by_cases hi : i < f.length
  · have hd : decide ((i : Int) < f.length) = true := decide_eq_true (by omega)
    simp only [d_number_at, List.map, List.replicate, Nat.reduceSub, List.cons_append, List.nil_append, b_lenP, hd, i_P hi, vK_some, e_var, e_lit, lit_non, lit_bl, lit_int, lit_str, e_glob, oneK_some, e_bin, bin1_some, bin2_some, d_add, d_sub, e_neg, negK_some, e_cmp, cmp1_some, cmp2_some, map_some2, c_lt, c_le, c_gt, c_ge, c_eqI, c_neI, c_eqS, c_neS, tK_some, notK_some, blK_some, e_not, e_and, e_or, t_not, t_and, t_or, t_cmp, t_call, t_blt, a_nil, a_cons, andK_t, andK_f, o_nil, o_cons, orK_t, orK_f, e_ite, iteK_t, iteK_f, s_nil, s_cons, es1_some, es2_some, e_tup, tupK0, tupK1, tupK2, tupK3, tupK4, tupK5, e_lst, lstK0, lstK1, e_call, calK_some, e_blt, bltK_some, b_gcd, b_abs, b_int, b_max, b_min, b_lenT, b_lenL, b_tupT, b_tupL, b_lstT, b_lstL, b_all, items_lst, items_ro, map_some3, e_idx, idx1_some, idx2_some, i_tup, i_loc, at_0, at_1, at_2, at_3, e_slice, slK_some, slK1_some, slK2_some, o_none, o_some, oK_some, sl_tup, sl_loc, e_rev, revK_some, rv_tup, rv_loc, e_pop, popK_some, e_comp, it_tup, it_loc, it_enumT, it_enumL, it_zipT, it_zipL, e_dict, B_nil, B_cons, seqK_nx, seqK_ret, seqK_brk, seqK_cont, S_asg, asgK_some, nxK_some, bd_nm, bd_tup, bd_nil, bd_cons, bdK_some, S_par, parK_some, sa_nil, sa_cons, S_setI, stK_some, stK1_some, stK2_some, nxS_some, S_app, appK2_some, S_popS, popSK_some, S_ret, retK_some, S_retN, S_pass, S_brk, S_cont, S_ite, ifK_t, ifK_f, forK_some, getA, getA0, setA, setA0, lenA, appA, catA, nilA, lenC, len0, g_0, t_0, g_1, t_1, g_2, t_2, g_3, t_3, g_4, t_4, g_5, t_5, g_6, t_6, g_7, t_7, g_8, t_8, g_9, t_9, g_10, t_10, g_11, t_11, g_12, t_12, g_13, t_13, bindS, S_whil, S_for, compK_some]
  · have hd : decide ((i : Int) < f.length) = false := decide_eq_false (by omega)
    simp only [d_number_at, List.map, List.replicate, Nat.reduceSub, List.cons_append, List.nil_append, b_lenP, hd, hN, co_of_le (Nat.le_of_not_lt hi), vK_some, e_var, e_lit, lit_non, lit_bl, lit_int, lit_str, e_glob, oneK_some, e_bin, bin1_some, bin2_some, d_add, d_sub, e_neg, negK_some, e_cmp, cmp1_some, cmp2_some, map_some2, c_lt, c_le, c_gt, c_ge, c_eqI, c_neI, c_eqS, c_neS, tK_some, notK_some, blK_some, e_not, e_and, e_or, t_not, t_and, t_or, t_cmp, t_call, t_blt, a_nil, a_cons, andK_t, andK_f, o_nil, o_cons, orK_t, orK_f, e_ite, iteK_t, iteK_f, s_nil, s_cons, es1_some, es2_some, e_tup, tupK0, tupK1, tupK2, tupK3, tupK4, tupK5, e_lst, lstK0, lstK1, e_call, calK_some, e_blt, bltK_some, b_gcd, b_abs, b_int, b_max, b_min, b_lenT, b_lenL, b_tupT, b_tupL, b_lstT, b_lstL, b_all, items_lst, items_ro, map_some3, e_idx, idx1_some, idx2_some, i_tup, i_loc, at_0, at_1, at_2, at_3, e_slice, slK_some, slK1_some, slK2_some, o_none, o_some, oK_some, sl_tup, sl_loc, e_rev, revK_some, rv_tup, rv_loc, e_pop, popK_some, e_comp, it_tup, it_loc, it_enumT, it_enumL, it_zipT, it_zipL, e_dict, B_nil, B_cons, seqK_nx, seqK_ret, seqK_brk, seqK_cont, S_asg, asgK_some, nxK_some, bd_nm, bd_tup, bd_nil, bd_cons, bdK_some, S_par, parK_some, sa_nil, sa_cons, S_setI, stK_some, stK1_some, stK2_some, nxS_some, S_app, appK2_some, S_popS, popSK_some, S_ret, retK_some, S_retN, S_pass, S_brk, S_cont, S_ite, ifK_t, ifK_f, forK_some, getA, getA0, setA, setA0, lenA, appA, catA, nilA, lenC, len0, g_0, t_0, g_1, t_1, g_2, t_2, g_3, t_3, g_4, t_4, g_5, t_5, g_6, t_6, g_7, t_7, g_8, t_8, g_9, t_9, g_10, t_10, g_11, t_11, g_12, t_12, g_13, t_13, bindS, S_whil, S_for, compK_some]
/-- all numbers are short -/
def SzP (B : Nat) (f : List Rat) : Prop := ∀ a ∈ f, Sz B a
theorem Sz0 (B : Nat) : Sz (B + 1) 0 := ⟨Nat.pow_pos (by decide), Nat.one_lt_two_pow (by omega)⟩
theorem SzP.co {B : Nat} {f : List Rat} (h : SzP (B + 1) f) (i : Nat) : Sz (B + 1) (co f i) := by
  by_cases hi : i < f.length
  · exact h _ (co_mem hi)
  · rw [co_of_le (Nat.le_of_not_lt hi)]
    exact Sz0 B
theorem SzP.mono {B C : Nat} {f : List Rat} (h : SzP B f) (hl : B ≤ C) : SzP C f := fun a ha => (h a ha).mono hl
/-- the numbers at 0, …, n - 1 -/
def tab (n : Nat) (φ : Nat → Rat) : List Rat := (List.range n).map φ
def mkP (n : Nat) (φ : Nat → Rat) : List Rat := trim (tab n φ)
theorem co_tab (n : Nat) (φ : Nat → Rat) (i : Nat) : co (tab n φ) i = if i < n then φ i else 0 := by
  split
  · rename_i h
    simp [co, tab, List.getD_eq_getElem?_getD, h]
  · rename_i h
    exact co_of_le (by simp [tab]; omega)
theorem co_mkP {n : Nat} {φ : Nat → Rat} (h : ∀ i, n ≤ i → φ i = 0) (i : Nat) : co (mkP n φ) i = φ i := by
  rw [mkP, co_trim, co_tab]
  split
  · rfl
  · rw [h i (by omega)]
def padd (f g : List Rat) : List Rat := mkP (max f.length g.length) fun i => co f i + co g i
def poften (c : Rat) (f : List Rat) : List Rat := trim (f.map (c * ·))
def pless (f g : List Rat) : List Rat := padd f (poften (-1) g)
theorem tab_eF (n : Nat) (φ : Nat → Rat) : (List.range n).map (fun i => eF (φ i)) = (tab n φ).map eF := by
  simp [tab, List.map_map, Function.comp_def]
/-- what the defs of polynomials need of the table -/
structure PoT (cst : Str → Option D) (tb : Str → Option FD) : Prop where
  fr : FrT tb
  cs : CsT cst
  of : tb "poly_of" = some d_poly_of
theorem r_flat_of (T : PoT cst tb) (h : tb "flat_of" = some d_flat_of) (c : Rat) : runF cst tb (k + 2) "flat_of" [eF c] S = some (eP (trim [c]), S) := by
  refine run_ret (G := [.lst [eF c]]) h rfl ?_ (NoLoc_eP _)
  have r := r_poly_of (cst := cst) (tb := tb) (k := k) (S := S ++ [.lst [eF c]]) T.of T.cs.none (d := .loc S.length) (f := [c]) (by rw [b_lstL, getA0]; rfl)
  simp only [d_flat_of, List.map, List.replicate, Nat.reduceSub, List.cons_append, List.nil_append, r, vK_some, e_var, e_lit, lit_non, lit_bl, lit_int, lit_str, e_glob, oneK_some, e_bin, bin1_some, bin2_some, d_add, d_sub, e_neg, negK_some, e_cmp, cmp1_some, cmp2_some, map_some2, c_lt, c_le, c_gt, c_ge, c_eqI, c_neI, c_eqS, c_neS, tK_some, notK_some, blK_some, e_not, e_and, e_or, t_not, t_and, t_or, t_cmp, t_call, t_blt, a_nil, a_cons, andK_t, andK_f, o_nil, o_cons, orK_t, orK_f, e_ite, iteK_t, iteK_f, s_nil, s_cons, es1_some, es2_some, e_tup, tupK0, tupK1, tupK2, tupK3, tupK4, tupK5, e_lst, lstK0, lstK1, e_call, calK_some, e_blt, bltK_some, b_gcd, b_abs, b_int, b_max, b_min, b_lenT, b_lenL, b_tupT, b_tupL, b_lstT, b_lstL, b_all, items_lst, items_ro, map_some3, e_idx, idx1_some, idx2_some, i_tup, i_loc, at_0, at_1, at_2, at_3, e_slice, slK_some, slK1_some, slK2_some, o_none, o_some, oK_some, sl_tup, sl_loc, e_rev, revK_some, rv_tup, rv_loc, e_pop, popK_some, e_comp, it_tup, it_loc, it_enumT, it_enumL, it_zipT, it_zipL, e_dict, B_nil, B_cons, seqK_nx, seqK_ret, seqK_brk, seqK_cont, S_asg, asgK_some, nxK_some, bd_nm, bd_tup, bd_nil, bd_cons, bdK_some, S_par, parK_some, sa_nil, sa_cons, S_setI, stK_some, stK1_some, stK2_some, nxS_some, S_app, appK2_some, S_popS, popSK_some, S_ret, retK_some, S_retN, S_pass, S_brk, S_cont, S_ite, ifK_t, ifK_f, forK_some, getA, getA0, setA, setA0, lenA, appA, catA, nilA, lenC, len0, g_0, t_0, g_1, t_1, g_2, t_2, g_3, t_3, g_4, t_4, g_5, t_5, g_6, t_6, g_7, t_7, g_8, t_8, g_9, t_9, g_10, t_10, g_11, t_11, g_12, t_12, g_13, t_13, bindS, S_whil, S_for, compK_some]
theorem r_poly_sum (T : PoT cst tb) (h : tb "poly_sum" = some d_poly_sum) (h1 : tb "fraction_sum" = some d_fraction_sum) (h2 : tb "number_at" = some d_number_at) {f g : List Rat} (hf : SzP 4000 f) (hg : SzP 4000 g) (lf : f.length < 1000000) (lg : g.length < 1000000) :
    runF cst tb (k + 4) "poly_sum" [eP f, eP g] S = some (eP (padd f g), S) := by
  refine run_ret (G := [.lst ((tab (max f.length g.length) fun i => co f i + co g i).map eF)]) h rfl ?_ (NoLoc_eP _)
  have hc := compI_map (S := S) (C := ⟨runF cst tb (k + 3), cst⟩) (t := .nm 2) (ifs := []) (elt := .call "fraction_sum" [.call "number_at" [.var 0, .var 2], .call "number_at" [.var 1, .var 2]]) (own := [2]) (ρ := [some (eP f), some (eP g), none])
    (xs := (List.range (max f.length g.length)).map fun i => D.int (i : Nat)) (L := []) (fun i => eF (co f i + co g i)) (by simp) (by simp [sizeLine]; omega) (fun i x acc e => by
      obtain ⟨hi, rfl⟩ : i < max f.length g.length ∧ x = D.int (i : Nat) := by
        rw [List.getElem?_map] at e
        by_cases hi : i < max f.length g.length
        · rw [List.getElem?_range hi] at e
          exact ⟨hi, (Option.some.inj e).symm⟩
        · rw [List.getElem?_eq_none (by simpa using hi)] at e
          cases e
      refine cs0 (ρ1 := [some (eP f), some (eP g), some (.int (i : Nat))]) (by simp only [w_nil, w_cons, vK_some, e_var, e_lit, lit_non, lit_bl, lit_int, lit_str, e_glob, oneK_some, e_bin, bin1_some, bin2_some, d_add, d_sub, e_neg, negK_some, e_cmp, cmp1_some, cmp2_some, map_some2, c_lt, c_le, c_gt, c_ge, c_eqI, c_neI, c_eqS, c_neS, tK_some, notK_some, blK_some, e_not, e_and, e_or, t_not, t_and, t_or, t_cmp, t_call, t_blt, a_nil, a_cons, andK_t, andK_f, o_nil, o_cons, orK_t, orK_f, e_ite, iteK_t, iteK_f, s_nil, s_cons, es1_some, es2_some, e_tup, tupK0, tupK1, tupK2, tupK3, tupK4, tupK5, e_lst, lstK0, lstK1, e_call, calK_some, e_blt, bltK_some, b_gcd, b_abs, b_int, b_max, b_min, b_lenT, b_lenL, b_tupT, b_tupL, b_lstT, b_lstL, b_all, items_lst, items_ro, map_some3, e_idx, idx1_some, idx2_some, i_tup, i_loc, at_0, at_1, at_2, at_3, e_slice, slK_some, slK1_some, slK2_some, o_none, o_some, oK_some, sl_tup, sl_loc, e_rev, revK_some, rv_tup, rv_loc, e_pop, popK_some, e_comp, it_tup, it_loc, it_enumT, it_enumL, it_zipT, it_zipL, e_dict, B_nil, B_cons, seqK_nx, seqK_ret, seqK_brk, seqK_cont, S_asg, asgK_some, nxK_some, bd_nm, bd_tup, bd_nil, bd_cons, bdK_some, S_par, parK_some, sa_nil, sa_cons, S_setI, stK_some, stK1_some, stK2_some, nxS_some, S_app, appK2_some, S_popS, popSK_some, S_ret, retK_some, S_retN, S_pass, S_brk, S_cont, S_ite, ifK_t, ifK_f, forK_some, getA, getA0, setA, setA0, lenA, appA, catA, nilA, lenC, len0, g_0, t_0, g_1, t_1, g_2, t_2, g_3, t_3, g_4, t_4, g_5, t_5, g_6, t_6, g_7, t_7, g_8, t_8, g_9, t_9, g_10, t_10, g_11, t_11, g_12, t_12, g_13, t_13, bindS, S_whil, S_for, compK_some]) ?_
      have n1 := fun k S => r_number_at (cst := cst) (k := k) (S := S) h2 T.cs.none f i
      have n2 := fun k S => r_number_at (cst := cst) (k := k) (S := S) h2 T.cs.none g i
      have n3 := fun k S => r_fraction_sum (cst := cst) (k := k) (S := S) T.fr h1 (hf.co i) (hg.co i)
      simp only [n1, n2, n3, vK_some, e_var, e_lit, lit_non, lit_bl, lit_int, lit_str, e_glob, oneK_some, e_bin, bin1_some, bin2_some, d_add, d_sub, e_neg, negK_some, e_cmp, cmp1_some, cmp2_some, map_some2, c_lt, c_le, c_gt, c_ge, c_eqI, c_neI, c_eqS, c_neS, tK_some, notK_some, blK_some, e_not, e_and, e_or, t_not, t_and, t_or, t_cmp, t_call, t_blt, a_nil, a_cons, andK_t, andK_f, o_nil, o_cons, orK_t, orK_f, e_ite, iteK_t, iteK_f, s_nil, s_cons, es1_some, es2_some, e_tup, tupK0, tupK1, tupK2, tupK3, tupK4, tupK5, e_lst, lstK0, lstK1, e_call, calK_some, e_blt, bltK_some, b_gcd, b_abs, b_int, b_max, b_min, b_lenT, b_lenL, b_tupT, b_tupL, b_lstT, b_lstL, b_all, items_lst, items_ro, map_some3, e_idx, idx1_some, idx2_some, i_tup, i_loc, at_0, at_1, at_2, at_3, e_slice, slK_some, slK1_some, slK2_some, o_none, o_some, oK_some, sl_tup, sl_loc, e_rev, revK_some, rv_tup, rv_loc, e_pop, popK_some, e_comp, it_tup, it_loc, it_enumT, it_enumL, it_zipT, it_zipL, e_dict, B_nil, B_cons, seqK_nx, seqK_ret, seqK_brk, seqK_cont, S_asg, asgK_some, nxK_some, bd_nm, bd_tup, bd_nil, bd_cons, bdK_some, S_par, parK_some, sa_nil, sa_cons, S_setI, stK_some, stK1_some, stK2_some, nxS_some, S_app, appK2_some, S_popS, popSK_some, S_ret, retK_some, S_retN, S_pass, S_brk, S_cont, S_ite, ifK_t, ifK_f, forK_some, getA, getA0, setA, setA0, lenA, appA, catA, nilA, lenC, len0, g_0, t_0, g_1, t_1, g_2, t_2, g_3, t_3, g_4, t_4, g_5, t_5, g_6, t_6, g_7, t_7, g_8, t_8, g_9, t_9, g_10, t_10, g_11, t_11, g_12, t_12, g_13, t_13, bindS, S_whil, S_for, compK_some])
  rw [List.length_map, List.length_range, tab_eF] at hc
  have r := r_poly_of (cst := cst) (tb := tb) (k := k + 2) (S := S ++ [.lst ((tab (max f.length g.length) fun i => co f i + co g i).map eF)]) T.of T.cs.none (d := .loc S.length) (f := tab (max f.length g.length) fun i => co f i + co g i) (by rw [b_lstL, getA0]; rfl)
  have hr := it_rng (S := S) ((max f.length g.length : Nat) : Int) (by omega)
  simp only [d_poly_sum, List.map, List.replicate, Nat.reduceSub, List.cons_append, List.nil_append, b_lenP, max_nat, hr, hc, r, Int.toNat_natCast, vK_some, e_var, e_lit, lit_non, lit_bl, lit_int, lit_str, e_glob, oneK_some, e_bin, bin1_some, bin2_some, d_add, d_sub, e_neg, negK_some, e_cmp, cmp1_some, cmp2_some, map_some2, c_lt, c_le, c_gt, c_ge, c_eqI, c_neI, c_eqS, c_neS, tK_some, notK_some, blK_some, e_not, e_and, e_or, t_not, t_and, t_or, t_cmp, t_call, t_blt, a_nil, a_cons, andK_t, andK_f, o_nil, o_cons, orK_t, orK_f, e_ite, iteK_t, iteK_f, s_nil, s_cons, es1_some, es2_some, e_tup, tupK0, tupK1, tupK2, tupK3, tupK4, tupK5, e_lst, lstK0, lstK1, e_call, calK_some, e_blt, bltK_some, b_gcd, b_abs, b_int, b_max, b_min, b_lenT, b_lenL, b_tupT, b_tupL, b_lstT, b_lstL, b_all, items_lst, items_ro, map_some3, e_idx, idx1_some, idx2_some, i_tup, i_loc, at_0, at_1, at_2, at_3, e_slice, slK_some, slK1_some, slK2_some, o_none, o_some, oK_some, sl_tup, sl_loc, e_rev, revK_some, rv_tup, rv_loc, e_pop, popK_some, e_comp, it_tup, it_loc, it_enumT, it_enumL, it_zipT, it_zipL, e_dict, B_nil, B_cons, seqK_nx, seqK_ret, seqK_brk, seqK_cont, S_asg, asgK_some, nxK_some, bd_nm, bd_tup, bd_nil, bd_cons, bdK_some, S_par, parK_some, sa_nil, sa_cons, S_setI, stK_some, stK1_some, stK2_some, nxS_some, S_app, appK2_some, S_popS, popSK_some, S_ret, retK_some, S_retN, S_pass, S_brk, S_cont, S_ite, ifK_t, ifK_f, forK_some, getA, getA0, setA, setA0, lenA, appA, catA, nilA, lenC, len0, g_0, t_0, g_1, t_1, g_2, t_2, g_3, t_3, g_4, t_4, g_5, t_5, g_6, t_6, g_7, t_7, g_8, t_8, g_9, t_9, g_10, t_10, g_11, t_11, g_12, t_12, g_13, t_13, bindS, S_whil, S_for, compK_some]
  rfl
end
end Pf.Z

/-! Polynomials often, less, whole numbers of one, products. -/
namespace Pf.Z
open PySem PySem.Spec PyProof.Rows L2
section
variable {cst : Str → Option D} {tb : Str → Option FD} {k : Nat} {S : Sto}
theorem map_get {α β : Type} {f : List α} {g : α → β} {i : Nat} {x : β} (h : (f.map g)[i]? = some x) : ∃ a, f[i]? = some a ∧ x = g a ∧ i < f.length := by
  rw [List.getElem?_map] at h
  cases e : f[i]? with
  | none => rw [e] at h; cases h
  | some a =>
    rw [e] at h
    exact ⟨a, rfl, (Option.some.inj h).symm, (List.getElem?_eq_some_iff.1 e).1⟩
theorem co_some {f : List Rat} {i : Nat} {a : Rat} (h : f[i]? = some a) : co f i = a := by
  rw [co, List.getD_eq_getElem?_getD, h]
  rfl
theorem tab_co (f : List Rat) (g : Rat → Rat) : tab f.length (fun i => g (co f i)) = f.map g := range_map f g 0
theorem r_poly_often (T : PoT cst tb) (h : tb "poly_often" = some d_poly_often) (h1 : tb "fraction_times" = some d_fraction_times) {c : Rat} {f : List Rat} (hc : Sz 4000 c) (hf : SzP 4000 f) (lf : f.length < 1000000) :
    runF cst tb (k + 4) "poly_often" [eF c, eP f] S = some (eP (poften c f), S) := by
  refine run_ret (G := [.lst ((f.map (c * ·)).map eF)]) h rfl ?_ (NoLoc_eP _)
  have hc := compI_map (S := S) (C := ⟨runF cst tb (k + 3), cst⟩) (t := .nm 2) (ifs := []) (elt := .call "fraction_times" [.var 0, .var 2]) (own := [2]) (ρ := [some (eF c), some (eP f), none])
    (xs := f.map eF) (L := []) (fun i => eF (c * co f i)) (by simp) (by simp [sizeLine]; omega) (fun i x acc e => by
      obtain ⟨a, ha, rfl, hi⟩ := map_get e
      refine cs0 (ρ1 := [some (eF c), some (eP f), some (eF a)]) (by simp only [w_nil, w_cons, vK_some, e_var, e_lit, lit_non, lit_bl, lit_int, lit_str, e_glob, oneK_some, e_bin, bin1_some, bin2_some, d_add, d_sub, e_neg, negK_some, e_cmp, cmp1_some, cmp2_some, map_some2, c_lt, c_le, c_gt, c_ge, c_eqI, c_neI, c_eqS, c_neS, tK_some, notK_some, blK_some, e_not, e_and, e_or, t_not, t_and, t_or, t_cmp, t_call, t_blt, a_nil, a_cons, andK_t, andK_f, o_nil, o_cons, orK_t, orK_f, e_ite, iteK_t, iteK_f, s_nil, s_cons, es1_some, es2_some, e_tup, tupK0, tupK1, tupK2, tupK3, tupK4, tupK5, e_lst, lstK0, lstK1, e_call, calK_some, e_blt, bltK_some, b_gcd, b_abs, b_int, b_max, b_min, b_lenT, b_lenL, b_tupT, b_tupL, b_lstT, b_lstL, b_all, items_lst, items_ro, map_some3, e_idx, idx1_some, idx2_some, i_tup, i_loc, at_0, at_1, at_2, at_3, e_slice, slK_some, slK1_some, slK2_some, o_none, o_some, oK_some, sl_tup, sl_loc, e_rev, revK_some, rv_tup, rv_loc, e_pop, popK_some, e_comp, it_tup, it_loc, it_enumT, it_enumL, it_zipT, it_zipL, e_dict, B_nil, B_cons, seqK_nx, seqK_ret, seqK_brk, seqK_cont, S_asg, asgK_some, nxK_some, bd_nm, bd_tup, bd_nil, bd_cons, bdK_some, S_par, parK_some, sa_nil, sa_cons, S_setI, stK_some, stK1_some, stK2_some, nxS_some, S_app, appK2_some, S_popS, popSK_some, S_ret, retK_some, S_retN, S_pass, S_brk, S_cont, S_ite, ifK_t, ifK_f, forK_some, getA, getA0, setA, setA0, lenA, appA, catA, nilA, lenC, len0, g_0, t_0, g_1, t_1, g_2, t_2, g_3, t_3, g_4, t_4, g_5, t_5, g_6, t_6, g_7, t_7, g_8, t_8, g_9, t_9, g_10, t_10, g_11, t_11, g_12, t_12, g_13, t_13, bindS, S_whil, S_for, compK_some]) ?_
      have n3 := fun k S => r_fraction_times (cst := cst) (k := k) (S := S) T.fr h1 hc (hf a (List.mem_of_getElem? ha))
      simp only [n3, co_some ha, vK_some, e_var, e_lit, lit_non, lit_bl, lit_int, lit_str, e_glob, oneK_some, e_bin, bin1_some, bin2_some, d_add, d_sub, e_neg, negK_some, e_cmp, cmp1_some, cmp2_some, map_some2, c_lt, c_le, c_gt, c_ge, c_eqI, c_neI, c_eqS, c_neS, tK_some, notK_some, blK_some, e_not, e_and, e_or, t_not, t_and, t_or, t_cmp, t_call, t_blt, a_nil, a_cons, andK_t, andK_f, o_nil, o_cons, orK_t, orK_f, e_ite, iteK_t, iteK_f, s_nil, s_cons, es1_some, es2_some, e_tup, tupK0, tupK1, tupK2, tupK3, tupK4, tupK5, e_lst, lstK0, lstK1, e_call, calK_some, e_blt, bltK_some, b_gcd, b_abs, b_int, b_max, b_min, b_lenT, b_lenL, b_tupT, b_tupL, b_lstT, b_lstL, b_all, items_lst, items_ro, map_some3, e_idx, idx1_some, idx2_some, i_tup, i_loc, at_0, at_1, at_2, at_3, e_slice, slK_some, slK1_some, slK2_some, o_none, o_some, oK_some, sl_tup, sl_loc, e_rev, revK_some, rv_tup, rv_loc, e_pop, popK_some, e_comp, it_tup, it_loc, it_enumT, it_enumL, it_zipT, it_zipL, e_dict, B_nil, B_cons, seqK_nx, seqK_ret, seqK_brk, seqK_cont, S_asg, asgK_some, nxK_some, bd_nm, bd_tup, bd_nil, bd_cons, bdK_some, S_par, parK_some, sa_nil, sa_cons, S_setI, stK_some, stK1_some, stK2_some, nxS_some, S_app, appK2_some, S_popS, popSK_some, S_ret, retK_some, S_retN, S_pass, S_brk, S_cont, S_ite, ifK_t, ifK_f, forK_some, getA, getA0, setA, setA0, lenA, appA, catA, nilA, lenC, len0, g_0, t_0, g_1, t_1, g_2, t_2, g_3, t_3, g_4, t_4, g_5, t_5, g_6, t_6, g_7, t_7, g_8, t_8, g_9, t_9, g_10, t_10, g_11, t_11, g_12, t_12, g_13, t_13, bindS, S_whil, S_for, compK_some])
  rw [List.length_map, tab_eF, tab_co] at hc
  have r := r_poly_of (cst := cst) (tb := tb) (k := k + 2) (S := S ++ [.lst ((f.map (c * ·)).map eF)]) T.of T.cs.none (d := .loc S.length) (f := f.map (c * ·)) (by rw [b_lstL, getA0]; rfl)
  simp only [d_poly_often, List.map, List.replicate, Nat.reduceSub, List.cons_append, List.nil_append, it_P, hc, r, vK_some, e_var, e_lit, lit_non, lit_bl, lit_int, lit_str, e_glob, oneK_some, e_bin, bin1_some, bin2_some, d_add, d_sub, e_neg, negK_some, e_cmp, cmp1_some, cmp2_some, map_some2, c_lt, c_le, c_gt, c_ge, c_eqI, c_neI, c_eqS, c_neS, tK_some, notK_some, blK_some, e_not, e_and, e_or, t_not, t_and, t_or, t_cmp, t_call, t_blt, a_nil, a_cons, andK_t, andK_f, o_nil, o_cons, orK_t, orK_f, e_ite, iteK_t, iteK_f, s_nil, s_cons, es1_some, es2_some, e_tup, tupK0, tupK1, tupK2, tupK3, tupK4, tupK5, e_lst, lstK0, lstK1, e_call, calK_some, e_blt, bltK_some, b_gcd, b_abs, b_int, b_max, b_min, b_lenT, b_lenL, b_tupT, b_tupL, b_lstT, b_lstL, b_all, items_lst, items_ro, map_some3, e_idx, idx1_some, idx2_some, i_tup, i_loc, at_0, at_1, at_2, at_3, e_slice, slK_some, slK1_some, slK2_some, o_none, o_some, oK_some, sl_tup, sl_loc, e_rev, revK_some, rv_tup, rv_loc, e_pop, popK_some, e_comp, it_tup, it_loc, it_enumT, it_enumL, it_zipT, it_zipL, e_dict, B_nil, B_cons, seqK_nx, seqK_ret, seqK_brk, seqK_cont, S_asg, asgK_some, nxK_some, bd_nm, bd_tup, bd_nil, bd_cons, bdK_some, S_par, parK_some, sa_nil, sa_cons, S_setI, stK_some, stK1_some, stK2_some, nxS_some, S_app, appK2_some, S_popS, popSK_some, S_ret, retK_some, S_retN, S_pass, S_brk, S_cont, S_ite, ifK_t, ifK_f, forK_some, getA, getA0, setA, setA0, lenA, appA, catA, nilA, lenC, len0, g_0, t_0, g_1, t_1, g_2, t_2, g_3, t_3, g_4, t_4, g_5, t_5, g_6, t_6, g_7, t_7, g_8, t_8, g_9, t_9, g_10, t_10, g_11, t_11, g_12, t_12, g_13, t_13, bindS, S_whil, S_for, compK_some]
  rfl
theorem Sz_neg1 : Sz 1 (-1) := ⟨by decide, by decide⟩
theorem Sz_neg {B : Nat} {a : Rat} (h : Sz B a) : Sz B (-1 * a) := by
  rw [Rat.neg_mul, Rat.one_mul]
  exact ⟨by rw [Rat.neg_num, Int.natAbs_neg]; exact h.1, by rw [Rat.neg_den]; exact h.2⟩
theorem SzP.neg {B : Nat} {f : List Rat} (h : SzP B f) : SzP B (poften (-1) f) := fun a ha => by
  have := mem_trim ha
  rw [List.mem_map] at this
  obtain ⟨b, hb, rfl⟩ := this
  exact Sz_neg (h b hb)
theorem poften_len (c : Rat) (f : List Rat) : (poften c f).length ≤ f.length := by
  have := trim_len (f.map (c * ·))
  simpa [poften] using this
structure SuT (cst : Str → Option D) (tb : Str → Option FD) : Prop extends PoT cst tb where
  fsum : tb "fraction_sum" = some d_fraction_sum
  ftimes : tb "fraction_times" = some d_fraction_times
  at' : tb "number_at" = some d_number_at
  psum : tb "poly_sum" = some d_poly_sum
  poften : tb "poly_often" = some d_poly_often
theorem eF_neg1 : (.tup [.int (-1), .int 1] : D) = eF (-1) := rfl
theorem r_poly_less (T : SuT cst tb) (h : tb "poly_less" = some d_poly_less) {f g : List Rat} (hf : SzP 4000 f) (hg : SzP 4000 g) (lf : f.length < 1000000) (lg : g.length < 1000000) :
    runF cst tb (k + 5) "poly_less" [eP f, eP g] S = some (eP (pless f g), S) := by
  refine run_ret0 h rfl ?_ (NoLoc_eP _)
  have n1 := fun k S => r_poly_often (cst := cst) (k := k) (S := S) T.toPoT T.poften T.ftimes (Sz_neg1.mono (by decide : 1 ≤ 4000)) hg lg
  have n2 := fun k S => r_poly_sum (cst := cst) (k := k) (S := S) T.toPoT T.psum T.fsum T.at' hf hg.neg lf (Nat.lt_of_le_of_lt (poften_len _ _) lg)
  simp only [d_poly_less, List.map, List.replicate, Nat.reduceSub, Nat.sub_self, List.cons_append, List.nil_append, eF_neg1, n1, n2, vK_some, e_var, e_lit, lit_non, lit_bl, lit_int, lit_str, e_glob, oneK_some, e_bin, bin1_some, bin2_some, d_add, d_sub, e_neg, negK_some, e_cmp, cmp1_some, cmp2_some, map_some2, c_lt, c_le, c_gt, c_ge, c_eqI, c_neI, c_eqS, c_neS, tK_some, notK_some, blK_some, e_not, e_and, e_or, t_not, t_and, t_or, t_cmp, t_call, t_blt, a_nil, a_cons, andK_t, andK_f, o_nil, o_cons, orK_t, orK_f, e_ite, iteK_t, iteK_f, s_nil, s_cons, es1_some, es2_some, e_tup, tupK0, tupK1, tupK2, tupK3, tupK4, tupK5, e_lst, lstK0, lstK1, e_call, calK_some, e_blt, bltK_some, b_gcd, b_abs, b_int, b_max, b_min, b_lenT, b_lenL, b_tupT, b_tupL, b_lstT, b_lstL, b_all, items_lst, items_ro, map_some3, e_idx, idx1_some, idx2_some, i_tup, i_loc, at_0, at_1, at_2, at_3, e_slice, slK_some, slK1_some, slK2_some, o_none, o_some, oK_some, sl_tup, sl_loc, e_rev, revK_some, rv_tup, rv_loc, e_pop, popK_some, e_comp, it_tup, it_loc, it_enumT, it_enumL, it_zipT, it_zipL, e_dict, B_nil, B_cons, seqK_nx, seqK_ret, seqK_brk, seqK_cont, S_asg, asgK_some, nxK_some, bd_nm, bd_tup, bd_nil, bd_cons, bdK_some, S_par, parK_some, sa_nil, sa_cons, S_setI, stK_some, stK1_some, stK2_some, nxS_some, S_app, appK2_some, S_popS, popSK_some, S_ret, retK_some, S_retN, S_pass, S_brk, S_cont, S_ite, ifK_t, ifK_f, forK_some, getA, getA0, setA, setA0, lenA, appA, catA, nilA, lenC, len0, g_0, t_0, g_1, t_1, g_2, t_2, g_3, t_3, g_4, t_4, g_5, t_5, g_6, t_6, g_7, t_7, g_8, t_8, g_9, t_9, g_10, t_10, g_11, t_11, g_12, t_12, g_13, t_13, bindS, S_whil, S_for, compK_some]
  rfl

/-! ### whole numbers of a polynomial -/
/-- the least common bottom, from b on -/
def lcmD : Nat → List Rat → Nat
  | b, [] => b
  | b, a :: f => lcmD (b / Nat.gcd b a.den * a.den) f
def bot (f : List Rat) : Nat := lcmD 1 f
/-- the number of a over the bottom b -/
def ov (b : Nat) (a : Rat) : Int := a.num * ((b / a.den : Nat) : Int)
theorem lcm_pos {b d : Nat} (hb : 0 < b) (hd : 0 < d) : 0 < b / Nat.gcd b d * d := by
  have : Nat.gcd b d ≤ b := Nat.gcd_le_left _ hb
  exact Nat.mul_pos (Nat.div_pos this (Nat.gcd_pos_of_pos_left _ hb)) hd
theorem lcmD_pos : ∀ (f : List Rat) {b : Nat}, 0 < b → 0 < lcmD b f
  | [], b, h => h
  | a :: f, b, h => lcmD_pos f (lcm_pos h a.den_pos)
theorem dvd_lcm1 (b d : Nat) : b ∣ b / Nat.gcd b d * d := by
  obtain ⟨x, hx⟩ := Nat.gcd_dvd_left b d
  obtain ⟨y, hy⟩ := Nat.gcd_dvd_right b d
  by_cases z : Nat.gcd b d = 0
  · have := (Nat.gcd_eq_zero_iff.1 z).1
    rw [this]
    simp
  · have e1 : b / Nat.gcd b d = x := by conv => lhs; lhs; rw [hx]
                                        exact Nat.mul_div_cancel_left _ (by omega)
    rw [e1]
    refine ⟨y, ?_⟩
    calc x * d = x * (Nat.gcd b d * y) := by rw [← hy]
      _ = Nat.gcd b d * x * y := by rw [← Nat.mul_assoc, Nat.mul_comm x]
      _ = b * y := by rw [← hx]
theorem dvd_lcm2 (b d : Nat) : d ∣ b / Nat.gcd b d * d := Nat.dvd_mul_left _ _
theorem lcm_dvd' {b d m : Nat} (hb : 0 < b) (h1 : b ∣ m) (h2 : d ∣ m) : b / Nat.gcd b d * d ∣ m := by
  have e : b / Nat.gcd b d * d = Nat.lcm b d := by
    unfold Nat.lcm
    rw [Nat.div_mul_right_comm (Nat.gcd_dvd_left _ _)]
  rw [e]
  exact Nat.lcm_dvd h1 h2
theorem dvd_lcmD : ∀ (f : List Rat) (b : Nat), b ∣ lcmD b f
  | [], b => Nat.dvd_refl _
  | a :: f, b => Nat.dvd_trans (dvd_lcm1 b a.den) (dvd_lcmD f _)
theorem den_dvd_lcmD : ∀ {f : List Rat} {b : Nat} {a : Rat}, a ∈ f → a.den ∣ lcmD b f
  | c :: f, b, a, h => by
    cases h with
    | head => exact Nat.dvd_trans (dvd_lcm2 b c.den) (dvd_lcmD f _)
    | tail _ h => exact den_dvd_lcmD (f := f) (b := b / Nat.gcd b c.den * c.den) h
theorem den_dvd_bot {f : List Rat} {a : Rat} (h : a ∈ f) : a.den ∣ bot f := den_dvd_lcmD h
theorem bot_pos (f : List Rat) : 0 < bot f := lcmD_pos f (by decide)
theorem lcmD_dvd : ∀ {f : List Rat} {b m : Nat}, 0 < b → b ∣ m → (∀ a ∈ f, a.den ∣ m) → lcmD b f ∣ m
  | [], b, m, _, h, _ => h
  | a :: f, b, m, hb, h, h2 => lcmD_dvd (f := f) (b := b / Nat.gcd b a.den * a.den) (lcm_pos hb a.den_pos) (lcm_dvd' hb h (h2 a (.head _))) fun c hc => h2 c (.tail _ hc)
theorem bot_dvd {f : List Rat} {m : Nat} (h : ∀ a ∈ f, a.den ∣ m) : bot f ∣ m := lcmD_dvd (by decide) (Nat.one_dvd _) h
theorem fdivNat (m n : Nat) : ((m : Int)).fdiv (n : Int) = ((m / n : Nat) : Int) := by
  rw [Int.fdiv_eq_ediv_of_nonneg _ (by omega)]
  rfl
theorem lcmD_take : ∀ (f : List Rat) (b i : Nat) (a : Rat), f[i]? = some a → lcmD b (f.take (i + 1)) = lcmD b (f.take i) / Nat.gcd (lcmD b (f.take i)) a.den * a.den
  | c :: f, b, 0, a, h => by
    cases h
    simp [lcmD]
  | c :: f, b, i + 1, a, h => by
    have := lcmD_take f (b / Nat.gcd b c.den * c.den) i a h
    simpa [lcmD] using this
def ovs (f : List Rat) : List D := f.map fun a => .int (ov (bot f) a)
/-- bounds of what whole_numbers touches: the bottom B and each number -/
structure WhB (f : List Rat) : Prop where
  bot : bot f < 2 ^ 8000
  num : ∀ a ∈ f, a.num.natAbs < 2 ^ 8000
theorem r_whole_numbers (h0 : tb "common_divisor" = some d_common_divisor) (h : tb "whole_numbers" = some d_whole_numbers) {f : List Rat} (B : WhB f) (lf : f.length < 1000000) :
    runF cst tb (k + 2) "whole_numbers" [eP f] S = some (.tup [.int (bot f), .loc S.length], S ++ [.lst (ovs f)]) := by
  have hb : ∀ i, lcmD 1 (f.take i) ≤ bot f := fun i => Nat.le_of_dvd (bot_pos f) (lcmD_dvd (by decide) (Nat.one_dvd _) fun a ha => den_dvd_bot (List.mem_of_mem_take ha))
  have hpos : ∀ i, 0 < lcmD 1 (f.take i) := fun i => lcmD_pos _ (by decide)
  obtain ⟨ρ', S', e1, hI⟩ := for_inv (L := []) (S0 := S) (step := forStep ⟨runF cst tb (k + 1), cst⟩ (.tup [.nm 2, .nm 3]) [.asg (.nm 1) (.bin .mul (.bin .fdiv (.var 1) (.call "common_divisor" [.var 1, .var 3])) (.var 3))])
    (fun i ρ S' => S' = S ∧ ∃ x y, ρ = [some (eP f), some (.int (lcmD 1 (f.take i) : Nat)), x, y]) (xs := f.map eF) (ρ := [some (eP f), some (.int 1), none, none]) (S := S) ⟨rfl, none, none, rfl⟩ (fun i x ρ S' e q => by
      obtain ⟨rfl, x1, y1, rfl⟩ := q
      obtain ⟨a, ha, rfl, hi⟩ := map_get e
      have hd : a.den < 2 ^ 8000 := Nat.lt_of_le_of_lt (Nat.le_of_dvd (bot_pos f) (den_dvd_bot (List.mem_of_getElem? ha))) B.bot
      have hl : lcmD 1 (f.take i) < 2 ^ 8000 := Nat.lt_of_le_of_lt (hb i) B.bot
      have f1 := fun S => d_fdiv (S := S) (i := ((lcmD 1 (f.take i) : Nat) : Int)) (j := ((Nat.gcd (lcmD 1 (f.take i)) a.den : Nat) : Int)) (divOk_pos (B := 8000) (by decide) (by have := Nat.gcd_pos_of_pos_left a.den (hpos i); omega) (by
        rw [Int.natAbs_natCast]
        exact Nat.lt_of_le_of_lt (Nat.gcd_le_right _ a.den_pos) hd))
      have f2 := fun S => d_mul (S := S) (i := ((lcmD 1 (f.take i) / Nat.gcd (lcmD 1 (f.take i)) a.den : Nat) : Int)) (j := (a.den : Int)) (mulOk_lt (B := 8000) (by decide) (by
        rw [Int.natAbs_natCast]
        exact Nat.lt_of_le_of_lt (Nat.div_le_self _ _) hl) (by rw [Int.natAbs_natCast]; exact hd))
      refine ⟨[some (eP f), some (.int (lcmD 1 (f.take (i + 1)) : Nat)), some (.int a.num), some (.int a.den)], S', ?_, by simp, rfl, _, _, rfl⟩
      rw [lcmD_take f 1 i a ha, Int.natCast_mul]
      have hbd : bind1 (.tup [.nm 2, .nm 3]) (eF a) [some (eP f), some (.int ((lcmD 1 (f.take i) : Nat) : Int)), x1, y1] = some [some (eP f), some (.int ((lcmD 1 (f.take i) : Nat) : Int)), some (.int a.num), some (.int a.den)] := by simp only [eF, vK_some, e_var, e_lit, lit_non, lit_bl, lit_int, lit_str, e_glob, oneK_some, e_bin, bin1_some, bin2_some, d_add, d_sub, e_neg, negK_some, e_cmp, cmp1_some, cmp2_some, map_some2, c_lt, c_le, c_gt, c_ge, c_eqI, c_neI, c_eqS, c_neS, tK_some, notK_some, blK_some, e_not, e_and, e_or, t_not, t_and, t_or, t_cmp, t_call, t_blt, a_nil, a_cons, andK_t, andK_f, o_nil, o_cons, orK_t, orK_f, e_ite, iteK_t, iteK_f, s_nil, s_cons, es1_some, es2_some, e_tup, tupK0, tupK1, tupK2, tupK3, tupK4, tupK5, e_lst, lstK0, lstK1, e_call, calK_some, e_blt, bltK_some, b_gcd, b_abs, b_int, b_max, b_min, b_lenT, b_lenL, b_tupT, b_tupL, b_lstT, b_lstL, b_all, items_lst, items_ro, map_some3, e_idx, idx1_some, idx2_some, i_tup, i_loc, at_0, at_1, at_2, at_3, e_slice, slK_some, slK1_some, slK2_some, o_none, o_some, oK_some, sl_tup, sl_loc, e_rev, revK_some, rv_tup, rv_loc, e_pop, popK_some, e_comp, it_tup, it_loc, it_enumT, it_enumL, it_zipT, it_zipL, e_dict, B_nil, B_cons, seqK_nx, seqK_ret, seqK_brk, seqK_cont, S_asg, asgK_some, nxK_some, bd_nm, bd_tup, bd_nil, bd_cons, bdK_some, S_par, parK_some, sa_nil, sa_cons, S_setI, stK_some, stK1_some, stK2_some, nxS_some, S_app, appK2_some, S_popS, popSK_some, S_ret, retK_some, S_retN, S_pass, S_brk, S_cont, S_ite, ifK_t, ifK_f, forK_some, getA, getA0, setA, setA0, lenA, appA, catA, nilA, lenC, len0, g_0, t_0, g_1, t_1, g_2, t_2, g_3, t_3, g_4, t_4, g_5, t_5, g_6, t_6, g_7, t_7, g_8, t_8, g_9, t_9, g_10, t_10, g_11, t_11, g_12, t_12, g_13, t_13, bindS, S_whil, S_for, compK_some]
      simp only [forStep, hbd, bindS, r_common_divisor h0, Int.natAbs_natCast, f1, fdivNat, f2, vK_some, e_var, e_lit, lit_non, lit_bl, lit_int, lit_str, e_glob, oneK_some, e_bin, bin1_some, bin2_some, d_add, d_sub, e_neg, negK_some, e_cmp, cmp1_some, cmp2_some, map_some2, c_lt, c_le, c_gt, c_ge, c_eqI, c_neI, c_eqS, c_neS, tK_some, notK_some, blK_some, e_not, e_and, e_or, t_not, t_and, t_or, t_cmp, t_call, t_blt, a_nil, a_cons, andK_t, andK_f, o_nil, o_cons, orK_t, orK_f, e_ite, iteK_t, iteK_f, s_nil, s_cons, es1_some, es2_some, e_tup, tupK0, tupK1, tupK2, tupK3, tupK4, tupK5, e_lst, lstK0, lstK1, e_call, calK_some, e_blt, bltK_some, b_gcd, b_abs, b_int, b_max, b_min, b_lenT, b_lenL, b_tupT, b_tupL, b_lstT, b_lstL, b_all, items_lst, items_ro, map_some3, e_idx, idx1_some, idx2_some, i_tup, i_loc, at_0, at_1, at_2, at_3, e_slice, slK_some, slK1_some, slK2_some, o_none, o_some, oK_some, sl_tup, sl_loc, e_rev, revK_some, rv_tup, rv_loc, e_pop, popK_some, e_comp, it_tup, it_loc, it_enumT, it_enumL, it_zipT, it_zipL, e_dict, B_nil, B_cons, seqK_nx, seqK_ret, seqK_brk, seqK_cont, S_asg, asgK_some, nxK_some, bd_nm, bd_tup, bd_nil, bd_cons, bdK_some, S_par, parK_some, sa_nil, sa_cons, S_setI, stK_some, stK1_some, stK2_some, nxS_some, S_app, appK2_some, S_popS, popSK_some, S_ret, retK_some, S_retN, S_pass, S_brk, S_cont, S_ite, ifK_t, ifK_f, forK_some, getA, getA0, setA, setA0, lenA, appA, catA, nilA, lenC, len0, g_0, t_0, g_1, t_1, g_2, t_2, g_3, t_3, g_4, t_4, g_5, t_5, g_6, t_6, g_7, t_7, g_8, t_8, g_9, t_9, g_10, t_10, g_11, t_11, g_12, t_12, g_13, t_13, bindS, S_whil, S_for, compK_some])
  obtain ⟨rfl, x, y, rfl⟩ := hI
  rw [List.length_map, List.take_length] at e1
  have hL : lcmD 1 f = bot f := rfl
  rw [hL] at e1
  have hc := compI_map (S := S') (C := ⟨runF cst tb (k + 1), cst⟩) (t := .tup [.nm 2, .nm 3]) (ifs := []) (elt := .bin .mul (.var 2) (.bin .fdiv (.var 1) (.var 3))) (own := [2, 3]) (ρ := [some (eP f), some (.int (bot f)), x, y])
    (xs := f.map eF) (L := []) (fun i => .int (ov (bot f) (f.getD i 0))) (by simp) (by simp [sizeLine]; omega) (fun i x' acc e => by
      obtain ⟨a, ha, rfl, hi⟩ := map_get e
      have hm := List.mem_of_getElem? ha
      have hd : a.den < 2 ^ 8000 := Nat.lt_of_le_of_lt (Nat.le_of_dvd (bot_pos f) (den_dvd_bot hm)) B.bot
      have f1 := fun S => d_fdiv (S := S) (i := ((bot f : Nat) : Int)) (j := (a.den : Int)) (divOk_pos (B := 8000) (by decide) (den_pos' a) (by rw [Int.natAbs_natCast]; exact hd))
      have f2 := fun S => d_mul (S := S) (i := a.num) (j := ((bot f / a.den : Nat) : Int)) (mulOk_lt (B := 8000) (by decide) (B.num a hm) (by
        rw [Int.natAbs_natCast]
        exact Nat.lt_of_le_of_lt (Nat.div_le_self _ _) B.bot))
      have hg : f.getD i 0 = a := by rw [List.getD_eq_getElem?_getD, ha]; rfl
      refine cs0 (ρ1 := [some (eP f), some (.int (bot f)), some (.int a.num), some (.int a.den)]) (by simp only [w_nil, w_cons, eF, vK_some, e_var, e_lit, lit_non, lit_bl, lit_int, lit_str, e_glob, oneK_some, e_bin, bin1_some, bin2_some, d_add, d_sub, e_neg, negK_some, e_cmp, cmp1_some, cmp2_some, map_some2, c_lt, c_le, c_gt, c_ge, c_eqI, c_neI, c_eqS, c_neS, tK_some, notK_some, blK_some, e_not, e_and, e_or, t_not, t_and, t_or, t_cmp, t_call, t_blt, a_nil, a_cons, andK_t, andK_f, o_nil, o_cons, orK_t, orK_f, e_ite, iteK_t, iteK_f, s_nil, s_cons, es1_some, es2_some, e_tup, tupK0, tupK1, tupK2, tupK3, tupK4, tupK5, e_lst, lstK0, lstK1, e_call, calK_some, e_blt, bltK_some, b_gcd, b_abs, b_int, b_max, b_min, b_lenT, b_lenL, b_tupT, b_tupL, b_lstT, b_lstL, b_all, items_lst, items_ro, map_some3, e_idx, idx1_some, idx2_some, i_tup, i_loc, at_0, at_1, at_2, at_3, e_slice, slK_some, slK1_some, slK2_some, o_none, o_some, oK_some, sl_tup, sl_loc, e_rev, revK_some, rv_tup, rv_loc, e_pop, popK_some, e_comp, it_tup, it_loc, it_enumT, it_enumL, it_zipT, it_zipL, e_dict, B_nil, B_cons, seqK_nx, seqK_ret, seqK_brk, seqK_cont, S_asg, asgK_some, nxK_some, bd_nm, bd_tup, bd_nil, bd_cons, bdK_some, S_par, parK_some, sa_nil, sa_cons, S_setI, stK_some, stK1_some, stK2_some, nxS_some, S_app, appK2_some, S_popS, popSK_some, S_ret, retK_some, S_retN, S_pass, S_brk, S_cont, S_ite, ifK_t, ifK_f, forK_some, getA, getA0, setA, setA0, lenA, appA, catA, nilA, lenC, len0, g_0, t_0, g_1, t_1, g_2, t_2, g_3, t_3, g_4, t_4, g_5, t_5, g_6, t_6, g_7, t_7, g_8, t_8, g_9, t_9, g_10, t_10, g_11, t_11, g_12, t_12, g_13, t_13, bindS, S_whil, S_for, compK_some]) ?_
      rw [hg]
      simp only [f1, fdivNat, f2, ov, vK_some, e_var, e_lit, lit_non, lit_bl, lit_int, lit_str, e_glob, oneK_some, e_bin, bin1_some, bin2_some, d_add, d_sub, e_neg, negK_some, e_cmp, cmp1_some, cmp2_some, map_some2, c_lt, c_le, c_gt, c_ge, c_eqI, c_neI, c_eqS, c_neS, tK_some, notK_some, blK_some, e_not, e_and, e_or, t_not, t_and, t_or, t_cmp, t_call, t_blt, a_nil, a_cons, andK_t, andK_f, o_nil, o_cons, orK_t, orK_f, e_ite, iteK_t, iteK_f, s_nil, s_cons, es1_some, es2_some, e_tup, tupK0, tupK1, tupK2, tupK3, tupK4, tupK5, e_lst, lstK0, lstK1, e_call, calK_some, e_blt, bltK_some, b_gcd, b_abs, b_int, b_max, b_min, b_lenT, b_lenL, b_tupT, b_tupL, b_lstT, b_lstL, b_all, items_lst, items_ro, map_some3, e_idx, idx1_some, idx2_some, i_tup, i_loc, at_0, at_1, at_2, at_3, e_slice, slK_some, slK1_some, slK2_some, o_none, o_some, oK_some, sl_tup, sl_loc, e_rev, revK_some, rv_tup, rv_loc, e_pop, popK_some, e_comp, it_tup, it_loc, it_enumT, it_enumL, it_zipT, it_zipL, e_dict, B_nil, B_cons, seqK_nx, seqK_ret, seqK_brk, seqK_cont, S_asg, asgK_some, nxK_some, bd_nm, bd_tup, bd_nil, bd_cons, bdK_some, S_par, parK_some, sa_nil, sa_cons, S_setI, stK_some, stK1_some, stK2_some, nxS_some, S_app, appK2_some, S_popS, popSK_some, S_ret, retK_some, S_retN, S_pass, S_brk, S_cont, S_ite, ifK_t, ifK_f, forK_some, getA, getA0, setA, setA0, lenA, appA, catA, nilA, lenC, len0, g_0, t_0, g_1, t_1, g_2, t_2, g_3, t_3, g_4, t_4, g_5, t_5, g_6, t_6, g_7, t_7, g_8, t_8, g_9, t_9, g_10, t_10, g_11, t_11, g_12, t_12, g_13, t_13, bindS, S_whil, S_for, compK_some])
  rw [List.length_map, range_map f (fun a => D.int (ov (bot f) a)) 0] at hc
  refine run_loc h rfl ?_ (by simp [NoLoc, NoLocs])
  simp only [d_whole_numbers, List.map, List.replicate, Nat.reduceSub, List.cons_append, List.nil_append, it_P, forI_some, e1, hc, vK_some, e_var, e_lit, lit_non, lit_bl, lit_int, lit_str, e_glob, oneK_some, e_bin, bin1_some, bin2_some, d_add, d_sub, e_neg, negK_some, e_cmp, cmp1_some, cmp2_some, map_some2, c_lt, c_le, c_gt, c_ge, c_eqI, c_neI, c_eqS, c_neS, tK_some, notK_some, blK_some, e_not, e_and, e_or, t_not, t_and, t_or, t_cmp, t_call, t_blt, a_nil, a_cons, andK_t, andK_f, o_nil, o_cons, orK_t, orK_f, e_ite, iteK_t, iteK_f, s_nil, s_cons, es1_some, es2_some, e_tup, tupK0, tupK1, tupK2, tupK3, tupK4, tupK5, e_lst, lstK0, lstK1, e_call, calK_some, e_blt, bltK_some, b_gcd, b_abs, b_int, b_max, b_min, b_lenT, b_lenL, b_tupT, b_tupL, b_lstT, b_lstL, b_all, items_lst, items_ro, map_some3, e_idx, idx1_some, idx2_some, i_tup, i_loc, at_0, at_1, at_2, at_3, e_slice, slK_some, slK1_some, slK2_some, o_none, o_some, oK_some, sl_tup, sl_loc, e_rev, revK_some, rv_tup, rv_loc, e_pop, popK_some, e_comp, it_tup, it_loc, it_enumT, it_enumL, it_zipT, it_zipL, e_dict, B_nil, B_cons, seqK_nx, seqK_ret, seqK_brk, seqK_cont, S_asg, asgK_some, nxK_some, bd_nm, bd_tup, bd_nil, bd_cons, bdK_some, S_par, parK_some, sa_nil, sa_cons, S_setI, stK_some, stK1_some, stK2_some, nxS_some, S_app, appK2_some, S_popS, popSK_some, S_ret, retK_some, S_retN, S_pass, S_brk, S_cont, S_ite, ifK_t, ifK_f, forK_some, getA, getA0, setA, setA0, lenA, appA, catA, nilA, lenC, len0, g_0, t_0, g_1, t_1, g_2, t_2, g_3, t_3, g_4, t_4, g_5, t_5, g_6, t_6, g_7, t_7, g_8, t_8, g_9, t_9, g_10, t_10, g_11, t_11, g_12, t_12, g_13, t_13, bindS, S_whil, S_for, compK_some]
  rfl
end
end Pf.Z

/-! Products of polynomials. -/
namespace Pf.Z
open PySem PySem.Spec PyProof.Rows L2
/-! ### sums -/
def smI : Nat → (Nat → Int) → Int
  | 0, _ => 0
  | n + 1, f => smI n f + f n
def smR : Nat → (Nat → Rat) → Rat
  | 0, _ => 0
  | n + 1, f => smR n f + f n
theorem smR_congr {n : Nat} {f g : Nat → Rat} (h : ∀ i, i < n → f i = g i) : smR n f = smR n g := by
  induction n with
  | zero => rfl
  | succ n ih => rw [smR, smR, ih fun i hi => h i (by omega), h n (by omega)]
theorem smR_zero {n : Nat} {f : Nat → Rat} (h : ∀ i, i < n → f i = 0) : smR n f = 0 := by
  induction n with
  | zero => rfl
  | succ n ih => rw [smR, ih fun i hi => h i (by omega), h n (by omega), Rat.add_zero]
theorem smI_congr {n : Nat} {f g : Nat → Int} (h : ∀ i, i < n → f i = g i) : smI n f = smI n g := by
  induction n with
  | zero => rfl
  | succ n ih => rw [smI, smI, ih fun i hi => h i (by omega), h n (by omega)]
theorem smR_mul (c : Rat) (n : Nat) (f : Nat → Rat) : smR n (fun i => c * f i) = c * smR n f := by
  induction n with
  | zero => rw [smR, smR, Rat.mul_zero]
  | succ n ih => rw [smR, smR, ih, Rat.mul_add]
theorem smR_cast (n : Nat) (f : Nat → Int) : ((smI n f : Int) : Rat) = smR n fun i => (f i : Rat) := by
  induction n with
  | zero => rfl
  | succ n ih => rw [smI, smR, Rat.intCast_add, ih]
theorem smR_add (n : Nat) (f g : Nat → Rat) : smR n (fun i => f i + g i) = smR n f + smR n g := by
  induction n with
  | zero => rw [smR, smR, smR, Rat.add_zero]
  | succ n ih => rw [smR, smR, smR, ih]; grind
theorem smR_ext {n m : Nat} {f : Nat → Rat} (hl : n ≤ m) (h : ∀ i, n ≤ i → f i = 0) : smR m f = smR n f := by
  induction m with
  | zero => rw [Nat.le_zero.1 hl]
  | succ m ih =>
    by_cases e : n = m + 1
    · rw [e]
    · rw [smR, ih (by omega), h m (by omega), Rat.add_zero]
/-- the number at k of a product -/
def cv (f g : List Rat) (k : Nat) : Rat := smR f.length fun i => if i ≤ k then co f i * co g (k - i) else 0
def pmul (f g : List Rat) : List Rat := mkP (f.length + g.length) (cv f g)
theorem cv_far (f g : List Rat) (k : Nat) (h : f.length + g.length ≤ k) : cv f g k = 0 := by
  refine smR_zero fun i hi => ?_
  split
  · rw [co_of_le (f := g) (by omega), Rat.mul_zero]
  · rfl
theorem co_pmul (f g : List Rat) (k : Nat) : co (pmul f g) k = cv f g k := co_mkP (fun i h => cv_far f g i h) k
theorem ov_eq {b : Nat} {a : Rat} (h : a.den ∣ b) : ((ov b a : Int) : Rat) = a * (b : Rat) := by
  obtain ⟨x, rfl⟩ := h
  have e : a.den * x / a.den = x := Nat.mul_div_cancel_left _ a.den_pos
  unfold ov
  rw [e, Rat.intCast_mul, Rat.natCast_mul, Rat.intCast_natCast]
  have h2 : (a.num : Rat) = a * (a.den : Rat) := by
    conv => rhs; lhs; rw [← Rat.num_divInt_den a, Rat.divInt_eq_div]
    rw [Rat.intCast_natCast, Rat.div_mul_cancel]
    intro z
    have := Rat.natCast_eq_zero_iff.1 z
    exact a.den_nz this
  rw [h2, Rat.mul_assoc]
theorem ov_abs (b : Nat) (a : Rat) {B : Nat} (h1 : a.num.natAbs < 2 ^ B) (h2 : b < 2 ^ B) : (ov b a).natAbs < 2 ^ (B + B) := Sz.mul_num h1 (by rw [Int.natAbs_natCast]; exact Nat.lt_of_le_of_lt (Nat.div_le_self _ _) h2)
theorem ov_zero (b : Nat) : ov b 0 = 0 := by simp [ov]
/-! ### lists made by a table -/
theorem set_tab {α : Type} (N p : Nat) (F : Nat → α) (y : α) : ((List.range N).map F).set p y = (List.range N).map fun k => if k = p then y else F k := by
  apply List.ext_getElem
  · simp
  · intro i h1 h2
    simp [List.getElem_set]
    simp at h1
    split
    · rename_i h; subst h; simp
    · rename_i h; rw [if_neg (by omega)]
theorem get_tab {α : Type} {N p : Nat} (F : Nat → α) (h : p < N) : ((List.range N).map F)[p]? = some (F p) := by simp [h]
theorem rep_tab {α : Type} (N : Nat) (x : α) : (List.replicate N [x]).flatten = (List.range N).map fun _ => x := by
  induction N with
  | zero => rfl
  | succ N ih => rw [List.replicate_succ', List.flatten_append, ih, List.range_succ]; simp
section
variable {cst : Str → Option D} {tb : Str → Option FD} {k : Nat} {S : Sto}
theorem m_loc {n : Nat} {xs : List D} {k : Nat} (h : S[n]? = some (.lst xs)) (hk : k < 2 ^ 62) (hl : xs.length * k ≤ sizeLine) : binD .mul (.loc n) (.int (k : Int)) S = some (.loc S.length, S ++ [.lst (List.replicate k xs).flatten]) := by
  simp only [binD, h]
  rw [if_pos ⟨by omega, by omega, by rw [Int.toNat_natCast]; exact hl⟩, Int.toNat_natCast]
/-- bounds of the numbers of a factor -/
structure Bd4 (f : List Rat) : Prop where
  bot : bot f < 2 ^ 4000
  num : ∀ a ∈ f, a.num.natAbs < 2 ^ 4000
  len : f.length < 1000
theorem Bd4.wh {f : List Rat} (h : Bd4 f) : WhB f := ⟨Nat.lt_of_lt_of_le h.bot (Nat.pow_le_pow_right (by decide) (by decide)), fun a ha => Nat.lt_of_lt_of_le (h.num a ha) (Nat.pow_le_pow_right (by decide) (by decide))⟩
theorem Bd4.sz {f : List Rat} (h : Bd4 f) : SzP 4000 f := fun a ha => ⟨h.num a ha, Nat.lt_of_le_of_lt (Nat.le_of_dvd (bot_pos f) (den_dvd_bot ha)) h.bot⟩
/-- the number at k behind i rows and j numbers of the next -/
def acc (u v : Nat → Int) (i j k : Nat) : Int := smI i (fun i' => if i' ≤ k then u i' * v (k - i') else 0) + if i ≤ k ∧ k < i + j then u i * v (k - i) else 0
theorem acc_row {u v : Nat → Int} {m : Nat} (hv : ∀ j, m ≤ j → v j = 0) (i k : Nat) : acc u v i m k = acc u v (i + 1) 0 k := by
  unfold acc
  rw [if_neg (show ¬ (i + 1 ≤ k ∧ k < i + 1 + 0) by omega), Int.add_zero, smI]
  congr 1
  by_cases h : i ≤ k
  · rw [if_pos h]
    by_cases h2 : k < i + m
    · rw [if_pos ⟨h, h2⟩]
    · rw [if_neg (by omega), hv _ (by omega), Int.mul_zero]
  · rw [if_neg (by omega), if_neg h]
theorem acc_step (u v : Nat → Int) (i j k : Nat) : (if k = i + j then acc u v i j (i + j) + u i * v j else acc u v i j k) = acc u v i (j + 1) k := by
  unfold acc
  by_cases h : k = i + j
  · subst h
    rw [if_pos rfl, if_neg (show ¬ (i ≤ i + j ∧ i + j < i + j) by omega), if_pos (show i ≤ i + j ∧ i + j < i + (j + 1) by omega), Int.add_zero, show i + j - i = j by omega]
  · rw [if_neg h]
    congr 1
    by_cases h2 : i ≤ k ∧ k < i + j
    · rw [if_pos h2, if_pos (by omega)]
    · rw [if_neg h2, if_neg (by omega)]
theorem enum_get {xs : List D} {i : Nat} {x : D} (h : ((List.range xs.length).map fun i => D.tup [.int (i : Nat), xs.getD i .non])[i]? = some x) : i < xs.length ∧ x = .tup [.int (i : Nat), xs.getD i .non] := by
  obtain ⟨a, h1, h2, h3⟩ := map_get h
  rw [List.length_range] at h3
  rw [List.getElem?_range h3] at h1
  cases h1
  exact ⟨h3, h2⟩
theorem getD_map {f : List Rat} {g : Rat → D} {i : Nat} (h : i < f.length) (d : D) : (f.map g).getD i d = g (co f i) := by
  rw [List.getD_eq_getElem?_getD, List.getElem?_map, co_get h]
  rfl
structure TiT (cst : Str → Option D) (tb : Str → Option FD) : Prop extends PoT cst tb where
  whole : tb "whole_numbers" = some d_whole_numbers
  ptimes : tb "poly_times" = some d_poly_times
set_option maxHeartbeats 1000000 in
theorem r_poly_times (T : TiT cst tb) {f g : List Rat} (Bf : Bd4 f) (Bg : Bd4 g) :
    runF cst tb (k + 3) "poly_times" [eP f, eP g] S = some (eP (pmul f g), S) := by
  have lf := Bf.len
  have lg := Bg.len
  let u : Nat → Int := fun i => ov (bot f) (co f i)
  let v : Nat → Int := fun i => ov (bot g) (co g i)
  have hu : ∀ i, (u i).natAbs < 2 ^ 8000 := fun i => by
    by_cases hi : i < f.length
    · exact ov_abs _ _ (Bf.num _ (co_mem hi)) Bf.bot
    · show (ov (bot f) (co f i)).natAbs < _
      rw [co_of_le (Nat.le_of_not_lt hi), ov_zero]
      exact Nat.pow_pos (by decide)
  have hv : ∀ i, (v i).natAbs < 2 ^ 8000 := fun i => by
    by_cases hi : i < g.length
    · exact ov_abs _ _ (Bg.num _ (co_mem hi)) Bg.bot
    · show (ov (bot g) (co g i)).natAbs < _
      rw [co_of_le (Nat.le_of_not_lt hi), ov_zero]
      exact Nat.pow_pos (by decide)
  have hv0 : ∀ j, g.length ≤ j → v j = 0 := fun j hj => by
    show ov (bot g) (co g j) = 0
    rw [co_of_le hj, ov_zero]
  let N := f.length + g.length
  let F : Nat → Nat → List D := fun i j => (List.range N).map fun k => D.int (acc u v i j k)
  let st : Nat → Nat → Sto := fun i j => S ++ [.lst (ovs f), .lst (ovs g), .lst [.int 0], .lst (F i j)]
  have hF : ∀ i j, (F i j).length = N := fun i j => by simp [F]
  have hlen : (ovs f).length = f.length := by simp [ovs]
  have hlen2 : (ovs g).length = g.length := by simp [ovs]
  let ρ0 : D → D → D → D → En := fun _ _ _ _ => []
  -- the inner walk
  have inner : ∀ i, i < f.length → ∀ z w, ∃ ρ' S', forI ⟨runF cst tb (k + 2), cst⟩ (.tup [.nm 9, .nm 10]) [.setI (.var 2) (.bin .add (.var 3) (.var 9)) (.bin .add (.idx (.var 2) (.bin .add (.var 3) (.var 9))) (.bin .mul (.var 4) (.var 10)))]
      [some (eP f), some (eP g), some (.loc (S.length + 3)), some (.int (i : Nat)), some (.int (u i)), some (.int (bot f)), some (.loc S.length), some (.int (bot g)), some (.loc (S.length + 1)), z, w] (st i 0) (some ((List.range (ovs g).length).map fun j => .tup [.int (j : Nat), (ovs g).getD j .non], [S.length + 1])) = some (.nx ρ', S') ∧
      S' = st (i + 1) 0 ∧ ∃ z w, ρ' = [some (eP f), some (eP g), some (.loc (S.length + 3)), some (.int (i : Nat)), some (.int (u i)), some (.int (bot f)), some (.loc S.length), some (.int (bot g)), some (.loc (S.length + 1)), z, w] := by
    intro i hi z w
    obtain ⟨ρ', S', e1, hI⟩ := for_inv (L := [S.length + 1]) (S0 := st i 0) (step := forStep ⟨runF cst tb (k + 2), cst⟩ (.tup [.nm 9, .nm 10]) [.setI (.var 2) (.bin .add (.var 3) (.var 9)) (.bin .add (.idx (.var 2) (.bin .add (.var 3) (.var 9))) (.bin .mul (.var 4) (.var 10)))])
      (fun j ρ S' => S' = st i j ∧ ∃ z w, ρ = [some (eP f), some (eP g), some (.loc (S.length + 3)), some (.int (i : Nat)), some (.int (u i)), some (.int (bot f)), some (.loc S.length), some (.int (bot g)), some (.loc (S.length + 1)), z, w])
      (xs := (List.range (ovs g).length).map fun j => .tup [.int (j : Nat), (ovs g).getD j .non]) (S := st i 0) ⟨rfl, z, w, rfl⟩ (fun j x ρ S' e q => by
        obtain ⟨rfl, z1, w1, rfl⟩ := q
        obtain ⟨hj, rfl⟩ := enum_get e
        rw [hlen2] at hj
        have hvj : (ovs g).getD j .non = .int (v j) := getD_map hj _
        rw [hvj]
        refine ⟨_, st i (j + 1), ?_, fun l hl => ?_, rfl, some (.int (j : Nat)), some (.int (v j)), rfl⟩
        · have hij : (i : Int) + (j : Int) = ((i + j : Nat) : Int) := by omega
          have hm := fun S => d_mul (S := S) (mulOk_lt (B := 8000) (by decide) (hu i) (hv j))
          have hg : idxD (.loc (S.length + 3)) (.int ((i + j : Nat) : Int)) (st i j) = some (.int (acc u v i j (i + j))) := by
            rw [i_loc, getA]
            show atI (F i j) _ = _
            rw [at_nat]
            exact get_tab _ (by show i + j < f.length + g.length; omega)
          have hs : setD (.loc (S.length + 3)) (.int ((i + j : Nat) : Int)) (.int (acc u v i j (i + j) + u i * v j)) (st i j) = some (st i (j + 1)) := by
            rw [set_lst (xs := F i j) (by rw [getA]; rfl) (by rw [hF]; show i + j < f.length + g.length; omega), setA]
            have hh : (F i j).set (i + j) (.int (acc u v i j (i + j) + u i * v j)) = F i (j + 1) := by
              show ((List.range N).map fun k => D.int (acc u v i j k)).set _ _ = (List.range N).map fun k => D.int (acc u v i (j + 1) k)
              rw [set_tab]
              refine List.map_congr_left fun k _ => ?_
              rw [← acc_step]
              split <;> rfl
            show some (S ++ [.lst (ovs f), .lst (ovs g), .lst [.int 0], .lst ((F i j).set (i + j) _)]) = _
            rw [hh]
          simp only [forStep, vK_some, e_var, e_lit, lit_non, lit_bl, lit_int, lit_str, e_glob, oneK_some, e_bin, bin1_some, bin2_some, d_add, d_sub, e_neg, negK_some, e_cmp, cmp1_some, cmp2_some, map_some2, c_lt, c_le, c_gt, c_ge, c_eqI, c_neI, c_eqS, c_neS, tK_some, notK_some, blK_some, e_not, e_and, e_or, t_not, t_and, t_or, t_cmp, t_call, t_blt, a_nil, a_cons, andK_t, andK_f, o_nil, o_cons, orK_t, orK_f, e_ite, iteK_t, iteK_f, s_nil, s_cons, es1_some, es2_some, e_tup, tupK0, tupK1, tupK2, tupK3, tupK4, tupK5, e_lst, lstK0, lstK1, e_call, calK_some, e_blt, bltK_some, b_gcd, b_abs, b_int, b_max, b_min, b_lenT, b_lenL, b_tupT, b_tupL, b_lstT, b_lstL, b_all, items_lst, items_ro, map_some3, e_idx, idx1_some, idx2_some, i_tup, i_loc, at_0, at_1, at_2, at_3, e_slice, slK_some, slK1_some, slK2_some, o_none, o_some, oK_some, sl_tup, sl_loc, e_rev, revK_some, rv_tup, rv_loc, e_pop, popK_some, e_comp, it_tup, it_loc, it_enumT, it_enumL, it_zipT, it_zipL, e_dict, B_nil, B_cons, seqK_nx, seqK_ret, seqK_brk, seqK_cont, S_asg, asgK_some, nxK_some, bd_nm, bd_tup, bd_nil, bd_cons, bdK_some, S_par, parK_some, sa_nil, sa_cons, S_setI, stK_some, stK1_some, stK2_some, nxS_some, S_app, appK2_some, S_popS, popSK_some, S_ret, retK_some, S_retN, S_pass, S_brk, S_cont, S_ite, ifK_t, ifK_f, forK_some, getA, getA0, setA, setA0, lenA, appA, catA, nilA, lenC, len0, g_0, t_0, g_1, t_1, g_2, t_2, g_3, t_3, g_4, t_4, g_5, t_5, g_6, t_6, g_7, t_7, g_8, t_8, g_9, t_9, g_10, t_10, g_11, t_11, g_12, t_12, g_13, t_13, bindS, S_whil, S_for, compK_some, hij, hm, hg, hs]
        · cases hl with
          | head => rw [getA, getA]; rfl
          | tail _ h => cases h)
    rw [List.length_map, List.length_range] at hI
    obtain ⟨h1, z, w, h2⟩ := hI
    refine ⟨ρ', S', e1, ?_, z, w, h2⟩
    rw [h1, hlen2]
    show S ++ [.lst (ovs f), .lst (ovs g), .lst [.int 0], .lst (F i g.length)] = S ++ [.lst (ovs f), .lst (ovs g), .lst [.int 0], .lst (F (i + 1) 0)]
    have hh : F i g.length = F (i + 1) 0 := List.map_congr_left fun k _ => by
      show D.int (acc u v i g.length k) = D.int (acc u v (i + 1) 0 k)
      rw [acc_row hv0]
    rw [hh]
  -- the outer walk
  obtain ⟨ρ', S', e1, hI⟩ := for_inv (L := [S.length]) (S0 := st 0 0) (step := forStep ⟨runF cst tb (k + 2), cst⟩ (.tup [.nm 3, .nm 4]) [.forr .enum [.var 8] (.tup [.nm 9, .nm 10]) [.setI (.var 2) (.bin .add (.var 3) (.var 9)) (.bin .add (.idx (.var 2) (.bin .add (.var 3) (.var 9))) (.bin .mul (.var 4) (.var 10)))]])
    (fun i ρ S' => S' = st i 0 ∧ ∃ x y z w, ρ = [some (eP f), some (eP g), some (.loc (S.length + 3)), x, y, some (.int (bot f)), some (.loc S.length), some (.int (bot g)), some (.loc (S.length + 1)), z, w])
    (xs := (List.range (ovs f).length).map fun j => .tup [.int (j : Nat), (ovs f).getD j .non]) (S := st 0 0) (ρ := [some (eP f), some (eP g), some (.loc (S.length + 3)), none, none, some (.int (bot f)), some (.loc S.length), some (.int (bot g)), some (.loc (S.length + 1)), none, none]) ⟨rfl, _, _, _, _, rfl⟩ (fun i x ρ S' e q => by
      obtain ⟨rfl, x1, y1, z1, w1, rfl⟩ := q
      obtain ⟨hi, rfl⟩ := enum_get e
      rw [hlen] at hi
      have hui : (ovs f).getD i .non = .int (u i) := getD_map hi _
      rw [hui]
      obtain ⟨ρ2, S2, e2, rfl, z2, w2, rfl⟩ := inner i hi z1 w1
      refine ⟨_, _, ?_, fun l hl => ?_, rfl, some (.int (i : Nat)), some (.int (u i)), z2, w2, rfl⟩
      · have hg : (st i 0)[S.length + 1]? = some (.lst (ovs g)) := by rw [getA]; rfl
        have hit : iterD .enum [.loc (S.length + 1)] (st i 0) = some ((List.range (ovs g).length).map fun j => .tup [.int (j : Nat), (ovs g).getD j .non], [S.length + 1]) := by
          rw [it_enumL, hg]
          rfl
        simp only [forStep, vK_some, e_var, e_lit, lit_non, lit_bl, lit_int, lit_str, e_glob, oneK_some, e_bin, bin1_some, bin2_some, d_add, d_sub, e_neg, negK_some, e_cmp, cmp1_some, cmp2_some, map_some2, c_lt, c_le, c_gt, c_ge, c_eqI, c_neI, c_eqS, c_neS, tK_some, notK_some, blK_some, e_not, e_and, e_or, t_not, t_and, t_or, t_cmp, t_call, t_blt, a_nil, a_cons, andK_t, andK_f, o_nil, o_cons, orK_t, orK_f, e_ite, iteK_t, iteK_f, s_nil, s_cons, es1_some, es2_some, e_tup, tupK0, tupK1, tupK2, tupK3, tupK4, tupK5, e_lst, lstK0, lstK1, e_call, calK_some, e_blt, bltK_some, b_gcd, b_abs, b_int, b_max, b_min, b_lenT, b_lenL, b_tupT, b_tupL, b_lstT, b_lstL, b_all, items_lst, items_ro, map_some3, e_idx, idx1_some, idx2_some, i_tup, i_loc, at_0, at_1, at_2, at_3, e_slice, slK_some, slK1_some, slK2_some, o_none, o_some, oK_some, sl_tup, sl_loc, e_rev, revK_some, rv_tup, rv_loc, e_pop, popK_some, e_comp, it_tup, it_loc, it_enumT, it_enumL, it_zipT, it_zipL, e_dict, B_nil, B_cons, seqK_nx, seqK_ret, seqK_brk, seqK_cont, S_asg, asgK_some, nxK_some, bd_nm, bd_tup, bd_nil, bd_cons, bdK_some, S_par, parK_some, sa_nil, sa_cons, S_setI, stK_some, stK1_some, stK2_some, nxS_some, S_app, appK2_some, S_popS, popSK_some, S_ret, retK_some, S_retN, S_pass, S_brk, S_cont, S_ite, ifK_t, ifK_f, forK_some, getA, getA0, setA, setA0, lenA, appA, catA, nilA, lenC, len0, g_0, t_0, g_1, t_1, g_2, t_2, g_3, t_3, g_4, t_4, g_5, t_5, g_6, t_6, g_7, t_7, g_8, t_8, g_9, t_9, g_10, t_10, g_11, t_11, g_12, t_12, g_13, t_13, bindS, S_whil, S_for, compK_some, hit, e2]
      · cases hl with
        | head => rw [getA0, getA0]
        | tail _ h => cases h)
  rw [List.length_map, List.length_range, hlen] at hI
  obtain ⟨rfl, x, y, z, w, rfl⟩ := hI
  -- what is handed back
  have hbb : (0 : Int) < (bot f : Int) * (bot g : Int) := Int.mul_pos (by have := bot_pos f; omega) (by have := bot_pos g; omega)
  have hm := fun S => d_mul (S := S) (mulOk_lt (B := 4000) (i := (bot f : Int)) (j := (bot g : Int)) (by decide) (by rw [Int.natAbs_natCast]; exact Bf.bot) (by rw [Int.natAbs_natCast]; exact Bg.bot))
  have hbs : ((bot f : Int) * (bot g : Int)).natAbs < 2 ^ 8000 := Sz.mul_num (B := 4000) (C := 4000) (by rw [Int.natAbs_natCast]; exact Bf.bot) (by rw [Int.natAbs_natCast]; exact Bg.bot)
  have hval : ∀ k, Rat.divInt (acc u v f.length 0 k) ((bot f : Int) * (bot g : Int)) = cv f g k := fun k => by
    have e : acc u v f.length 0 k = smI f.length (fun i' => if i' ≤ k then u i' * v (k - i') else 0) := by
      unfold acc
      rw [if_neg (by omega), Int.add_zero]
    have hF : ((bot f : Int) : Rat) ≠ 0 := by
      intro z
      have := Rat.intCast_eq_zero_iff.1 z
      have := bot_pos f
      omega
    have hG : ((bot g : Int) : Rat) ≠ 0 := by
      intro z
      have := Rat.intCast_eq_zero_iff.1 z
      have := bot_pos g
      omega
    rw [e, Rat.divInt_eq_div, smR_cast, Rat.intCast_mul]
    have e2 : (smR f.length fun i => (((if i ≤ k then u i * v (k - i) else 0 : Int)) : Rat)) = smR f.length fun i => (((bot f : Int) : Rat) * ((bot g : Int) : Rat)) * (if i ≤ k then co f i * co g (k - i) else 0) := smR_congr fun i hi => by
      split
      · have h1 : ((u i : Int) : Rat) = co f i * ((bot f : Nat) : Rat) := ov_eq (den_dvd_bot (co_mem hi))
        have h2 : ((v (k - i) : Int) : Rat) = co g (k - i) * ((bot g : Nat) : Rat) := by
          by_cases hk : k - i < g.length
          · exact ov_eq (den_dvd_bot (co_mem hk))
          · rw [hv0 _ (by omega), co_of_le (f := g) (by omega)]
            simp
        rw [Rat.intCast_mul, h1, h2, Rat.intCast_natCast, Rat.intCast_natCast]
        grind
      · simp
    rw [e2, smR_mul]
    show _ = cv f g k
    unfold cv
    rw [Rat.div_def, Rat.mul_comm (((bot f : Int) : Rat) * ((bot g : Int) : Rat)), Rat.mul_assoc, Rat.mul_inv_cancel _ (by
      intro z
      rcases Rat.mul_eq_zero.1 z with z | z
      · exact hF z
      · exact hG z), Rat.mul_one]
  have hc := compI_map (S := st f.length 0) (C := ⟨runF cst tb (k + 2), cst⟩) (t := .nm 4) (ifs := []) (elt := .call "fraction_of" [.var 4, .bin .mul (.var 5) (.var 7)]) (own := [4])
    (ρ := [some (eP f), some (eP g), some (.loc (S.length + 3)), x, y, some (.int (bot f)), some (.loc S.length), some (.int (bot g)), some (.loc (S.length + 1)), z, w])
    (xs := F f.length 0) (L := [S.length + 3]) (fun i => eF (cv f g i)) (by simp [st]) (by rw [hF]; show f.length + g.length < sizeLine; simp only [sizeLine]; omega) (fun i x' ac e => by
      obtain ⟨a, ha, rfl, hi⟩ := map_get e
      rw [List.length_range] at hi
      rw [List.getElem?_range hi] at ha
      cases ha
      refine cs0 (ρ1 := [some (eP f), some (eP g), some (.loc (S.length + 3)), x, some (.int (acc u v f.length 0 i)), some (.int (bot f)), some (.loc S.length), some (.int (bot g)), some (.loc (S.length + 1)), z, w]) (by simp only [w_nil, w_cons, vK_some, e_var, e_lit, lit_non, lit_bl, lit_int, lit_str, e_glob, oneK_some, e_bin, bin1_some, bin2_some, d_add, d_sub, e_neg, negK_some, e_cmp, cmp1_some, cmp2_some, map_some2, c_lt, c_le, c_gt, c_ge, c_eqI, c_neI, c_eqS, c_neS, tK_some, notK_some, blK_some, e_not, e_and, e_or, t_not, t_and, t_or, t_cmp, t_call, t_blt, a_nil, a_cons, andK_t, andK_f, o_nil, o_cons, orK_t, orK_f, e_ite, iteK_t, iteK_f, s_nil, s_cons, es1_some, es2_some, e_tup, tupK0, tupK1, tupK2, tupK3, tupK4, tupK5, e_lst, lstK0, lstK1, e_call, calK_some, e_blt, bltK_some, b_gcd, b_abs, b_int, b_max, b_min, b_lenT, b_lenL, b_tupT, b_tupL, b_lstT, b_lstL, b_all, items_lst, items_ro, map_some3, e_idx, idx1_some, idx2_some, i_tup, i_loc, at_0, at_1, at_2, at_3, e_slice, slK_some, slK1_some, slK2_some, o_none, o_some, oK_some, sl_tup, sl_loc, e_rev, revK_some, rv_tup, rv_loc, e_pop, popK_some, e_comp, it_tup, it_loc, it_enumT, it_enumL, it_zipT, it_zipL, e_dict, B_nil, B_cons, seqK_nx, seqK_ret, seqK_brk, seqK_cont, S_asg, asgK_some, nxK_some, bd_nm, bd_tup, bd_nil, bd_cons, bdK_some, S_par, parK_some, sa_nil, sa_cons, S_setI, stK_some, stK1_some, stK2_some, nxS_some, S_app, appK2_some, S_popS, popSK_some, S_ret, retK_some, S_retN, S_pass, S_brk, S_cont, S_ite, ifK_t, ifK_f, forK_some, getA, getA0, setA, setA0, lenA, appA, catA, nilA, lenC, len0, g_0, t_0, g_1, t_1, g_2, t_2, g_3, t_3, g_4, t_4, g_5, t_5, g_6, t_6, g_7, t_7, g_8, t_8, g_9, t_9, g_10, t_10, g_11, t_11, g_12, t_12, g_13, t_13, bindS, S_whil, S_for, compK_some]) ?_
      have r := fun k S => r_fraction_of (cst := cst) (k := k) (S := S) T.fr (LowOk.pos (p := acc u v f.length 0 i) (B := 8000) (by decide) hbb hbs)
      rw [← hval i]
      simp only [hm, r, vK_some, e_var, e_lit, lit_non, lit_bl, lit_int, lit_str, e_glob, oneK_some, e_bin, bin1_some, bin2_some, d_add, d_sub, e_neg, negK_some, e_cmp, cmp1_some, cmp2_some, map_some2, c_lt, c_le, c_gt, c_ge, c_eqI, c_neI, c_eqS, c_neS, tK_some, notK_some, blK_some, e_not, e_and, e_or, t_not, t_and, t_or, t_cmp, t_call, t_blt, a_nil, a_cons, andK_t, andK_f, o_nil, o_cons, orK_t, orK_f, e_ite, iteK_t, iteK_f, s_nil, s_cons, es1_some, es2_some, e_tup, tupK0, tupK1, tupK2, tupK3, tupK4, tupK5, e_lst, lstK0, lstK1, e_call, calK_some, e_blt, bltK_some, b_gcd, b_abs, b_int, b_max, b_min, b_lenT, b_lenL, b_tupT, b_tupL, b_lstT, b_lstL, b_all, items_lst, items_ro, map_some3, e_idx, idx1_some, idx2_some, i_tup, i_loc, at_0, at_1, at_2, at_3, e_slice, slK_some, slK1_some, slK2_some, o_none, o_some, oK_some, sl_tup, sl_loc, e_rev, revK_some, rv_tup, rv_loc, e_pop, popK_some, e_comp, it_tup, it_loc, it_enumT, it_enumL, it_zipT, it_zipL, e_dict, B_nil, B_cons, seqK_nx, seqK_ret, seqK_brk, seqK_cont, S_asg, asgK_some, nxK_some, bd_nm, bd_tup, bd_nil, bd_cons, bdK_some, S_par, parK_some, sa_nil, sa_cons, S_setI, stK_some, stK1_some, stK2_some, nxS_some, S_app, appK2_some, S_popS, popSK_some, S_ret, retK_some, S_retN, S_pass, S_brk, S_cont, S_ite, ifK_t, ifK_f, forK_some, getA, getA0, setA, setA0, lenA, appA, catA, nilA, lenC, len0, g_0, t_0, g_1, t_1, g_2, t_2, g_3, t_3, g_4, t_4, g_5, t_5, g_6, t_6, g_7, t_7, g_8, t_8, g_9, t_9, g_10, t_10, g_11, t_11, g_12, t_12, g_13, t_13, bindS, S_whil, S_for, compK_some])
  rw [hF, tab_eF] at hc
  have r := r_poly_of (cst := cst) (tb := tb) (k := k + 1) (S := st f.length 0 ++ [.lst ((tab N (cv f g)).map eF)]) T.of T.cs.none (d := .loc (S.length + 4)) (f := tab N (cv f g)) (by
    have e : (st f.length 0).length = S.length + 4 := by simp [st]
    rw [b_lstL, ← e, getA0]
    rfl)
  have w1 := fun k S => r_whole_numbers (cst := cst) (k := k) (S := S) T.fr.cd T.whole Bf.wh (by omega)
  have w2 := fun k S => r_whole_numbers (cst := cst) (k := k) (S := S) T.fr.cd T.whole Bg.wh (by omega)
  have hz : binD .mul (.loc (S.length + 2)) (.int ((N : Nat) : Int)) (S ++ [.lst (ovs f), .lst (ovs g), .lst [.int 0]]) = some (.loc (S.length + 3), st 0 0) := by
    rw [m_loc (xs := [.int 0]) (by rw [getA]; rfl) (by show f.length + g.length < 2 ^ 62; omega) (by show 1 * (f.length + g.length) ≤ sizeLine; simp only [sizeLine]; omega)]
    simp only [rep_tab, lenA, List.append_assoc, List.cons_append, List.nil_append, List.length_cons, List.length_nil, st, F]
    have hh : ((List.range N).map fun _ => D.int 0) = (List.range N).map fun k => D.int (acc u v 0 0 k) := List.map_congr_left fun k _ => by
      rw [acc, if_neg (by omega)]
      rfl
    rw [hh]
  have hN : (f.length : Int) + (g.length : Int) = ((N : Nat) : Int) := by show _ = ((f.length + g.length : Nat) : Int); omega
  have hit : iterD .enum [.loc S.length] (st 0 0) = some ((List.range (ovs f).length).map fun j => .tup [.int (j : Nat), (ovs f).getD j .non], [S.length]) := by
    rw [it_enumL, getA0]
    rfl
  have hit2 : iterD .seq [.loc (S.length + 3)] (st f.length 0) = some (F f.length 0, [S.length + 3]) := by
    rw [it_loc, getA]
    rfl
  refine run_ret (G := [.lst (ovs f), .lst (ovs g), .lst [.int 0], .lst (F f.length 0), .lst ((tab N (cv f g)).map eF)]) T.ptimes rfl ?_ (NoLoc_eP _)
  have hl4 : (st f.length 0).length = S.length + 4 := by simp [st]
  rw [hl4] at hc
  have e1' : forI ⟨runF cst tb (k + 2), cst⟩ (.tup [.nm 3, .nm 4]) [.forr .enum [.var 8] (.tup [.nm 9, .nm 10]) [.setI (.var 2) (.bin .add (.var 3) (.var 9)) (.bin .add (.idx (.var 2) (.bin .add (.var 3) (.var 9))) (.bin .mul (.var 4) (.var 10)))]] [some (eP f), some (eP g), some (.loc (S.length + 3)), none, none, some (.int (bot f)), some (.loc S.length), some (.int (bot g)), some (.loc (S.length + 1)), none, none] (st 0 0) (some ((List.range (ovs f).length).map fun j => .tup [.int (j : Nat), (ovs f).getD j .non], [S.length])) = _ := e1
  simp only [d_poly_times, List.map, List.replicate, Nat.reduceSub, List.cons_append, List.nil_append, vK_some, e_var, e_lit, lit_non, lit_bl, lit_int, lit_str, e_glob, oneK_some, e_bin, bin1_some, bin2_some, d_add, d_sub, e_neg, negK_some, e_cmp, cmp1_some, cmp2_some, map_some2, c_lt, c_le, c_gt, c_ge, c_eqI, c_neI, c_eqS, c_neS, tK_some, notK_some, blK_some, e_not, e_and, e_or, t_not, t_and, t_or, t_cmp, t_call, t_blt, a_nil, a_cons, andK_t, andK_f, o_nil, o_cons, orK_t, orK_f, e_ite, iteK_t, iteK_f, s_nil, s_cons, es1_some, es2_some, e_tup, tupK0, tupK1, tupK2, tupK3, tupK4, tupK5, e_lst, lstK0, lstK1, e_call, calK_some, e_blt, bltK_some, b_gcd, b_abs, b_int, b_max, b_min, b_lenT, b_lenL, b_tupT, b_tupL, b_lstT, b_lstL, b_all, items_lst, items_ro, map_some3, e_idx, idx1_some, idx2_some, i_tup, i_loc, at_0, at_1, at_2, at_3, e_slice, slK_some, slK1_some, slK2_some, o_none, o_some, oK_some, sl_tup, sl_loc, e_rev, revK_some, rv_tup, rv_loc, e_pop, popK_some, e_comp, it_tup, it_loc, it_enumT, it_enumL, it_zipT, it_zipL, e_dict, B_nil, B_cons, seqK_nx, seqK_ret, seqK_brk, seqK_cont, S_asg, asgK_some, nxK_some, bd_nm, bd_tup, bd_nil, bd_cons, bdK_some, S_par, parK_some, sa_nil, sa_cons, S_setI, stK_some, stK1_some, stK2_some, nxS_some, S_app, appK2_some, S_popS, popSK_some, S_ret, retK_some, S_retN, S_pass, S_brk, S_cont, S_ite, ifK_t, ifK_f, forK_some, getA, getA0, setA, setA0, lenA, appA, catA, nilA, lenC, len0, g_0, t_0, g_1, t_1, g_2, t_2, g_3, t_3, g_4, t_4, g_5, t_5, g_6, t_6, g_7, t_7, g_8, t_8, g_9, t_9, g_10, t_10, g_11, t_11, g_12, t_12, g_13, t_13, bindS, S_whil, S_for, compK_some, w1, w2, b_lenP, hN, Nat.reduceAdd, hz, hit, e1', hit2, hc, r]
  show some (Out.ret (eP (trim (tab N (cv f g)))), (S ++ [.lst (ovs f), .lst (ovs g), .lst [.int 0], .lst (F f.length 0)]) ++ [.lst ((tab N (cv f g)).map eF)]) = _
  rw [appA]
  rfl
end
end Pf.Z

/-! How great the numbers of a polynomial may be. -/
namespace Pf.Z
open PySem PySem.Spec PyProof.Rows L2
def smN : Nat → (Nat → Nat) → Nat
  | 0, _ => 0
  | n + 1, f => smN n f + f n
theorem smN_le {n : Nat} {f g : Nat → Nat} (h : ∀ i, i < n → f i ≤ g i) : smN n f ≤ smN n g := by
  induction n with
  | zero => exact Nat.le_refl _
  | succ n ih => exact Nat.add_le_add (ih fun i hi => h i (by omega)) (h n (by omega))
theorem smN_congr {n : Nat} {f g : Nat → Nat} (h : ∀ i, i < n → f i = g i) : smN n f = smN n g := by
  induction n with
  | zero => rfl
  | succ n ih => rw [smN, smN, ih fun i hi => h i (by omega), h n (by omega)]
theorem smN_zero (n : Nat) : smN n (fun _ => 0) = 0 := by
  induction n with
  | zero => rfl
  | succ n ih => rw [smN, ih]
theorem smN_add (n : Nat) (f g : Nat → Nat) : smN n (fun i => f i + g i) = smN n f + smN n g := by
  induction n with
  | zero => rfl
  | succ n ih => rw [smN, smN, smN, ih]; omega
theorem smN_mul (c n : Nat) (f : Nat → Nat) : smN n (fun i => c * f i) = c * smN n f := by
  induction n with
  | zero => rfl
  | succ n ih => rw [smN, smN, ih, Nat.mul_add]
theorem smN_swap (n m : Nat) (F : Nat → Nat → Nat) : smN n (fun k => smN m (F k)) = smN m fun i => smN n fun k => F k i := by
  induction n with
  | zero => rw [smN]; exact (smN_zero m).symm
  | succ n ih =>
    rw [smN, ih, ← smN_add]
    rfl
theorem smN_ge {n : Nat} {f : Nat → Nat} {i : Nat} (h : i < n) : f i ≤ smN n f := by
  induction n with
  | zero => omega
  | succ n ih =>
    rw [smN]
    by_cases e : i = n
    · subst e; omega
    · have := ih (by omega); omega
theorem smN_ext {n m : Nat} {f : Nat → Nat} (hl : n ≤ m) (h : ∀ i, n ≤ i → f i = 0) : smN m f = smN n f := by
  induction m with
  | zero => rw [Nat.le_zero.1 hl]
  | succ m ih =>
    by_cases e : n = m + 1
    · rw [e]
    · rw [smN, ih (by omega), h m (by omega), Nat.add_zero]
theorem smN_shift (n i : Nat) (f : Nat → Nat) (m : Nat) (hf : ∀ j, m ≤ j → f j = 0) : smN n (fun k => if i ≤ k then f (k - i) else 0) ≤ smN m f := by
  have : ∀ n, smN n (fun k => if i ≤ k then f (k - i) else 0) = smN (n - i) f := fun n => by
    induction n with
    | zero => rw [smN, Nat.zero_sub, smN]
    | succ n ih =>
      rw [smN, ih]
      by_cases h : i ≤ n
      · rw [if_pos h, show n + 1 - i = (n - i) + 1 by omega, smN]
      · rw [if_neg h, show n + 1 - i = 0 by omega, show n - i = 0 by omega, Nat.add_zero]
  rw [this]
  by_cases h : n - i ≤ m
  · clear this
    generalize n - i = p at h
    induction m with
    | zero => rw [Nat.le_zero.1 h]; exact Nat.le_refl _
    | succ m ih =>
      by_cases e : p = m + 1
      · rw [e]; exact Nat.le_refl _
      · have : smN p f ≤ smN m f ∨ True := .inr trivial
        clear ih this
        have g : ∀ q, p + q = m + 1 → smN p f ≤ smN (m + 1) f := fun q hq => by
          rw [← hq]
          clear hq
          induction q with
          | zero => exact Nat.le_refl _
          | succ q ih => exact Nat.le_trans ih (by rw [← Nat.add_assoc, smN]; omega)
        exact g (m + 1 - p) (by omega)
  · rw [smN_ext (by omega) hf]
    exact Nat.le_refl _
theorem smI_abs (n : Nat) (f : Nat → Int) : (smI n f).natAbs ≤ smN n fun i => (f i).natAbs := by
  induction n with
  | zero => exact Nat.le_refl _
  | succ n ih =>
    rw [smI, smN]
    have := Int.natAbs_add_le (smI n f) (f n)
    omega
/-! ### over one bottom -/
theorem isI {D : Nat} {a : Rat} (h : a.den ∣ D) : ((ov D a : Int) : Rat) = a * (D : Rat) := ov_eq h
theorem isI_of {D : Nat} {a : Rat} {z : Int} (hD : 0 < D) (h : (z : Rat) = a * (D : Rat)) : a.den ∣ D ∧ ov D a = z := by
  have hd : (D : Rat) ≠ 0 := by
    intro e
    have := Rat.natCast_eq_zero_iff.1 e
    omega
  have e : a = Rat.divInt z (D : Int) := by
    rw [Rat.divInt_eq_div, h, Rat.intCast_natCast]
    rw [Rat.div_def, Rat.mul_assoc, Rat.mul_inv_cancel _ hd, Rat.mul_one]
  have h1 : a.den ∣ D := by
    rw [e, Rat.den_divInt, if_neg (by omega)]
    have : (D : Int).natAbs = D := by omega
    rw [this]
    exact Nat.div_dvd_of_dvd (by have := Int.gcd_dvd_natAbs_left (D : Int) z; rwa [Int.natAbs_natCast] at this)
  refine ⟨h1, ?_⟩
  have h2 := isI h1
  rw [← h] at h2
  exact Rat.intCast_inj.1 h2
theorem ov_mul {D E : Nat} {a b : Rat} (hD : 0 < D) (hE : 0 < E) (ha : a.den ∣ D) (hb : b.den ∣ E) : (a * b).den ∣ D * E ∧ ov (D * E) (a * b) = ov D a * ov E b := by
  refine isI_of (Nat.mul_pos hD hE) ?_
  rw [Rat.intCast_mul, isI ha, isI hb, Rat.natCast_mul]
  grind
theorem ov_add {D : Nat} {a b : Rat} (hD : 0 < D) (ha : a.den ∣ D) (hb : b.den ∣ D) : (a + b).den ∣ D ∧ ov D (a + b) = ov D a + ov D b := by
  refine isI_of hD ?_
  rw [Rat.intCast_add, isI ha, isI hb]
  grind
theorem ov_scale {D : Nat} {a : Rat} (hD : 0 < D) (E : Nat) (hE : 0 < E) (ha : a.den ∣ D) : a.den ∣ D * E ∧ ov (D * E) a = ov D a * (E : Int) := by
  refine isI_of (Nat.mul_pos hD hE) ?_
  rw [Rat.intCast_mul, isI ha, Rat.natCast_mul, Rat.intCast_natCast]
  grind
theorem ov_neg {D : Nat} {a : Rat} (hD : 0 < D) (ha : a.den ∣ D) : (-1 * a).den ∣ D ∧ ov D (-1 * a) = - ov D a := by
  refine isI_of hD ?_
  rw [Rat.intCast_neg, isI ha]
  grind
theorem ov_sum {D : Nat} (hD : 0 < D) {φ : Nat → Rat} : ∀ (n : Nat), (∀ i, i < n → (φ i).den ∣ D) → (smR n φ).den ∣ D ∧ ov D (smR n φ) = smI n fun i => ov D (φ i)
  | 0, _ => ⟨Nat.one_dvd _, ov_zero D⟩
  | n + 1, h => by
    obtain ⟨h1, h2⟩ := ov_sum hD n fun i hi => h i (by omega)
    obtain ⟨h3, h4⟩ := ov_add hD h1 (h n (by omega))
    exact ⟨h3, by rw [smR, h4, h2, smI]⟩
/-- the sum of the numbers over one bottom, without signs -/
def l1 (D : Nat) (f : List Rat) : Nat := smN f.length fun i => (ov D (co f i)).natAbs
theorem l1_far {D : Nat} {f : List Rat} {n : Nat} (h : f.length ≤ n) : smN n (fun i => (ov D (co f i)).natAbs) = l1 D f := smN_ext h fun i hi => by rw [co_of_le hi, ov_zero]; rfl
theorem l1_trim (D : Nat) (f : List Rat) : l1 D (trim f) = l1 D f := by
  rw [← l1_far (trim_len f)]
  exact smN_congr fun i _ => by rw [co_trim]
/-- the numbers over one bottom: bits -/
def Bd (B : Nat) (f : List Rat) : Prop := ∃ D, 0 < D ∧ D < 2 ^ B ∧ (∀ i, (co f i).den ∣ D) ∧ l1 D f < 2 ^ B
theorem Bd.mono {B C : Nat} {f : List Rat} (h : Bd B f) (hl : B ≤ C) : Bd C f := by
  obtain ⟨D, h1, h2, h3, h4⟩ := h
  have := Nat.pow_le_pow_right (show 2 > 0 by decide) hl
  exact ⟨D, h1, by omega, h3, by omega⟩
theorem Bd.trimmed {B : Nat} {f : List Rat} (h : Bd B f) : Bd B (trim f) := by
  obtain ⟨D, h1, h2, h3, h4⟩ := h
  exact ⟨D, h1, h2, fun i => by rw [co_trim]; exact h3 i, by rw [l1_trim]; exact h4⟩
theorem mem_co {f : List Rat} {a : Rat} (h : a ∈ f) : ∃ i, i < f.length ∧ a = co f i := by
  obtain ⟨i, hi, e⟩ := List.getElem_of_mem h
  refine ⟨i, hi, ?_⟩
  rw [co, List.getD_eq_getElem?_getD, List.getElem?_eq_getElem hi, ← e]
  rfl
theorem Bd.szc {B : Nat} {f : List Rat} (h : Bd B f) (i : Nat) : Sz B (co f i) := by
  obtain ⟨D, h1, h2, h3, h4⟩ := h
  refine ⟨?_, Nat.lt_of_le_of_lt (Nat.le_of_dvd h1 (h3 i)) h2⟩
  by_cases hi : i < f.length
  · have e : (co f i).num.natAbs ≤ (ov D (co f i)).natAbs := by
      unfold ov
      rw [Int.natAbs_mul, Int.natAbs_natCast]
      have : 0 < D / (co f i).den := Nat.div_pos (Nat.le_of_dvd h1 (h3 i)) (Rat.den_pos _)
      exact Nat.le_mul_of_pos_right _ this
    have e2 : (ov D (co f i)).natAbs ≤ l1 D f := smN_ge (f := fun i => (ov D (co f i)).natAbs) hi
    omega
  · rw [co_of_le (by omega)]
    exact Nat.pow_pos (by decide)
theorem Bd.sz {B : Nat} {f : List Rat} (h : Bd B f) : SzP B f := fun a ha => by
  obtain ⟨i, _, rfl⟩ := mem_co ha
  exact h.szc i
theorem Bd.bd4 {B : Nat} {f : List Rat} (h : Bd B f) (hB : B ≤ 4000) (hl : f.length < 1000) : Bd4 f := by
  have h' := h.mono hB
  refine ⟨?_, fun a ha => (h'.sz a ha).1, hl⟩
  obtain ⟨D, h1, h2, h3, h4⟩ := h'
  refine Nat.lt_of_le_of_lt (Nat.le_of_dvd h1 (bot_dvd fun a ha => ?_)) h2
  obtain ⟨i, _, rfl⟩ := mem_co ha
  exact h3 i
theorem co_padd (f g : List Rat) (i : Nat) : co (padd f g) i = co f i + co g i := co_mkP (fun i h => by rw [co_of_le (f := f) (by omega), co_of_le (f := g) (by omega), Rat.add_zero]) i
theorem co_poften (c : Rat) (f : List Rat) (i : Nat) : co (poften c f) i = c * co f i := by
  unfold poften
  rw [co_trim]
  by_cases hi : i < f.length
  · simp [co, List.getD_eq_getElem?_getD, hi]
  · rw [co_of_le (f := f) (by omega), co_of_le (by simp; omega), Rat.mul_zero]
theorem co_pless (f g : List Rat) (i : Nat) : co (pless f g) i = co f i - co g i := by
  unfold pless
  rw [co_padd, co_poften]
  grind
theorem padd_len (f g : List Rat) : (padd f g).length ≤ max f.length g.length := by
  exact Nat.le_trans (trim_len (tab (max f.length g.length) fun i => co f i + co g i)) (by simp [tab])
theorem pmul_len (f g : List Rat) : (pmul f g).length ≤ f.length + g.length := by
  exact Nat.le_trans (trim_len (tab (f.length + g.length) (cv f g))) (by simp [tab])
theorem pless_len (f g : List Rat) : (pless f g).length ≤ max f.length g.length := by
  have h1 := padd_len f (poften (-1) g)
  have h2 := poften_len (-1) g
  unfold pless
  omega
/-- the sums of the numbers of a list that has the numbers φ -/
theorem l1_le {D n : Nat} {f : List Rat} (hl : f.length ≤ n) (g : Nat → Nat) (h : ∀ i, i < n → (ov D (co f i)).natAbs ≤ g i) : l1 D f ≤ smN n g := by
  rw [← l1_far hl]
  exact smN_le h
theorem Bd.add {B C : Nat} {f g : List Rat} (hf : Bd B f) (hg : Bd C g) : Bd (B + C + 1) (padd f g) := by
  obtain ⟨D, h1, h2, h3, h4⟩ := hf
  obtain ⟨E, k1, k2, k3, k4⟩ := hg
  have q : ∀ i, (co f i).den ∣ D * E ∧ ov (D * E) (co f i) = ov D (co f i) * (E : Int) := fun i => ov_scale h1 E k1 (h3 i)
  have q2 : ∀ i, (co g i).den ∣ D * E ∧ ov (D * E) (co g i) = ov E (co g i) * (D : Int) := fun i => by
    have := ov_scale k1 D h1 (k3 i)
    rwa [Nat.mul_comm E D] at this
  have a : ∀ i, (co f i + co g i).den ∣ D * E ∧ ov (D * E) (co f i + co g i) = ov (D * E) (co f i) + ov (D * E) (co g i) := fun i => ov_add (Nat.mul_pos h1 k1) (q i).1 (q2 i).1
  have hDE : D * E < 2 ^ (B + C) := by rw [Nat.pow_add]; exact Nat.mul_lt_mul'' h2 k2
  refine ⟨D * E, Nat.mul_pos h1 k1, by rw [Nat.pow_succ]; omega, fun i => by rw [co_padd]; exact (a i).1, ?_⟩
  have e := l1_le (D := D * E) (padd_len f g) (fun i => E * (ov D (co f i)).natAbs + D * (ov E (co g i)).natAbs) fun i _ => by
    rw [co_padd, (a i).2, (q i).2, (q2 i).2]
    have := Int.natAbs_add_le (ov D (co f i) * (E : Int)) (ov E (co g i) * (D : Int))
    rw [Int.natAbs_mul, Int.natAbs_mul, Int.natAbs_natCast, Int.natAbs_natCast] at this
    rw [Nat.mul_comm E, Nat.mul_comm D]
    exact this
  rw [smN_add, smN_mul, smN_mul, l1_far (by omega), l1_far (by omega)] at e
  have b1 : E * l1 D f < 2 ^ (B + C) := by
    rw [Nat.add_comm, Nat.pow_add]
    exact Nat.mul_lt_mul'' k2 h4
  have b2 : D * l1 E g < 2 ^ (B + C) := by
    rw [Nat.pow_add]
    exact Nat.mul_lt_mul'' h2 k4
  rw [Nat.pow_succ]
  omega
theorem Bd.mul {B C : Nat} {f g : List Rat} (hf : Bd B f) (hg : Bd C g) : Bd (B + C) (pmul f g) := by
  obtain ⟨D, h1, h2, h3, h4⟩ := hf
  obtain ⟨E, k1, k2, k3, k4⟩ := hg
  have hp := Nat.mul_pos h1 k1
  have t : ∀ k i, (if i ≤ k then co f i * co g (k - i) else 0).den ∣ D * E ∧ ov (D * E) (if i ≤ k then co f i * co g (k - i) else 0) = if i ≤ k then ov D (co f i) * ov E (co g (k - i)) else 0 := fun k i => by
    split
    · exact ov_mul h1 k1 (h3 i) (k3 _)
    · exact ⟨Nat.one_dvd _, ov_zero _⟩
  have a : ∀ k, (cv f g k).den ∣ D * E ∧ ov (D * E) (cv f g k) = smI f.length fun i => if i ≤ k then ov D (co f i) * ov E (co g (k - i)) else 0 := fun k => by
    obtain ⟨x1, x2⟩ := ov_sum hp f.length fun i _ => (t k i).1
    exact ⟨x1, x2.trans (smI_congr fun i _ => (t k i).2)⟩
  refine ⟨D * E, hp, by rw [Nat.pow_add]; exact Nat.mul_lt_mul'' h2 k2, fun i => by rw [co_pmul]; exact (a i).1, ?_⟩
  have e := l1_le (D := D * E) (pmul_len f g) (fun k => smN f.length fun i => (ov D (co f i)).natAbs * if i ≤ k then (ov E (co g (k - i))).natAbs else 0) fun k _ => by
    rw [co_pmul, (a k).2]
    refine Nat.le_trans (smI_abs _ _) (smN_le fun i _ => ?_)
    split
    · rw [Int.natAbs_mul]; exact Nat.le_refl _
    · exact Nat.zero_le _
  rw [smN_swap] at e
  have e2 : (smN f.length fun i => smN (f.length + g.length) fun k => (ov D (co f i)).natAbs * if i ≤ k then (ov E (co g (k - i))).natAbs else 0) ≤ l1 E g * l1 D f := by
    unfold l1
    rw [← smN_mul]
    refine smN_le fun i _ => ?_
    rw [smN_mul, Nat.mul_comm]
    exact Nat.mul_le_mul_right _ (smN_shift _ _ (fun j => (ov E (co g j)).natAbs) g.length fun j hj => by rw [co_of_le hj, ov_zero]; rfl)
  have b : l1 E g * l1 D f < 2 ^ (B + C) := by
    rw [Nat.add_comm, Nat.pow_add]
    exact Nat.mul_lt_mul'' k4 h4
  omega
theorem Bd.flat {B : Nat} {c : Rat} (h : Sz B c) : Bd B [c] := by
  refine ⟨c.den, c.den_pos, h.2, fun i => ?_, ?_⟩
  · cases i with
    | zero => exact Nat.dvd_refl _
    | succ i => exact Nat.one_dvd _
  · have : l1 c.den [c] = c.num.natAbs := by
      show 0 + (ov c.den c).natAbs = _
      unfold ov
      rw [Nat.div_self c.den_pos]
      simp
    rw [this]
    exact h.1
theorem Bd.often {B C : Nat} {c : Rat} {f : List Rat} (hc : Sz B c) (hf : Bd C f) : Bd (B + C) (poften c f) := by
  obtain ⟨E, k1, k2, k3, k4⟩ := hf
  have a : ∀ i, (c * co f i).den ∣ c.den * E ∧ ov (c.den * E) (c * co f i) = ov c.den c * ov E (co f i) := fun i => ov_mul c.den_pos k1 (Nat.dvd_refl _) (k3 i)
  have hc2 : ov c.den c = c.num := by
    unfold ov
    rw [Nat.div_self c.den_pos]
    simp
  refine ⟨c.den * E, Nat.mul_pos c.den_pos k1, by rw [Nat.pow_add]; exact Nat.mul_lt_mul'' hc.2 k2, fun i => by rw [co_poften]; exact (a i).1, ?_⟩
  have e := l1_le (D := c.den * E) (poften_len c f) (fun i => c.num.natAbs * (ov E (co f i)).natAbs) fun i _ => by
    rw [co_poften, (a i).2, hc2, Int.natAbs_mul]
    exact Nat.le_refl _
  rw [smN_mul] at e
  have b : c.num.natAbs * l1 E f < 2 ^ (B + C) := by
    rw [Nat.pow_add]
    exact Nat.mul_lt_mul'' hc.1 k4
  exact Nat.lt_of_le_of_lt e b
theorem Bd.neg {C : Nat} {f : List Rat} (hf : Bd C f) : Bd C (poften (-1) f) := by
  obtain ⟨E, k1, k2, k3, k4⟩ := hf
  refine ⟨E, k1, k2, fun i => by rw [co_poften]; exact (ov_neg k1 (k3 i)).1, ?_⟩
  have e := l1_le (D := E) (poften_len (-1) f) (fun i => (ov E (co f i)).natAbs) fun i _ => by
    rw [co_poften, (ov_neg k1 (k3 i)).2, Int.natAbs_neg]
    exact Nat.le_refl _
  exact Nat.lt_of_le_of_lt e k4
theorem Bd.less {B C : Nat} {f g : List Rat} (hf : Bd B f) (hg : Bd C g) : Bd (B + C + 1) (pless f g) := hf.add hg.neg
/-! ### by looking -/
def bdB (B : Nat) (f : List Rat) : Bool := decide (bot f < 2 ^ B) && decide (l1 (bot f) f < 2 ^ B)
theorem Bd.of {B : Nat} {f : List Rat} (h : bdB B f = true) : Bd B f := by
  simp only [bdB, Bool.and_eq_true, decide_eq_true_iff] at h
  refine ⟨bot f, bot_pos f, h.1, fun i => ?_, h.2⟩
  by_cases hi : i < f.length
  · exact den_dvd_bot (co_mem hi)
  · rw [co_of_le (by omega)]
    exact Nat.one_dvd _
theorem Sz.add {B C : Nat} {a b : Rat} (ha : Sz B a) (hb : Sz C b) : Sz (B + C + 1) (a + b) := by
  have := (Bd.add (Bd.flat ha) (Bd.flat hb)).szc 0
  rwa [co_padd] at this
theorem Sz.mul {B C : Nat} {a b : Rat} (ha : Sz B a) (hb : Sz C b) : Sz (B + C) (a * b) := by
  have := (Bd.often ha (Bd.flat hb)).szc 0
  rwa [co_poften] at this
end Pf.Z

/-! Powers, putting in, worths, slopes, normals. -/
namespace Pf.Z
open PySem PySem.Spec PyProof.Rows L2
section
variable {cst : Str → Option D} {tb : Str → Option FD} {k : Nat} {S : Sto}
theorem eF_one : (.tup [.int 1, .int 1] : D) = eF 1 := rfl
theorem eF_zero : (.tup [.int 0, .int 1] : D) = eF 0 := rfl
theorem eF_nat (n : Nat) : eF (n : Rat) = .tup [.int (n : Int), .int 1] := rfl
theorem eF_int (n : Int) : eF (n : Rat) = .tup [.int n, .int 1] := rfl
theorem rng_get {n i : Nat} {x : D} (h : ((List.range n).map fun i => D.int (i : Nat))[i]? = some x) : i < n ∧ x = D.int (i : Nat) := by
  obtain ⟨a, h1, h2, h3⟩ := map_get h
  rw [List.length_range] at h3
  rw [List.getElem?_range h3] at h1
  cases h1
  exact ⟨h3, h2⟩
theorem Sz_one {B : Nat} : Sz (B + 1) 1 := ⟨Nat.one_lt_two_pow (by omega), Nat.one_lt_two_pow (by omega)⟩
theorem Sz.pow {B : Nat} {c : Rat} (h : Sz B c) : ∀ n, Sz (n * B + 1) (c ^ n)
  | 0 => by rw [Rat.pow_zero, Nat.zero_mul]; exact Sz_one
  | n + 1 => by
    rw [Rat.pow_succ]
    exact (Sz.mul (Sz.pow h n) h).mono (by rw [Nat.succ_mul]; omega)
theorem r_fraction_power (T : FrT tb) (h1 : tb "fraction_times" = some d_fraction_times) (h : tb "fraction_power" = some d_fraction_power) {c : Rat} {n B : Nat} (hc : Sz B c) (hB : n * B + 1 ≤ 4000) (hB2 : B ≤ 4000) (hn : n < 2 ^ 62) :
    runF cst tb (k + 4) "fraction_power" [eF c, .int (n : Int)] S = some (eF (c ^ n), S) := by
  refine run_ret0 h rfl ?_ (NoLoc_eF _)
  obtain ⟨ρ', S', e1, hI⟩ := for_inv (L := []) (S0 := S) (step := forStep ⟨runF cst tb (k + 3), cst⟩ (.nm 3) [.asg (.nm 2) (.call "fraction_times" [.var 2, .var 0])])
    (fun i ρ S' => S' = S ∧ ∃ x, ρ = [some (eF c), some (.int (n : Int)), some (eF (c ^ i)), x]) (xs := (List.range n).map fun i => D.int (i : Nat)) (ρ := [some (eF c), some (.int (n : Int)), some (eF 1), none]) (S := S) ⟨rfl, none, by rw [Rat.pow_zero]⟩ (fun i x ρ S' e q => by
      obtain ⟨rfl, x1, rfl⟩ := q
      obtain ⟨hi, rfl⟩ := rng_get e
      have r := fun k S => r_fraction_times (cst := cst) (k := k) (S := S) T h1 ((hc.pow i).mono (by have := Nat.mul_le_mul_right B (show i ≤ n by omega); omega)) (hc.mono hB2)
      refine ⟨[some (eF c), some (.int (n : Int)), some (eF (c ^ (i + 1))), some (.int (i : Nat))], S', ?_, by simp, rfl, _, rfl⟩
      rw [Rat.pow_succ]
      simp only [forStep, r, vK_some, e_var, e_lit, lit_non, lit_bl, lit_int, lit_str, e_glob, oneK_some, e_bin, bin1_some, bin2_some, d_add, d_sub, e_neg, negK_some, e_cmp, cmp1_some, cmp2_some, map_some2, c_lt, c_le, c_gt, c_ge, c_eqI, c_neI, c_eqS, c_neS, tK_some, notK_some, blK_some, e_not, e_and, e_or, t_not, t_and, t_or, t_cmp, t_call, t_blt, a_nil, a_cons, andK_t, andK_f, o_nil, o_cons, orK_t, orK_f, e_ite, iteK_t, iteK_f, s_nil, s_cons, es1_some, es2_some, e_tup, tupK0, tupK1, tupK2, tupK3, tupK4, tupK5, e_lst, lstK0, lstK1, e_call, calK_some, e_blt, bltK_some, b_gcd, b_abs, b_int, b_max, b_min, b_lenT, b_lenL, b_tupT, b_tupL, b_lstT, b_lstL, b_all, items_lst, items_ro, map_some3, e_idx, idx1_some, idx2_some, i_tup, i_loc, at_0, at_1, at_2, at_3, e_slice, slK_some, slK1_some, slK2_some, o_none, o_some, oK_some, sl_tup, sl_loc, e_rev, revK_some, rv_tup, rv_loc, e_pop, popK_some, e_comp, it_tup, it_loc, it_enumT, it_enumL, it_zipT, it_zipL, e_dict, B_nil, B_cons, seqK_nx, seqK_ret, seqK_brk, seqK_cont, S_asg, asgK_some, nxK_some, bd_nm, bd_tup, bd_nil, bd_cons, bdK_some, S_par, parK_some, sa_nil, sa_cons, S_setI, stK_some, stK1_some, stK2_some, nxS_some, S_app, appK2_some, S_popS, popSK_some, S_ret, retK_some, S_retN, S_pass, S_brk, S_cont, S_ite, ifK_t, ifK_f, forK_some, getA, getA0, setA, setA0, lenA, appA, catA, nilA, lenC, len0, g_0, t_0, g_1, t_1, g_2, t_2, g_3, t_3, g_4, t_4, g_5, t_5, g_6, t_6, g_7, t_7, g_8, t_8, g_9, t_9, g_10, t_10, g_11, t_11, g_12, t_12, g_13, t_13, bindS, S_whil, S_for, compK_some])
  obtain ⟨rfl, x, rfl⟩ := hI
  rw [List.length_map, List.length_range] at e1
  have hr := it_rng (S := S') (n : Int) (by omega)
  simp only [d_fraction_power, List.map, List.replicate, Nat.reduceSub, List.cons_append, List.nil_append, eF_one, hr, Int.toNat_natCast, forI_some, e1, vK_some, e_var, e_lit, lit_non, lit_bl, lit_int, lit_str, e_glob, oneK_some, e_bin, bin1_some, bin2_some, d_add, d_sub, e_neg, negK_some, e_cmp, cmp1_some, cmp2_some, map_some2, c_lt, c_le, c_gt, c_ge, c_eqI, c_neI, c_eqS, c_neS, tK_some, notK_some, blK_some, e_not, e_and, e_or, t_not, t_and, t_or, t_cmp, t_call, t_blt, a_nil, a_cons, andK_t, andK_f, o_nil, o_cons, orK_t, orK_f, e_ite, iteK_t, iteK_f, s_nil, s_cons, es1_some, es2_some, e_tup, tupK0, tupK1, tupK2, tupK3, tupK4, tupK5, e_lst, lstK0, lstK1, e_call, calK_some, e_blt, bltK_some, b_gcd, b_abs, b_int, b_max, b_min, b_lenT, b_lenL, b_tupT, b_tupL, b_lstT, b_lstL, b_all, items_lst, items_ro, map_some3, e_idx, idx1_some, idx2_some, i_tup, i_loc, at_0, at_1, at_2, at_3, e_slice, slK_some, slK1_some, slK2_some, o_none, o_some, oK_some, sl_tup, sl_loc, e_rev, revK_some, rv_tup, rv_loc, e_pop, popK_some, e_comp, it_tup, it_loc, it_enumT, it_enumL, it_zipT, it_zipL, e_dict, B_nil, B_cons, seqK_nx, seqK_ret, seqK_brk, seqK_cont, S_asg, asgK_some, nxK_some, bd_nm, bd_tup, bd_nil, bd_cons, bdK_some, S_par, parK_some, sa_nil, sa_cons, S_setI, stK_some, stK1_some, stK2_some, nxS_some, S_app, appK2_some, S_popS, popSK_some, S_ret, retK_some, S_retN, S_pass, S_brk, S_cont, S_ite, ifK_t, ifK_f, forK_some, getA, getA0, setA, setA0, lenA, appA, catA, nilA, lenC, len0, g_0, t_0, g_1, t_1, g_2, t_2, g_3, t_3, g_4, t_4, g_5, t_5, g_6, t_6, g_7, t_7, g_8, t_8, g_9, t_9, g_10, t_10, g_11, t_11, g_12, t_12, g_13, t_13, bindS, S_whil, S_for, compK_some]
def ppow (f : List Rat) : Nat → List Rat
  | 0 => [1]
  | n + 1 => pmul (ppow f n) f
theorem ppow_len (f : List Rat) : ∀ n, (ppow f n).length ≤ n * f.length + 1
  | 0 => by simp [ppow]
  | n + 1 => by
    have h1 := pmul_len (ppow f n) f
    have h2 := ppow_len f n
    rw [ppow, Nat.succ_mul]
    omega
theorem Bd.pow {B : Nat} {f : List Rat} (h : Bd B f) : ∀ n, Bd (n * B + 1) (ppow f n)
  | 0 => (Bd.flat (Sz_one (B := 0))).mono (by omega)
  | n + 1 => (Bd.mul (Bd.pow h n) h).mono (by rw [Nat.succ_mul]; omega)
theorem eP_one : (.tup [eF 1] : D) = eP [1] := rfl
theorem r_poly_power (T : TiT cst tb) (h : tb "poly_power" = some d_poly_power) {f : List Rat} {n B : Nat} (hf : Bd B f) (hB : n * B + 1 ≤ 4000) (hB2 : B ≤ 4000) (hl : n * f.length + 1 < 1000) (hl2 : f.length < 1000) (hn : n < 2 ^ 62) :
    runF cst tb (k + 4) "poly_power" [eP f, .int (n : Int)] S = some (eP (ppow f n), S) := by
  refine run_ret0 h rfl ?_ (NoLoc_eP _)
  obtain ⟨ρ', S', e1, hI⟩ := for_inv (L := []) (S0 := S) (step := forStep ⟨runF cst tb (k + 3), cst⟩ (.nm 3) [.asg (.nm 2) (.call "poly_times" [.var 2, .var 0])])
    (fun i ρ S' => S' = S ∧ ∃ x, ρ = [some (eP f), some (.int (n : Int)), some (eP (ppow f i)), x]) (xs := (List.range n).map fun i => D.int (i : Nat)) (ρ := [some (eP f), some (.int (n : Int)), some (eP [1]), none]) (S := S) ⟨rfl, none, rfl⟩ (fun i x ρ S' e q => by
      obtain ⟨rfl, x1, rfl⟩ := q
      obtain ⟨hi, rfl⟩ := rng_get e
      have m1 := Nat.mul_le_mul_right B (show i ≤ n by omega)
      have m2 := Nat.mul_le_mul_right f.length (show i ≤ n by omega)
      have m3 := ppow_len f i
      have r := fun k S => r_poly_times (cst := cst) (k := k) (S := S) T ((hf.pow i).bd4 (by omega) (by omega)) (hf.bd4 hB2 hl2)
      refine ⟨[some (eP f), some (.int (n : Int)), some (eP (ppow f (i + 1))), some (.int (i : Nat))], S', ?_, by simp, rfl, _, rfl⟩
      simp only [forStep, r, ppow, vK_some, e_var, e_lit, lit_non, lit_bl, lit_int, lit_str, e_glob, oneK_some, e_bin, bin1_some, bin2_some, d_add, d_sub, e_neg, negK_some, e_cmp, cmp1_some, cmp2_some, map_some2, c_lt, c_le, c_gt, c_ge, c_eqI, c_neI, c_eqS, c_neS, tK_some, notK_some, blK_some, e_not, e_and, e_or, t_not, t_and, t_or, t_cmp, t_call, t_blt, a_nil, a_cons, andK_t, andK_f, o_nil, o_cons, orK_t, orK_f, e_ite, iteK_t, iteK_f, s_nil, s_cons, es1_some, es2_some, e_tup, tupK0, tupK1, tupK2, tupK3, tupK4, tupK5, e_lst, lstK0, lstK1, e_call, calK_some, e_blt, bltK_some, b_gcd, b_abs, b_int, b_max, b_min, b_lenT, b_lenL, b_tupT, b_tupL, b_lstT, b_lstL, b_all, items_lst, items_ro, map_some3, e_idx, idx1_some, idx2_some, i_tup, i_loc, at_0, at_1, at_2, at_3, e_slice, slK_some, slK1_some, slK2_some, o_none, o_some, oK_some, sl_tup, sl_loc, e_rev, revK_some, rv_tup, rv_loc, e_pop, popK_some, e_comp, it_tup, it_loc, it_enumT, it_enumL, it_zipT, it_zipL, e_dict, B_nil, B_cons, seqK_nx, seqK_ret, seqK_brk, seqK_cont, S_asg, asgK_some, nxK_some, bd_nm, bd_tup, bd_nil, bd_cons, bdK_some, S_par, parK_some, sa_nil, sa_cons, S_setI, stK_some, stK1_some, stK2_some, nxS_some, S_app, appK2_some, S_popS, popSK_some, S_ret, retK_some, S_retN, S_pass, S_brk, S_cont, S_ite, ifK_t, ifK_f, forK_some, getA, getA0, setA, setA0, lenA, appA, catA, nilA, lenC, len0, g_0, t_0, g_1, t_1, g_2, t_2, g_3, t_3, g_4, t_4, g_5, t_5, g_6, t_6, g_7, t_7, g_8, t_8, g_9, t_9, g_10, t_10, g_11, t_11, g_12, t_12, g_13, t_13, bindS, S_whil, S_for, compK_some])
  obtain ⟨rfl, x, rfl⟩ := hI
  rw [List.length_map, List.length_range] at e1
  have hr := it_rng (S := S') (n : Int) (by omega)
  simp only [d_poly_power, List.map, List.replicate, Nat.reduceSub, List.cons_append, List.nil_append, eP_one, T.cs.one, hr, Int.toNat_natCast, forI_some, e1, vK_some, e_var, e_lit, lit_non, lit_bl, lit_int, lit_str, e_glob, oneK_some, e_bin, bin1_some, bin2_some, d_add, d_sub, e_neg, negK_some, e_cmp, cmp1_some, cmp2_some, map_some2, c_lt, c_le, c_gt, c_ge, c_eqI, c_neI, c_eqS, c_neS, tK_some, notK_some, blK_some, e_not, e_and, e_or, t_not, t_and, t_or, t_cmp, t_call, t_blt, a_nil, a_cons, andK_t, andK_f, o_nil, o_cons, orK_t, orK_f, e_ite, iteK_t, iteK_f, s_nil, s_cons, es1_some, es2_some, e_tup, tupK0, tupK1, tupK2, tupK3, tupK4, tupK5, e_lst, lstK0, lstK1, e_call, calK_some, e_blt, bltK_some, b_gcd, b_abs, b_int, b_max, b_min, b_lenT, b_lenL, b_tupT, b_tupL, b_lstT, b_lstL, b_all, items_lst, items_ro, map_some3, e_idx, idx1_some, idx2_some, i_tup, i_loc, at_0, at_1, at_2, at_3, e_slice, slK_some, slK1_some, slK2_some, o_none, o_some, oK_some, sl_tup, sl_loc, e_rev, revK_some, rv_tup, rv_loc, e_pop, popK_some, e_comp, it_tup, it_loc, it_enumT, it_enumL, it_zipT, it_zipL, e_dict, B_nil, B_cons, seqK_nx, seqK_ret, seqK_brk, seqK_cont, S_asg, asgK_some, nxK_some, bd_nm, bd_tup, bd_nil, bd_cons, bdK_some, S_par, parK_some, sa_nil, sa_cons, S_setI, stK_some, stK1_some, stK2_some, nxS_some, S_app, appK2_some, S_popS, popSK_some, S_ret, retK_some, S_retN, S_pass, S_brk, S_cont, S_ite, ifK_t, ifK_f, forK_some, getA, getA0, setA, setA0, lenA, appA, catA, nilA, lenC, len0, g_0, t_0, g_1, t_1, g_2, t_2, g_3, t_3, g_4, t_4, g_5, t_5, g_6, t_6, g_7, t_7, g_8, t_8, g_9, t_9, g_10, t_10, g_11, t_11, g_12, t_12, g_13, t_13, bindS, S_whil, S_for, compK_some]
/-- g with h put in -/
def pwithin (h : List Rat) : List Rat → List Rat
  | [] => []
  | c :: g => padd (pmul (pwithin h g) h) (trim [c])
theorem pwithin_len (h : List Rat) : ∀ g, (pwithin h g).length ≤ g.length * h.length + 1
  | [] => by simp [pwithin]
  | c :: g => by
    have h1 := pmul_len (pwithin h g) h
    have h2 := pwithin_len h g
    have h3 := padd_len (pmul (pwithin h g) h) (trim [c])
    have h4 := trim_len [c]
    rw [List.length_singleton] at h4
    rw [pwithin, List.length_cons, Nat.succ_mul]
    omega
theorem Bd.nil {B : Nat} : Bd (B + 1) [] := ⟨1, by decide, Nat.one_lt_two_pow (by omega), fun i => by rw [co_nil]; exact Nat.one_dvd _, Nat.pow_pos (by decide)⟩
theorem Bd.within {B C : Nat} {h : List Rat} (hh : Bd C h) : ∀ {g : List Rat}, SzP B g → Bd (g.length * (B + C + 1) + 1) (pwithin h g)
  | [], _ => (Bd.nil (B := 0)).mono (by omega)
  | c :: g, hg => by
    have ih := Bd.within hh (g := g) fun a ha => hg a (.tail _ ha)
    exact (Bd.add (Bd.mul ih hh) (Bd.flat (hg c (.head _))).trimmed).mono (by rw [List.length_cons, Nat.succ_mul]; omega)
theorem rev_get {f : List Rat} {g : Rat → D} {i : Nat} {x : D} (h : (f.reverse.map g)[i]? = some x) : i < f.length ∧ ∃ c r, f.drop (f.length - (i + 1)) = c :: r ∧ r = f.drop (f.length - i) ∧ x = g c ∧ c ∈ f := by
  obtain ⟨a, h1, h2, h3⟩ := map_get h
  rw [List.length_reverse] at h3
  have h4 : f.length - (i + 1) < f.length := by omega
  rw [List.getElem?_reverse h3, show f.length - 1 - i = f.length - (i + 1) by omega] at h1
  refine ⟨h3, a, f.drop (f.length - i), ?_, rfl, h2, List.mem_of_getElem? h1⟩
  rw [List.drop_eq_getElem_cons h4, show f.length - (i + 1) + 1 = f.length - i by omega]
  rw [List.getElem?_eq_getElem h4] at h1
  rw [Option.some.inj h1]
structure WiT (cst : Str → Option D) (tb : Str → Option FD) : Prop extends SuT cst tb where
  whole : tb "whole_numbers" = some d_whole_numbers
  ptimes : tb "poly_times" = some d_poly_times
  flat : tb "flat_of" = some d_flat_of
theorem WiT.ti (T : WiT cst tb) : TiT cst tb := ⟨T.toPoT, T.whole, T.ptimes⟩
theorem eP_nil : (.tup [] : D) = eP [] := rfl
theorem r_poly_within (T : WiT cst tb) (h : tb "poly_within" = some d_poly_within) {g f : List Rat} {B C : Nat} (hg : SzP B g) (hf : Bd C f) (hB : g.length * (B + C + 1) + C + 1 ≤ 4000) (hB2 : B ≤ 4000) (hl : g.length * f.length + f.length + 2 < 1000) :
    runF cst tb (k + 5) "poly_within" [eP g, eP f] S = some (eP (pwithin f g), S) := by
  refine run_ret0 h rfl ?_ (NoLoc_eP _)
  obtain ⟨ρ', S', e1, hI⟩ := for_inv (L := []) (S0 := S) (step := forStep ⟨runF cst tb (k + 4), cst⟩ (.nm 3) [.asg (.nm 2) (.call "poly_sum" [.call "poly_times" [.var 2, .var 1], .call "flat_of" [.var 3]])])
    (fun i ρ S' => S' = S ∧ ∃ x, ρ = [some (eP g), some (eP f), some (eP (pwithin f (g.drop (g.length - i)))), x]) (xs := g.reverse.map eF) (ρ := [some (eP g), some (eP f), some (eP []), none]) (S := S) ⟨rfl, none, by rw [Nat.sub_zero, List.drop_length]; rfl⟩ (fun i x ρ S' e q => by
      obtain ⟨rfl, x1, rfl⟩ := q
      obtain ⟨hi, c, r, hd, hr, rfl, hc⟩ := rev_get e
      have hrl : r.length ≤ g.length := by rw [hr, List.length_drop]; omega
      rw [hd, ← hr]
      have hb := Bd.within hf (g := r) fun a ha => hg a (by rw [hr] at ha; exact List.mem_of_mem_drop ha)
      have m1 := Nat.mul_le_mul_right (B + C + 1) hrl
      have m2 := Nat.mul_le_mul_right f.length hrl
      have m3 := pwithin_len f r
      have m4 := pmul_len (pwithin f r) f
      have m5 := trim_len [c]
      rw [List.length_singleton] at m5
      have r1 := fun k S => r_poly_times (cst := cst) (k := k) (S := S) T.ti (hb.bd4 (by omega) (by omega)) (hf.bd4 (by omega) (by omega))
      have r2 := fun k S => r_flat_of (cst := cst) (tb := tb) (k := k) (S := S) T.toPoT T.flat c
      have r3 := fun k S => r_poly_sum (cst := cst) (k := k) (S := S) T.toPoT T.psum T.fsum T.at' ((hb.mul hf).sz.mono (show _ ≤ 4000 by omega)) ((Bd.flat (hg c hc)).trimmed.sz.mono hB2) (by omega) (by omega)
      refine ⟨[some (eP g), some (eP f), some (eP (pwithin f (c :: r))), some (eF c)], S', ?_, by simp, rfl, _, rfl⟩
      simp only [forStep, r1, r2, r3, pwithin, vK_some, e_var, e_lit, lit_non, lit_bl, lit_int, lit_str, e_glob, oneK_some, e_bin, bin1_some, bin2_some, d_add, d_sub, e_neg, negK_some, e_cmp, cmp1_some, cmp2_some, map_some2, c_lt, c_le, c_gt, c_ge, c_eqI, c_neI, c_eqS, c_neS, tK_some, notK_some, blK_some, e_not, e_and, e_or, t_not, t_and, t_or, t_cmp, t_call, t_blt, a_nil, a_cons, andK_t, andK_f, o_nil, o_cons, orK_t, orK_f, e_ite, iteK_t, iteK_f, s_nil, s_cons, es1_some, es2_some, e_tup, tupK0, tupK1, tupK2, tupK3, tupK4, tupK5, e_lst, lstK0, lstK1, e_call, calK_some, e_blt, bltK_some, b_gcd, b_abs, b_int, b_max, b_min, b_lenT, b_lenL, b_tupT, b_tupL, b_lstT, b_lstL, b_all, items_lst, items_ro, map_some3, e_idx, idx1_some, idx2_some, i_tup, i_loc, at_0, at_1, at_2, at_3, e_slice, slK_some, slK1_some, slK2_some, o_none, o_some, oK_some, sl_tup, sl_loc, e_rev, revK_some, rv_tup, rv_loc, e_pop, popK_some, e_comp, it_tup, it_loc, it_enumT, it_enumL, it_zipT, it_zipL, e_dict, B_nil, B_cons, seqK_nx, seqK_ret, seqK_brk, seqK_cont, S_asg, asgK_some, nxK_some, bd_nm, bd_tup, bd_nil, bd_cons, bdK_some, S_par, parK_some, sa_nil, sa_cons, S_setI, stK_some, stK1_some, stK2_some, nxS_some, S_app, appK2_some, S_popS, popSK_some, S_ret, retK_some, S_retN, S_pass, S_brk, S_cont, S_ite, ifK_t, ifK_f, forK_some, getA, getA0, setA, setA0, lenA, appA, catA, nilA, lenC, len0, g_0, t_0, g_1, t_1, g_2, t_2, g_3, t_3, g_4, t_4, g_5, t_5, g_6, t_6, g_7, t_7, g_8, t_8, g_9, t_9, g_10, t_10, g_11, t_11, g_12, t_12, g_13, t_13, bindS, S_whil, S_for, compK_some])
  obtain ⟨rfl, x, rfl⟩ := hI
  rw [List.length_map, List.length_reverse, Nat.sub_self, List.drop_zero] at e1
  simp only [d_poly_within, List.map, List.replicate, Nat.reduceSub, List.cons_append, List.nil_append, eP_nil, rv_P, it_P, forI_some, e1, vK_some, e_var, e_lit, lit_non, lit_bl, lit_int, lit_str, e_glob, oneK_some, e_bin, bin1_some, bin2_some, d_add, d_sub, e_neg, negK_some, e_cmp, cmp1_some, cmp2_some, map_some2, c_lt, c_le, c_gt, c_ge, c_eqI, c_neI, c_eqS, c_neS, tK_some, notK_some, blK_some, e_not, e_and, e_or, t_not, t_and, t_or, t_cmp, t_call, t_blt, a_nil, a_cons, andK_t, andK_f, o_nil, o_cons, orK_t, orK_f, e_ite, iteK_t, iteK_f, s_nil, s_cons, es1_some, es2_some, e_tup, tupK0, tupK1, tupK2, tupK3, tupK4, tupK5, e_lst, lstK0, lstK1, e_call, calK_some, e_blt, bltK_some, b_gcd, b_abs, b_int, b_max, b_min, b_lenT, b_lenL, b_tupT, b_tupL, b_lstT, b_lstL, b_all, items_lst, items_ro, map_some3, e_idx, idx1_some, idx2_some, i_tup, i_loc, at_0, at_1, at_2, at_3, e_slice, slK_some, slK1_some, slK2_some, o_none, o_some, oK_some, sl_tup, sl_loc, e_rev, revK_some, rv_tup, rv_loc, e_pop, popK_some, e_comp, it_tup, it_loc, it_enumT, it_enumL, it_zipT, it_zipL, e_dict, B_nil, B_cons, seqK_nx, seqK_ret, seqK_brk, seqK_cont, S_asg, asgK_some, nxK_some, bd_nm, bd_tup, bd_nil, bd_cons, bdK_some, S_par, parK_some, sa_nil, sa_cons, S_setI, stK_some, stK1_some, stK2_some, nxS_some, S_app, appK2_some, S_popS, popSK_some, S_ret, retK_some, S_retN, S_pass, S_brk, S_cont, S_ite, ifK_t, ifK_f, forK_some, getA, getA0, setA, setA0, lenA, appA, catA, nilA, lenC, len0, g_0, t_0, g_1, t_1, g_2, t_2, g_3, t_3, g_4, t_4, g_5, t_5, g_6, t_6, g_7, t_7, g_8, t_8, g_9, t_9, g_10, t_10, g_11, t_11, g_12, t_12, g_13, t_13, bindS, S_whil, S_for, compK_some]
/-- the worth of f at c -/
def pat (c : Rat) : List Rat → Rat
  | [] => 0
  | a :: f => pat c f * c + a
theorem Sz.at {B C : Nat} {c : Rat} (hc : Sz C c) : ∀ {f : List Rat}, SzP B f → Sz (f.length * (B + C + 1) + 1) (pat c f)
  | [], _ => (Sz0 0).mono (by omega)
  | a :: f, hf => by
    have ih := Sz.at hc (f := f) fun a ha => hf a (.tail _ ha)
    exact (Sz.add (Sz.mul ih hc) (hf a (.head _))).mono (by rw [List.length_cons, Nat.succ_mul]; omega)
theorem r_poly_at (T : PoT cst tb) (h1 : tb "fraction_sum" = some d_fraction_sum) (h2 : tb "fraction_times" = some d_fraction_times) (h : tb "poly_at" = some d_poly_at) {f : List Rat} {c : Rat} {B C : Nat} (hf : SzP B f) (hc : Sz C c) (hB : f.length * (B + C + 1) + C + 1 ≤ 4000) (hB2 : B ≤ 4000) :
    runF cst tb (k + 4) "poly_at" [eP f, eF c] S = some (eF (pat c f), S) := by
  refine run_ret0 h rfl ?_ (NoLoc_eF _)
  obtain ⟨ρ', S', e1, hI⟩ := for_inv (L := []) (S0 := S) (step := forStep ⟨runF cst tb (k + 3), cst⟩ (.nm 3) [.asg (.nm 2) (.call "fraction_sum" [.call "fraction_times" [.var 2, .var 1], .var 3])])
    (fun i ρ S' => S' = S ∧ ∃ x, ρ = [some (eP f), some (eF c), some (eF (pat c (f.drop (f.length - i)))), x]) (xs := f.reverse.map eF) (ρ := [some (eP f), some (eF c), some (eF 0), none]) (S := S) ⟨rfl, none, by rw [Nat.sub_zero, List.drop_length]; rfl⟩ (fun i x ρ S' e q => by
      obtain ⟨rfl, x1, rfl⟩ := q
      obtain ⟨hi, a, r, hd, hr, rfl, ha⟩ := rev_get e
      have hrl : r.length ≤ f.length := by rw [hr, List.length_drop]; omega
      rw [hd, ← hr]
      have hb := Sz.at hc (f := r) fun a ha => hf a (by rw [hr] at ha; exact List.mem_of_mem_drop ha)
      have m1 := Nat.mul_le_mul_right (B + C + 1) hrl
      have r1 := fun k S => r_fraction_times (cst := cst) (k := k) (S := S) T.fr h2 (hb.mono (show _ ≤ 4000 by omega)) (hc.mono (show _ ≤ 4000 by omega))
      have r2 := fun k S => r_fraction_sum (cst := cst) (k := k) (S := S) T.fr h1 ((Sz.mul hb hc).mono (show _ ≤ 4000 by omega)) ((hf a ha).mono hB2)
      refine ⟨[some (eP f), some (eF c), some (eF (pat c (a :: r))), some (eF a)], S', ?_, by simp, rfl, _, rfl⟩
      simp only [forStep, r1, r2, pat, vK_some, e_var, e_lit, lit_non, lit_bl, lit_int, lit_str, e_glob, oneK_some, e_bin, bin1_some, bin2_some, d_add, d_sub, e_neg, negK_some, e_cmp, cmp1_some, cmp2_some, map_some2, c_lt, c_le, c_gt, c_ge, c_eqI, c_neI, c_eqS, c_neS, tK_some, notK_some, blK_some, e_not, e_and, e_or, t_not, t_and, t_or, t_cmp, t_call, t_blt, a_nil, a_cons, andK_t, andK_f, o_nil, o_cons, orK_t, orK_f, e_ite, iteK_t, iteK_f, s_nil, s_cons, es1_some, es2_some, e_tup, tupK0, tupK1, tupK2, tupK3, tupK4, tupK5, e_lst, lstK0, lstK1, e_call, calK_some, e_blt, bltK_some, b_gcd, b_abs, b_int, b_max, b_min, b_lenT, b_lenL, b_tupT, b_tupL, b_lstT, b_lstL, b_all, items_lst, items_ro, map_some3, e_idx, idx1_some, idx2_some, i_tup, i_loc, at_0, at_1, at_2, at_3, e_slice, slK_some, slK1_some, slK2_some, o_none, o_some, oK_some, sl_tup, sl_loc, e_rev, revK_some, rv_tup, rv_loc, e_pop, popK_some, e_comp, it_tup, it_loc, it_enumT, it_enumL, it_zipT, it_zipL, e_dict, B_nil, B_cons, seqK_nx, seqK_ret, seqK_brk, seqK_cont, S_asg, asgK_some, nxK_some, bd_nm, bd_tup, bd_nil, bd_cons, bdK_some, S_par, parK_some, sa_nil, sa_cons, S_setI, stK_some, stK1_some, stK2_some, nxS_some, S_app, appK2_some, S_popS, popSK_some, S_ret, retK_some, S_retN, S_pass, S_brk, S_cont, S_ite, ifK_t, ifK_f, forK_some, getA, getA0, setA, setA0, lenA, appA, catA, nilA, lenC, len0, g_0, t_0, g_1, t_1, g_2, t_2, g_3, t_3, g_4, t_4, g_5, t_5, g_6, t_6, g_7, t_7, g_8, t_8, g_9, t_9, g_10, t_10, g_11, t_11, g_12, t_12, g_13, t_13, bindS, S_whil, S_for, compK_some])
  obtain ⟨rfl, x, rfl⟩ := hI
  rw [List.length_map, List.length_reverse, Nat.sub_self, List.drop_zero] at e1
  simp only [d_poly_at, List.map, List.replicate, Nat.reduceSub, List.cons_append, List.nil_append, T.cs.none, rv_P, it_P, forI_some, e1, vK_some, e_var, e_lit, lit_non, lit_bl, lit_int, lit_str, e_glob, oneK_some, e_bin, bin1_some, bin2_some, d_add, d_sub, e_neg, negK_some, e_cmp, cmp1_some, cmp2_some, map_some2, c_lt, c_le, c_gt, c_ge, c_eqI, c_neI, c_eqS, c_neS, tK_some, notK_some, blK_some, e_not, e_and, e_or, t_not, t_and, t_or, t_cmp, t_call, t_blt, a_nil, a_cons, andK_t, andK_f, o_nil, o_cons, orK_t, orK_f, e_ite, iteK_t, iteK_f, s_nil, s_cons, es1_some, es2_some, e_tup, tupK0, tupK1, tupK2, tupK3, tupK4, tupK5, e_lst, lstK0, lstK1, e_call, calK_some, e_blt, bltK_some, b_gcd, b_abs, b_int, b_max, b_min, b_lenT, b_lenL, b_tupT, b_tupL, b_lstT, b_lstL, b_all, items_lst, items_ro, map_some3, e_idx, idx1_some, idx2_some, i_tup, i_loc, at_0, at_1, at_2, at_3, e_slice, slK_some, slK1_some, slK2_some, o_none, o_some, oK_some, sl_tup, sl_loc, e_rev, revK_some, rv_tup, rv_loc, e_pop, popK_some, e_comp, it_tup, it_loc, it_enumT, it_enumL, it_zipT, it_zipL, e_dict, B_nil, B_cons, seqK_nx, seqK_ret, seqK_brk, seqK_cont, S_asg, asgK_some, nxK_some, bd_nm, bd_tup, bd_nil, bd_cons, bdK_some, S_par, parK_some, sa_nil, sa_cons, S_setI, stK_some, stK1_some, stK2_some, nxS_some, S_app, appK2_some, S_popS, popSK_some, S_ret, retK_some, S_retN, S_pass, S_brk, S_cont, S_ite, ifK_t, ifK_f, forK_some, getA, getA0, setA, setA0, lenA, appA, catA, nilA, lenC, len0, g_0, t_0, g_1, t_1, g_2, t_2, g_3, t_3, g_4, t_4, g_5, t_5, g_6, t_6, g_7, t_7, g_8, t_8, g_9, t_9, g_10, t_10, g_11, t_11, g_12, t_12, g_13, t_13, bindS, S_whil, S_for, compK_some]
/-- the slope -/
def pslope (f : List Rat) : List Rat := mkP (f.length - 1) fun i => ((i + 1 : Nat) : Rat) * co f (i + 1)
theorem co_pslope (f : List Rat) (i : Nat) : co (pslope f) i = ((i + 1 : Nat) : Rat) * co f (i + 1) := co_mkP (fun i h => by rw [co_of_le (f := f) (by omega), Rat.mul_zero]) i
theorem pslope_len (f : List Rat) : (pslope f).length ≤ f.length - 1 := Nat.le_trans (trim_len _) (by simp [tab])
theorem Sz_nat {B n : Nat} (h : n < 2 ^ B) (hB : 1 ≤ B) : Sz B (n : Rat) := ⟨by simpa using h, by simp; omega⟩
theorem Bd.slope {B : Nat} {f : List Rat} (h : Bd B f) (hl : f.length < 1000) : Bd (B + 10) (pslope f) := by
  obtain ⟨D, h1, h2, h3, h4⟩ := h
  have a : ∀ i, (((i + 1 : Nat) : Rat) * co f (i + 1)).den ∣ D ∧ ov D (((i + 1 : Nat) : Rat) * co f (i + 1)) = ((i + 1 : Nat) : Int) * ov D (co f (i + 1)) := fun i => isI_of h1 (by
    rw [Rat.intCast_mul, isI (h3 _), Rat.intCast_natCast]
    grind)
  refine ⟨D, h1, by rw [Nat.pow_add]; omega, fun i => by rw [co_pslope]; exact (a i).1, ?_⟩
  have e := l1_le (D := D) (pslope_len f) (fun i => 1000 * (ov D (co f (i + 1))).natAbs) fun i hi => by
    rw [co_pslope, (a i).2, Int.natAbs_mul, Int.natAbs_natCast]
    exact Nat.mul_le_mul_right _ (by omega)
  rw [smN_mul] at e
  have e2 : (smN (f.length - 1) fun i => (ov D (co f (i + 1))).natAbs) ≤ l1 D f := by
    unfold l1
    cases f with
    | nil => exact Nat.le_refl _
    | cons x r =>
      rw [List.length_cons, Nat.add_sub_cancel]
      have : ∀ n, smN n (fun i => (ov D (co (x :: r) (i + 1))).natAbs) ≤ smN (n + 1) fun i => (ov D (co (x :: r) i)).natAbs := fun n => by
        induction n with
        | zero => exact Nat.zero_le _
        | succ n ih => rw [smN, smN]; omega
      exact this _
  rw [Nat.pow_add]
  omega
theorem r_slope_of (T : PoT cst tb) (h1 : tb "fraction_times" = some d_fraction_times) (h : tb "slope_of" = some d_slope_of) {f : List Rat} (hf : SzP 4000 f) (hl : f.length < 1000) :
    runF cst tb (k + 4) "slope_of" [eP f] S = some (eP (pslope f), S) := by
  refine run_ret (G := [.lst ((tab (f.length - 1) fun i => ((i + 1 : Nat) : Rat) * co f (i + 1)).map eF)]) h rfl ?_ (NoLoc_eP _)
  have hn : ((f.length : Int) - 1).toNat = f.length - 1 := by omega
  have hc := compI_map (S := S) (C := ⟨runF cst tb (k + 3), cst⟩) (t := .nm 1) (ifs := []) (elt := .call "fraction_times" [.tup [.var 1, .lit (.int 1)], .idx (.var 0) (.var 1)]) (own := [1]) (ρ := [some (eP f), none])
    (xs := (List.range (f.length - 1)).map fun t => D.int (1 + (t : Nat))) (L := []) (fun i => eF (((i + 1 : Nat) : Rat) * co f (i + 1))) (by simp) (by simp [sizeLine]; omega) (fun i x acc e => by
      obtain ⟨a, h1', rfl, h3⟩ := map_get e
      rw [List.length_range] at h3
      rw [List.getElem?_range h3] at h1'
      cases h1'
      have hi : (1 : Int) + (i : Nat) = ((i + 1 : Nat) : Int) := by omega
      rw [hi]
      refine cs0 (ρ1 := [some (eP f), some (.int ((i + 1 : Nat) : Int))]) (by simp only [w_nil, w_cons, vK_some, e_var, e_lit, lit_non, lit_bl, lit_int, lit_str, e_glob, oneK_some, e_bin, bin1_some, bin2_some, d_add, d_sub, e_neg, negK_some, e_cmp, cmp1_some, cmp2_some, map_some2, c_lt, c_le, c_gt, c_ge, c_eqI, c_neI, c_eqS, c_neS, tK_some, notK_some, blK_some, e_not, e_and, e_or, t_not, t_and, t_or, t_cmp, t_call, t_blt, a_nil, a_cons, andK_t, andK_f, o_nil, o_cons, orK_t, orK_f, e_ite, iteK_t, iteK_f, s_nil, s_cons, es1_some, es2_some, e_tup, tupK0, tupK1, tupK2, tupK3, tupK4, tupK5, e_lst, lstK0, lstK1, e_call, calK_some, e_blt, bltK_some, b_gcd, b_abs, b_int, b_max, b_min, b_lenT, b_lenL, b_tupT, b_tupL, b_lstT, b_lstL, b_all, items_lst, items_ro, map_some3, e_idx, idx1_some, idx2_some, i_tup, i_loc, at_0, at_1, at_2, at_3, e_slice, slK_some, slK1_some, slK2_some, o_none, o_some, oK_some, sl_tup, sl_loc, e_rev, revK_some, rv_tup, rv_loc, e_pop, popK_some, e_comp, it_tup, it_loc, it_enumT, it_enumL, it_zipT, it_zipL, e_dict, B_nil, B_cons, seqK_nx, seqK_ret, seqK_brk, seqK_cont, S_asg, asgK_some, nxK_some, bd_nm, bd_tup, bd_nil, bd_cons, bdK_some, S_par, parK_some, sa_nil, sa_cons, S_setI, stK_some, stK1_some, stK2_some, nxS_some, S_app, appK2_some, S_popS, popSK_some, S_ret, retK_some, S_retN, S_pass, S_brk, S_cont, S_ite, ifK_t, ifK_f, forK_some, getA, getA0, setA, setA0, lenA, appA, catA, nilA, lenC, len0, g_0, t_0, g_1, t_1, g_2, t_2, g_3, t_3, g_4, t_4, g_5, t_5, g_6, t_6, g_7, t_7, g_8, t_8, g_9, t_9, g_10, t_10, g_11, t_11, g_12, t_12, g_13, t_13, bindS, S_whil, S_for, compK_some]) ?_
      have r := fun k S => r_fraction_times (cst := cst) (k := k) (S := S) T.fr h1 (Sz_nat (n := i + 1) (B := 4000) (Nat.lt_of_lt_of_le (show i + 1 < 2 ^ 10 by omega) (Nat.pow_le_pow_right (by decide) (by decide))) (by decide)) (hf _ (co_mem (show i + 1 < f.length by omega)))
      have hx := fun S => i_P (S := S) (f := f) (j := i + 1) (by omega)
      simp only [hx, ← eF_nat, r, vK_some, e_var, e_lit, lit_non, lit_bl, lit_int, lit_str, e_glob, oneK_some, e_bin, bin1_some, bin2_some, d_add, d_sub, e_neg, negK_some, e_cmp, cmp1_some, cmp2_some, map_some2, c_lt, c_le, c_gt, c_ge, c_eqI, c_neI, c_eqS, c_neS, tK_some, notK_some, blK_some, e_not, e_and, e_or, t_not, t_and, t_or, t_cmp, t_call, t_blt, a_nil, a_cons, andK_t, andK_f, o_nil, o_cons, orK_t, orK_f, e_ite, iteK_t, iteK_f, s_nil, s_cons, es1_some, es2_some, e_tup, tupK0, tupK1, tupK2, tupK3, tupK4, tupK5, e_lst, lstK0, lstK1, e_call, calK_some, e_blt, bltK_some, b_gcd, b_abs, b_int, b_max, b_min, b_lenT, b_lenL, b_tupT, b_tupL, b_lstT, b_lstL, b_all, items_lst, items_ro, map_some3, e_idx, idx1_some, idx2_some, i_tup, i_loc, at_0, at_1, at_2, at_3, e_slice, slK_some, slK1_some, slK2_some, o_none, o_some, oK_some, sl_tup, sl_loc, e_rev, revK_some, rv_tup, rv_loc, e_pop, popK_some, e_comp, it_tup, it_loc, it_enumT, it_enumL, it_zipT, it_zipL, e_dict, B_nil, B_cons, seqK_nx, seqK_ret, seqK_brk, seqK_cont, S_asg, asgK_some, nxK_some, bd_nm, bd_tup, bd_nil, bd_cons, bdK_some, S_par, parK_some, sa_nil, sa_cons, S_setI, stK_some, stK1_some, stK2_some, nxS_some, S_app, appK2_some, S_popS, popSK_some, S_ret, retK_some, S_retN, S_pass, S_brk, S_cont, S_ite, ifK_t, ifK_f, forK_some, getA, getA0, setA, setA0, lenA, appA, catA, nilA, lenC, len0, g_0, t_0, g_1, t_1, g_2, t_2, g_3, t_3, g_4, t_4, g_5, t_5, g_6, t_6, g_7, t_7, g_8, t_8, g_9, t_9, g_10, t_10, g_11, t_11, g_12, t_12, g_13, t_13, bindS, S_whil, S_for, compK_some])
  rw [List.length_map, List.length_range, tab_eF] at hc
  have r := r_poly_of (cst := cst) (tb := tb) (k := k + 2) (S := S ++ [.lst ((tab (f.length - 1) fun i => ((i + 1 : Nat) : Rat) * co f (i + 1)).map eF)]) T.of T.cs.none (d := .loc S.length) (f := tab (f.length - 1) fun i => ((i + 1 : Nat) : Rat) * co f (i + 1)) (by rw [b_lstL, getA0]; rfl)
  have hr := it_rng2 (S := S) 1 (f.length : Int) (by omega)
  simp only [d_slope_of, List.map, List.replicate, Nat.reduceSub, List.cons_append, List.nil_append, b_lenP, hr, hn, hc, r, vK_some, e_var, e_lit, lit_non, lit_bl, lit_int, lit_str, e_glob, oneK_some, e_bin, bin1_some, bin2_some, d_add, d_sub, e_neg, negK_some, e_cmp, cmp1_some, cmp2_some, map_some2, c_lt, c_le, c_gt, c_ge, c_eqI, c_neI, c_eqS, c_neS, tK_some, notK_some, blK_some, e_not, e_and, e_or, t_not, t_and, t_or, t_cmp, t_call, t_blt, a_nil, a_cons, andK_t, andK_f, o_nil, o_cons, orK_t, orK_f, e_ite, iteK_t, iteK_f, s_nil, s_cons, es1_some, es2_some, e_tup, tupK0, tupK1, tupK2, tupK3, tupK4, tupK5, e_lst, lstK0, lstK1, e_call, calK_some, e_blt, bltK_some, b_gcd, b_abs, b_int, b_max, b_min, b_lenT, b_lenL, b_tupT, b_tupL, b_lstT, b_lstL, b_all, items_lst, items_ro, map_some3, e_idx, idx1_some, idx2_some, i_tup, i_loc, at_0, at_1, at_2, at_3, e_slice, slK_some, slK1_some, slK2_some, o_none, o_some, oK_some, sl_tup, sl_loc, e_rev, revK_some, rv_tup, rv_loc, e_pop, popK_some, e_comp, it_tup, it_loc, it_enumT, it_enumL, it_zipT, it_zipL, e_dict, B_nil, B_cons, seqK_nx, seqK_ret, seqK_brk, seqK_cont, S_asg, asgK_some, nxK_some, bd_nm, bd_tup, bd_nil, bd_cons, bdK_some, S_par, parK_some, sa_nil, sa_cons, S_setI, stK_some, stK1_some, stK2_some, nxS_some, S_app, appK2_some, S_popS, popSK_some, S_ret, retK_some, S_retN, S_pass, S_brk, S_cont, S_ite, ifK_t, ifK_f, forK_some, getA, getA0, setA, setA0, lenA, appA, catA, nilA, lenC, len0, g_0, t_0, g_1, t_1, g_2, t_2, g_3, t_3, g_4, t_4, g_5, t_5, g_6, t_6, g_7, t_7, g_8, t_8, g_9, t_9, g_10, t_10, g_11, t_11, g_12, t_12, g_13, t_13, bindS, S_whil, S_for, compK_some]
  rfl
end
end Pf.Z

/-! Normals; division with a rest. -/
namespace Pf.Z
open PySem PySem.Spec PyProof.Rows L2
/-- the last number -/
def lead (h : List Rat) : Rat := co h (h.length - 1)
/-- r with o times h taken off from place K on, i numbers of h so far -/
def subp (r : List Rat) (K : Nat) (o : Rat) (h : List Rat) (i : Nat) : List Rat := tab r.length fun j => if K ≤ j ∧ j < K + i then co r j + (-o) * co h (j - K) else co r j
def pdv (h : List Rat) : Nat → List Rat → List Rat × List Rat
  | 0, r => ([], r)
  | K + 1, r => ((pdv h K (subp r K (co r (K + h.length - 1) / lead h) h h.length)).1 ++ [co r (K + h.length - 1) / lead h], (pdv h K (subp r K (co r (K + h.length - 1) / lead h) h h.length)).2)
def pquo (f h : List Rat) : List Rat := trim (pdv h (f.length + 1 - h.length) f).1
def prem (f h : List Rat) : List Rat := trim (pdv h (f.length + 1 - h.length) f).2
theorem subp_len (r : List Rat) (K : Nat) (o : Rat) (h : List Rat) (i : Nat) : (subp r K o h i).length = r.length := by simp [subp, tab]
theorem tab_self (r : List Rat) : tab r.length (co r) = r := by
  have := range_map r id 0
  rw [List.map_id] at this
  exact this
theorem subp_zero (r : List Rat) (K : Nat) (o : Rat) (h : List Rat) : subp r K o h 0 = r := by
  conv => rhs; rw [← tab_self r]
  refine List.map_congr_left fun j _ => ?_
  rw [if_neg (by omega)]
theorem co_subp (r : List Rat) (K : Nat) (o : Rat) (h : List Rat) (i j : Nat) (hj : j < r.length) : co (subp r K o h i) j = if K ≤ j ∧ j < K + i then co r j + (-o) * co h (j - K) else co r j := by
  unfold subp
  rw [co_tab, if_pos hj]
theorem subp_step (r : List Rat) (K : Nat) (o : Rat) (h : List Rat) (i : Nat) : ((subp r K o h i).map eF).set (K + i) (eF (co r (K + i) + (-o) * co h i)) = (subp r K o h (i + 1)).map eF := by
  unfold subp
  rw [← tab_eF, ← tab_eF, set_tab]
  refine List.map_congr_left fun j _ => ?_
  by_cases e : j = K + i
  · subst e
    rw [if_pos rfl, if_pos (by omega), show K + i - K = i by omega]
  · rw [if_neg e]
    congr 1
    by_cases h2 : K ≤ j ∧ j < K + i
    · rw [if_pos h2, if_pos (by omega)]
    · rw [if_neg h2, if_neg (by omega)]
theorem pdv_len (h : List Rat) : ∀ (K : Nat) (r : List Rat), (pdv h K r).1.length = K ∧ (pdv h K r).2.length = r.length
  | 0, r => ⟨rfl, rfl⟩
  | K + 1, r => by
    obtain ⟨h1, h2⟩ := pdv_len h K (subp r K (co r (K + h.length - 1) / lead h) h h.length)
    refine ⟨?_, ?_⟩
    · rw [pdv, List.length_append, h1]; rfl
    · rw [pdv]
      exact h2.trans (subp_len ..)
theorem Sz.inv {B : Nat} {c : Rat} (h : Sz B c) (h0 : c ≠ 0) : Sz B c⁻¹ := by
  have hn : c.num ≠ 0 := fun z => h0 (Rat.num_eq_zero.1 z)
  refine ⟨?_, ?_⟩
  · rw [Rat.num_inv, Int.natAbs_mul, Int.natAbs_sign_of_ne_zero hn, Nat.one_mul, Int.natAbs_natCast]
    exact h.2
  · rw [Rat.den_inv, if_neg hn]
    exact h.1
/-- what is taken off leaves the bits in bounds: h over its last number has E bits -/
theorem Bd.sub {B E : Nat} {r h : List Rat} (hr : Bd B r) (h0 : lead h ≠ 0) (hh : Bd E (poften (lead h)⁻¹ h)) (K t i : Nat) : Bd (B + E + 1) (subp r K (co r t / lead h) h i) := by
  obtain ⟨D, h1, h2, h3, h4⟩ := hr
  obtain ⟨F, k1, k2, k3, k4⟩ := hh
  have e1 : ∀ j, co r j + (-(co r t / lead h)) * co h (j - K) = co r j + -1 * (co r t * co (poften (lead h)⁻¹ h) (j - K)) := fun j => by
    rw [co_poften, Rat.div_def]
    grind
  have hp := Nat.mul_pos h1 k1
  have q : ∀ j, (co r j).den ∣ D * F ∧ ov (D * F) (co r j) = ov D (co r j) * (F : Int) := fun j => ov_scale h1 F k1 (h3 j)
  have q2 : ∀ j, (co r t * co (poften (lead h)⁻¹ h) j).den ∣ D * F ∧ ov (D * F) (co r t * co (poften (lead h)⁻¹ h) j) = ov D (co r t) * ov F (co (poften (lead h)⁻¹ h) j) := fun j => ov_mul h1 k1 (h3 t) (k3 j)
  have q3 := fun j => ov_neg hp (q2 j).1
  have a := fun j => ov_add hp (q j).1 (q3 (j - K)).1
  have hden : ∀ j, (co (subp r K (co r t / lead h) h i) j).den ∣ D * F := fun j => by
    by_cases hj : j < r.length
    · rw [co_subp _ _ _ _ _ _ hj]
      split
      · rw [e1]; exact (a j).1
      · exact (q j).1
    · rw [co_of_le (by rw [subp_len]; omega)]
      exact Nat.one_dvd _
  have hDF : D * F < 2 ^ (B + E) := by rw [Nat.pow_add]; exact Nat.mul_lt_mul'' h2 k2
  refine ⟨D * F, hp, by rw [Nat.pow_succ]; omega, hden, ?_⟩
  have e := l1_le (D := D * F) (n := r.length) (f := subp r K (co r t / lead h) h i) (by rw [subp_len]; exact Nat.le_refl _) (fun j => F * (ov D (co r j)).natAbs + (ov D (co r t)).natAbs * if K ≤ j then (ov F (co (poften (lead h)⁻¹ h) (j - K))).natAbs else 0) fun j hj => by
    rw [co_subp _ _ _ _ _ _ hj]
    split
    · rename_i hc
      rw [e1, (a j).2, (q j).2, (q3 _).2, (q2 _).2, if_pos hc.1]
      have := Int.natAbs_add_le (ov D (co r j) * (F : Int)) (-(ov D (co r t) * ov F (co (poften (lead h)⁻¹ h) (j - K))))
      rw [Int.natAbs_neg, Int.natAbs_mul, Int.natAbs_mul, Int.natAbs_natCast] at this
      rw [Nat.mul_comm F]
      exact this
    · rw [(q j).2, Int.natAbs_mul, Int.natAbs_natCast, Nat.mul_comm]
      exact Nat.le_add_right _ _
  rw [smN_add, smN_mul, smN_mul, l1_far (Nat.le_refl _)] at e
  have e2 : (smN r.length fun j => if K ≤ j then (ov F (co (poften (lead h)⁻¹ h) (j - K))).natAbs else 0) ≤ l1 F (poften (lead h)⁻¹ h) := smN_shift r.length K (fun j => (ov F (co (poften (lead h)⁻¹ h) j)).natAbs) (poften (lead h)⁻¹ h).length fun j hj => by rw [co_of_le hj, ov_zero]; rfl
  have e3 : (ov D (co r t)).natAbs ≤ l1 D r := by
    by_cases ht : t < r.length
    · exact smN_ge (f := fun i => (ov D (co r i)).natAbs) ht
    · rw [co_of_le (by omega), ov_zero]; exact Nat.zero_le _
  have e4 := Nat.mul_le_mul e3 e2
  have b1 : F * l1 D r < 2 ^ (B + E) := by
    rw [Nat.add_comm, Nat.pow_add]
    exact Nat.mul_lt_mul'' k2 h4
  have b2 : l1 D r * l1 F (poften (lead h)⁻¹ h) < 2 ^ (B + E) := by
    rw [Nat.pow_add]
    exact Nat.mul_lt_mul'' h4 k4
  rw [Nat.pow_succ]
  omega
theorem Bd.rem {E : Nat} {h : List Rat} (h0 : lead h ≠ 0) (hh : Bd E (poften (lead h)⁻¹ h)) : ∀ (K : Nat) {B : Nat} {r : List Rat}, Bd B r → Bd (B + K * (E + 1)) (pdv h K r).2
  | 0, B, r, hr => hr.mono (by omega)
  | K + 1, B, r, hr => (Bd.rem h0 hh K (hr.sub h0 hh K _ _)).mono (by rw [Nat.succ_mul]; omega)
/-- the numbers handed out by a division -/
theorem Bd.quo {E L : Nat} {h : List Rat} (h0 : lead h ≠ 0) (hh : Bd E (poften (lead h)⁻¹ h)) (hL : Sz L (lead h)) : ∀ (K : Nat) {B : Nat} {r : List Rat}, Bd B r → ∀ a ∈ (pdv h K r).1, Sz (B + K * (E + 1) + L) a
  | 0, B, r, hr, a, ha => nomatch ha
  | K + 1, B, r, hr, a, ha => by
    rw [pdv, List.mem_append] at ha
    rcases ha with ha | ha
    · exact (Bd.quo h0 hh hL K (hr.sub h0 hh K _ _) a ha).mono (by rw [Nat.succ_mul]; omega)
    · rw [List.mem_singleton] at ha
      subst ha
      rw [Rat.div_def]
      exact (Sz.mul (hr.szc _) (hL.inv h0)).mono (by omega)
section
variable {cst : Str → Option D} {tb : Str → Option FD} {k : Nat} {S : Sto}
theorem eF_neg (o : Rat) : (.tup [.int (-o.num), .int o.den] : D) = eF (-o) := rfl
theorem Sz.neg' {B : Nat} {a : Rat} (h : Sz B a) : Sz B (-a) := ⟨by rw [Rat.neg_num, Int.natAbs_neg]; exact h.1, by rw [Rat.neg_den]; exact h.2⟩
structure DiT (cst : Str → Option D) (tb : Str → Option FD) : Prop extends PoT cst tb where
  fsum : tb "fraction_sum" = some d_fraction_sum
  ftimes : tb "fraction_times" = some d_fraction_times
  fby : tb "fraction_by" = some d_fraction_by
  pdivided : tb "poly_divided" = some d_poly_divided
/-- the last number may be divided by -/
def LdOk (h : List Rat) : Prop := 0 < (lead h).num ∨ (lead h).num.natAbs * (lead h).den < 1073741824
set_option maxHeartbeats 1000000 in
theorem r_poly_divided (T : DiT cst tb) {f h : List Rat} {B E : Nat} (hf : Bd B f) (hne : h ≠ []) (h0 : lead h ≠ 0) (hld : LdOk h) (hh : Bd E (poften (lead h)⁻¹ h)) (hz : SzP 1000 h) (hL : Sz 1000 (lead h)) (hB : B + (f.length + 1 - h.length) * (E + 1) ≤ 2000) (lf : f.length < 1000) (lh : h.length < 1000) :
    runF cst tb (k + 4) "poly_divided" [eP f, eP h] S = some (.tup [eP (pquo f h), eP (prem f h)], S) := by
  have hm : 0 < h.length := List.length_pos_iff.2 hne
  let K0 := f.length + 1 - h.length
  have hK0 : K0 = f.length + 1 - h.length := rfl
  have hB' : B + K0 * (E + 1) ≤ 2000 := hB
  let z0 : Nat → List Rat := fun n => List.replicate n 0
  let st : List Rat → List Rat → Sto := fun r q => S ++ [.lst (r.map eF), .lst [eF 0], .lst (q.map eF)]
  let body : List Sx := [.setI (.var 3) (.bin .add (.var 2) (.var 6)) (.call "fraction_sum" [.idx (.var 3) (.bin .add (.var 2) (.var 6)), .call "fraction_times" [.tup [.neg (.idx (.var 5) (.lit (.int 0))), .idx (.var 5) (.lit (.int 1))], .var 7]])]
  have hbody : body = [.setI (.var 3) (.bin .add (.var 2) (.var 6)) (.call "fraction_sum" [.idx (.var 3) (.bin .add (.var 2) (.var 6)), .call "fraction_times" [.tup [.neg (.idx (.var 5) (.lit (.int 0))), .idx (.var 5) (.lit (.int 1))], .var 7]])] := rfl
  -- the inner walk
  have inner : ∀ (r q : List Rat) (K : Nat) (o : Rat) (x y : Option D), K + h.length ≤ r.length → SzP 2000 r → Sz 3000 o → ∃ ρ' S', forI ⟨runF cst tb (k + 3), cst⟩ (.tup [.nm 6, .nm 7]) body
      [some (eP f), some (eP h), some (.int (K : Int)), some (.loc S.length), some (.loc (S.length + 2)), some (eF o), x, y] (st r q) (some ((List.range (h.map eF).length).map fun i => .tup [.int (i : Nat), (h.map eF).getD i .non], [])) = some (.nx ρ', S') ∧
      S' = st (subp r K o h h.length) q ∧ ∃ x y, ρ' = [some (eP f), some (eP h), some (.int (K : Int)), some (.loc S.length), some (.loc (S.length + 2)), some (eF o), x, y] := by
    intro r q K o x y hK hr ho
    obtain ⟨ρ', S', e1, hI⟩ := for_inv (L := []) (S0 := st r q) (step := forStep ⟨runF cst tb (k + 3), cst⟩ (.tup [.nm 6, .nm 7]) body)
      (fun i ρ S' => S' = st (subp r K o h i) q ∧ ∃ x y, ρ = [some (eP f), some (eP h), some (.int (K : Int)), some (.loc S.length), some (.loc (S.length + 2)), some (eF o), x, y])
      (xs := (List.range (h.map eF).length).map fun i => .tup [.int (i : Nat), (h.map eF).getD i .non]) (S := st r q) (ρ := [some (eP f), some (eP h), some (.int (K : Int)), some (.loc S.length), some (.loc (S.length + 2)), some (eF o), x, y]) ⟨by rw [subp_zero], x, y, rfl⟩ (fun i w ρ S' e hq => by
        obtain ⟨rfl, x1, y1, rfl⟩ := hq
        obtain ⟨hi, rfl⟩ := enum_get e
        rw [List.length_map] at hi
        rw [getD_map hi]
        have hij : (K : Int) + (i : Int) = ((K + i : Nat) : Int) := by omega
        have hlt : K + i < (subp r K o h i).length := by rw [subp_len]; omega
        have hco : co (subp r K o h i) (K + i) = co r (K + i) := by
          rw [co_subp _ _ _ _ _ _ (by omega), if_neg (by omega)]
        have hg : idxD (.loc S.length) (.int ((K + i : Nat) : Int)) (st (subp r K o h i) q) = some (eF (co r (K + i))) := by
          rw [i_loc, getA0, bindS, items_lst, bindS, at_nat, List.getElem?_map, co_get hlt, hco]
          rfl
        have hs : setD (.loc S.length) (.int ((K + i : Nat) : Int)) (eF (co r (K + i) + (-o) * co h i)) (st (subp r K o h i) q) = some (st (subp r K o h (i + 1)) q) := by
          rw [set_lst (xs := (subp r K o h i).map eF) (getA0 ..) (by rw [List.length_map]; exact hlt), setA0, subp_step]
        have hzi : Sz 1000 (co h i) := hz _ (co_mem hi)
        have hri : Sz 2000 (co r (K + i)) := hr _ (co_mem (by omega))
        have r1 := fun k S => r_fraction_times (cst := cst) (k := k) (S := S) T.fr T.ftimes (ho.neg'.mono (by decide)) (hzi.mono (by decide))
        have r2 := fun k S => r_fraction_sum (cst := cst) (k := k) (S := S) T.fr T.fsum (hri.mono (by decide)) ((Sz.mul ho.neg' hzi).mono (by decide))
        refine ⟨[some (eP f), some (eP h), some (.int (K : Int)), some (.loc S.length), some (.loc (S.length + 2)), some (eF o), some (.int (i : Nat)), some (eF (co h i))], st (subp r K o h (i + 1)) q, ?_, by simp, rfl, _, _, rfl⟩
        simp only [forStep, hbody, i_F0, i_F1, eF_neg, hij, hg, r1, r2, hs, vK_some, e_var, e_lit, lit_non, lit_bl, lit_int, lit_str, e_glob, oneK_some, e_bin, bin1_some, bin2_some, d_add, d_sub, e_neg, negK_some, e_cmp, cmp1_some, cmp2_some, map_some2, c_lt, c_le, c_gt, c_ge, c_eqI, c_neI, c_eqS, c_neS, tK_some, notK_some, blK_some, e_not, e_and, e_or, t_not, t_and, t_or, t_cmp, t_call, t_blt, a_nil, a_cons, andK_t, andK_f, o_nil, o_cons, orK_t, orK_f, e_ite, iteK_t, iteK_f, s_nil, s_cons, es1_some, es2_some, e_tup, tupK0, tupK1, tupK2, tupK3, tupK4, tupK5, e_lst, lstK0, lstK1, e_call, calK_some, e_blt, bltK_some, b_gcd, b_abs, b_int, b_max, b_min, b_lenT, b_lenL, b_tupT, b_tupL, b_lstT, b_lstL, b_all, items_lst, items_ro, map_some3, e_idx, idx1_some, idx2_some, i_tup, i_loc, at_0, at_1, at_2, at_3, e_slice, slK_some, slK1_some, slK2_some, o_none, o_some, oK_some, sl_tup, sl_loc, e_rev, revK_some, rv_tup, rv_loc, e_pop, popK_some, e_comp, it_tup, it_loc, it_enumT, it_enumL, it_zipT, it_zipL, e_dict, B_nil, B_cons, seqK_nx, seqK_ret, seqK_brk, seqK_cont, S_asg, asgK_some, nxK_some, bd_nm, bd_tup, bd_nil, bd_cons, bdK_some, S_par, parK_some, sa_nil, sa_cons, S_setI, stK_some, stK1_some, stK2_some, nxS_some, S_app, appK2_some, S_popS, popSK_some, S_ret, retK_some, S_retN, S_pass, S_brk, S_cont, S_ite, ifK_t, ifK_f, forK_some, getA, getA0, setA, setA0, lenA, appA, catA, nilA, lenC, len0, g_0, t_0, g_1, t_1, g_2, t_2, g_3, t_3, g_4, t_4, g_5, t_5, g_6, t_6, g_7, t_7, g_8, t_8, g_9, t_9, g_10, t_10, g_11, t_11, g_12, t_12, g_13, t_13, bindS, S_whil, S_for, compK_some])
    rw [List.length_map, List.length_range, List.length_map] at hI
    obtain ⟨h1, x, y, h2⟩ := hI
    exact ⟨ρ', S', e1, h1, x, y, h2⟩
  -- the outer walk
  have step1 : ∀ i, i < K0 → (h.length : Int) = h.length := fun _ _ => rfl
  obtain ⟨ρ', S', e1, hI⟩ := for_inv (L := []) (S0 := st f (z0 K0)) (step := forStep ⟨runF cst tb (k + 3), cst⟩ (.nm 2) [.asg (.nm 5) (.call "fraction_by" [.idx (.var 3) (.bin .sub (.bin .add (.var 2) (.blt "len" [.var 1])) (.lit (.int 1))), .idx (.var 1) (.neg (.lit (.int 1)))]), .setI (.var 4) (.var 2) (.var 5), .forr .enum [.var 1] (.tup [.nm 6, .nm 7]) body])
    (fun i ρ S' => i ≤ K0 ∧ ∃ r q, S' = st r (z0 (K0 - i) ++ q) ∧ r.length = f.length ∧ Bd (B + i * (E + 1)) r ∧ q.length = i ∧ (pdv h K0 f).1 = (pdv h (K0 - i) r).1 ++ q ∧ (pdv h K0 f).2 = (pdv h (K0 - i) r).2 ∧
      ∃ v w x y, ρ = [some (eP f), some (eP h), v, some (.loc S.length), some (.loc (S.length + 2)), w, x, y])
    (xs := (List.range K0).map fun t => D.int ((K0 : Int) - 1 + (t : Nat) * (-1))) (S := st f (z0 K0)) (ρ := [some (eP f), some (eP h), none, some (.loc S.length), some (.loc (S.length + 2)), none, none, none])
    ⟨Nat.zero_le _, f, [], by rw [List.append_nil]; rfl, rfl, by rw [Nat.zero_mul]; exact hf, rfl, by rw [List.append_nil]; rfl, rfl, _, _, _, _, rfl⟩ (fun i x ρ S' e hq => by
      obtain ⟨hi1, r, q, rfl, hrl, hrB, hql, hp1, hp2, v, w, x1, y1, rfl⟩ := hq
      obtain ⟨a, ha, rfl, hi⟩ := map_get e
      rw [List.length_range] at hi
      rw [List.getElem?_range hi] at ha
      cases ha
      obtain ⟨K, hK⟩ : ∃ K, K0 - i = K + 1 := ⟨K0 - i - 1, by omega⟩
      have hki : (K0 : Int) - 1 + (i : Nat) * (-1) = ((K : Nat) : Int) := by omega
      rw [hki]
      rw [hK] at hp1 hp2 ⊢
      have hKr : K + h.length ≤ r.length := by omega
      have hidx : (K : Int) + (h.length : Int) - 1 = ((K + h.length - 1 : Nat) : Int) := by omega
      have hmono := Nat.mul_le_mul_right (E + 1) (show i + 1 ≤ K0 by omega)
      rw [Nat.succ_mul] at hmono
      have hrs : SzP 2000 r := hrB.sz.mono (by omega)
      have htop : Sz 2000 (co r (K + h.length - 1)) := (hrB.szc _).mono (by omega)
      have ho : Sz 3000 (co r (K + h.length - 1) / lead h) := by
        rw [Rat.div_def]
        exact (Sz.mul htop (hL.inv h0)).mono (by omega)
      have r1 := fun k S => r_fraction_by (cst := cst) (k := k) (S := S) T.fr T.fby (htop.mono (by decide)) (hL.mono (by decide)) h0 hld
      have hg : ∀ S1, idxD (.loc S.length) (.int ((K + h.length - 1 : Nat) : Int)) (S ++ Cell.lst (r.map eF) :: S1) = some (eF (co r (K + h.length - 1))) := fun S1 => by
        rw [i_loc, getA0, bindS, items_lst, bindS, at_nat, List.getElem?_map, co_get (by omega)]
        rfl
      have hl : ∀ S, idxD (eP h) (.int (-1)) S = some (eF (lead h)) := fun S => i_Plast hne
      have hzz : z0 (K + 1) = z0 K ++ [0] := List.replicate_succ' ..
      have hs : setD (.loc (S.length + 2)) (.int (K : Int)) (eF (co r (K + h.length - 1) / lead h)) (st r (z0 (K + 1) ++ q)) = some (st r (z0 K ++ ((co r (K + h.length - 1) / lead h) :: q))) := by
        rw [set_lst (xs := (z0 (K + 1) ++ q).map eF) (by rw [getA]; rfl) (by simp [z0]; omega), setA]
        have e1 : ((z0 (K + 1) ++ q).map eF).set K (eF (co r (K + h.length - 1) / lead h)) = (z0 K ++ ((co r (K + h.length - 1) / lead h) :: q)).map eF := by
          rw [hzz, List.append_assoc, List.map_append, List.map_append, List.set_append_right _ _ (by simp [z0])]
          simp [z0]
        show some (S ++ [.lst (r.map eF), .lst [eF 0], .lst (((z0 (K + 1) ++ q).map eF).set K _)]) = _
        rw [e1]
      obtain ⟨ρ2, S2, e2, rfl, x2, y2, rfl⟩ := inner r (z0 K ++ ((co r (K + h.length - 1) / lead h) :: q)) K (co r (K + h.length - 1) / lead h) x1 y1 hKr hrs ho
      have hit : ∀ S, iterD .enum [eP h] S = some ((List.range (h.map eF).length).map fun i => .tup [.int (i : Nat), (h.map eF).getD i .non], []) := fun S => rfl
      refine ⟨_, st (subp r K (co r (K + h.length - 1) / lead h) h h.length) (z0 K ++ ((co r (K + h.length - 1) / lead h) :: q)), ?_, by simp, by omega, subp r K (co r (K + h.length - 1) / lead h) h h.length, (co r (K + h.length - 1) / lead h) :: q, ?_, by rw [subp_len, hrl], (hrB.sub h0 hh K _ _).mono (by rw [Nat.succ_mul]; omega), by rw [List.length_cons, hql], ?_, ?_, some (.int (K : Int)), some (eF (co r (K + h.length - 1) / lead h)), x2, y2, rfl⟩
      · have hst : st r (z0 (K + 1) ++ q) = S ++ Cell.lst (r.map eF) :: [.lst [eF 0], .lst ((z0 (K + 1) ++ q).map eF)] := rfl
        have hg' := hg [.lst [eF 0], .lst ((z0 (K + 1) ++ q).map eF)]
        rw [← hst] at hg'
        simp only [forStep, b_lenP, hidx, hg', hl, r1, hs, hit, e2, vK_some, e_var, e_lit, lit_non, lit_bl, lit_int, lit_str, e_glob, oneK_some, e_bin, bin1_some, bin2_some, d_add, d_sub, e_neg, negK_some, e_cmp, cmp1_some, cmp2_some, map_some2, c_lt, c_le, c_gt, c_ge, c_eqI, c_neI, c_eqS, c_neS, tK_some, notK_some, blK_some, e_not, e_and, e_or, t_not, t_and, t_or, t_cmp, t_call, t_blt, a_nil, a_cons, andK_t, andK_f, o_nil, o_cons, orK_t, orK_f, e_ite, iteK_t, iteK_f, s_nil, s_cons, es1_some, es2_some, e_tup, tupK0, tupK1, tupK2, tupK3, tupK4, tupK5, e_lst, lstK0, lstK1, e_call, calK_some, e_blt, bltK_some, b_gcd, b_abs, b_int, b_max, b_min, b_lenT, b_lenL, b_tupT, b_tupL, b_lstT, b_lstL, b_all, items_lst, items_ro, map_some3, e_idx, idx1_some, idx2_some, i_tup, i_loc, at_0, at_1, at_2, at_3, e_slice, slK_some, slK1_some, slK2_some, o_none, o_some, oK_some, sl_tup, sl_loc, e_rev, revK_some, rv_tup, rv_loc, e_pop, popK_some, e_comp, it_tup, it_loc, it_enumT, it_enumL, it_zipT, it_zipL, e_dict, B_nil, B_cons, seqK_nx, seqK_ret, seqK_brk, seqK_cont, S_asg, asgK_some, nxK_some, bd_nm, bd_tup, bd_nil, bd_cons, bdK_some, S_par, parK_some, sa_nil, sa_cons, S_setI, stK_some, stK1_some, stK2_some, nxS_some, S_app, appK2_some, S_popS, popSK_some, S_ret, retK_some, S_retN, S_pass, S_brk, S_cont, S_ite, ifK_t, ifK_f, forK_some, getA, getA0, setA, setA0, lenA, appA, catA, nilA, lenC, len0, g_0, t_0, g_1, t_1, g_2, t_2, g_3, t_3, g_4, t_4, g_5, t_5, g_6, t_6, g_7, t_7, g_8, t_8, g_9, t_9, g_10, t_10, g_11, t_11, g_12, t_12, g_13, t_13, bindS, S_whil, S_for, compK_some]
      · rw [show K0 - (i + 1) = K by omega]
      · rw [hp1, show K0 - (i + 1) = K by omega, pdv, List.append_assoc]
        rfl
      · rw [hp2, show K0 - (i + 1) = K by omega, pdv])
  rw [List.length_map, List.length_range, Nat.sub_self] at hI
  obtain ⟨_, r, q, rfl, hrl, hrB, hql, hp1, hp2, v, w, x, y, rfl⟩ := hI
  have hq : q = (pdv h K0 f).1 := hp1.symm
  have hr : r = (pdv h K0 f).2 := hp2.symm
  have r1 := r_poly_of (cst := cst) (tb := tb) (k := k + 2) (S := st r (z0 0 ++ q)) T.of T.cs.none (d := .loc (S.length + 2)) (f := q) (by rw [b_lstL, getA]; rfl)
  have r2 := r_poly_of (cst := cst) (tb := tb) (k := k + 2) (S := st r (z0 0 ++ q)) T.of T.cs.none (d := .loc S.length) (f := r) (by rw [b_lstL, getA0]; rfl)
  refine run_ret (G := [.lst (r.map eF), .lst [eF 0], .lst (q.map eF)]) T.pdivided rfl ?_ (by simp [NoLoc, NoLocs, NoLoc_eP])
  have hmax : (if ((f.length : Int) - h.length + 1) > 0 then ((f.length : Int) - h.length + 1) else 0) = ((K0 : Nat) : Int) := by
    show _ = ((f.length + 1 - h.length : Nat) : Int)
    split <;> omega
  have hmul : binD .mul (.loc (S.length + 1)) (.int ((K0 : Nat) : Int)) (S ++ [.lst (f.map eF), .lst [eF 0]]) = some (.loc (S.length + 2), st f (z0 K0)) := by
    rw [m_loc (xs := [eF 0]) (by rw [getA]; rfl) (by omega) (by show 1 * K0 ≤ sizeLine; simp only [sizeLine]; omega)]
    have e : (List.replicate K0 [eF 0]).flatten = (z0 K0).map eF := by simp [z0]
    rw [e]
    simp only [lenA, List.append_assoc, List.cons_append, List.nil_append, List.length_cons, List.length_nil, st]
  have hlen : bltD "len" [.loc (S.length + 2)] (st f (z0 K0)) = some (.int (K0 : Int), st f (z0 K0)) := by
    rw [b_lenL, getA]
    simp [z0, Cell.items]
  have hrg := it_rng3 (S := st f (z0 K0)) ((K0 : Int) - 1) (-1) (by omega)
  have htn : ((K0 : Int) - 1 - -1).toNat = K0 := by omega
  rw [htn] at hrg
  have e1' : forI ⟨runF cst tb (k + 3), cst⟩ (.nm 2) _ _ (st f (z0 K0)) (some ((List.range K0).map fun t => D.int ((K0 : Int) - 1 + (t : Nat) * (-1)), [])) = _ := e1
  rw [hbody] at e1'
  simp only [d_poly_divided, List.map, List.replicate, Nat.reduceSub, List.cons_append, List.nil_append, Nat.reduceAdd, b_lenP, b_lstP, T.cs.none, hmax, hmul, hlen, hrg, e1', r1, r2, vK_some, e_var, e_lit, lit_non, lit_bl, lit_int, lit_str, e_glob, oneK_some, e_bin, bin1_some, bin2_some, d_add, d_sub, e_neg, negK_some, e_cmp, cmp1_some, cmp2_some, map_some2, c_lt, c_le, c_gt, c_ge, c_eqI, c_neI, c_eqS, c_neS, tK_some, notK_some, blK_some, e_not, e_and, e_or, t_not, t_and, t_or, t_cmp, t_call, t_blt, a_nil, a_cons, andK_t, andK_f, o_nil, o_cons, orK_t, orK_f, e_ite, iteK_t, iteK_f, s_nil, s_cons, es1_some, es2_some, e_tup, tupK0, tupK1, tupK2, tupK3, tupK4, tupK5, e_lst, lstK0, lstK1, e_call, calK_some, e_blt, bltK_some, b_gcd, b_abs, b_int, b_max, b_min, b_lenT, b_lenL, b_tupT, b_tupL, b_lstT, b_lstL, b_all, items_lst, items_ro, map_some3, e_idx, idx1_some, idx2_some, i_tup, i_loc, at_0, at_1, at_2, at_3, e_slice, slK_some, slK1_some, slK2_some, o_none, o_some, oK_some, sl_tup, sl_loc, e_rev, revK_some, rv_tup, rv_loc, e_pop, popK_some, e_comp, it_tup, it_loc, it_enumT, it_enumL, it_zipT, it_zipL, e_dict, B_nil, B_cons, seqK_nx, seqK_ret, seqK_brk, seqK_cont, S_asg, asgK_some, nxK_some, bd_nm, bd_tup, bd_nil, bd_cons, bdK_some, S_par, parK_some, sa_nil, sa_cons, S_setI, stK_some, stK1_some, stK2_some, nxS_some, S_app, appK2_some, S_popS, popSK_some, S_ret, retK_some, S_retN, S_pass, S_brk, S_cont, S_ite, ifK_t, ifK_f, forK_some, getA, getA0, setA, setA0, lenA, appA, catA, nilA, lenC, len0, g_0, t_0, g_1, t_1, g_2, t_2, g_3, t_3, g_4, t_4, g_5, t_5, g_6, t_6, g_7, t_7, g_8, t_8, g_9, t_9, g_10, t_10, g_11, t_11, g_12, t_12, g_13, t_13, bindS, S_whil, S_for, compK_some]
  rw [hq, hr]
  rfl
end
end Pf.Z

/-! Normals, Dickson's, digits, outer parts, waves. -/
namespace Pf.Z
open PySem PySem.Spec PyProof.Rows L2
section
variable {cst : Str → Option D} {tb : Str → Option FD} {k : Nat} {S : Sto}
def pnormal (f : List Rat) : List Rat := poften (1 / lead f) (pless f (trim [co f 0]))
/-- what most defs need -/
structure BaT (cst : Str → Option D) (tb : Str → Option FD) : Prop extends WiT cst tb where
  fby : tb "fraction_by" = some d_fraction_by
  fpower : tb "fraction_power" = some d_fraction_power
  pless : tb "poly_less" = some d_poly_less
  ppower : tb "poly_power" = some d_poly_power
  pwithin : tb "poly_within" = some d_poly_within
  pdivided : tb "poly_divided" = some d_poly_divided
  pat : tb "poly_at" = some d_poly_at
  slope : tb "slope_of" = some d_slope_of
theorem BaT.di (T : BaT cst tb) : DiT cst tb := ⟨T.toPoT, T.fsum, T.ftimes, T.fby, T.pdivided⟩
theorem len1 (c : Rat) : (trim [c]).length ≤ 1 := trim_len [c]
theorem i_P0 {f : List Rat} (h : f ≠ []) : idxD (eP f) (.int 0) S = some (eF (co f 0)) := i_P (j := 0) (List.length_pos_iff.2 h)
theorem lead_num {f : List Rat} (h : lead f ≠ 0) : (lead f).num ≠ 0 := fun z => h (Rat.num_eq_zero.1 z)
theorem Sz_inv1 {B : Nat} {c : Rat} (h : Sz B c) (h0 : c ≠ 0) : Sz B (1 / c) := by
  rw [Rat.div_def, Rat.one_mul]
  exact h.inv h0
theorem r_normal_of (T : BaT cst tb) (h : tb "normal_of" = some d_normal_of) {f : List Rat} {B : Nat} (hf : Bd B f) (hB : 2 * B + 1 ≤ 4000) (hne : f ≠ []) (h0 : lead f ≠ 0) (hld : LdOk f) (lf : f.length < 1000) :
    runF cst tb (k + 6) "normal_of" [eP f] S = some (.tup [eF (lead f), eF (co f 0), eP (pnormal f)], S) := by
  refine run_ret0 h rfl ?_ (by simp [NoLoc, NoLocs, NoLoc_eP, NoLoc_eF])
  have h1 := len1 (co f 0)
  have h2 := pless_len f (trim [co f 0])
  have r1 := fun k S => r_flat_of (cst := cst) (tb := tb) (k := k) (S := S) T.toPoT T.flat (co f 0)
  have r2 := fun k S => r_poly_less (cst := cst) (k := k) (S := S) T.toSuT T.pless (hf.sz.mono (show B ≤ 4000 by omega)) ((Bd.flat (hf.szc 0)).trimmed.sz.mono (show B ≤ 4000 by omega)) (by omega) (by omega)
  have r3 := fun k S => r_fraction_by (cst := cst) (k := k) (S := S) T.fr T.fby (Sz_one (B := 3999)) ((hf.szc (f.length - 1)).mono (show B ≤ 4000 by omega)) h0 hld
  have r4 := fun k S => r_poly_often (cst := cst) (k := k) (S := S) T.toPoT T.poften T.ftimes ((Sz_inv1 (hf.szc (f.length - 1)) h0).mono (show B ≤ 4000 by omega)) ((hf.less (Bd.flat (hf.szc 0)).trimmed).sz.mono (show _ ≤ 4000 by omega)) (by omega)
  have hl := fun S => i_Plast (S := S) hne
  have h3 := fun S => i_P0 (S := S) hne
  simp only [d_normal_of, List.map, List.replicate, Nat.reduceSub, List.cons_append, List.nil_append, hl, h3, T.cs.one, r1, r2, r3, r4, vK_some, e_var, e_lit, lit_non, lit_bl, lit_int, lit_str, e_glob, oneK_some, e_bin, bin1_some, bin2_some, d_add, d_sub, e_neg, negK_some, e_cmp, cmp1_some, cmp2_some, map_some2, c_lt, c_le, c_gt, c_ge, c_eqI, c_neI, c_eqS, c_neS, tK_some, notK_some, blK_some, e_not, e_and, e_or, t_not, t_and, t_or, t_cmp, t_call, t_blt, a_nil, a_cons, andK_t, andK_f, o_nil, o_cons, orK_t, orK_f, e_ite, iteK_t, iteK_f, s_nil, s_cons, es1_some, es2_some, e_tup, tupK0, tupK1, tupK2, tupK3, tupK4, tupK5, e_lst, lstK0, lstK1, e_call, calK_some, e_blt, bltK_some, b_gcd, b_abs, b_int, b_max, b_min, b_lenT, b_lenL, b_tupT, b_tupL, b_lstT, b_lstL, b_all, items_lst, items_ro, map_some3, e_idx, idx1_some, idx2_some, i_tup, i_loc, at_0, at_1, at_2, at_3, e_slice, slK_some, slK1_some, slK2_some, o_none, o_some, oK_some, sl_tup, sl_loc, e_rev, revK_some, rv_tup, rv_loc, e_pop, popK_some, e_comp, it_tup, it_loc, it_enumT, it_enumL, it_zipT, it_zipL, e_dict, B_nil, B_cons, seqK_nx, seqK_ret, seqK_brk, seqK_cont, S_asg, asgK_some, nxK_some, bd_nm, bd_tup, bd_nil, bd_cons, bdK_some, S_par, parK_some, sa_nil, sa_cons, S_setI, stK_some, stK1_some, stK2_some, nxS_some, S_app, appK2_some, S_popS, popSK_some, S_ret, retK_some, S_retN, S_pass, S_brk, S_cont, S_ite, ifK_t, ifK_f, forK_some, getA, getA0, setA, setA0, lenA, appA, catA, nilA, lenC, len0, g_0, t_0, g_1, t_1, g_2, t_2, g_3, t_3, g_4, t_4, g_5, t_5, g_6, t_6, g_7, t_7, g_8, t_8, g_9, t_9, g_10, t_10, g_11, t_11, g_12, t_12, g_13, t_13, bindS, S_whil, S_for, compK_some]
  rfl
def dkp (t : Rat) : Nat → List Rat × List Rat
  | 0 => ([2], [0, 1])
  | n + 1 => ((dkp t n).2, pless (pmul [0, 1] (dkp t n).2) (poften t (dkp t n).1))
def dk (n : Nat) (t : Rat) : List Rat := (dkp t n).1
theorem dkp_snd (t : Rat) (n : Nat) : (dkp t n).2 = dk (n + 1) t := rfl
theorem eP_two : trim [(2 : Rat)] = [2] := by decide
theorem Bd_X : Bd 1 [0, 1] := Bd.of (by decide)
structure DcT (cst : Str → Option D) (tb : Str → Option FD) : Prop extends BaT cst tb where
  dickson : tb "dickson" = some d_dickson
theorem r_dickson (T : DcT cst tb) {n : Nat} {t : Rat} {B C : Nat} (ht : Sz C t) (hb : ∀ i, i ≤ n + 1 → Bd B (dk i t) ∧ (dk i t).length < 900) (hB : B + C + 2 ≤ 4000) (hn : n < 2 ^ 62) :
    runF cst tb (k + 6) "dickson" [.int (n : Int), eF t] S = some (eP (dk n t), S) := by
  refine run_ret0 T.dickson rfl ?_ (NoLoc_eP _)
  obtain ⟨ρ', S', e1, hI⟩ := for_inv (L := []) (S0 := S) (step := forStep ⟨runF cst tb (k + 5), cst⟩ (.nm 2) [.par [3, 4] [.var 4, .call "poly_less" [.call "poly_times" [.glob "X", .var 4], .call "poly_often" [.var 1, .var 3]]]])
    (fun i ρ S' => S' = S ∧ ∃ x, ρ = [some (.int (n : Int)), some (eF t), x, some (eP (dk i t)), some (eP (dk (i + 1) t))]) (xs := (List.range n).map fun i => D.int (i : Nat)) (ρ := [some (.int (n : Int)), some (eF t), none, some (eP [2]), some (eP [0, 1])]) (S := S) ⟨rfl, none, rfl⟩ (fun i x ρ S' e q => by
      obtain ⟨rfl, x1, rfl⟩ := q
      obtain ⟨hi, rfl⟩ := rng_get e
      obtain ⟨b1, l1⟩ := hb i (by omega)
      obtain ⟨b2, l2⟩ := hb (i + 1) (by omega)
      have m1 := pmul_len [0, 1] (dk (i + 1) t)
      have m2 := poften_len t (dk i t)
      simp only [List.length_cons, List.length_nil] at m1
      have r1 := fun k S => r_poly_times (cst := cst) (k := k) (S := S) T.ti (Bd_X.bd4 (by decide) (by decide)) (b2.bd4 (by omega) (by omega))
      have r2 := fun k S => r_poly_often (cst := cst) (k := k) (S := S) T.toPoT T.poften T.ftimes (ht.mono (show C ≤ 4000 by omega)) (b1.sz.mono (show B ≤ 4000 by omega)) (by omega)
      have r3 := fun k S => r_poly_less (cst := cst) (k := k) (S := S) T.toSuT T.pless ((Bd.mul Bd_X b2).sz.mono (show _ ≤ 4000 by omega)) ((Bd.often ht b1).sz.mono (show _ ≤ 4000 by omega)) (by omega) (by omega)
      refine ⟨[some (.int (n : Int)), some (eF t), some (.int (i : Nat)), some (eP (dk (i + 1) t)), some (eP (dk (i + 2) t))], S', ?_, by simp, rfl, _, rfl⟩
      simp only [forStep, T.cs.x, r1, r2, r3, vK_some, e_var, e_lit, lit_non, lit_bl, lit_int, lit_str, e_glob, oneK_some, e_bin, bin1_some, bin2_some, d_add, d_sub, e_neg, negK_some, e_cmp, cmp1_some, cmp2_some, map_some2, c_lt, c_le, c_gt, c_ge, c_eqI, c_neI, c_eqS, c_neS, tK_some, notK_some, blK_some, e_not, e_and, e_or, t_not, t_and, t_or, t_cmp, t_call, t_blt, a_nil, a_cons, andK_t, andK_f, o_nil, o_cons, orK_t, orK_f, e_ite, iteK_t, iteK_f, s_nil, s_cons, es1_some, es2_some, e_tup, tupK0, tupK1, tupK2, tupK3, tupK4, tupK5, e_lst, lstK0, lstK1, e_call, calK_some, e_blt, bltK_some, b_gcd, b_abs, b_int, b_max, b_min, b_lenT, b_lenL, b_tupT, b_tupL, b_lstT, b_lstL, b_all, items_lst, items_ro, map_some3, e_idx, idx1_some, idx2_some, i_tup, i_loc, at_0, at_1, at_2, at_3, e_slice, slK_some, slK1_some, slK2_some, o_none, o_some, oK_some, sl_tup, sl_loc, e_rev, revK_some, rv_tup, rv_loc, e_pop, popK_some, e_comp, it_tup, it_loc, it_enumT, it_enumL, it_zipT, it_zipL, e_dict, B_nil, B_cons, seqK_nx, seqK_ret, seqK_brk, seqK_cont, S_asg, asgK_some, nxK_some, bd_nm, bd_tup, bd_nil, bd_cons, bdK_some, S_par, parK_some, sa_nil, sa_cons, S_setI, stK_some, stK1_some, stK2_some, nxS_some, S_app, appK2_some, S_popS, popSK_some, S_ret, retK_some, S_retN, S_pass, S_brk, S_cont, S_ite, ifK_t, ifK_f, forK_some, getA, getA0, setA, setA0, lenA, appA, catA, nilA, lenC, len0, g_0, t_0, g_1, t_1, g_2, t_2, g_3, t_3, g_4, t_4, g_5, t_5, g_6, t_6, g_7, t_7, g_8, t_8, g_9, t_9, g_10, t_10, g_11, t_11, g_12, t_12, g_13, t_13, bindS, S_whil, S_for, compK_some]
      rfl)
  obtain ⟨rfl, x, rfl⟩ := hI
  rw [List.length_map, List.length_range] at e1
  have hr := it_rng (S := S') (n : Int) (by omega)
  have r1 := fun k S => r_flat_of (cst := cst) (tb := tb) (k := k) (S := S) T.toPoT T.flat 2
  have e2 : (.tup [.int 2, .int 1] : D) = eF 2 := rfl
  simp only [d_dickson, List.map, List.replicate, Nat.reduceSub, List.cons_append, List.nil_append, e2, r1, eP_two, T.cs.x, hr, Int.toNat_natCast, forI_some, e1, vK_some, e_var, e_lit, lit_non, lit_bl, lit_int, lit_str, e_glob, oneK_some, e_bin, bin1_some, bin2_some, d_add, d_sub, e_neg, negK_some, e_cmp, cmp1_some, cmp2_some, map_some2, c_lt, c_le, c_gt, c_ge, c_eqI, c_neI, c_eqS, c_neS, tK_some, notK_some, blK_some, e_not, e_and, e_or, t_not, t_and, t_or, t_cmp, t_call, t_blt, a_nil, a_cons, andK_t, andK_f, o_nil, o_cons, orK_t, orK_f, e_ite, iteK_t, iteK_f, s_nil, s_cons, es1_some, es2_some, e_tup, tupK0, tupK1, tupK2, tupK3, tupK4, tupK5, e_lst, lstK0, lstK1, e_call, calK_some, e_blt, bltK_some, b_gcd, b_abs, b_int, b_max, b_min, b_lenT, b_lenL, b_tupT, b_tupL, b_lstT, b_lstL, b_all, items_lst, items_ro, map_some3, e_idx, idx1_some, idx2_some, i_tup, i_loc, at_0, at_1, at_2, at_3, e_slice, slK_some, slK1_some, slK2_some, o_none, o_some, oK_some, sl_tup, sl_loc, e_rev, revK_some, rv_tup, rv_loc, e_pop, popK_some, e_comp, it_tup, it_loc, it_enumT, it_enumL, it_zipT, it_zipL, e_dict, B_nil, B_cons, seqK_nx, seqK_ret, seqK_brk, seqK_cont, S_asg, asgK_some, nxK_some, bd_nm, bd_tup, bd_nil, bd_cons, bdK_some, S_par, parK_some, sa_nil, sa_cons, S_setI, stK_some, stK1_some, stK2_some, nxS_some, S_app, appK2_some, S_popS, popSK_some, S_ret, retK_some, S_retN, S_pass, S_brk, S_cont, S_ite, ifK_t, ifK_f, forK_some, getA, getA0, setA, setA0, lenA, appA, catA, nilA, lenC, len0, g_0, t_0, g_1, t_1, g_2, t_2, g_3, t_3, g_4, t_4, g_5, t_5, g_6, t_6, g_7, t_7, g_8, t_8, g_9, t_9, g_10, t_10, g_11, t_11, g_12, t_12, g_13, t_13, bindS, S_whil, S_for, compK_some]
/-! digits -/
def pdigits (h : List Rat) : Nat → List Rat → List (List Rat)
  | 0, _ => []
  | n + 1, f => if f = [] then [] else prem f h :: pdigits h n (pquo f h)
theorem pquo_len (f h : List Rat) : (pquo f h).length ≤ f.length + 1 - h.length := Nat.le_trans (trim_len _) (by rw [(pdv_len h _ f).1]; exact Nat.le_refl _)
theorem prem_len (f h : List Rat) : (prem f h).length ≤ f.length := Nat.le_trans (trim_len _) (by rw [(pdv_len h _ f).2]; exact Nat.le_refl _)
/-- the bits of the quotients on the way -/
structure DgOk (h f : List Rat) : Prop where
  ne : h ≠ []
  ld0 : lead h ≠ 0
  ldOk : LdOk h
  sz : SzP 1000 h
  len : h.length < 1000
  two : 2 ≤ h.length
  /-- every quotient on the way has B bits; h over its last number E -/
  bits : ∃ E B, Bd E (poften (lead h)⁻¹ h) ∧ B + f.length * (E + 1) ≤ 2000 ∧ ∀ i, Bd B (Nat.rec f (fun _ g => pquo g h) i)
theorem DgOk.next {h f : List Rat} (q : DgOk h f) : DgOk h (pquo f h) := by
  obtain ⟨E, B, h1, h2, h3⟩ := q.bits
  refine ⟨q.ne, q.ld0, q.ldOk, q.sz, q.len, q.two, E, B, h1, ?_, fun i => ?_⟩
  · have := pquo_len f h
    have h4 := q.two
    have := Nat.mul_le_mul_right (E + 1) (show (pquo f h).length ≤ f.length by omega)
    omega
  · have e : ∀ i, (Nat.rec (pquo f h) (fun _ g => pquo g h) i : List Rat) = Nat.rec f (fun _ g => pquo g h) (i + 1) := fun i => by
      induction i with
      | zero => rfl
      | succ i ih => exact congrArg (fun g => pquo g h) ih
    rw [e]
    exact h3 (i + 1)
theorem dg_loop (T : DiT cst tb) {h : List Rat} (b : Option D) : ∀ (n : Nat) (f : List Rat) (ds : List D), f.length ≤ n → f.length + ds.length < 1000 → DgOk h f → ∀ (x : Option D), ∃ m ρ' , whileN (fun ρ1 S1 => evT ⟨runF cst tb (k + 4), cst⟩ (.cmp .ne (.var 0) (.tup [])) ρ1 S1) (fun ρ1 S1 => evB ⟨runF cst tb (k + 4), cst⟩ [.asg (.tup [.nm 0, .nm 3]) (.call "poly_divided" [.var 0, .var 1]), .app (.var 2) (.var 3)] ρ1 S1) m
    [some (eP f), some (eP h), some (.loc S.length), x] (S ++ [.lst ds]) = some (.nx ρ', S ++ [.lst (ds ++ (pdigits h n f).map eP)]) ∧ ∃ y z, ρ' = [some y, some (eP h), some (.loc S.length), z]
  | 0, f, ds, hn, hl, q, x => by
    have e : f = [] := List.eq_nil_of_length_eq_zero (Nat.le_zero.1 hn)
    subst e
    refine ⟨1, [some (eP []), some (eP h), some (.loc S.length), x], ?_, _, _, rfl⟩
    have hc : evT ⟨runF cst tb (k + 4), cst⟩ (.cmp .ne (.var 0) (.tup [])) [some (eP []), some (eP h), some (.loc S.length), x] (S ++ [.lst ds]) = some (false, S ++ [.lst ds]) := by
      simp only [eP_nil, c_neP, vK_some, e_var, e_lit, lit_non, lit_bl, lit_int, lit_str, e_glob, oneK_some, e_bin, bin1_some, bin2_some, d_add, d_sub, e_neg, negK_some, e_cmp, cmp1_some, cmp2_some, map_some2, c_lt, c_le, c_gt, c_ge, c_eqI, c_neI, c_eqS, c_neS, tK_some, notK_some, blK_some, e_not, e_and, e_or, t_not, t_and, t_or, t_cmp, t_call, t_blt, a_nil, a_cons, andK_t, andK_f, o_nil, o_cons, orK_t, orK_f, e_ite, iteK_t, iteK_f, s_nil, s_cons, es1_some, es2_some, e_tup, tupK0, tupK1, tupK2, tupK3, tupK4, tupK5, e_lst, lstK0, lstK1, e_call, calK_some, e_blt, bltK_some, b_gcd, b_abs, b_int, b_max, b_min, b_lenT, b_lenL, b_tupT, b_tupL, b_lstT, b_lstL, b_all, items_lst, items_ro, map_some3, e_idx, idx1_some, idx2_some, i_tup, i_loc, at_0, at_1, at_2, at_3, e_slice, slK_some, slK1_some, slK2_some, o_none, o_some, oK_some, sl_tup, sl_loc, e_rev, revK_some, rv_tup, rv_loc, e_pop, popK_some, e_comp, it_tup, it_loc, it_enumT, it_enumL, it_zipT, it_zipL, e_dict, B_nil, B_cons, seqK_nx, seqK_ret, seqK_brk, seqK_cont, S_asg, asgK_some, nxK_some, bd_nm, bd_tup, bd_nil, bd_cons, bdK_some, S_par, parK_some, sa_nil, sa_cons, S_setI, stK_some, stK1_some, stK2_some, nxS_some, S_app, appK2_some, S_popS, popSK_some, S_ret, retK_some, S_retN, S_pass, S_brk, S_cont, S_ite, ifK_t, ifK_f, forK_some, getA, getA0, setA, setA0, lenA, appA, catA, nilA, lenC, len0, g_0, t_0, g_1, t_1, g_2, t_2, g_3, t_3, g_4, t_4, g_5, t_5, g_6, t_6, g_7, t_7, g_8, t_8, g_9, t_9, g_10, t_10, g_11, t_11, g_12, t_12, g_13, t_13, bindS, S_whil, S_for, compK_some]
      rfl
    simp only [whileN, hc, Option.bind_some]
    simp [pdigits]
  | n + 1, f, ds, hn, hl, q, x => by
    have hc : evT ⟨runF cst tb (k + 4), cst⟩ (.cmp .ne (.var 0) (.tup [])) [some (eP f), some (eP h), some (.loc S.length), x] (S ++ [.lst ds]) = some (!decide (f = []), S ++ [.lst ds]) := by
      simp only [eP_nil, c_neP, vK_some, e_var, e_lit, lit_non, lit_bl, lit_int, lit_str, e_glob, oneK_some, e_bin, bin1_some, bin2_some, d_add, d_sub, e_neg, negK_some, e_cmp, cmp1_some, cmp2_some, map_some2, c_lt, c_le, c_gt, c_ge, c_eqI, c_neI, c_eqS, c_neS, tK_some, notK_some, blK_some, e_not, e_and, e_or, t_not, t_and, t_or, t_cmp, t_call, t_blt, a_nil, a_cons, andK_t, andK_f, o_nil, o_cons, orK_t, orK_f, e_ite, iteK_t, iteK_f, s_nil, s_cons, es1_some, es2_some, e_tup, tupK0, tupK1, tupK2, tupK3, tupK4, tupK5, e_lst, lstK0, lstK1, e_call, calK_some, e_blt, bltK_some, b_gcd, b_abs, b_int, b_max, b_min, b_lenT, b_lenL, b_tupT, b_tupL, b_lstT, b_lstL, b_all, items_lst, items_ro, map_some3, e_idx, idx1_some, idx2_some, i_tup, i_loc, at_0, at_1, at_2, at_3, e_slice, slK_some, slK1_some, slK2_some, o_none, o_some, oK_some, sl_tup, sl_loc, e_rev, revK_some, rv_tup, rv_loc, e_pop, popK_some, e_comp, it_tup, it_loc, it_enumT, it_enumL, it_zipT, it_zipL, e_dict, B_nil, B_cons, seqK_nx, seqK_ret, seqK_brk, seqK_cont, S_asg, asgK_some, nxK_some, bd_nm, bd_tup, bd_nil, bd_cons, bdK_some, S_par, parK_some, sa_nil, sa_cons, S_setI, stK_some, stK1_some, stK2_some, nxS_some, S_app, appK2_some, S_popS, popSK_some, S_ret, retK_some, S_retN, S_pass, S_brk, S_cont, S_ite, ifK_t, ifK_f, forK_some, getA, getA0, setA, setA0, lenA, appA, catA, nilA, lenC, len0, g_0, t_0, g_1, t_1, g_2, t_2, g_3, t_3, g_4, t_4, g_5, t_5, g_6, t_6, g_7, t_7, g_8, t_8, g_9, t_9, g_10, t_10, g_11, t_11, g_12, t_12, g_13, t_13, bindS, S_whil, S_for, compK_some]
    by_cases hf : f = []
    · refine ⟨1, [some (eP f), some (eP h), some (.loc S.length), x], ?_, _, _, rfl⟩
      rw [show (!decide (f = [])) = false by simp [hf]] at hc
      simp only [whileN, hc, Option.bind_some]
      simp [pdigits, hf]
    · have hlen : 0 < f.length := List.length_pos_iff.2 hf
      have h2 := q.two
      have m1 := pquo_len f h
      obtain ⟨E, B, b1, b2, b3⟩ := q.bits
      have m3 := Nat.mul_le_mul_right (E + 1) (show f.length + 1 - h.length ≤ f.length by omega)
      obtain ⟨y, hy⟩ : ∃ y : Option D, y = some (eP (prem f h)) := ⟨_, rfl⟩
      obtain ⟨m, ρ', e, hρ⟩ := dg_loop T b n (pquo f h) (ds ++ [eP (prem f h)]) (by omega) (by rw [List.length_append, List.length_singleton]; omega) q.next (some (eP (prem f h)))
      refine ⟨m + 1, ρ', ?_, hρ⟩
      rw [show (!decide (f = [])) = true by simp [hf]] at hc
      have hB0 : Bd B f := b3 0
      have r1 := fun k S => r_poly_divided (cst := cst) (k := k) (S := S) T (f := f) hB0 q.ne q.ld0 q.ldOk b1 q.sz (q.sz _ (co_mem (show h.length - 1 < h.length by omega))) (show B + _ ≤ 2000 by omega) (by omega) q.len
      have ha := fun v => app_lst (S := S ++ [.lst ds]) (n := S.length) (xs := ds) (v := v) (getA0 ..) (by simp only [sizeLine]; omega)
      have hk := fun e ρ => appK_some (C := ⟨runF cst tb (k + 4), cst⟩) (ρ := ρ) (S := S ++ [.lst ds]) (n := S.length) (xs := ds) e (getA0 ..)
      have hb : evB ⟨runF cst tb (k + 4), cst⟩ [.asg (.tup [.nm 0, .nm 3]) (.call "poly_divided" [.var 0, .var 1]), .app (.var 2) (.var 3)] [some (eP f), some (eP h), some (.loc S.length), x] (S ++ [.lst ds]) = some (.nx [some (eP (pquo f h)), some (eP h), some (.loc S.length), some (eP (prem f h))], S ++ [.lst (ds ++ [eP (prem f h)])]) := by
        simp only [r1, hk, ha, vK_some, e_var, e_lit, lit_non, lit_bl, lit_int, lit_str, e_glob, oneK_some, e_bin, bin1_some, bin2_some, d_add, d_sub, e_neg, negK_some, e_cmp, cmp1_some, cmp2_some, map_some2, c_lt, c_le, c_gt, c_ge, c_eqI, c_neI, c_eqS, c_neS, tK_some, notK_some, blK_some, e_not, e_and, e_or, t_not, t_and, t_or, t_cmp, t_call, t_blt, a_nil, a_cons, andK_t, andK_f, o_nil, o_cons, orK_t, orK_f, e_ite, iteK_t, iteK_f, s_nil, s_cons, es1_some, es2_some, e_tup, tupK0, tupK1, tupK2, tupK3, tupK4, tupK5, e_lst, lstK0, lstK1, e_call, calK_some, e_blt, bltK_some, b_gcd, b_abs, b_int, b_max, b_min, b_lenT, b_lenL, b_tupT, b_tupL, b_lstT, b_lstL, b_all, items_lst, items_ro, map_some3, e_idx, idx1_some, idx2_some, i_tup, i_loc, at_0, at_1, at_2, at_3, e_slice, slK_some, slK1_some, slK2_some, o_none, o_some, oK_some, sl_tup, sl_loc, e_rev, revK_some, rv_tup, rv_loc, e_pop, popK_some, e_comp, it_tup, it_loc, it_enumT, it_enumL, it_zipT, it_zipL, e_dict, B_nil, B_cons, seqK_nx, seqK_ret, seqK_brk, seqK_cont, S_asg, asgK_some, nxK_some, bd_nm, bd_tup, bd_nil, bd_cons, bdK_some, S_par, parK_some, sa_nil, sa_cons, S_setI, stK_some, stK1_some, stK2_some, nxS_some, S_app, appK2_some, S_popS, popSK_some, S_ret, retK_some, S_retN, S_pass, S_brk, S_cont, S_ite, ifK_t, ifK_f, forK_some, getA, getA0, setA, setA0, lenA, appA, catA, nilA, lenC, len0, g_0, t_0, g_1, t_1, g_2, t_2, g_3, t_3, g_4, t_4, g_5, t_5, g_6, t_6, g_7, t_7, g_8, t_8, g_9, t_9, g_10, t_10, g_11, t_11, g_12, t_12, g_13, t_13, bindS, S_whil, S_for, compK_some]
      simp only [whileN, hc, hb, Option.bind_some, if_true]
      rw [e]
      simp [pdigits, hf]
structure DgT (cst : Str → Option D) (tb : Str → Option FD) : Prop extends DiT cst tb where
  digits : tb "digits_of" = some d_digits_of
theorem NoLocs_map {α : Type} {g : α → D} (hg : ∀ a, NoLoc (g a)) : ∀ l : List α, NoLocs (l.map g)
  | [] => trivial
  | a :: l => ⟨hg a, NoLocs_map hg l⟩
theorem r_digits_of (T : DgT cst tb) {h f : List Rat} (q : DgOk h f) (lf : f.length < 1000) : runF cst tb (k + 5) "digits_of" [eP f, eP h] S = some (.tup ((pdigits h f.length f).map eP), S) := by
  obtain ⟨m, ρ', e, y, z, rfl⟩ := dg_loop (k := k) (S := S) T.toDiT none f.length f [] (Nat.le_refl _) (by simpa using lf) q none
  refine run_ret (G := [.lst ((pdigits h f.length f).map eP)]) T.digits rfl ?_ (NoLocs_map NoLoc_eP _)
  rw [List.nil_append] at e
  simp only [d_digits_of, List.map, List.replicate, Nat.reduceSub, List.cons_append, List.nil_append, whK_of e, vK_some, e_var, e_lit, lit_non, lit_bl, lit_int, lit_str, e_glob, oneK_some, e_bin, bin1_some, bin2_some, d_add, d_sub, e_neg, negK_some, e_cmp, cmp1_some, cmp2_some, map_some2, c_lt, c_le, c_gt, c_ge, c_eqI, c_neI, c_eqS, c_neS, tK_some, notK_some, blK_some, e_not, e_and, e_or, t_not, t_and, t_or, t_cmp, t_call, t_blt, a_nil, a_cons, andK_t, andK_f, o_nil, o_cons, orK_t, orK_f, e_ite, iteK_t, iteK_f, s_nil, s_cons, es1_some, es2_some, e_tup, tupK0, tupK1, tupK2, tupK3, tupK4, tupK5, e_lst, lstK0, lstK1, e_call, calK_some, e_blt, bltK_some, b_gcd, b_abs, b_int, b_max, b_min, b_lenT, b_lenL, b_tupT, b_tupL, b_lstT, b_lstL, b_all, items_lst, items_ro, map_some3, e_idx, idx1_some, idx2_some, i_tup, i_loc, at_0, at_1, at_2, at_3, e_slice, slK_some, slK1_some, slK2_some, o_none, o_some, oK_some, sl_tup, sl_loc, e_rev, revK_some, rv_tup, rv_loc, e_pop, popK_some, e_comp, it_tup, it_loc, it_enumT, it_enumL, it_zipT, it_zipL, e_dict, B_nil, B_cons, seqK_nx, seqK_ret, seqK_brk, seqK_cont, S_asg, asgK_some, nxK_some, bd_nm, bd_tup, bd_nil, bd_cons, bdK_some, S_par, parK_some, sa_nil, sa_cons, S_setI, stK_some, stK1_some, stK2_some, nxS_some, S_app, appK2_some, S_popS, popSK_some, S_ret, retK_some, S_retN, S_pass, S_brk, S_cont, S_ite, ifK_t, ifK_f, forK_some, getA, getA0, setA, setA0, lenA, appA, catA, nilA, lenC, len0, g_0, t_0, g_1, t_1, g_2, t_2, g_3, t_3, g_4, t_4, g_5, t_5, g_6, t_6, g_7, t_7, g_8, t_8, g_9, t_9, g_10, t_10, g_11, t_11, g_12, t_12, g_13, t_13, bindS, S_whil, S_for, compK_some]
/-! outer parts -/
theorem r_is_flat (h : tb "is_flat" = some d_is_flat) (f : List Rat) : runF cst tb (k + 1) "is_flat" [eP f] S = some (.bl (decide (f.length < 2)), S) := by
  refine run_ret0 h rfl ?_ trivial
  have e : decide ((f.length : Int) < 2) = decide (f.length < 2) := by
    rw [Bool.eq_iff_iff]
    simp
    omega
  simp only [d_is_flat, List.map, List.replicate, Nat.sub_self, List.cons_append, List.nil_append, b_lenP, e, vK_some, e_var, e_lit, lit_non, lit_bl, lit_int, lit_str, e_glob, oneK_some, e_bin, bin1_some, bin2_some, d_add, d_sub, e_neg, negK_some, e_cmp, cmp1_some, cmp2_some, map_some2, c_lt, c_le, c_gt, c_ge, c_eqI, c_neI, c_eqS, c_neS, tK_some, notK_some, blK_some, e_not, e_and, e_or, t_not, t_and, t_or, t_cmp, t_call, t_blt, a_nil, a_cons, andK_t, andK_f, o_nil, o_cons, orK_t, orK_f, e_ite, iteK_t, iteK_f, s_nil, s_cons, es1_some, es2_some, e_tup, tupK0, tupK1, tupK2, tupK3, tupK4, tupK5, e_lst, lstK0, lstK1, e_call, calK_some, e_blt, bltK_some, b_gcd, b_abs, b_int, b_max, b_min, b_lenT, b_lenL, b_tupT, b_tupL, b_lstT, b_lstL, b_all, items_lst, items_ro, map_some3, e_idx, idx1_some, idx2_some, i_tup, i_loc, at_0, at_1, at_2, at_3, e_slice, slK_some, slK1_some, slK2_some, o_none, o_some, oK_some, sl_tup, sl_loc, e_rev, revK_some, rv_tup, rv_loc, e_pop, popK_some, e_comp, it_tup, it_loc, it_enumT, it_enumL, it_zipT, it_zipL, e_dict, B_nil, B_cons, seqK_nx, seqK_ret, seqK_brk, seqK_cont, S_asg, asgK_some, nxK_some, bd_nm, bd_tup, bd_nil, bd_cons, bdK_some, S_par, parK_some, sa_nil, sa_cons, S_setI, stK_some, stK1_some, stK2_some, nxS_some, S_app, appK2_some, S_popS, popSK_some, S_ret, retK_some, S_retN, S_pass, S_brk, S_cont, S_ite, ifK_t, ifK_f, forK_some, getA, getA0, setA, setA0, lenA, appA, catA, nilA, lenC, len0, g_0, t_0, g_1, t_1, g_2, t_2, g_3, t_3, g_4, t_4, g_5, t_5, g_6, t_6, g_7, t_7, g_8, t_8, g_9, t_9, g_10, t_10, g_11, t_11, g_12, t_12, g_13, t_13, bindS, S_whil, S_for, compK_some]
theorem bools_map {α : Type} (g : α → Bool) : ∀ l : List α, bools (l.map fun a => D.bl (g a)) = some (l.map g)
  | [] => rfl
  | a :: l => by
    have := bools_map g l
    simp only [List.map, bools, this, Option.map_some]
def allFlat (ds : List (List Rat)) : Bool := ds.all fun f => decide (f.length < 2)
theorem r_are_fraction_digits (h0 : tb "is_flat" = some d_is_flat) (h : tb "are_fraction_digits" = some d_are_fraction_digits) (ds : List (List Rat)) (hl : ds.length < 1000) : runF cst tb (k + 2) "are_fraction_digits" [.tup (ds.map eP)] S = some (.bl (allFlat ds), S) := by
  refine run_ret (G := [.lst (ds.map fun f => D.bl (decide (f.length < 2)))]) h rfl ?_ trivial
  have hc := compI_map (S := S) (C := ⟨runF cst tb (k + 1), cst⟩) (t := .nm 1) (ifs := []) (elt := .call "is_flat" [.var 1]) (own := [1]) (ρ := [some (.tup (ds.map eP)), none])
    (xs := ds.map eP) (L := []) (fun i => .bl (decide ((ds.getD i []).length < 2))) (by simp) (by simp [sizeLine]; omega) (fun i x acc e => by
      obtain ⟨a, ha, rfl, hi⟩ := map_get e
      refine cs0 (ρ1 := [some (.tup (ds.map eP)), some (eP a)]) (by simp only [w_nil, w_cons, vK_some, e_var, e_lit, lit_non, lit_bl, lit_int, lit_str, e_glob, oneK_some, e_bin, bin1_some, bin2_some, d_add, d_sub, e_neg, negK_some, e_cmp, cmp1_some, cmp2_some, map_some2, c_lt, c_le, c_gt, c_ge, c_eqI, c_neI, c_eqS, c_neS, tK_some, notK_some, blK_some, e_not, e_and, e_or, t_not, t_and, t_or, t_cmp, t_call, t_blt, a_nil, a_cons, andK_t, andK_f, o_nil, o_cons, orK_t, orK_f, e_ite, iteK_t, iteK_f, s_nil, s_cons, es1_some, es2_some, e_tup, tupK0, tupK1, tupK2, tupK3, tupK4, tupK5, e_lst, lstK0, lstK1, e_call, calK_some, e_blt, bltK_some, b_gcd, b_abs, b_int, b_max, b_min, b_lenT, b_lenL, b_tupT, b_tupL, b_lstT, b_lstL, b_all, items_lst, items_ro, map_some3, e_idx, idx1_some, idx2_some, i_tup, i_loc, at_0, at_1, at_2, at_3, e_slice, slK_some, slK1_some, slK2_some, o_none, o_some, oK_some, sl_tup, sl_loc, e_rev, revK_some, rv_tup, rv_loc, e_pop, popK_some, e_comp, it_tup, it_loc, it_enumT, it_enumL, it_zipT, it_zipL, e_dict, B_nil, B_cons, seqK_nx, seqK_ret, seqK_brk, seqK_cont, S_asg, asgK_some, nxK_some, bd_nm, bd_tup, bd_nil, bd_cons, bdK_some, S_par, parK_some, sa_nil, sa_cons, S_setI, stK_some, stK1_some, stK2_some, nxS_some, S_app, appK2_some, S_popS, popSK_some, S_ret, retK_some, S_retN, S_pass, S_brk, S_cont, S_ite, ifK_t, ifK_f, forK_some, getA, getA0, setA, setA0, lenA, appA, catA, nilA, lenC, len0, g_0, t_0, g_1, t_1, g_2, t_2, g_3, t_3, g_4, t_4, g_5, t_5, g_6, t_6, g_7, t_7, g_8, t_8, g_9, t_9, g_10, t_10, g_11, t_11, g_12, t_12, g_13, t_13, bindS, S_whil, S_for, compK_some]) ?_
      have r := fun k S => r_is_flat (cst := cst) (k := k) (S := S) h0 a
      have hg : ds.getD i [] = a := by rw [List.getD_eq_getElem?_getD, ha]; rfl
      rw [hg]
      simp only [r, vK_some, e_var, e_lit, lit_non, lit_bl, lit_int, lit_str, e_glob, oneK_some, e_bin, bin1_some, bin2_some, d_add, d_sub, e_neg, negK_some, e_cmp, cmp1_some, cmp2_some, map_some2, c_lt, c_le, c_gt, c_ge, c_eqI, c_neI, c_eqS, c_neS, tK_some, notK_some, blK_some, e_not, e_and, e_or, t_not, t_and, t_or, t_cmp, t_call, t_blt, a_nil, a_cons, andK_t, andK_f, o_nil, o_cons, orK_t, orK_f, e_ite, iteK_t, iteK_f, s_nil, s_cons, es1_some, es2_some, e_tup, tupK0, tupK1, tupK2, tupK3, tupK4, tupK5, e_lst, lstK0, lstK1, e_call, calK_some, e_blt, bltK_some, b_gcd, b_abs, b_int, b_max, b_min, b_lenT, b_lenL, b_tupT, b_tupL, b_lstT, b_lstL, b_all, items_lst, items_ro, map_some3, e_idx, idx1_some, idx2_some, i_tup, i_loc, at_0, at_1, at_2, at_3, e_slice, slK_some, slK1_some, slK2_some, o_none, o_some, oK_some, sl_tup, sl_loc, e_rev, revK_some, rv_tup, rv_loc, e_pop, popK_some, e_comp, it_tup, it_loc, it_enumT, it_enumL, it_zipT, it_zipL, e_dict, B_nil, B_cons, seqK_nx, seqK_ret, seqK_brk, seqK_cont, S_asg, asgK_some, nxK_some, bd_nm, bd_tup, bd_nil, bd_cons, bdK_some, S_par, parK_some, sa_nil, sa_cons, S_setI, stK_some, stK1_some, stK2_some, nxS_some, S_app, appK2_some, S_popS, popSK_some, S_ret, retK_some, S_retN, S_pass, S_brk, S_cont, S_ite, ifK_t, ifK_f, forK_some, getA, getA0, setA, setA0, lenA, appA, catA, nilA, lenC, len0, g_0, t_0, g_1, t_1, g_2, t_2, g_3, t_3, g_4, t_4, g_5, t_5, g_6, t_6, g_7, t_7, g_8, t_8, g_9, t_9, g_10, t_10, g_11, t_11, g_12, t_12, g_13, t_13, bindS, S_whil, S_for, compK_some])
  rw [List.length_map, range_map ds (fun f => D.bl (decide (f.length < 2))) []] at hc
  have e : (some (ds.map fun f => D.bl (decide (f.length < 2)))).bind bools = some (ds.map fun f => decide (f.length < 2)) := bools_map _ _
  simp only [d_are_fraction_digits, List.map, List.replicate, Nat.reduceSub, List.cons_append, List.nil_append, hc, bools_map, vK_some, e_var, e_lit, lit_non, lit_bl, lit_int, lit_str, e_glob, oneK_some, e_bin, bin1_some, bin2_some, d_add, d_sub, e_neg, negK_some, e_cmp, cmp1_some, cmp2_some, map_some2, c_lt, c_le, c_gt, c_ge, c_eqI, c_neI, c_eqS, c_neS, tK_some, notK_some, blK_some, e_not, e_and, e_or, t_not, t_and, t_or, t_cmp, t_call, t_blt, a_nil, a_cons, andK_t, andK_f, o_nil, o_cons, orK_t, orK_f, e_ite, iteK_t, iteK_f, s_nil, s_cons, es1_some, es2_some, e_tup, tupK0, tupK1, tupK2, tupK3, tupK4, tupK5, e_lst, lstK0, lstK1, e_call, calK_some, e_blt, bltK_some, b_gcd, b_abs, b_int, b_max, b_min, b_lenT, b_lenL, b_tupT, b_tupL, b_lstT, b_lstL, b_all, items_lst, items_ro, map_some3, e_idx, idx1_some, idx2_some, i_tup, i_loc, at_0, at_1, at_2, at_3, e_slice, slK_some, slK1_some, slK2_some, o_none, o_some, oK_some, sl_tup, sl_loc, e_rev, revK_some, rv_tup, rv_loc, e_pop, popK_some, e_comp, it_tup, it_loc, it_enumT, it_enumL, it_zipT, it_zipL, e_dict, B_nil, B_cons, seqK_nx, seqK_ret, seqK_brk, seqK_cont, S_asg, asgK_some, nxK_some, bd_nm, bd_tup, bd_nil, bd_cons, bdK_some, S_par, parK_some, sa_nil, sa_cons, S_setI, stK_some, stK1_some, stK2_some, nxS_some, S_app, appK2_some, S_popS, popSK_some, S_ret, retK_some, S_retN, S_pass, S_brk, S_cont, S_ite, ifK_t, ifK_f, forK_some, getA, getA0, setA, setA0, lenA, appA, catA, nilA, lenC, len0, g_0, t_0, g_1, t_1, g_2, t_2, g_3, t_3, g_4, t_4, g_5, t_5, g_6, t_6, g_7, t_7, g_8, t_8, g_9, t_9, g_10, t_10, g_11, t_11, g_12, t_12, g_13, t_13, bindS, S_whil, S_for, compK_some]
  simp [allFlat]
def pouter (f h : List Rat) : List Rat := trim ((pdigits h f.length f).map fun d => co d 0)
theorem pdigits_len (h : List Rat) : ∀ (n : Nat) (f : List Rat), (pdigits h n f).length ≤ n
  | 0, f => Nat.le_refl _
  | n + 1, f => by
    rw [pdigits]
    split
    · exact Nat.zero_le _
    · rw [List.length_cons]
      exact Nat.succ_le_succ (pdigits_len h n _)
structure OuT (cst : Str → Option D) (tb : Str → Option FD) : Prop extends DgT cst tb where
  at' : tb "number_at" = some d_number_at
  isFlat : tb "is_flat" = some d_is_flat
  areF : tb "are_fraction_digits" = some d_are_fraction_digits
  outer : tb "outer_part" = some d_outer_part
theorem r_outer_part (T : OuT cst tb) {h f : List Rat} (q : DgOk h f) (lf : f.length < 1000) : runF cst tb (k + 6) "outer_part" [eP f, eP h] S = some (if allFlat (pdigits h f.length f) = true then eP (pouter f h) else .non, S) := by
  have hdl := pdigits_len h f.length f
  have r1 := fun k S => r_digits_of (cst := cst) (tb := tb) (k := k) (S := S) T.toDgT q lf
  have r2 := fun k S => r_are_fraction_digits (cst := cst) (tb := tb) (k := k) (S := S) T.isFlat T.areF (pdigits h f.length f) (by omega)
  by_cases ha : allFlat (pdigits h f.length f) = true
  · rw [if_pos ha]
    rw [ha] at r2
    refine run_ret (G := [.lst (((pdigits h f.length f).map fun d => co d 0).map eF)]) T.outer rfl ?_ (NoLoc_eP _)
    have hc := compI_map (S := S) (C := ⟨runF cst tb (k + 5), cst⟩) (t := .nm 3) (ifs := []) (elt := .call "number_at" [.var 3, .lit (.int 0)]) (own := [3]) (ρ := [some (eP f), some (eP h), some (.tup ((pdigits h f.length f).map eP)), none])
      (xs := (pdigits h f.length f).map eP) (L := []) (fun i => eF (co ((pdigits h f.length f).getD i []) 0)) (by simp) (by simp [sizeLine]; omega) (fun i x acc e => by
        obtain ⟨a, ha, rfl, hi⟩ := map_get e
        refine cs0 (ρ1 := [some (eP f), some (eP h), some (.tup ((pdigits h f.length f).map eP)), some (eP a)]) (by simp only [w_nil, w_cons, vK_some, e_var, e_lit, lit_non, lit_bl, lit_int, lit_str, e_glob, oneK_some, e_bin, bin1_some, bin2_some, d_add, d_sub, e_neg, negK_some, e_cmp, cmp1_some, cmp2_some, map_some2, c_lt, c_le, c_gt, c_ge, c_eqI, c_neI, c_eqS, c_neS, tK_some, notK_some, blK_some, e_not, e_and, e_or, t_not, t_and, t_or, t_cmp, t_call, t_blt, a_nil, a_cons, andK_t, andK_f, o_nil, o_cons, orK_t, orK_f, e_ite, iteK_t, iteK_f, s_nil, s_cons, es1_some, es2_some, e_tup, tupK0, tupK1, tupK2, tupK3, tupK4, tupK5, e_lst, lstK0, lstK1, e_call, calK_some, e_blt, bltK_some, b_gcd, b_abs, b_int, b_max, b_min, b_lenT, b_lenL, b_tupT, b_tupL, b_lstT, b_lstL, b_all, items_lst, items_ro, map_some3, e_idx, idx1_some, idx2_some, i_tup, i_loc, at_0, at_1, at_2, at_3, e_slice, slK_some, slK1_some, slK2_some, o_none, o_some, oK_some, sl_tup, sl_loc, e_rev, revK_some, rv_tup, rv_loc, e_pop, popK_some, e_comp, it_tup, it_loc, it_enumT, it_enumL, it_zipT, it_zipL, e_dict, B_nil, B_cons, seqK_nx, seqK_ret, seqK_brk, seqK_cont, S_asg, asgK_some, nxK_some, bd_nm, bd_tup, bd_nil, bd_cons, bdK_some, S_par, parK_some, sa_nil, sa_cons, S_setI, stK_some, stK1_some, stK2_some, nxS_some, S_app, appK2_some, S_popS, popSK_some, S_ret, retK_some, S_retN, S_pass, S_brk, S_cont, S_ite, ifK_t, ifK_f, forK_some, getA, getA0, setA, setA0, lenA, appA, catA, nilA, lenC, len0, g_0, t_0, g_1, t_1, g_2, t_2, g_3, t_3, g_4, t_4, g_5, t_5, g_6, t_6, g_7, t_7, g_8, t_8, g_9, t_9, g_10, t_10, g_11, t_11, g_12, t_12, g_13, t_13, bindS, S_whil, S_for, compK_some]) ?_
        have r := fun k S => r_number_at (cst := cst) (k := k) (S := S) T.at' T.cs.none a 0
        have hg : (pdigits h f.length f).getD i [] = a := by rw [List.getD_eq_getElem?_getD, ha]; rfl
        rw [hg]
        simp only [Int.natCast_zero] at r
        simp only [r, vK_some, e_var, e_lit, lit_non, lit_bl, lit_int, lit_str, e_glob, oneK_some, e_bin, bin1_some, bin2_some, d_add, d_sub, e_neg, negK_some, e_cmp, cmp1_some, cmp2_some, map_some2, c_lt, c_le, c_gt, c_ge, c_eqI, c_neI, c_eqS, c_neS, tK_some, notK_some, blK_some, e_not, e_and, e_or, t_not, t_and, t_or, t_cmp, t_call, t_blt, a_nil, a_cons, andK_t, andK_f, o_nil, o_cons, orK_t, orK_f, e_ite, iteK_t, iteK_f, s_nil, s_cons, es1_some, es2_some, e_tup, tupK0, tupK1, tupK2, tupK3, tupK4, tupK5, e_lst, lstK0, lstK1, e_call, calK_some, e_blt, bltK_some, b_gcd, b_abs, b_int, b_max, b_min, b_lenT, b_lenL, b_tupT, b_tupL, b_lstT, b_lstL, b_all, items_lst, items_ro, map_some3, e_idx, idx1_some, idx2_some, i_tup, i_loc, at_0, at_1, at_2, at_3, e_slice, slK_some, slK1_some, slK2_some, o_none, o_some, oK_some, sl_tup, sl_loc, e_rev, revK_some, rv_tup, rv_loc, e_pop, popK_some, e_comp, it_tup, it_loc, it_enumT, it_enumL, it_zipT, it_zipL, e_dict, B_nil, B_cons, seqK_nx, seqK_ret, seqK_brk, seqK_cont, S_asg, asgK_some, nxK_some, bd_nm, bd_tup, bd_nil, bd_cons, bdK_some, S_par, parK_some, sa_nil, sa_cons, S_setI, stK_some, stK1_some, stK2_some, nxS_some, S_app, appK2_some, S_popS, popSK_some, S_ret, retK_some, S_retN, S_pass, S_brk, S_cont, S_ite, ifK_t, ifK_f, forK_some, getA, getA0, setA, setA0, lenA, appA, catA, nilA, lenC, len0, g_0, t_0, g_1, t_1, g_2, t_2, g_3, t_3, g_4, t_4, g_5, t_5, g_6, t_6, g_7, t_7, g_8, t_8, g_9, t_9, g_10, t_10, g_11, t_11, g_12, t_12, g_13, t_13, bindS, S_whil, S_for, compK_some])
    rw [List.length_map, range_map (pdigits h f.length f) (fun d => eF (co d 0)) []] at hc
    have e2 : ((pdigits h f.length f).map fun d => eF (co d 0)) = ((pdigits h f.length f).map fun d => co d 0).map eF := by rw [List.map_map]; rfl
    rw [e2] at hc
    have r := r_poly_of (cst := cst) (tb := tb) (k := k + 4) (S := S ++ [.lst (((pdigits h f.length f).map fun d => co d 0).map eF)]) T.of T.cs.none (d := .loc S.length) (f := (pdigits h f.length f).map fun d => co d 0) (by rw [b_lstL, getA0]; rfl)
    simp only [d_outer_part, List.map, List.replicate, Nat.reduceSub, List.cons_append, List.nil_append, r1, r2, hc, r, vK_some, e_var, e_lit, lit_non, lit_bl, lit_int, lit_str, e_glob, oneK_some, e_bin, bin1_some, bin2_some, d_add, d_sub, e_neg, negK_some, e_cmp, cmp1_some, cmp2_some, map_some2, c_lt, c_le, c_gt, c_ge, c_eqI, c_neI, c_eqS, c_neS, tK_some, notK_some, blK_some, e_not, e_and, e_or, t_not, t_and, t_or, t_cmp, t_call, t_blt, a_nil, a_cons, andK_t, andK_f, o_nil, o_cons, orK_t, orK_f, e_ite, iteK_t, iteK_f, s_nil, s_cons, es1_some, es2_some, e_tup, tupK0, tupK1, tupK2, tupK3, tupK4, tupK5, e_lst, lstK0, lstK1, e_call, calK_some, e_blt, bltK_some, b_gcd, b_abs, b_int, b_max, b_min, b_lenT, b_lenL, b_tupT, b_tupL, b_lstT, b_lstL, b_all, items_lst, items_ro, map_some3, e_idx, idx1_some, idx2_some, i_tup, i_loc, at_0, at_1, at_2, at_3, e_slice, slK_some, slK1_some, slK2_some, o_none, o_some, oK_some, sl_tup, sl_loc, e_rev, revK_some, rv_tup, rv_loc, e_pop, popK_some, e_comp, it_tup, it_loc, it_enumT, it_enumL, it_zipT, it_zipL, e_dict, B_nil, B_cons, seqK_nx, seqK_ret, seqK_brk, seqK_cont, S_asg, asgK_some, nxK_some, bd_nm, bd_tup, bd_nil, bd_cons, bdK_some, S_par, parK_some, sa_nil, sa_cons, S_setI, stK_some, stK1_some, stK2_some, nxS_some, S_app, appK2_some, S_popS, popSK_some, S_ret, retK_some, S_retN, S_pass, S_brk, S_cont, S_ite, ifK_t, ifK_f, forK_some, getA, getA0, setA, setA0, lenA, appA, catA, nilA, lenC, len0, g_0, t_0, g_1, t_1, g_2, t_2, g_3, t_3, g_4, t_4, g_5, t_5, g_6, t_6, g_7, t_7, g_8, t_8, g_9, t_9, g_10, t_10, g_11, t_11, g_12, t_12, g_13, t_13, bindS, S_whil, S_for, compK_some]
    rfl
  · rw [if_neg ha]
    rw [Bool.not_eq_true] at ha
    rw [ha] at r2
    refine run_ret0 T.outer rfl ?_ trivial
    simp only [d_outer_part, List.map, List.replicate, Nat.reduceSub, List.cons_append, List.nil_append, r1, r2, vK_some, e_var, e_lit, lit_non, lit_bl, lit_int, lit_str, e_glob, oneK_some, e_bin, bin1_some, bin2_some, d_add, d_sub, e_neg, negK_some, e_cmp, cmp1_some, cmp2_some, map_some2, c_lt, c_le, c_gt, c_ge, c_eqI, c_neI, c_eqS, c_neS, tK_some, notK_some, blK_some, e_not, e_and, e_or, t_not, t_and, t_or, t_cmp, t_call, t_blt, a_nil, a_cons, andK_t, andK_f, o_nil, o_cons, orK_t, orK_f, e_ite, iteK_t, iteK_f, s_nil, s_cons, es1_some, es2_some, e_tup, tupK0, tupK1, tupK2, tupK3, tupK4, tupK5, e_lst, lstK0, lstK1, e_call, calK_some, e_blt, bltK_some, b_gcd, b_abs, b_int, b_max, b_min, b_lenT, b_lenL, b_tupT, b_tupL, b_lstT, b_lstL, b_all, items_lst, items_ro, map_some3, e_idx, idx1_some, idx2_some, i_tup, i_loc, at_0, at_1, at_2, at_3, e_slice, slK_some, slK1_some, slK2_some, o_none, o_some, oK_some, sl_tup, sl_loc, e_rev, revK_some, rv_tup, rv_loc, e_pop, popK_some, e_comp, it_tup, it_loc, it_enumT, it_enumL, it_zipT, it_zipL, e_dict, B_nil, B_cons, seqK_nx, seqK_ret, seqK_brk, seqK_cont, S_asg, asgK_some, nxK_some, bd_nm, bd_tup, bd_nil, bd_cons, bdK_some, S_par, parK_some, sa_nil, sa_cons, S_setI, stK_some, stK1_some, stK2_some, nxS_some, S_app, appK2_some, S_popS, popSK_some, S_ret, retK_some, S_retN, S_pass, S_brk, S_cont, S_ite, ifK_t, ifK_f, forK_some, getA, getA0, setA, setA0, lenA, appA, catA, nilA, lenC, len0, g_0, t_0, g_1, t_1, g_2, t_2, g_3, t_3, g_4, t_4, g_5, t_5, g_6, t_6, g_7, t_7, g_8, t_8, g_9, t_9, g_10, t_10, g_11, t_11, g_12, t_12, g_13, t_13, bindS, S_whil, S_for, compK_some]
end
end Pf.Z

/-! Dickson's normals, exchanged steps, the rest of a wave. -/
namespace Pf.Z
open PySem PySem.Spec PyProof.Rows L2
section
variable {cst : Str → Option D} {tb : Str → Option FD} {k : Nat} {S : Sto}
/-- the numbers of Dickson's polynomials up to n are short -/
def DkB (B n : Nat) (t : Rat) : Prop := ∀ i, i ≤ n + 1 → Bd B (dk i t) ∧ (dk i t).length < 900
theorem DkB.mono {B n m : Nat} {t : Rat} (h : DkB B n t) (hm : m ≤ n) : DkB B m t := fun i hi => h i (by omega)
structure DnT (cst : Str → Option D) (tb : Str → Option FD) : Prop extends DcT cst tb where
  normal : tb "normal_of" = some d_normal_of
  dnormal : tb "dickson_normal" = some d_dickson_normal
theorem r_dickson_normal (T : DnT cst tb) {n : Nat} {t : Rat} {B C : Nat} (ht : Sz C t) (hb : DkB B n t) (hB : 2 * B + C + 2 ≤ 4000) (hn : n < 2 ^ 62) (hne : dk n t ≠ []) (h0 : lead (dk n t) ≠ 0) (hld : LdOk (dk n t)) :
    runF cst tb (k + 7) "dickson_normal" [.int (n : Int), eF t] S = some (eP (pnormal (dk n t)), S) := by
  refine run_ret0 T.dnormal rfl ?_ (NoLoc_eP _)
  have r1 := fun k S => r_dickson (cst := cst) (tb := tb) (k := k) (S := S) T.toDcT ht hb (by omega) hn
  obtain ⟨b1, l1⟩ := hb n (by omega)
  have r2 := fun k S => r_normal_of (cst := cst) (tb := tb) (k := k) (S := S) T.toBaT T.normal b1 (by omega) hne h0 hld (by omega)
  simp only [d_dickson_normal, List.map, List.replicate, Nat.sub_self, List.cons_append, List.nil_append, r1, r2, vK_some, e_var, e_lit, lit_non, lit_bl, lit_int, lit_str, e_glob, oneK_some, e_bin, bin1_some, bin2_some, d_add, d_sub, e_neg, negK_some, e_cmp, cmp1_some, cmp2_some, map_some2, c_lt, c_le, c_gt, c_ge, c_eqI, c_neI, c_eqS, c_neS, tK_some, notK_some, blK_some, e_not, e_and, e_or, t_not, t_and, t_or, t_cmp, t_call, t_blt, a_nil, a_cons, andK_t, andK_f, o_nil, o_cons, orK_t, orK_f, e_ite, iteK_t, iteK_f, s_nil, s_cons, es1_some, es2_some, e_tup, tupK0, tupK1, tupK2, tupK3, tupK4, tupK5, e_lst, lstK0, lstK1, e_call, calK_some, e_blt, bltK_some, b_gcd, b_abs, b_int, b_max, b_min, b_lenT, b_lenL, b_tupT, b_tupL, b_lstT, b_lstL, b_all, items_lst, items_ro, map_some3, e_idx, idx1_some, idx2_some, i_tup, i_loc, at_0, at_1, at_2, at_3, e_slice, slK_some, slK1_some, slK2_some, o_none, o_some, oK_some, sl_tup, sl_loc, e_rev, revK_some, rv_tup, rv_loc, e_pop, popK_some, e_comp, it_tup, it_loc, it_enumT, it_enumL, it_zipT, it_zipL, e_dict, B_nil, B_cons, seqK_nx, seqK_ret, seqK_brk, seqK_cont, S_asg, asgK_some, nxK_some, bd_nm, bd_tup, bd_nil, bd_cons, bdK_some, S_par, parK_some, sa_nil, sa_cons, S_setI, stK_some, stK1_some, stK2_some, nxS_some, S_app, appK2_some, S_popS, popSK_some, S_ret, retK_some, S_retN, S_pass, S_brk, S_cont, S_ite, ifK_t, ifK_f, forK_some, getA, getA0, setA, setA0, lenA, appA, catA, nilA, lenC, len0, g_0, t_0, g_1, t_1, g_2, t_2, g_3, t_3, g_4, t_4, g_5, t_5, g_6, t_6, g_7, t_7, g_8, t_8, g_9, t_9, g_10, t_10, g_11, t_11, g_12, t_12, g_13, t_13, bindS, S_whil, S_for, compK_some]
structure ExT (cst : Str → Option D) (tb : Str → Option FD) : Prop extends DcT cst tb where
  exch : tb "exchanged_steps" = some d_exchanged_steps
theorem r_exchanged_steps (T : ExT cst tb) {a b : Nat} {t : Rat} {B C : Nat} (ht : Sz C t) (h1 : DkB B a (t ^ b)) (h2 : DkB B b t) (h3 : DkB B b (t ^ a)) (h4 : DkB B a t) (ha : a < 60) (hb : b < 60) (hB : B + 60 * C + 4 ≤ 4000) :
    runF cst tb (k + 7) "exchanged_steps" [.int (a : Int), .int (b : Int), eF t] S = some (.tup [.tup [eP (dk a (t ^ b)), eP (dk b t)], .tup [eP (dk b (t ^ a)), eP (dk a t)]], S) := by
  refine run_ret0 T.exch rfl ?_ (by simp [NoLoc, NoLocs, NoLoc_eP])
  have m1 := Nat.mul_le_mul_right C (show a ≤ 60 by omega)
  have m2 := Nat.mul_le_mul_right C (show b ≤ 60 by omega)
  have p1 := fun k S => r_fraction_power (cst := cst) (tb := tb) (k := k) (S := S) T.fr T.ftimes T.fpower (n := a) ht (by omega) (by omega) (by omega)
  have p2 := fun k S => r_fraction_power (cst := cst) (tb := tb) (k := k) (S := S) T.fr T.ftimes T.fpower (n := b) ht (by omega) (by omega) (by omega)
  have r1 := fun k S => r_dickson (cst := cst) (tb := tb) (k := k) (S := S) T.toDcT (ht.pow b) h1 (by omega) (by omega)
  have r2 := fun k S => r_dickson (cst := cst) (tb := tb) (k := k) (S := S) T.toDcT ht h2 (by omega) (by omega)
  have r3 := fun k S => r_dickson (cst := cst) (tb := tb) (k := k) (S := S) T.toDcT (ht.pow a) h3 (by omega) (by omega)
  have r4 := fun k S => r_dickson (cst := cst) (tb := tb) (k := k) (S := S) T.toDcT ht h4 (by omega) (by omega)
  simp only [d_exchanged_steps, List.map, List.replicate, Nat.reduceSub, List.cons_append, List.nil_append, p1, p2, r1, r2, r3, r4, vK_some, e_var, e_lit, lit_non, lit_bl, lit_int, lit_str, e_glob, oneK_some, e_bin, bin1_some, bin2_some, d_add, d_sub, e_neg, negK_some, e_cmp, cmp1_some, cmp2_some, map_some2, c_lt, c_le, c_gt, c_ge, c_eqI, c_neI, c_eqS, c_neS, tK_some, notK_some, blK_some, e_not, e_and, e_or, t_not, t_and, t_or, t_cmp, t_call, t_blt, a_nil, a_cons, andK_t, andK_f, o_nil, o_cons, orK_t, orK_f, e_ite, iteK_t, iteK_f, s_nil, s_cons, es1_some, es2_some, e_tup, tupK0, tupK1, tupK2, tupK3, tupK4, tupK5, e_lst, lstK0, lstK1, e_call, calK_some, e_blt, bltK_some, b_gcd, b_abs, b_int, b_max, b_min, b_lenT, b_lenL, b_tupT, b_tupL, b_lstT, b_lstL, b_all, items_lst, items_ro, map_some3, e_idx, idx1_some, idx2_some, i_tup, i_loc, at_0, at_1, at_2, at_3, e_slice, slK_some, slK1_some, slK2_some, o_none, o_some, oK_some, sl_tup, sl_loc, e_rev, revK_some, rv_tup, rv_loc, e_pop, popK_some, e_comp, it_tup, it_loc, it_enumT, it_enumL, it_zipT, it_zipL, e_dict, B_nil, B_cons, seqK_nx, seqK_ret, seqK_brk, seqK_cont, S_asg, asgK_some, nxK_some, bd_nm, bd_tup, bd_nil, bd_cons, bdK_some, S_par, parK_some, sa_nil, sa_cons, S_setI, stK_some, stK1_some, stK2_some, nxS_some, S_app, appK2_some, S_popS, popSK_some, S_ret, retK_some, S_retN, S_pass, S_brk, S_cont, S_ite, ifK_t, ifK_f, forK_some, getA, getA0, setA, setA0, lenA, appA, catA, nilA, lenC, len0, g_0, t_0, g_1, t_1, g_2, t_2, g_3, t_3, g_4, t_4, g_5, t_5, g_6, t_6, g_7, t_7, g_8, t_8, g_9, t_9, g_10, t_10, g_11, t_11, g_12, t_12, g_13, t_13, bindS, S_whil, S_for, compK_some]
/-- the rest of the wave's equation -/
def wrest (f : List Rat) (t : Rat) : List Rat :=
  pless (pmul (trim [-4 * t, 0, 1]) (ppow (pslope f) 2)) (poften (((f.length - 1) * (f.length - 1) : Nat) : Rat) (pless (ppow f 2) (trim [4 * t ^ (f.length - 1)])))
structure WaT (cst : Str → Option D) (tb : Str → Option FD) : Prop extends BaT cst tb where
  wave : tb "wave_rest" = some d_wave_rest
theorem smN_left (n : Nat) (f : Nat → Nat) : smN (n + 1) f = f 0 + smN n fun i => f (i + 1) := by
  induction n with
  | zero => rw [smN, smN, smN]; omega
  | succ n ih => rw [smN, ih, smN]; omega
theorem Bd.cons {B C : Nat} {a : Rat} {f : List Rat} (ha : Sz B a) (hf : Bd C f) : Bd (B + C + 1) (a :: f) := by
  obtain ⟨E, k1, k2, k3, k4⟩ := hf
  have q := ov_scale a.den_pos E k1 (Nat.dvd_refl a.den)
  have q2 : ∀ i, (co f i).den ∣ a.den * E ∧ ov (a.den * E) (co f i) = ov E (co f i) * (a.den : Int) := fun i => by
    have := ov_scale k1 a.den a.den_pos (k3 i)
    rwa [Nat.mul_comm E] at this
  have hc2 : ov a.den a = a.num := by
    unfold ov
    rw [Nat.div_self a.den_pos]
    simp
  have hDE : a.den * E < 2 ^ (B + C) := by rw [Nat.pow_add]; exact Nat.mul_lt_mul'' ha.2 k2
  refine ⟨a.den * E, Nat.mul_pos a.den_pos k1, by rw [Nat.pow_succ]; omega, fun i => ?_, ?_⟩
  · cases i with
    | zero => exact q.1
    | succ i => exact (q2 i).1
  · unfold l1
    rw [List.length_cons, smN_left, co_cons0, q.2, hc2]
    have e : (smN f.length fun i => (ov (a.den * E) (co (a :: f) (i + 1))).natAbs) = a.den * l1 E f := by
      unfold l1
      rw [← smN_mul]
      refine smN_congr fun i _ => ?_
      rw [co_consS, (q2 i).2, Int.natAbs_mul, Int.natAbs_natCast, Nat.mul_comm]
    rw [e, Int.natAbs_mul, Int.natAbs_natCast]
    have b1 : a.num.natAbs * E < 2 ^ (B + C) := by rw [Nat.pow_add]; exact Nat.mul_lt_mul'' ha.1 k2
    have b2 : a.den * l1 E f < 2 ^ (B + C) := by rw [Nat.pow_add]; exact Nat.mul_lt_mul'' ha.2 k4
    rw [Nat.pow_succ]
    omega
theorem r_wave_rest (T : WaT cst tb) {f : List Rat} {t : Rat} {B C : Nat} (ht : Sz C t) (hf : Bd B f) (hne : f ≠ []) (hl : f.length < 100) (hB : 4 * B + 200 * C + 100 ≤ 4000) :
    runF cst tb (k + 6) "wave_rest" [eP f, eF t] S = some (eP (wrest f t), S) := by
  suffices hw : ∀ w, w = wrest f t → runF cst tb (k + 6) "wave_rest" [eP f, eF t] S = some (eP w, S) from hw _ rfl
  intro w hw
  have hpos := List.length_pos_iff.2 hne
  have m1 := Nat.mul_le_mul_right C (show f.length - 1 ≤ 100 by omega)
  have s4 : Sz 3 (-4 : Rat) := ⟨by decide, by decide⟩
  have s4' : Sz 3 (4 : Rat) := ⟨by decide, by decide⟩
  have e4 : (.tup [.int (-4), .int 1] : D) = eF (-4) := rfl
  have e4' : (.tup [.int 4, .int 1] : D) = eF 4 := rfl
  have hn : (f.length : Int) - 1 = ((f.length - 1 : Nat) : Int) := by omega
  have tp := ht.pow (f.length - 1)
  have bs := Bd.slope hf (by omega)
  have ls := pslope_len f
  have p1 := fun k S => r_fraction_power (cst := cst) (tb := tb) (k := k) (S := S) T.fr T.ftimes T.fpower (n := f.length - 1) ht (by omega) (by omega) (by omega)
  have p2 := fun k S => r_fraction_times (cst := cst) (tb := tb) (k := k) (S := S) T.fr T.ftimes (s4.mono (show 3 ≤ 4000 by decide)) (ht.mono (show C ≤ 4000 by omega))
  have p3 := fun k S => r_fraction_times (cst := cst) (tb := tb) (k := k) (S := S) T.fr T.ftimes (s4'.mono (show 3 ≤ 4000 by decide)) (tp.mono (show _ ≤ 4000 by omega))
  have q1 := fun k S => r_slope_of (cst := cst) (tb := tb) (k := k) (S := S) T.toPoT T.ftimes T.slope (hf.sz.mono (show B ≤ 4000 by omega)) (by omega)
  have q2 := fun k S => r_flat_of (cst := cst) (tb := tb) (k := k) (S := S) T.toPoT T.flat (4 * t ^ (f.length - 1))
  have q3 : ∀ (k : Nat) (S : Sto), runF cst tb (k + 4) "poly_power" [eP f, .int 2] S = some (eP (ppow f 2), S) := fun k S => r_poly_power (cst := cst) (tb := tb) (k := k) (S := S) T.ti T.ppower (n := 2) hf (by omega) (by omega) (by omega) (by omega) (by decide)
  have q4 : ∀ (k : Nat) (S : Sto), runF cst tb (k + 4) "poly_power" [eP (pslope f), .int 2] S = some (eP (ppow (pslope f) 2), S) := fun k S => r_poly_power (cst := cst) (tb := tb) (k := k) (S := S) T.ti T.ppower (n := 2) bs (by omega) (by omega) (by omega) (by omega) (by decide)
  have bfar : Bd (3 + ((f.length - 1) * C + 1)) (trim [4 * t ^ (f.length - 1)]) := (Bd.flat (Sz.mul s4' tp)).trimmed
  have lfar := len1 (4 * t ^ (f.length - 1))
  have bf2 : Bd (2 * B + 1) (ppow f 2) := hf.pow 2
  have lf2 := ppow_len f 2
  have bs2 : Bd (2 * (B + 10) + 1) (ppow (pslope f) 2) := bs.pow 2
  have ls2 := ppow_len (pslope f) 2
  have q5 := fun k S => r_poly_less (cst := cst) (tb := tb) (k := k) (S := S) T.toSuT T.pless (bf2.sz.mono (show _ ≤ 4000 by omega)) (bfar.sz.mono (show _ ≤ 4000 by omega)) (by omega) (by omega)
  have b5 := bf2.less bfar
  have l5 := pless_len (ppow f 2) (trim [4 * t ^ (f.length - 1)])
  have hnn : (f.length - 1) * (f.length - 1) < 2 ^ 14 := by
    have := Nat.mul_le_mul (show f.length - 1 ≤ 100 by omega) (show f.length - 1 ≤ 100 by omega)
    omega
  have sn : Sz 14 (((f.length - 1) * (f.length - 1) : Nat) : Rat) := Sz_nat hnn (by decide)
  have q6 := fun k S => r_poly_often (cst := cst) (tb := tb) (k := k) (S := S) T.toPoT T.poften T.ftimes (sn.mono (show 14 ≤ 4000 by decide)) (b5.sz.mono (show _ ≤ 4000 by omega)) (by omega)
  have b6 := Bd.often sn b5
  have l6 := poften_len (((f.length - 1) * (f.length - 1) : Nat) : Rat) (pless (ppow f 2) (trim [4 * t ^ (f.length - 1)]))
  have br : Bd (3 + C + (1 + (1 + 1 + 1) + 1) + 1) (trim [-4 * t, 0, 1]) := (Bd.cons (Sz.mul s4 ht) (Bd.cons (Sz0 0) (Bd.cons (Sz_one (B := 0)) (Bd.nil (B := 0))))).trimmed
  have lr := trim_len [-4 * t, 0, 1]
  simp only [List.length_cons, List.length_nil] at lr
  have q7 := fun k S => r_poly_times (cst := cst) (tb := tb) (k := k) (S := S) T.ti (br.bd4 (by omega) (by omega)) (bs2.bd4 (by omega) (by omega))
  have b7 := br.mul bs2
  have l7 := pmul_len (trim [-4 * t, 0, 1]) (ppow (pslope f) 2)
  have q8 := fun k S => r_poly_less (cst := cst) (tb := tb) (k := k) (S := S) T.toSuT T.pless (b7.sz.mono (show _ ≤ 4000 by omega)) (b6.sz.mono (show _ ≤ 4000 by omega)) (by omega) (by omega)
  have hz := it_rng (S := S) 0 (by decide)
  have r0 := r_poly_of (cst := cst) (tb := tb) (k := k + 4) (S := S ++ [.lst [eF (-4 * t), eF 0, eF 1]]) T.of T.cs.none (d := .loc S.length) (f := [-4 * t, 0, 1]) (by rw [b_lstL, getA0]; rfl)
  have hlst : ∀ S : Sto, lstK (some ([eF (-4 * t), eF 0, eF 1], S)) = some (.loc S.length, S ++ [.lst [eF (-4 * t), eF 0, eF 1]]) := fun S => rfl
  have hm := fun S => d_mul (S := S) (i := ((f.length - 1 : Nat) : Int)) (j := ((f.length - 1 : Nat) : Int)) (mulOk_lt (B := 62) (by decide) (by omega) (by omega))
  have enn : (.tup [.int (((f.length - 1 : Nat) : Int) * ((f.length - 1 : Nat) : Int)), .int 1] : D) = eF (((f.length - 1) * (f.length - 1) : Nat) : Rat) := by
    rw [eF_nat, Int.natCast_mul]
  refine run_ret (G := [.lst [eF (-4 * t), eF 0, eF 1]]) T.wave rfl ?_ (NoLoc_eP _)
  simp only [d_wave_rest, List.map, List.replicate, Nat.reduceSub, List.cons_append, List.nil_append, b_lenP, hn, q1, e4, e4', p1, p2, p3, T.cs.none, T.cs.one, hlst, r0, q2, hm, enn, q3, q4, q5, q6, q7, q8, vK_some, e_var, e_lit, lit_non, lit_bl, lit_int, lit_str, e_glob, oneK_some, e_bin, bin1_some, bin2_some, d_add, d_sub, e_neg, negK_some, e_cmp, cmp1_some, cmp2_some, map_some2, c_lt, c_le, c_gt, c_ge, c_eqI, c_neI, c_eqS, c_neS, tK_some, notK_some, blK_some, e_not, e_and, e_or, t_not, t_and, t_or, t_cmp, t_call, t_blt, a_nil, a_cons, andK_t, andK_f, o_nil, o_cons, orK_t, orK_f, e_ite, iteK_t, iteK_f, s_nil, s_cons, es1_some, es2_some, e_tup, tupK0, tupK1, tupK2, tupK3, tupK4, tupK5, e_lst, lstK0, lstK1, e_call, calK_some, e_blt, bltK_some, b_gcd, b_abs, b_int, b_max, b_min, b_lenT, b_lenL, b_tupT, b_tupL, b_lstT, b_lstL, b_all, items_lst, items_ro, map_some3, e_idx, idx1_some, idx2_some, i_tup, i_loc, at_0, at_1, at_2, at_3, e_slice, slK_some, slK1_some, slK2_some, o_none, o_some, oK_some, sl_tup, sl_loc, e_rev, revK_some, rv_tup, rv_loc, e_pop, popK_some, e_comp, it_tup, it_loc, it_enumT, it_enumL, it_zipT, it_zipL, e_dict, B_nil, B_cons, seqK_nx, seqK_ret, seqK_brk, seqK_cont, S_asg, asgK_some, nxK_some, bd_nm, bd_tup, bd_nil, bd_cons, bdK_some, S_par, parK_some, sa_nil, sa_cons, S_setI, stK_some, stK1_some, stK2_some, nxS_some, S_app, appK2_some, S_popS, popSK_some, S_ret, retK_some, S_retN, S_pass, S_brk, S_cont, S_ite, ifK_t, ifK_f, forK_some, getA, getA0, setA, setA0, lenA, appA, catA, nilA, lenC, len0, g_0, t_0, g_1, t_1, g_2, t_2, g_3, t_3, g_4, t_4, g_5, t_5, g_6, t_6, g_7, t_7, g_8, t_8, g_9, t_9, g_10, t_10, g_11, t_11, g_12, t_12, g_13, t_13, bindS, S_whil, S_for, compK_some]
  rw [hw]
  rfl
end
end Pf.Z

/-! The law's own fractions and polynomials. -/
namespace Pf.Z
open PySem PySem.Spec PyProof.Rows L2
section
variable {cst : Str → Option D} {tb : Str → Option FD} {k : Nat} {S : Sto}
theorem while_step {c : En → Sto → Option (Bool × Sto)} {b : En → Sto → Option (Out × Sto)} {n : Nat} {ρ ρ' : En} {S S1 S' : Sto} (h1 : c ρ S = some (true, S1)) (h2 : b ρ S1 = some (.nx ρ', S')) : whileN c b (n + 1) ρ S = whileN c b n ρ' S' := by
  simp only [whileN, h1, h2, Option.bind_some, if_true]
theorem while_stop {c : En → Sto → Option (Bool × Sto)} {b : En → Sto → Option (Out × Sto)} {n : Nat} {ρ : En} {S S1 : Sto} (h1 : c ρ S = some (false, S1)) : whileN c b (n + 1) ρ S = some (.nx ρ, S1) := by
  simp only [whileN, h1, Option.bind_some]
  rfl
/-- Euclid -/
theorem low_loop (C : Cfg) (x y : Option D) : ∀ (b a : Nat), ∃ m, whileN (fun ρ1 S1 => evT C (.cmp .gt (.var 3) (.lit (.int 0))) ρ1 S1) (fun ρ1 S1 => evB C [.par [2, 3] [.var 3, .bin .mod (.blt "int" [.var 2]) (.var 3)]] ρ1 S1) m [x, y, some (.int (a : Int)), some (.int (b : Int))] S = some (.nx [x, y, some (.int (Nat.gcd a b : Nat)), some (.int 0)], S)
  | b, a => by
    have hc : evT C (.cmp .gt (.var 3) (.lit (.int 0))) [x, y, some (.int (a : Int)), some (.int (b : Int))] S = some (decide ((0 : Int) < (b : Int)), S) := by
      simp only [vK_some, e_var, e_lit, lit_non, lit_bl, lit_int, lit_str, e_glob, oneK_some, e_bin, bin1_some, bin2_some, d_add, d_sub, e_neg, negK_some, e_cmp, cmp1_some, cmp2_some, map_some2, c_lt, c_le, c_gt, c_ge, c_eqI, c_neI, c_eqS, c_neS, tK_some, notK_some, blK_some, e_not, e_and, e_or, t_not, t_and, t_or, t_cmp, t_call, t_blt, a_nil, a_cons, andK_t, andK_f, o_nil, o_cons, orK_t, orK_f, e_ite, iteK_t, iteK_f, s_nil, s_cons, es1_some, es2_some, e_tup, tupK0, tupK1, tupK2, tupK3, tupK4, tupK5, e_lst, lstK0, lstK1, e_call, calK_some, e_blt, bltK_some, b_gcd, b_abs, b_int, b_max, b_min, b_lenT, b_lenL, b_tupT, b_tupL, b_lstT, b_lstL, b_all, items_lst, items_ro, map_some3, e_idx, idx1_some, idx2_some, i_tup, i_loc, at_0, at_1, at_2, at_3, e_slice, slK_some, slK1_some, slK2_some, o_none, o_some, oK_some, sl_tup, sl_loc, e_rev, revK_some, rv_tup, rv_loc, e_pop, popK_some, e_comp, it_tup, it_loc, it_enumT, it_enumL, it_zipT, it_zipL, e_dict, B_nil, B_cons, seqK_nx, seqK_ret, seqK_brk, seqK_cont, S_asg, asgK_some, nxK_some, bd_nm, bd_tup, bd_nil, bd_cons, bdK_some, S_par, parK_some, sa_nil, sa_cons, S_setI, stK_some, stK1_some, stK2_some, nxS_some, S_app, appK2_some, S_popS, popSK_some, S_ret, retK_some, S_retN, S_pass, S_brk, S_cont, S_ite, ifK_t, ifK_f, forK_some, getA, getA0, setA, setA0, lenA, appA, catA, nilA, lenC, len0, g_0, t_0, g_1, t_1, g_2, t_2, g_3, t_3, g_4, t_4, g_5, t_5, g_6, t_6, g_7, t_7, g_8, t_8, g_9, t_9, g_10, t_10, g_11, t_11, g_12, t_12, g_13, t_13, bindS, S_whil, S_for, compK_some]
    by_cases hb : b = 0
    · subst hb
      refine ⟨1, ?_⟩
      rw [decide_eq_false (by omega)] at hc
      rw [while_stop hc, Nat.gcd_zero_right]
      rfl
    · obtain ⟨m, e⟩ := low_loop C x y (a % b) b
      refine ⟨m + 1, ?_⟩
      rw [decide_eq_true (by omega)] at hc
      have hd := fun S => d_mod (S := S) (i := (a : Int)) (j := (b : Int)) (by omega)
      have hm : (a : Int).fmod (b : Int) = ((a % b : Nat) : Int) := by
        rw [Int.fmod_eq_emod_of_nonneg _ (by omega)]
        rfl
      have hb' : evB C [.par [2, 3] [.var 3, .bin .mod (.blt "int" [.var 2]) (.var 3)]] [x, y, some (.int (a : Int)), some (.int (b : Int))] S = some (.nx [x, y, some (.int (b : Int)), some (.int ((a % b : Nat) : Int))], S) := by
        simp only [hd, hm, vK_some, e_var, e_lit, lit_non, lit_bl, lit_int, lit_str, e_glob, oneK_some, e_bin, bin1_some, bin2_some, d_add, d_sub, e_neg, negK_some, e_cmp, cmp1_some, cmp2_some, map_some2, c_lt, c_le, c_gt, c_ge, c_eqI, c_neI, c_eqS, c_neS, tK_some, notK_some, blK_some, e_not, e_and, e_or, t_not, t_and, t_or, t_cmp, t_call, t_blt, a_nil, a_cons, andK_t, andK_f, o_nil, o_cons, orK_t, orK_f, e_ite, iteK_t, iteK_f, s_nil, s_cons, es1_some, es2_some, e_tup, tupK0, tupK1, tupK2, tupK3, tupK4, tupK5, e_lst, lstK0, lstK1, e_call, calK_some, e_blt, bltK_some, b_gcd, b_abs, b_int, b_max, b_min, b_lenT, b_lenL, b_tupT, b_tupL, b_lstT, b_lstL, b_all, items_lst, items_ro, map_some3, e_idx, idx1_some, idx2_some, i_tup, i_loc, at_0, at_1, at_2, at_3, e_slice, slK_some, slK1_some, slK2_some, o_none, o_some, oK_some, sl_tup, sl_loc, e_rev, revK_some, rv_tup, rv_loc, e_pop, popK_some, e_comp, it_tup, it_loc, it_enumT, it_enumL, it_zipT, it_zipL, e_dict, B_nil, B_cons, seqK_nx, seqK_ret, seqK_brk, seqK_cont, S_asg, asgK_some, nxK_some, bd_nm, bd_tup, bd_nil, bd_cons, bdK_some, S_par, parK_some, sa_nil, sa_cons, S_setI, stK_some, stK1_some, stK2_some, nxS_some, S_app, appK2_some, S_popS, popSK_some, S_ret, retK_some, S_retN, S_pass, S_brk, S_cont, S_ite, ifK_t, ifK_f, forK_some, getA, getA0, setA, setA0, lenA, appA, catA, nilA, lenC, len0, g_0, t_0, g_1, t_1, g_2, t_2, g_3, t_3, g_4, t_4, g_5, t_5, g_6, t_6, g_7, t_7, g_8, t_8, g_9, t_9, g_10, t_10, g_11, t_11, g_12, t_12, g_13, t_13, bindS, S_whil, S_for, compK_some]
      rw [while_step hc hb', e, Nat.gcd_comm b, ← Nat.gcd_rec b a, Nat.gcd_comm]
termination_by b => b
decreasing_by exact Nat.mod_lt _ (by omega)
theorem abs_nat (a : Int) : (if a < 0 then -a else a) = (a.natAbs : Int) := by split <;> omega
theorem r_law_low (h : tb "_law_low" = some d__law_low) {p q : Int} (hl : LowOk p q) : runF cst tb (k + 1) "_law_low" [.int p, .int q] S = some (eF (Rat.divInt p q), S) := by
  obtain ⟨h0, h1⟩ := hl
  refine run_ret0 h rfl ?_ (NoLoc_eF _)
  rw [eF_divInt p q h0]
  obtain ⟨m, e⟩ := low_loop (S := S) ⟨runF cst tb k, cst⟩ (some (.int p)) (some (.int q)) q.natAbs p.natAbs
  have e' := whK_of e
  have h2 := h1
  by_cases hp : q > 0
  · rw [if_pos hp] at h2 ⊢
    have hd : decide ((0 : Int) < q) = true := decide_eq_true hp
    have f1 := fun i => d_fdiv (S := S) (i := i) h2
    simp only [d__law_low, List.map, List.replicate, Nat.reduceSub, List.cons_append, List.nil_append, abs_nat, e', hd, f1, vK_some, e_var, e_lit, lit_non, lit_bl, lit_int, lit_str, e_glob, oneK_some, e_bin, bin1_some, bin2_some, d_add, d_sub, e_neg, negK_some, e_cmp, cmp1_some, cmp2_some, map_some2, c_lt, c_le, c_gt, c_ge, c_eqI, c_neI, c_eqS, c_neS, tK_some, notK_some, blK_some, e_not, e_and, e_or, t_not, t_and, t_or, t_cmp, t_call, t_blt, a_nil, a_cons, andK_t, andK_f, o_nil, o_cons, orK_t, orK_f, e_ite, iteK_t, iteK_f, s_nil, s_cons, es1_some, es2_some, e_tup, tupK0, tupK1, tupK2, tupK3, tupK4, tupK5, e_lst, lstK0, lstK1, e_call, calK_some, e_blt, bltK_some, b_gcd, b_abs, b_int, b_max, b_min, b_lenT, b_lenL, b_tupT, b_tupL, b_lstT, b_lstL, b_all, items_lst, items_ro, map_some3, e_idx, idx1_some, idx2_some, i_tup, i_loc, at_0, at_1, at_2, at_3, e_slice, slK_some, slK1_some, slK2_some, o_none, o_some, oK_some, sl_tup, sl_loc, e_rev, revK_some, rv_tup, rv_loc, e_pop, popK_some, e_comp, it_tup, it_loc, it_enumT, it_enumL, it_zipT, it_zipL, e_dict, B_nil, B_cons, seqK_nx, seqK_ret, seqK_brk, seqK_cont, S_asg, asgK_some, nxK_some, bd_nm, bd_tup, bd_nil, bd_cons, bdK_some, S_par, parK_some, sa_nil, sa_cons, S_setI, stK_some, stK1_some, stK2_some, nxS_some, S_app, appK2_some, S_popS, popSK_some, S_ret, retK_some, S_retN, S_pass, S_brk, S_cont, S_ite, ifK_t, ifK_f, forK_some, getA, getA0, setA, setA0, lenA, appA, catA, nilA, lenC, len0, g_0, t_0, g_1, t_1, g_2, t_2, g_3, t_3, g_4, t_4, g_5, t_5, g_6, t_6, g_7, t_7, g_8, t_8, g_9, t_9, g_10, t_10, g_11, t_11, g_12, t_12, g_13, t_13, bindS, S_whil, S_for, compK_some]
  · rw [if_neg hp] at h2 ⊢
    have hd : decide ((0 : Int) < q) = false := decide_eq_false hp
    have f1 := fun i => d_fdiv (S := S) (i := i) h2
    simp only [d__law_low, List.map, List.replicate, Nat.reduceSub, List.cons_append, List.nil_append, abs_nat, e', hd, Int.zero_sub, f1, vK_some, e_var, e_lit, lit_non, lit_bl, lit_int, lit_str, e_glob, oneK_some, e_bin, bin1_some, bin2_some, d_add, d_sub, e_neg, negK_some, e_cmp, cmp1_some, cmp2_some, map_some2, c_lt, c_le, c_gt, c_ge, c_eqI, c_neI, c_eqS, c_neS, tK_some, notK_some, blK_some, e_not, e_and, e_or, t_not, t_and, t_or, t_cmp, t_call, t_blt, a_nil, a_cons, andK_t, andK_f, o_nil, o_cons, orK_t, orK_f, e_ite, iteK_t, iteK_f, s_nil, s_cons, es1_some, es2_some, e_tup, tupK0, tupK1, tupK2, tupK3, tupK4, tupK5, e_lst, lstK0, lstK1, e_call, calK_some, e_blt, bltK_some, b_gcd, b_abs, b_int, b_max, b_min, b_lenT, b_lenL, b_tupT, b_tupL, b_lstT, b_lstL, b_all, items_lst, items_ro, map_some3, e_idx, idx1_some, idx2_some, i_tup, i_loc, at_0, at_1, at_2, at_3, e_slice, slK_some, slK1_some, slK2_some, o_none, o_some, oK_some, sl_tup, sl_loc, e_rev, revK_some, rv_tup, rv_loc, e_pop, popK_some, e_comp, it_tup, it_loc, it_enumT, it_enumL, it_zipT, it_zipL, e_dict, B_nil, B_cons, seqK_nx, seqK_ret, seqK_brk, seqK_cont, S_asg, asgK_some, nxK_some, bd_nm, bd_tup, bd_nil, bd_cons, bdK_some, S_par, parK_some, sa_nil, sa_cons, S_setI, stK_some, stK1_some, stK2_some, nxS_some, S_app, appK2_some, S_popS, popSK_some, S_ret, retK_some, S_retN, S_pass, S_brk, S_cont, S_ite, ifK_t, ifK_f, forK_some, getA, getA0, setA, setA0, lenA, appA, catA, nilA, lenC, len0, g_0, t_0, g_1, t_1, g_2, t_2, g_3, t_3, g_4, t_4, g_5, t_5, g_6, t_6, g_7, t_7, g_8, t_8, g_9, t_9, g_10, t_10, g_11, t_11, g_12, t_12, g_13, t_13, bindS, S_whil, S_for, compK_some]
/-- the law's own fractions -/
structure LfT (tb : Str → Option FD) : Prop where
  low : tb "_law_low" = some d__law_low
  plus : tb "_law_plus" = some d__law_plus
  by' : tb "_law_by" = some d__law_by
variable {a b : Rat}
theorem r_law_plus (T : LfT tb) (ha : Sz 4000 a) (hb : Sz 4000 b) : runF cst tb (k + 2) "_law_plus" [eF a, eF b] S = some (eF (a + b), S) := by
  refine run_ret0 T.plus rfl ?_ (NoLoc_eF _)
  have m1 := fun S => d_mul (S := S) (mulOk_lt (B := 4000) (by decide) ha.1 (by simpa using hb.2 : (b.den : Int).natAbs < 2 ^ 4000))
  have m2 := fun S => d_mul (S := S) (mulOk_lt (B := 4000) (by decide) hb.1 (by simpa using ha.2 : (a.den : Int).natAbs < 2 ^ 4000))
  have m3 := fun S => d_mul (S := S) (mulOk_lt (B := 4000) (by decide) (by simpa using ha.2 : (a.den : Int).natAbs < 2 ^ 4000) (by simpa using hb.2 : (b.den : Int).natAbs < 2 ^ 4000))
  have l : LowOk (a.num * b.den + b.num * a.den) (a.den * b.den) := LowOk.pos (B := 8000) (by decide) (mul_pos' a b) (Sz.den ha hb)
  have r := fun k S => r_law_low (cst := cst) (k := k) (S := S) T.low l
  simp only [d__law_plus, eF, List.map, List.replicate, Nat.sub_self, m1, m2, m3, r, vK_some, e_var, e_lit, lit_non, lit_bl, lit_int, lit_str, e_glob, oneK_some, e_bin, bin1_some, bin2_some, d_add, d_sub, e_neg, negK_some, e_cmp, cmp1_some, cmp2_some, map_some2, c_lt, c_le, c_gt, c_ge, c_eqI, c_neI, c_eqS, c_neS, tK_some, notK_some, blK_some, e_not, e_and, e_or, t_not, t_and, t_or, t_cmp, t_call, t_blt, a_nil, a_cons, andK_t, andK_f, o_nil, o_cons, orK_t, orK_f, e_ite, iteK_t, iteK_f, s_nil, s_cons, es1_some, es2_some, e_tup, tupK0, tupK1, tupK2, tupK3, tupK4, tupK5, e_lst, lstK0, lstK1, e_call, calK_some, e_blt, bltK_some, b_gcd, b_abs, b_int, b_max, b_min, b_lenT, b_lenL, b_tupT, b_tupL, b_lstT, b_lstL, b_all, items_lst, items_ro, map_some3, e_idx, idx1_some, idx2_some, i_tup, i_loc, at_0, at_1, at_2, at_3, e_slice, slK_some, slK1_some, slK2_some, o_none, o_some, oK_some, sl_tup, sl_loc, e_rev, revK_some, rv_tup, rv_loc, e_pop, popK_some, e_comp, it_tup, it_loc, it_enumT, it_enumL, it_zipT, it_zipL, e_dict, B_nil, B_cons, seqK_nx, seqK_ret, seqK_brk, seqK_cont, S_asg, asgK_some, nxK_some, bd_nm, bd_tup, bd_nil, bd_cons, bdK_some, S_par, parK_some, sa_nil, sa_cons, S_setI, stK_some, stK1_some, stK2_some, nxS_some, S_app, appK2_some, S_popS, popSK_some, S_ret, retK_some, S_retN, S_pass, S_brk, S_cont, S_ite, ifK_t, ifK_f, forK_some, getA, getA0, setA, setA0, lenA, appA, catA, nilA, lenC, len0, g_0, t_0, g_1, t_1, g_2, t_2, g_3, t_3, g_4, t_4, g_5, t_5, g_6, t_6, g_7, t_7, g_8, t_8, g_9, t_9, g_10, t_10, g_11, t_11, g_12, t_12, g_13, t_13, bindS, S_whil, S_for, compK_some]
  rw [← Rat.add_eq a b]
theorem r_law_by (T : LfT tb) (ha : Sz 4000 a) (hb : Sz 4000 b) : runF cst tb (k + 2) "_law_by" [eF a, eF b] S = some (eF (a * b), S) := by
  refine run_ret0 T.by' rfl ?_ (NoLoc_eF _)
  have m1 := fun S => d_mul (S := S) (mulOk_lt (B := 4000) (by decide) ha.1 hb.1)
  have m3 := fun S => d_mul (S := S) (mulOk_lt (B := 4000) (by decide) (by simpa using ha.2 : (a.den : Int).natAbs < 2 ^ 4000) (by simpa using hb.2 : (b.den : Int).natAbs < 2 ^ 4000))
  have l : LowOk (a.num * b.num) (a.den * b.den) := LowOk.pos (B := 8000) (by decide) (mul_pos' a b) (Sz.den ha hb)
  have r := fun k S => r_law_low (cst := cst) (k := k) (S := S) T.low l
  simp only [d__law_by, eF, List.map, List.replicate, Nat.sub_self, m1, m3, r, vK_some, e_var, e_lit, lit_non, lit_bl, lit_int, lit_str, e_glob, oneK_some, e_bin, bin1_some, bin2_some, d_add, d_sub, e_neg, negK_some, e_cmp, cmp1_some, cmp2_some, map_some2, c_lt, c_le, c_gt, c_ge, c_eqI, c_neI, c_eqS, c_neS, tK_some, notK_some, blK_some, e_not, e_and, e_or, t_not, t_and, t_or, t_cmp, t_call, t_blt, a_nil, a_cons, andK_t, andK_f, o_nil, o_cons, orK_t, orK_f, e_ite, iteK_t, iteK_f, s_nil, s_cons, es1_some, es2_some, e_tup, tupK0, tupK1, tupK2, tupK3, tupK4, tupK5, e_lst, lstK0, lstK1, e_call, calK_some, e_blt, bltK_some, b_gcd, b_abs, b_int, b_max, b_min, b_lenT, b_lenL, b_tupT, b_tupL, b_lstT, b_lstL, b_all, items_lst, items_ro, map_some3, e_idx, idx1_some, idx2_some, i_tup, i_loc, at_0, at_1, at_2, at_3, e_slice, slK_some, slK1_some, slK2_some, o_none, o_some, oK_some, sl_tup, sl_loc, e_rev, revK_some, rv_tup, rv_loc, e_pop, popK_some, e_comp, it_tup, it_loc, it_enumT, it_enumL, it_zipT, it_zipL, e_dict, B_nil, B_cons, seqK_nx, seqK_ret, seqK_brk, seqK_cont, S_asg, asgK_some, nxK_some, bd_nm, bd_tup, bd_nil, bd_cons, bdK_some, S_par, parK_some, sa_nil, sa_cons, S_setI, stK_some, stK1_some, stK2_some, nxS_some, S_app, appK2_some, S_popS, popSK_some, S_ret, retK_some, S_retN, S_pass, S_brk, S_cont, S_ite, ifK_t, ifK_f, forK_some, getA, getA0, setA, setA0, lenA, appA, catA, nilA, lenC, len0, g_0, t_0, g_1, t_1, g_2, t_2, g_3, t_3, g_4, t_4, g_5, t_5, g_6, t_6, g_7, t_7, g_8, t_8, g_9, t_9, g_10, t_10, g_11, t_11, g_12, t_12, g_13, t_13, bindS, S_whil, S_for, compK_some]
  rw [← Rat.mul_eq a b]
/-- the law's own taking off of zeros -/
theorem lpoly_loop {d0 : D} : ∀ (n : Nat) (f : List Rat) (G : Sto), f.length = n → ∃ m G', whileN (fun ρ1 S1 => evT ⟨runF cst tb k, cst⟩ (.and [.cmp .ne (.var 1) (.lst []), .cmp .eq (.idx (.idx (.var 1) (.neg (.lit (.int 1)))) (.lit (.int 0))) (.lit (.int 0))]) ρ1 S1) (fun ρ1 S1 => evB ⟨runF cst tb k, cst⟩ [.popS (.var 1)] ρ1 S1) m [some d0, some (.loc S.length)] (S ++ .lst (f.map eF) :: G) = some (.nx [some d0, some (.loc S.length)], S ++ .lst ((trim f).map eF) :: G')
  | n, f, G, hn => by
    have c1 : cmpD .ne (.loc S.length) (.loc (S.length + (G.length + 1))) (S ++ .lst (f.map eF) :: (G ++ [.lst []])) = some (.bl (!(f.map eF).isEmpty)) :=
      c_neE (NBs_eFs f) (by have := dpts_eFs f; omega) (getA0 ..) (by rw [getA]; simp)
    have hp : evT ⟨runF cst tb k, cst⟩ (.and [.cmp .ne (.var 1) (.lst []), .cmp .eq (.idx (.idx (.var 1) (.neg (.lit (.int 1)))) (.lit (.int 0))) (.lit (.int 0))]) [some d0, some (.loc S.length)] (S ++ .lst (f.map eF) :: G) = andK ⟨runF cst tb k, cst⟩ [.cmp .eq (.idx (.idx (.var 1) (.neg (.lit (.int 1)))) (.lit (.int 0))) (.lit (.int 0))] [some d0, some (.loc S.length)] (some (!(f.map eF).isEmpty, S ++ .lst (f.map eF) :: (G ++ [.lst []]))) := by
      simp only [c1, lstK0, vK_some, e_var, e_lit, lit_non, lit_bl, lit_int, lit_str, e_glob, oneK_some, e_bin, bin1_some, bin2_some, d_add, d_sub, e_neg, negK_some, e_cmp, cmp1_some, cmp2_some, map_some2, c_lt, c_le, c_gt, c_ge, c_eqI, c_neI, c_eqS, c_neS, tK_some, notK_some, blK_some, e_not, e_and, e_or, t_not, t_and, t_or, t_cmp, t_call, t_blt, a_nil, a_cons, andK_t, andK_f, o_nil, o_cons, orK_t, orK_f, e_ite, iteK_t, iteK_f, s_nil, s_cons, es1_some, es2_some, e_tup, tupK0, tupK1, tupK2, tupK3, tupK4, tupK5, e_lst, lstK0, lstK1, e_call, calK_some, e_blt, bltK_some, b_gcd, b_abs, b_int, b_max, b_min, b_lenT, b_lenL, b_tupT, b_tupL, b_lstT, b_lstL, b_all, items_lst, items_ro, map_some3, e_idx, idx1_some, idx2_some, i_tup, i_loc, at_0, at_1, at_2, at_3, e_slice, slK_some, slK1_some, slK2_some, o_none, o_some, oK_some, sl_tup, sl_loc, e_rev, revK_some, rv_tup, rv_loc, e_pop, popK_some, e_comp, it_tup, it_loc, it_enumT, it_enumL, it_zipT, it_zipL, e_dict, B_nil, B_cons, seqK_nx, seqK_ret, seqK_brk, seqK_cont, S_asg, asgK_some, nxK_some, bd_nm, bd_tup, bd_nil, bd_cons, bdK_some, S_par, parK_some, sa_nil, sa_cons, S_setI, stK_some, stK1_some, stK2_some, nxS_some, S_app, appK2_some, S_popS, popSK_some, S_ret, retK_some, S_retN, S_pass, S_brk, S_cont, S_ite, ifK_t, ifK_f, forK_some, getA, getA0, setA, setA0, lenA, appA, catA, nilA, lenC, len0, g_0, t_0, g_1, t_1, g_2, t_2, g_3, t_3, g_4, t_4, g_5, t_5, g_6, t_6, g_7, t_7, g_8, t_8, g_9, t_9, g_10, t_10, g_11, t_11, g_12, t_12, g_13, t_13, bindS, S_whil, S_for, compK_some]
    rcases List.eq_nil_or_concat f with rfl | ⟨r, a, rfl⟩
    · refine ⟨1, G ++ [.lst []], ?_⟩
      rw [show (!(([] : List Rat).map eF).isEmpty) = false from rfl, andK_f] at hp
      rw [while_stop hp]
      rfl
    · have e0 : ((r.concat a).map eF).isEmpty = false := by simp
      have e1 : (r.concat a).map eF = r.map eF ++ [eF a] := by simp
      have hz : decide (a.num = 0) = decide (a = 0) := by
        rw [Bool.eq_iff_iff, decide_eq_true_iff, decide_eq_true_iff]
        exact Rat.num_eq_zero
      have hc : evT ⟨runF cst tb k, cst⟩ (.and [.cmp .ne (.var 1) (.lst []), .cmp .eq (.idx (.idx (.var 1) (.neg (.lit (.int 1)))) (.lit (.int 0))) (.lit (.int 0))]) [some d0, some (.loc S.length)] (S ++ .lst ((r.concat a).map eF) :: G) = some (decide (a = 0), S ++ .lst ((r.concat a).map eF) :: (G ++ [.lst []])) := by
        rw [hp, e0, e1]
        simp only [Bool.not_false, andK_t, atI_last, i_F0, hz, vK_some, e_var, e_lit, lit_non, lit_bl, lit_int, lit_str, e_glob, oneK_some, e_bin, bin1_some, bin2_some, d_add, d_sub, e_neg, negK_some, e_cmp, cmp1_some, cmp2_some, map_some2, c_lt, c_le, c_gt, c_ge, c_eqI, c_neI, c_eqS, c_neS, tK_some, notK_some, blK_some, e_not, e_and, e_or, t_not, t_and, t_or, t_cmp, t_call, t_blt, a_nil, a_cons, andK_t, andK_f, o_nil, o_cons, orK_t, orK_f, e_ite, iteK_t, iteK_f, s_nil, s_cons, es1_some, es2_some, e_tup, tupK0, tupK1, tupK2, tupK3, tupK4, tupK5, e_lst, lstK0, lstK1, e_call, calK_some, e_blt, bltK_some, b_gcd, b_abs, b_int, b_max, b_min, b_lenT, b_lenL, b_tupT, b_tupL, b_lstT, b_lstL, b_all, items_lst, items_ro, map_some3, e_idx, idx1_some, idx2_some, i_tup, i_loc, at_0, at_1, at_2, at_3, e_slice, slK_some, slK1_some, slK2_some, o_none, o_some, oK_some, sl_tup, sl_loc, e_rev, revK_some, rv_tup, rv_loc, e_pop, popK_some, e_comp, it_tup, it_loc, it_enumT, it_enumL, it_zipT, it_zipL, e_dict, B_nil, B_cons, seqK_nx, seqK_ret, seqK_brk, seqK_cont, S_asg, asgK_some, nxK_some, bd_nm, bd_tup, bd_nil, bd_cons, bdK_some, S_par, parK_some, sa_nil, sa_cons, S_setI, stK_some, stK1_some, stK2_some, nxS_some, S_app, appK2_some, S_popS, popSK_some, S_ret, retK_some, S_retN, S_pass, S_brk, S_cont, S_ite, ifK_t, ifK_f, forK_some, getA, getA0, setA, setA0, lenA, appA, catA, nilA, lenC, len0, g_0, t_0, g_1, t_1, g_2, t_2, g_3, t_3, g_4, t_4, g_5, t_5, g_6, t_6, g_7, t_7, g_8, t_8, g_9, t_9, g_10, t_10, g_11, t_11, g_12, t_12, g_13, t_13, bindS, S_whil, S_for, compK_some]
        by_cases ha : a = 0 <;> simp [ha, andK, evAnd]
      by_cases ha : a = 0
      · obtain ⟨m, G', e⟩ := lpoly_loop (n - 1) r (G ++ [.lst []]) (by simp at hn; omega)
        refine ⟨m + 1, G', ?_⟩
        have hb : evB ⟨runF cst tb k, cst⟩ [.popS (.var 1)] [some d0, some (.loc S.length)] (S ++ .lst ((r.concat a).map eF) :: (G ++ [.lst []])) = some (.nx [some d0, some (.loc S.length)], S ++ .lst (r.map eF) :: (G ++ [.lst []])) := by
          have hq : popD (.loc S.length) (S ++ Cell.lst (r.map eF ++ [eF a]) :: (G ++ [Cell.lst []])) = some (eF a, (S ++ Cell.lst (r.map eF ++ [eF a]) :: (G ++ [Cell.lst []])).set S.length (.lst (r.map eF))) := pop_loc (getA0 ..)
          rw [e1]
          simp only [hq, vK_some, e_var, e_lit, lit_non, lit_bl, lit_int, lit_str, e_glob, oneK_some, e_bin, bin1_some, bin2_some, d_add, d_sub, e_neg, negK_some, e_cmp, cmp1_some, cmp2_some, map_some2, c_lt, c_le, c_gt, c_ge, c_eqI, c_neI, c_eqS, c_neS, tK_some, notK_some, blK_some, e_not, e_and, e_or, t_not, t_and, t_or, t_cmp, t_call, t_blt, a_nil, a_cons, andK_t, andK_f, o_nil, o_cons, orK_t, orK_f, e_ite, iteK_t, iteK_f, s_nil, s_cons, es1_some, es2_some, e_tup, tupK0, tupK1, tupK2, tupK3, tupK4, tupK5, e_lst, lstK0, lstK1, e_call, calK_some, e_blt, bltK_some, b_gcd, b_abs, b_int, b_max, b_min, b_lenT, b_lenL, b_tupT, b_tupL, b_lstT, b_lstL, b_all, items_lst, items_ro, map_some3, e_idx, idx1_some, idx2_some, i_tup, i_loc, at_0, at_1, at_2, at_3, e_slice, slK_some, slK1_some, slK2_some, o_none, o_some, oK_some, sl_tup, sl_loc, e_rev, revK_some, rv_tup, rv_loc, e_pop, popK_some, e_comp, it_tup, it_loc, it_enumT, it_enumL, it_zipT, it_zipL, e_dict, B_nil, B_cons, seqK_nx, seqK_ret, seqK_brk, seqK_cont, S_asg, asgK_some, nxK_some, bd_nm, bd_tup, bd_nil, bd_cons, bdK_some, S_par, parK_some, sa_nil, sa_cons, S_setI, stK_some, stK1_some, stK2_some, nxS_some, S_app, appK2_some, S_popS, popSK_some, S_ret, retK_some, S_retN, S_pass, S_brk, S_cont, S_ite, ifK_t, ifK_f, forK_some, getA, getA0, setA, setA0, lenA, appA, catA, nilA, lenC, len0, g_0, t_0, g_1, t_1, g_2, t_2, g_3, t_3, g_4, t_4, g_5, t_5, g_6, t_6, g_7, t_7, g_8, t_8, g_9, t_9, g_10, t_10, g_11, t_11, g_12, t_12, g_13, t_13, bindS, S_whil, S_for, compK_some]
        rw [show decide (a = 0) = true from decide_eq_true ha] at hc
        have : trim (r.concat a) = trim r := by rw [List.concat_eq_append, trim_snoc, if_pos ha]
        rw [while_step hc hb, e, this]
      · refine ⟨1, G ++ [.lst []], ?_⟩
        rw [show decide (a = 0) = false from decide_eq_false ha] at hc
        have : trim (r.concat a) = r.concat a := by rw [List.concat_eq_append, trim_snoc, if_neg ha]
        rw [while_stop hc, this]
termination_by n => n
decreasing_by simp at hn; omega
theorem r_law_poly (h : tb "_law_poly" = some d__law_poly) {d : D} {f : List Rat} (hd : bltD "list" [d] S = some (.loc S.length, S ++ [.lst (f.map eF)])) : runF cst tb (k + 1) "_law_poly" [d] S = some (eP (trim f), S) := by
  obtain ⟨m, G', e⟩ := lpoly_loop (cst := cst) (tb := tb) (k := k) (S := S) (d0 := d) f.length f [] rfl
  refine run_ret (G := .lst ((trim f).map eF) :: G') h rfl ?_ (NoLoc_eP _)
  simp only [d__law_poly, List.map, List.replicate, Nat.reduceSub, List.cons_append, List.nil_append, hd, whK_of e, vK_some, e_var, e_lit, lit_non, lit_bl, lit_int, lit_str, e_glob, oneK_some, e_bin, bin1_some, bin2_some, d_add, d_sub, e_neg, negK_some, e_cmp, cmp1_some, cmp2_some, map_some2, c_lt, c_le, c_gt, c_ge, c_eqI, c_neI, c_eqS, c_neS, tK_some, notK_some, blK_some, e_not, e_and, e_or, t_not, t_and, t_or, t_cmp, t_call, t_blt, a_nil, a_cons, andK_t, andK_f, o_nil, o_cons, orK_t, orK_f, e_ite, iteK_t, iteK_f, s_nil, s_cons, es1_some, es2_some, e_tup, tupK0, tupK1, tupK2, tupK3, tupK4, tupK5, e_lst, lstK0, lstK1, e_call, calK_some, e_blt, bltK_some, b_gcd, b_abs, b_int, b_max, b_min, b_lenT, b_lenL, b_tupT, b_tupL, b_lstT, b_lstL, b_all, items_lst, items_ro, map_some3, e_idx, idx1_some, idx2_some, i_tup, i_loc, at_0, at_1, at_2, at_3, e_slice, slK_some, slK1_some, slK2_some, o_none, o_some, oK_some, sl_tup, sl_loc, e_rev, revK_some, rv_tup, rv_loc, e_pop, popK_some, e_comp, it_tup, it_loc, it_enumT, it_enumL, it_zipT, it_zipL, e_dict, B_nil, B_cons, seqK_nx, seqK_ret, seqK_brk, seqK_cont, S_asg, asgK_some, nxK_some, bd_nm, bd_tup, bd_nil, bd_cons, bdK_some, S_par, parK_some, sa_nil, sa_cons, S_setI, stK_some, stK1_some, stK2_some, nxS_some, S_app, appK2_some, S_popS, popSK_some, S_ret, retK_some, S_retN, S_pass, S_brk, S_cont, S_ite, ifK_t, ifK_f, forK_some, getA, getA0, setA, setA0, lenA, appA, catA, nilA, lenC, len0, g_0, t_0, g_1, t_1, g_2, t_2, g_3, t_3, g_4, t_4, g_5, t_5, g_6, t_6, g_7, t_7, g_8, t_8, g_9, t_9, g_10, t_10, g_11, t_11, g_12, t_12, g_13, t_13, bindS, S_whil, S_for, compK_some]
  rfl
theorem r_law_often (T : LfT tb) (h0 : tb "_law_poly" = some d__law_poly) (h : tb "_law_often" = some d__law_often) {c : Rat} {f : List Rat} (hc : Sz 4000 c) (hf : SzP 4000 f) (lf : f.length < 1000000) :
    runF cst tb (k + 3) "_law_often" [eF c, eP f] S = some (eP (poften c f), S) := by
  refine run_ret (G := [.lst ((f.map (c * ·)).map eF)]) h rfl ?_ (NoLoc_eP _)
  have hc := compI_map (S := S) (C := ⟨runF cst tb (k + 2), cst⟩) (t := .nm 2) (ifs := []) (elt := .call "_law_by" [.var 0, .var 2]) (own := [2]) (ρ := [some (eF c), some (eP f), none])
    (xs := f.map eF) (L := []) (fun i => eF (c * co f i)) (by simp) (by simp [sizeLine]; omega) (fun i x acc e => by
      obtain ⟨a, ha, rfl, hi⟩ := map_get e
      refine cs0 (ρ1 := [some (eF c), some (eP f), some (eF a)]) (by simp only [w_nil, w_cons, vK_some, e_var, e_lit, lit_non, lit_bl, lit_int, lit_str, e_glob, oneK_some, e_bin, bin1_some, bin2_some, d_add, d_sub, e_neg, negK_some, e_cmp, cmp1_some, cmp2_some, map_some2, c_lt, c_le, c_gt, c_ge, c_eqI, c_neI, c_eqS, c_neS, tK_some, notK_some, blK_some, e_not, e_and, e_or, t_not, t_and, t_or, t_cmp, t_call, t_blt, a_nil, a_cons, andK_t, andK_f, o_nil, o_cons, orK_t, orK_f, e_ite, iteK_t, iteK_f, s_nil, s_cons, es1_some, es2_some, e_tup, tupK0, tupK1, tupK2, tupK3, tupK4, tupK5, e_lst, lstK0, lstK1, e_call, calK_some, e_blt, bltK_some, b_gcd, b_abs, b_int, b_max, b_min, b_lenT, b_lenL, b_tupT, b_tupL, b_lstT, b_lstL, b_all, items_lst, items_ro, map_some3, e_idx, idx1_some, idx2_some, i_tup, i_loc, at_0, at_1, at_2, at_3, e_slice, slK_some, slK1_some, slK2_some, o_none, o_some, oK_some, sl_tup, sl_loc, e_rev, revK_some, rv_tup, rv_loc, e_pop, popK_some, e_comp, it_tup, it_loc, it_enumT, it_enumL, it_zipT, it_zipL, e_dict, B_nil, B_cons, seqK_nx, seqK_ret, seqK_brk, seqK_cont, S_asg, asgK_some, nxK_some, bd_nm, bd_tup, bd_nil, bd_cons, bdK_some, S_par, parK_some, sa_nil, sa_cons, S_setI, stK_some, stK1_some, stK2_some, nxS_some, S_app, appK2_some, S_popS, popSK_some, S_ret, retK_some, S_retN, S_pass, S_brk, S_cont, S_ite, ifK_t, ifK_f, forK_some, getA, getA0, setA, setA0, lenA, appA, catA, nilA, lenC, len0, g_0, t_0, g_1, t_1, g_2, t_2, g_3, t_3, g_4, t_4, g_5, t_5, g_6, t_6, g_7, t_7, g_8, t_8, g_9, t_9, g_10, t_10, g_11, t_11, g_12, t_12, g_13, t_13, bindS, S_whil, S_for, compK_some]) ?_
      have n3 := fun k S => r_law_by (cst := cst) (k := k) (S := S) T hc (hf a (List.mem_of_getElem? ha))
      simp only [n3, co_some ha, vK_some, e_var, e_lit, lit_non, lit_bl, lit_int, lit_str, e_glob, oneK_some, e_bin, bin1_some, bin2_some, d_add, d_sub, e_neg, negK_some, e_cmp, cmp1_some, cmp2_some, map_some2, c_lt, c_le, c_gt, c_ge, c_eqI, c_neI, c_eqS, c_neS, tK_some, notK_some, blK_some, e_not, e_and, e_or, t_not, t_and, t_or, t_cmp, t_call, t_blt, a_nil, a_cons, andK_t, andK_f, o_nil, o_cons, orK_t, orK_f, e_ite, iteK_t, iteK_f, s_nil, s_cons, es1_some, es2_some, e_tup, tupK0, tupK1, tupK2, tupK3, tupK4, tupK5, e_lst, lstK0, lstK1, e_call, calK_some, e_blt, bltK_some, b_gcd, b_abs, b_int, b_max, b_min, b_lenT, b_lenL, b_tupT, b_tupL, b_lstT, b_lstL, b_all, items_lst, items_ro, map_some3, e_idx, idx1_some, idx2_some, i_tup, i_loc, at_0, at_1, at_2, at_3, e_slice, slK_some, slK1_some, slK2_some, o_none, o_some, oK_some, sl_tup, sl_loc, e_rev, revK_some, rv_tup, rv_loc, e_pop, popK_some, e_comp, it_tup, it_loc, it_enumT, it_enumL, it_zipT, it_zipL, e_dict, B_nil, B_cons, seqK_nx, seqK_ret, seqK_brk, seqK_cont, S_asg, asgK_some, nxK_some, bd_nm, bd_tup, bd_nil, bd_cons, bdK_some, S_par, parK_some, sa_nil, sa_cons, S_setI, stK_some, stK1_some, stK2_some, nxS_some, S_app, appK2_some, S_popS, popSK_some, S_ret, retK_some, S_retN, S_pass, S_brk, S_cont, S_ite, ifK_t, ifK_f, forK_some, getA, getA0, setA, setA0, lenA, appA, catA, nilA, lenC, len0, g_0, t_0, g_1, t_1, g_2, t_2, g_3, t_3, g_4, t_4, g_5, t_5, g_6, t_6, g_7, t_7, g_8, t_8, g_9, t_9, g_10, t_10, g_11, t_11, g_12, t_12, g_13, t_13, bindS, S_whil, S_for, compK_some])
  rw [List.length_map, tab_eF, tab_co] at hc
  have r := r_law_poly (cst := cst) (tb := tb) (k := k + 1) (S := S ++ [.lst ((f.map (c * ·)).map eF)]) h0 (d := .loc S.length) (f := f.map (c * ·)) (by rw [b_lstL, getA0]; rfl)
  simp only [d__law_often, List.map, List.replicate, Nat.reduceSub, List.cons_append, List.nil_append, it_P, hc, r, vK_some, e_var, e_lit, lit_non, lit_bl, lit_int, lit_str, e_glob, oneK_some, e_bin, bin1_some, bin2_some, d_add, d_sub, e_neg, negK_some, e_cmp, cmp1_some, cmp2_some, map_some2, c_lt, c_le, c_gt, c_ge, c_eqI, c_neI, c_eqS, c_neS, tK_some, notK_some, blK_some, e_not, e_and, e_or, t_not, t_and, t_or, t_cmp, t_call, t_blt, a_nil, a_cons, andK_t, andK_f, o_nil, o_cons, orK_t, orK_f, e_ite, iteK_t, iteK_f, s_nil, s_cons, es1_some, es2_some, e_tup, tupK0, tupK1, tupK2, tupK3, tupK4, tupK5, e_lst, lstK0, lstK1, e_call, calK_some, e_blt, bltK_some, b_gcd, b_abs, b_int, b_max, b_min, b_lenT, b_lenL, b_tupT, b_tupL, b_lstT, b_lstL, b_all, items_lst, items_ro, map_some3, e_idx, idx1_some, idx2_some, i_tup, i_loc, at_0, at_1, at_2, at_3, e_slice, slK_some, slK1_some, slK2_some, o_none, o_some, oK_some, sl_tup, sl_loc, e_rev, revK_some, rv_tup, rv_loc, e_pop, popK_some, e_comp, it_tup, it_loc, it_enumT, it_enumL, it_zipT, it_zipL, e_dict, B_nil, B_cons, seqK_nx, seqK_ret, seqK_brk, seqK_cont, S_asg, asgK_some, nxK_some, bd_nm, bd_tup, bd_nil, bd_cons, bdK_some, S_par, parK_some, sa_nil, sa_cons, S_setI, stK_some, stK1_some, stK2_some, nxS_some, S_app, appK2_some, S_popS, popSK_some, S_ret, retK_some, S_retN, S_pass, S_brk, S_cont, S_ite, ifK_t, ifK_f, forK_some, getA, getA0, setA, setA0, lenA, appA, catA, nilA, lenC, len0, g_0, t_0, g_1, t_1, g_2, t_2, g_3, t_3, g_4, t_4, g_5, t_5, g_6, t_6, g_7, t_7, g_8, t_8, g_9, t_9, g_10, t_10, g_11, t_11, g_12, t_12, g_13, t_13, bindS, S_whil, S_for, compK_some]
  rfl
theorem r_law_to (T : LfT tb) (h : tb "_law_to" = some d__law_to) {c : Rat} {n B : Nat} (hc : Sz B c) (hB : n * B + 1 ≤ 4000) (hB2 : B ≤ 4000) (hn : n < 2 ^ 62) :
    runF cst tb (k + 3) "_law_to" [eF c, .int (n : Int)] S = some (eF (c ^ n), S) := by
  refine run_ret0 h rfl ?_ (NoLoc_eF _)
  obtain ⟨ρ', S', e1, hI⟩ := for_inv (L := []) (S0 := S) (step := forStep ⟨runF cst tb (k + 2), cst⟩ (.nm 3) [.asg (.nm 2) (.call "_law_by" [.var 2, .var 0])])
    (fun i ρ S' => S' = S ∧ ∃ x, ρ = [some (eF c), some (.int (n : Int)), some (eF (c ^ i)), x]) (xs := (List.range n).map fun i => D.int (i : Nat)) (ρ := [some (eF c), some (.int (n : Int)), some (eF 1), none]) (S := S) ⟨rfl, none, by rw [Rat.pow_zero]⟩ (fun i x ρ S' e q => by
      obtain ⟨rfl, x1, rfl⟩ := q
      obtain ⟨hi, rfl⟩ := rng_get e
      have r := fun k S => r_law_by (cst := cst) (k := k) (S := S) T ((hc.pow i).mono (by have := Nat.mul_le_mul_right B (show i ≤ n by omega); omega)) (hc.mono hB2)
      refine ⟨[some (eF c), some (.int (n : Int)), some (eF (c ^ (i + 1))), some (.int (i : Nat))], S', ?_, by simp, rfl, _, rfl⟩
      rw [Rat.pow_succ]
      simp only [forStep, r, vK_some, e_var, e_lit, lit_non, lit_bl, lit_int, lit_str, e_glob, oneK_some, e_bin, bin1_some, bin2_some, d_add, d_sub, e_neg, negK_some, e_cmp, cmp1_some, cmp2_some, map_some2, c_lt, c_le, c_gt, c_ge, c_eqI, c_neI, c_eqS, c_neS, tK_some, notK_some, blK_some, e_not, e_and, e_or, t_not, t_and, t_or, t_cmp, t_call, t_blt, a_nil, a_cons, andK_t, andK_f, o_nil, o_cons, orK_t, orK_f, e_ite, iteK_t, iteK_f, s_nil, s_cons, es1_some, es2_some, e_tup, tupK0, tupK1, tupK2, tupK3, tupK4, tupK5, e_lst, lstK0, lstK1, e_call, calK_some, e_blt, bltK_some, b_gcd, b_abs, b_int, b_max, b_min, b_lenT, b_lenL, b_tupT, b_tupL, b_lstT, b_lstL, b_all, items_lst, items_ro, map_some3, e_idx, idx1_some, idx2_some, i_tup, i_loc, at_0, at_1, at_2, at_3, e_slice, slK_some, slK1_some, slK2_some, o_none, o_some, oK_some, sl_tup, sl_loc, e_rev, revK_some, rv_tup, rv_loc, e_pop, popK_some, e_comp, it_tup, it_loc, it_enumT, it_enumL, it_zipT, it_zipL, e_dict, B_nil, B_cons, seqK_nx, seqK_ret, seqK_brk, seqK_cont, S_asg, asgK_some, nxK_some, bd_nm, bd_tup, bd_nil, bd_cons, bdK_some, S_par, parK_some, sa_nil, sa_cons, S_setI, stK_some, stK1_some, stK2_some, nxS_some, S_app, appK2_some, S_popS, popSK_some, S_ret, retK_some, S_retN, S_pass, S_brk, S_cont, S_ite, ifK_t, ifK_f, forK_some, getA, getA0, setA, setA0, lenA, appA, catA, nilA, lenC, len0, g_0, t_0, g_1, t_1, g_2, t_2, g_3, t_3, g_4, t_4, g_5, t_5, g_6, t_6, g_7, t_7, g_8, t_8, g_9, t_9, g_10, t_10, g_11, t_11, g_12, t_12, g_13, t_13, bindS, S_whil, S_for, compK_some])
  obtain ⟨rfl, x, rfl⟩ := hI
  rw [List.length_map, List.length_range] at e1
  have hr := it_rng (S := S') (n : Int) (by omega)
  simp only [d__law_to, List.map, List.replicate, Nat.reduceSub, List.cons_append, List.nil_append, eF_one, hr, Int.toNat_natCast, forI_some, e1, vK_some, e_var, e_lit, lit_non, lit_bl, lit_int, lit_str, e_glob, oneK_some, e_bin, bin1_some, bin2_some, d_add, d_sub, e_neg, negK_some, e_cmp, cmp1_some, cmp2_some, map_some2, c_lt, c_le, c_gt, c_ge, c_eqI, c_neI, c_eqS, c_neS, tK_some, notK_some, blK_some, e_not, e_and, e_or, t_not, t_and, t_or, t_cmp, t_call, t_blt, a_nil, a_cons, andK_t, andK_f, o_nil, o_cons, orK_t, orK_f, e_ite, iteK_t, iteK_f, s_nil, s_cons, es1_some, es2_some, e_tup, tupK0, tupK1, tupK2, tupK3, tupK4, tupK5, e_lst, lstK0, lstK1, e_call, calK_some, e_blt, bltK_some, b_gcd, b_abs, b_int, b_max, b_min, b_lenT, b_lenL, b_tupT, b_tupL, b_lstT, b_lstL, b_all, items_lst, items_ro, map_some3, e_idx, idx1_some, idx2_some, i_tup, i_loc, at_0, at_1, at_2, at_3, e_slice, slK_some, slK1_some, slK2_some, o_none, o_some, oK_some, sl_tup, sl_loc, e_rev, revK_some, rv_tup, rv_loc, e_pop, popK_some, e_comp, it_tup, it_loc, it_enumT, it_enumL, it_zipT, it_zipL, e_dict, B_nil, B_cons, seqK_nx, seqK_ret, seqK_brk, seqK_cont, S_asg, asgK_some, nxK_some, bd_nm, bd_tup, bd_nil, bd_cons, bdK_some, S_par, parK_some, sa_nil, sa_cons, S_setI, stK_some, stK1_some, stK2_some, nxS_some, S_app, appK2_some, S_popS, popSK_some, S_ret, retK_some, S_retN, S_pass, S_brk, S_cont, S_ite, ifK_t, ifK_f, forK_some, getA, getA0, setA, setA0, lenA, appA, catA, nilA, lenC, len0, g_0, t_0, g_1, t_1, g_2, t_2, g_3, t_3, g_4, t_4, g_5, t_5, g_6, t_6, g_7, t_7, g_8, t_8, g_9, t_9, g_10, t_10, g_11, t_11, g_12, t_12, g_13, t_13, bindS, S_whil, S_for, compK_some]
end
end Pf.Z

/-! The law's own sums and products. -/
namespace Pf.Z
open PySem PySem.Spec PyProof.Rows L2
section
variable {cst : Str → Option D} {tb : Str → Option FD} {k : Nat} {S : Sto}
/-- f with zeros behind it, n numbers in all -/
def xtd (f : List Rat) (n : Nat) : List Rat := f ++ List.replicate (n - f.length) 0
theorem xtd_len {f : List Rat} {n : Nat} (h : f.length ≤ n) : (xtd f n).length = n := by simp [xtd]; omega
theorem co_xtd (f : List Rat) (n i : Nat) : co (xtd f n) i = co f i := by
  unfold xtd
  by_cases hi : i < f.length
  · rw [co, co, List.getD_eq_getElem?_getD, List.getD_eq_getElem?_getD, List.getElem?_append_left hi]
  · rw [co_of_le (f := f) (by omega), co, List.getD_eq_getElem?_getD, List.getElem?_append_right (by omega)]
    by_cases h : i - f.length < n - f.length
    · simp [h]
    · simp [h]
theorem a_loc {n m : Nat} {xs ys : List D} (h1 : S[n]? = some (.lst xs)) (h2 : S[m]? = some (.lst ys)) (hl : xs.length + ys.length ≤ sizeLine) : binD .add (.loc n) (.loc m) S = some (.loc S.length, S ++ [.lst (xs ++ ys)]) := by
  simp only [binD, h1, h2]
  rw [if_pos hl]
theorem zip_get {xs ys : List D} {i : Nat} {x : D} (h : ((List.range (min xs.length ys.length)).map fun i => D.tup [xs.getD i .non, ys.getD i .non])[i]? = some x) : i < xs.length ∧ i < ys.length ∧ x = .tup [xs.getD i .non, ys.getD i .non] := by
  obtain ⟨a, h1, h2, h3⟩ := map_get h
  rw [List.length_range] at h3
  rw [List.getElem?_range h3] at h1
  cases h1
  exact ⟨by omega, by omega, h2⟩
structure LpT (tb : Str → Option FD) : Prop extends LfT tb where
  poly : tb "_law_poly" = some d__law_poly
  sum : tb "_law_sum" = some d__law_sum
  often : tb "_law_often" = some d__law_often
  product : tb "_law_product" = some d__law_product
theorem r_law_sum (T : LpT tb) {f g : List Rat} (hf : SzP 4000 f) (hg : SzP 4000 g) (lf : f.length < 1000) (lg : g.length < 1000) :
    runF cst tb (k + 3) "_law_sum" [eP f, eP g] S = some (eP (padd f g), S) := by
  let n := max f.length g.length
  have hn : n = max f.length g.length := rfl
  have l1 : (xtd f n).length = n := xtd_len (by omega)
  have l2 : (xtd g n).length = n := xtd_len (by omega)
  let z : Nat → List D := fun m => (List.replicate m (0 : Rat)).map eF
  let A : Sto := [.lst (f.map eF), .lst [eF 0], .lst (z (n - f.length)), .lst ((xtd f n).map eF)]
  let B : Sto := [.lst (g.map eF), .lst [eF 0], .lst (z (n - g.length)), .lst ((xtd g n).map eF)]
  have hz : ∀ m, (List.replicate m [eF 0]).flatten = z m := fun m => by simp [z]
  have hst : ∀ (S0 : Sto) (f : List Rat) (e : Ex) (ρ : En), f.length ≤ n → n < 1000 → (∀ S, evE ⟨runF cst tb (k + 2), cst⟩ (.blt "list" [e]) ρ S = some (.loc S.length, S ++ [.lst (f.map eF)])) → (∀ S, evE ⟨runF cst tb (k + 2), cst⟩ (.bin .sub (.var 2) (.blt "len" [e])) ρ S = some (.int ((n - f.length : Nat) : Int), S)) →
      evE ⟨runF cst tb (k + 2), cst⟩ (.bin .add (.blt "list" [e]) (.bin .mul (.lst [.tup [.lit (.int 0), .lit (.int 1)]]) (.bin .sub (.var 2) (.blt "len" [e])))) ρ S0 = some (.loc (S0.length + 3), S0 ++ [.lst (f.map eF), .lst [eF 0], .lst (z (n - f.length)), .lst ((xtd f n).map eF)]) := fun S0 f e ρ hl hn1 h1 h2 => by
    have m1 : binD .mul (.loc (S0.length + 1)) (.int ((n - f.length : Nat) : Int)) (S0 ++ [.lst (f.map eF), .lst [eF 0]]) = some (.loc (S0.length + 2), S0 ++ [.lst (f.map eF), .lst [eF 0], .lst (z (n - f.length))]) := by
      rw [m_loc (xs := [eF 0]) (by rw [getA]; rfl) (by omega) (by show 1 * _ ≤ sizeLine; simp only [sizeLine]; omega), hz]
      simp only [lenA, appA, catA, nilA, lenC, len0, Nat.zero_add, Nat.reduceAdd]
    have m2 : binD .add (.loc S0.length) (.loc (S0.length + 2)) (S0 ++ [.lst (f.map eF), .lst [eF 0], .lst (z (n - f.length))]) = some (.loc (S0.length + 3), S0 ++ [.lst (f.map eF), .lst [eF 0], .lst (z (n - f.length)), .lst ((xtd f n).map eF)]) := by
      rw [a_loc (xs := f.map eF) (ys := z (n - f.length)) (getA0 ..) (by rw [getA]; rfl) (by simp [z, sizeLine]; omega)]
      simp only [lenA, appA, catA, nilA, lenC, len0, Nat.zero_add, Nat.reduceAdd]
      rw [xtd, List.map_append]
    have hl1 : ∀ S, lstK (some ([eF 0], S)) = some (.loc S.length, S ++ [.lst [eF 0]]) := fun S => rfl
    rw [e_bin, h1, bin1_some, e_bin, e_lst]
    simp only [eF_zero, hl1, e_tup, e_lit, s_cons, s_nil, es1_some, es2_some, lit_int, tupK2]
    simp only [bin1_some, h2, bin2_some, lenA, appA, catA, nilA, lenC, len0, Nat.zero_add, Nat.reduceAdd, m1, m2]
  have e1 := hst S f (.var 0) [some (eP f), some (eP g), some (.int (n : Int)), none, none, none, none] (by omega) (by omega) (fun S => by simp only [b_lstP, vK_some, e_var, e_lit, lit_non, lit_bl, lit_int, lit_str, e_glob, oneK_some, e_bin, bin1_some, bin2_some, d_add, d_sub, e_neg, negK_some, e_cmp, cmp1_some, cmp2_some, map_some2, c_lt, c_le, c_gt, c_ge, c_eqI, c_neI, c_eqS, c_neS, tK_some, notK_some, blK_some, e_not, e_and, e_or, t_not, t_and, t_or, t_cmp, t_call, t_blt, a_nil, a_cons, andK_t, andK_f, o_nil, o_cons, orK_t, orK_f, e_ite, iteK_t, iteK_f, s_nil, s_cons, es1_some, es2_some, e_tup, tupK0, tupK1, tupK2, tupK3, tupK4, tupK5, e_lst, lstK0, lstK1, e_call, calK_some, e_blt, bltK_some, b_gcd, b_abs, b_int, b_max, b_min, b_lenT, b_lenL, b_tupT, b_tupL, b_lstT, b_lstL, b_all, items_lst, items_ro, map_some3, e_idx, idx1_some, idx2_some, i_tup, i_loc, at_0, at_1, at_2, at_3, e_slice, slK_some, slK1_some, slK2_some, o_none, o_some, oK_some, sl_tup, sl_loc, e_rev, revK_some, rv_tup, rv_loc, e_pop, popK_some, e_comp, it_tup, it_loc, it_enumT, it_enumL, it_zipT, it_zipL, e_dict, B_nil, B_cons, seqK_nx, seqK_ret, seqK_brk, seqK_cont, S_asg, asgK_some, nxK_some, bd_nm, bd_tup, bd_nil, bd_cons, bdK_some, S_par, parK_some, sa_nil, sa_cons, S_setI, stK_some, stK1_some, stK2_some, nxS_some, S_app, appK2_some, S_popS, popSK_some, S_ret, retK_some, S_retN, S_pass, S_brk, S_cont, S_ite, ifK_t, ifK_f, forK_some, getA, getA0, setA, setA0, lenA, appA, catA, nilA, lenC, len0, g_0, t_0, g_1, t_1, g_2, t_2, g_3, t_3, g_4, t_4, g_5, t_5, g_6, t_6, g_7, t_7, g_8, t_8, g_9, t_9, g_10, t_10, g_11, t_11, g_12, t_12, g_13, t_13, bindS, S_whil, S_for, compK_some]) (fun S => by
    have : (n : Int) - (f.length : Int) = ((n - f.length : Nat) : Int) := by omega
    simp only [b_lenP, this, vK_some, e_var, e_lit, lit_non, lit_bl, lit_int, lit_str, e_glob, oneK_some, e_bin, bin1_some, bin2_some, d_add, d_sub, e_neg, negK_some, e_cmp, cmp1_some, cmp2_some, map_some2, c_lt, c_le, c_gt, c_ge, c_eqI, c_neI, c_eqS, c_neS, tK_some, notK_some, blK_some, e_not, e_and, e_or, t_not, t_and, t_or, t_cmp, t_call, t_blt, a_nil, a_cons, andK_t, andK_f, o_nil, o_cons, orK_t, orK_f, e_ite, iteK_t, iteK_f, s_nil, s_cons, es1_some, es2_some, e_tup, tupK0, tupK1, tupK2, tupK3, tupK4, tupK5, e_lst, lstK0, lstK1, e_call, calK_some, e_blt, bltK_some, b_gcd, b_abs, b_int, b_max, b_min, b_lenT, b_lenL, b_tupT, b_tupL, b_lstT, b_lstL, b_all, items_lst, items_ro, map_some3, e_idx, idx1_some, idx2_some, i_tup, i_loc, at_0, at_1, at_2, at_3, e_slice, slK_some, slK1_some, slK2_some, o_none, o_some, oK_some, sl_tup, sl_loc, e_rev, revK_some, rv_tup, rv_loc, e_pop, popK_some, e_comp, it_tup, it_loc, it_enumT, it_enumL, it_zipT, it_zipL, e_dict, B_nil, B_cons, seqK_nx, seqK_ret, seqK_brk, seqK_cont, S_asg, asgK_some, nxK_some, bd_nm, bd_tup, bd_nil, bd_cons, bdK_some, S_par, parK_some, sa_nil, sa_cons, S_setI, stK_some, stK1_some, stK2_some, nxS_some, S_app, appK2_some, S_popS, popSK_some, S_ret, retK_some, S_retN, S_pass, S_brk, S_cont, S_ite, ifK_t, ifK_f, forK_some, getA, getA0, setA, setA0, lenA, appA, catA, nilA, lenC, len0, g_0, t_0, g_1, t_1, g_2, t_2, g_3, t_3, g_4, t_4, g_5, t_5, g_6, t_6, g_7, t_7, g_8, t_8, g_9, t_9, g_10, t_10, g_11, t_11, g_12, t_12, g_13, t_13, bindS, S_whil, S_for, compK_some])
  have e2 := hst (S ++ A) g (.var 1) [some (eP f), some (eP g), some (.int (n : Int)), none, none, none, none] (by omega) (by omega) (fun S => by simp only [b_lstP, vK_some, e_var, e_lit, lit_non, lit_bl, lit_int, lit_str, e_glob, oneK_some, e_bin, bin1_some, bin2_some, d_add, d_sub, e_neg, negK_some, e_cmp, cmp1_some, cmp2_some, map_some2, c_lt, c_le, c_gt, c_ge, c_eqI, c_neI, c_eqS, c_neS, tK_some, notK_some, blK_some, e_not, e_and, e_or, t_not, t_and, t_or, t_cmp, t_call, t_blt, a_nil, a_cons, andK_t, andK_f, o_nil, o_cons, orK_t, orK_f, e_ite, iteK_t, iteK_f, s_nil, s_cons, es1_some, es2_some, e_tup, tupK0, tupK1, tupK2, tupK3, tupK4, tupK5, e_lst, lstK0, lstK1, e_call, calK_some, e_blt, bltK_some, b_gcd, b_abs, b_int, b_max, b_min, b_lenT, b_lenL, b_tupT, b_tupL, b_lstT, b_lstL, b_all, items_lst, items_ro, map_some3, e_idx, idx1_some, idx2_some, i_tup, i_loc, at_0, at_1, at_2, at_3, e_slice, slK_some, slK1_some, slK2_some, o_none, o_some, oK_some, sl_tup, sl_loc, e_rev, revK_some, rv_tup, rv_loc, e_pop, popK_some, e_comp, it_tup, it_loc, it_enumT, it_enumL, it_zipT, it_zipL, e_dict, B_nil, B_cons, seqK_nx, seqK_ret, seqK_brk, seqK_cont, S_asg, asgK_some, nxK_some, bd_nm, bd_tup, bd_nil, bd_cons, bdK_some, S_par, parK_some, sa_nil, sa_cons, S_setI, stK_some, stK1_some, stK2_some, nxS_some, S_app, appK2_some, S_popS, popSK_some, S_ret, retK_some, S_retN, S_pass, S_brk, S_cont, S_ite, ifK_t, ifK_f, forK_some, getA, getA0, setA, setA0, lenA, appA, catA, nilA, lenC, len0, g_0, t_0, g_1, t_1, g_2, t_2, g_3, t_3, g_4, t_4, g_5, t_5, g_6, t_6, g_7, t_7, g_8, t_8, g_9, t_9, g_10, t_10, g_11, t_11, g_12, t_12, g_13, t_13, bindS, S_whil, S_for, compK_some]) (fun S => by
    have : (n : Int) - (g.length : Int) = ((n - g.length : Nat) : Int) := by omega
    simp only [b_lenP, this, vK_some, e_var, e_lit, lit_non, lit_bl, lit_int, lit_str, e_glob, oneK_some, e_bin, bin1_some, bin2_some, d_add, d_sub, e_neg, negK_some, e_cmp, cmp1_some, cmp2_some, map_some2, c_lt, c_le, c_gt, c_ge, c_eqI, c_neI, c_eqS, c_neS, tK_some, notK_some, blK_some, e_not, e_and, e_or, t_not, t_and, t_or, t_cmp, t_call, t_blt, a_nil, a_cons, andK_t, andK_f, o_nil, o_cons, orK_t, orK_f, e_ite, iteK_t, iteK_f, s_nil, s_cons, es1_some, es2_some, e_tup, tupK0, tupK1, tupK2, tupK3, tupK4, tupK5, e_lst, lstK0, lstK1, e_call, calK_some, e_blt, bltK_some, b_gcd, b_abs, b_int, b_max, b_min, b_lenT, b_lenL, b_tupT, b_tupL, b_lstT, b_lstL, b_all, items_lst, items_ro, map_some3, e_idx, idx1_some, idx2_some, i_tup, i_loc, at_0, at_1, at_2, at_3, e_slice, slK_some, slK1_some, slK2_some, o_none, o_some, oK_some, sl_tup, sl_loc, e_rev, revK_some, rv_tup, rv_loc, e_pop, popK_some, e_comp, it_tup, it_loc, it_enumT, it_enumL, it_zipT, it_zipL, e_dict, B_nil, B_cons, seqK_nx, seqK_ret, seqK_brk, seqK_cont, S_asg, asgK_some, nxK_some, bd_nm, bd_tup, bd_nil, bd_cons, bdK_some, S_par, parK_some, sa_nil, sa_cons, S_setI, stK_some, stK1_some, stK2_some, nxS_some, S_app, appK2_some, S_popS, popSK_some, S_ret, retK_some, S_retN, S_pass, S_brk, S_cont, S_ite, ifK_t, ifK_f, forK_some, getA, getA0, setA, setA0, lenA, appA, catA, nilA, lenC, len0, g_0, t_0, g_1, t_1, g_2, t_2, g_3, t_3, g_4, t_4, g_5, t_5, g_6, t_6, g_7, t_7, g_8, t_8, g_9, t_9, g_10, t_10, g_11, t_11, g_12, t_12, g_13, t_13, bindS, S_whil, S_for, compK_some])
  have hA : (S ++ A).length + 3 = S.length + 7 := by simp [A]
  rw [hA] at e2
  have hit : iterD .zip [.loc (S.length + 3), .loc (S.length + 7)] (S ++ A ++ B) = some ((List.range (min ((xtd f n).map eF).length ((xtd g n).map eF).length)).map fun i => .tup [((xtd f n).map eF).getD i .non, ((xtd g n).map eF).getD i .non], [S.length + 3, S.length + 7]) := by
    rw [it_zipL, appA, getA, getA]
    rfl
  have hc := compI_map (S := S ++ A ++ B) (C := ⟨runF cst tb (k + 2), cst⟩) (t := .tup [.nm 5, .nm 6]) (ifs := []) (elt := .call "_law_plus" [.var 5, .var 6]) (own := [5, 6]) (ρ := [some (eP f), some (eP g), some (.int (n : Int)), some (.loc (S.length + 3)), some (.loc (S.length + 7)), none, none])
    (xs := (List.range (min ((xtd f n).map eF).length ((xtd g n).map eF).length)).map fun i => .tup [((xtd f n).map eF).getD i .non, ((xtd g n).map eF).getD i .non]) (L := [S.length + 3, S.length + 7]) (fun i => eF (co f i + co g i)) (by simp [A, B]) (by simp [sizeLine]; omega) (fun i x acc e => by
      obtain ⟨h1, h2, rfl⟩ := zip_get e
      rw [List.length_map] at h1 h2
      rw [getD_map h1, getD_map h2, co_xtd, co_xtd]
      refine cs0 (ρ1 := [some (eP f), some (eP g), some (.int (n : Int)), some (.loc (S.length + 3)), some (.loc (S.length + 7)), some (eF (co f i)), some (eF (co g i))]) (by simp only [w_nil, w_cons, vK_some, e_var, e_lit, lit_non, lit_bl, lit_int, lit_str, e_glob, oneK_some, e_bin, bin1_some, bin2_some, d_add, d_sub, e_neg, negK_some, e_cmp, cmp1_some, cmp2_some, map_some2, c_lt, c_le, c_gt, c_ge, c_eqI, c_neI, c_eqS, c_neS, tK_some, notK_some, blK_some, e_not, e_and, e_or, t_not, t_and, t_or, t_cmp, t_call, t_blt, a_nil, a_cons, andK_t, andK_f, o_nil, o_cons, orK_t, orK_f, e_ite, iteK_t, iteK_f, s_nil, s_cons, es1_some, es2_some, e_tup, tupK0, tupK1, tupK2, tupK3, tupK4, tupK5, e_lst, lstK0, lstK1, e_call, calK_some, e_blt, bltK_some, b_gcd, b_abs, b_int, b_max, b_min, b_lenT, b_lenL, b_tupT, b_tupL, b_lstT, b_lstL, b_all, items_lst, items_ro, map_some3, e_idx, idx1_some, idx2_some, i_tup, i_loc, at_0, at_1, at_2, at_3, e_slice, slK_some, slK1_some, slK2_some, o_none, o_some, oK_some, sl_tup, sl_loc, e_rev, revK_some, rv_tup, rv_loc, e_pop, popK_some, e_comp, it_tup, it_loc, it_enumT, it_enumL, it_zipT, it_zipL, e_dict, B_nil, B_cons, seqK_nx, seqK_ret, seqK_brk, seqK_cont, S_asg, asgK_some, nxK_some, bd_nm, bd_tup, bd_nil, bd_cons, bdK_some, S_par, parK_some, sa_nil, sa_cons, S_setI, stK_some, stK1_some, stK2_some, nxS_some, S_app, appK2_some, S_popS, popSK_some, S_ret, retK_some, S_retN, S_pass, S_brk, S_cont, S_ite, ifK_t, ifK_f, forK_some, getA, getA0, setA, setA0, lenA, appA, catA, nilA, lenC, len0, g_0, t_0, g_1, t_1, g_2, t_2, g_3, t_3, g_4, t_4, g_5, t_5, g_6, t_6, g_7, t_7, g_8, t_8, g_9, t_9, g_10, t_10, g_11, t_11, g_12, t_12, g_13, t_13, bindS, S_whil, S_for, compK_some]) ?_
      have r := fun k S => r_law_plus (cst := cst) (k := k) (S := S) T.toLfT (hf.co i) (hg.co i)
      simp only [r, vK_some, e_var, e_lit, lit_non, lit_bl, lit_int, lit_str, e_glob, oneK_some, e_bin, bin1_some, bin2_some, d_add, d_sub, e_neg, negK_some, e_cmp, cmp1_some, cmp2_some, map_some2, c_lt, c_le, c_gt, c_ge, c_eqI, c_neI, c_eqS, c_neS, tK_some, notK_some, blK_some, e_not, e_and, e_or, t_not, t_and, t_or, t_cmp, t_call, t_blt, a_nil, a_cons, andK_t, andK_f, o_nil, o_cons, orK_t, orK_f, e_ite, iteK_t, iteK_f, s_nil, s_cons, es1_some, es2_some, e_tup, tupK0, tupK1, tupK2, tupK3, tupK4, tupK5, e_lst, lstK0, lstK1, e_call, calK_some, e_blt, bltK_some, b_gcd, b_abs, b_int, b_max, b_min, b_lenT, b_lenL, b_tupT, b_tupL, b_lstT, b_lstL, b_all, items_lst, items_ro, map_some3, e_idx, idx1_some, idx2_some, i_tup, i_loc, at_0, at_1, at_2, at_3, e_slice, slK_some, slK1_some, slK2_some, o_none, o_some, oK_some, sl_tup, sl_loc, e_rev, revK_some, rv_tup, rv_loc, e_pop, popK_some, e_comp, it_tup, it_loc, it_enumT, it_enumL, it_zipT, it_zipL, e_dict, B_nil, B_cons, seqK_nx, seqK_ret, seqK_brk, seqK_cont, S_asg, asgK_some, nxK_some, bd_nm, bd_tup, bd_nil, bd_cons, bdK_some, S_par, parK_some, sa_nil, sa_cons, S_setI, stK_some, stK1_some, stK2_some, nxS_some, S_app, appK2_some, S_popS, popSK_some, S_ret, retK_some, S_retN, S_pass, S_brk, S_cont, S_ite, ifK_t, ifK_f, forK_some, getA, getA0, setA, setA0, lenA, appA, catA, nilA, lenC, len0, g_0, t_0, g_1, t_1, g_2, t_2, g_3, t_3, g_4, t_4, g_5, t_5, g_6, t_6, g_7, t_7, g_8, t_8, g_9, t_9, g_10, t_10, g_11, t_11, g_12, t_12, g_13, t_13, bindS, S_whil, S_for, compK_some])
  have hmin : min ((xtd f n).map eF).length ((xtd g n).map eF).length = n := by rw [List.length_map, List.length_map, l1, l2]; omega
  rw [hmin] at hc hit
  rw [List.length_map, List.length_range, tab_eF] at hc
  have hl8 : (S ++ A ++ B).length = S.length + 8 := by simp [A, B]
  rw [hl8] at hc
  have r := r_law_poly (cst := cst) (tb := tb) (k := k + 1) (S := S ++ A ++ B ++ [.lst ((tab n fun i => co f i + co g i).map eF)]) T.poly (d := .loc (S.length + 8)) (f := tab n fun i => co f i + co g i) (by rw [b_lstL, ← hl8, getA0]; rfl)
  refine run_ret (G := A ++ B ++ [.lst ((tab n fun i => co f i + co g i).map eF)]) T.sum rfl ?_ (NoLoc_eP _)
  have hmx : (if (g.length : Int) > f.length then (g.length : Int) else f.length) = (n : Int) := max_nat _ _
  have e1' : evE ⟨runF cst tb (k + 2), cst⟩ (.bin .add (.blt "list" [.var 0]) (.bin .mul (.lst [.tup [.lit (.int 0), .lit (.int 1)]]) (.bin .sub (.var 2) (.blt "len" [.var 0])))) [some (eP f), some (eP g), some (.int (n : Int)), none, none, none, none] S = some (.loc (S.length + 3), S ++ A) := e1
  have e2' : evE ⟨runF cst tb (k + 2), cst⟩ (.bin .add (.blt "list" [.var 1]) (.bin .mul (.lst [.tup [.lit (.int 0), .lit (.int 1)]]) (.bin .sub (.var 2) (.blt "len" [.var 1])))) [some (eP f), some (eP g), some (.int (n : Int)), none, none, none, none] (S ++ A) = some (.loc (S.length + 7), S ++ A ++ B) := e2
  have es : evEs ⟨runF cst tb (k + 2), cst⟩ [.bin .add (.blt "list" [.var 0]) (.bin .mul (.lst [.tup [.lit (.int 0), .lit (.int 1)]]) (.bin .sub (.var 2) (.blt "len" [.var 0]))), .bin .add (.blt "list" [.var 1]) (.bin .mul (.lst [.tup [.lit (.int 0), .lit (.int 1)]]) (.bin .sub (.var 2) (.blt "len" [.var 1])))] [some (eP f), some (eP g), some (.int (n : Int)), none, none, none, none] S = some ([.loc (S.length + 3), .loc (S.length + 7)], S ++ A ++ B) := by
    rw [s_cons, e1', es1_some, s_cons, e2', es1_some, s_nil, es2_some, es2_some]
  rw [d__law_sum]
  simp only [List.map, List.replicate, Nat.reduceSub, List.cons_append, List.nil_append]
  rw [B_cons, S_asg]
  simp only [b_lenP, hmx, e_blt, e_var, g_0, g_1, vK_some, s_cons, s_nil, es1_some, es2_some, bltK_some, b_max, asgK_some, bd_nm, t_2, nxK_some, seqK_nx]
  rw [B_cons, S_par, es, parK_some]
  simp only [sa_cons, sa_nil, t_3, t_4, nxK_some, seqK_nx]
  rw [B_cons, S_ret, e_call, s_cons, e_comp]
  simp only [s_cons, s_nil, e_var, g_3, g_4, vK_some, es1_some, es2_some, compK_some, hit, hc, calK_some, r, retK_some, seqK_ret]
  rw [appA, appA, appA]
  rfl
/-! products -/
def accR (u v : Nat → Rat) (i j k : Nat) : Rat := smR i (fun i' => if i' ≤ k then u i' * v (k - i') else 0) + if i ≤ k ∧ k < i + j then u i * v (k - i) else 0
theorem accR_row {u v : Nat → Rat} {m : Nat} (hv : ∀ j, m ≤ j → v j = 0) (i k : Nat) : accR u v i m k = accR u v (i + 1) 0 k := by
  unfold accR
  rw [if_neg (show ¬ (i + 1 ≤ k ∧ k < i + 1 + 0) by omega), Rat.add_zero, smR]
  congr 1
  by_cases h : i ≤ k
  · rw [if_pos h]
    by_cases h2 : k < i + m
    · rw [if_pos ⟨h, h2⟩]
    · rw [if_neg (by omega), hv _ (by omega), Rat.mul_zero]
  · rw [if_neg (by omega), if_neg h]
theorem accR_step (u v : Nat → Rat) (i j k : Nat) : (if k = i + j then accR u v i j (i + j) + u i * v j else accR u v i j k) = accR u v i (j + 1) k := by
  unfold accR
  by_cases h : k = i + j
  · subst h
    rw [if_pos rfl, if_neg (show ¬ (i ≤ i + j ∧ i + j < i + j) by omega), if_pos (show i ≤ i + j ∧ i + j < i + (j + 1) by omega), Rat.add_zero, show i + j - i = j by omega]
  · rw [if_neg h]
    congr 1
    by_cases h2 : i ≤ k ∧ k < i + j
    · rw [if_pos h2, if_pos (by omega)]
    · rw [if_neg h2, if_neg (by omega)]
theorem Sz.acc {B C : Nat} {f g : List Rat} (hf : Bd B f) (hg : Bd C g) (i j k : Nat) (hi : i < f.length) : Sz (B + C) (accR (co f) (co g) i j k) := by
  obtain ⟨D, h1, h2, h3, h4⟩ := hf
  obtain ⟨E, k1, k2, k3, k4⟩ := hg
  have hp := Nat.mul_pos h1 k1
  have hDE : D * E < 2 ^ (B + C) := by rw [Nat.pow_add]; exact Nat.mul_lt_mul'' h2 k2
  have b : l1 D f * l1 E g < 2 ^ (B + C) := by rw [Nat.pow_add]; exact Nat.mul_lt_mul'' h4 k4
  have hv : ∀ j, (ov E (co g j)).natAbs ≤ l1 E g := fun j => by
    by_cases hj : j < g.length
    · exact smN_ge (f := fun i => (ov E (co g i)).natAbs) hj
    · rw [co_of_le (by omega), ov_zero]; exact Nat.zero_le _
  have t : ∀ i', (if i' ≤ k then co f i' * co g (k - i') else 0).den ∣ D * E ∧ (ov (D * E) (if i' ≤ k then co f i' * co g (k - i') else 0)).natAbs ≤ l1 E g * (ov D (co f i')).natAbs := fun i' => by
    split
    · obtain ⟨x1, x2⟩ := ov_mul h1 k1 (h3 i') (k3 (k - i'))
      refine ⟨x1, ?_⟩
      rw [x2, Int.natAbs_mul, Nat.mul_comm]
      exact Nat.mul_le_mul_right _ (hv _)
    · exact ⟨Nat.one_dvd _, by rw [ov_zero]; exact Nat.zero_le _⟩
  have t2 : (if i ≤ k ∧ k < i + j then co f i * co g (k - i) else 0).den ∣ D * E ∧ (ov (D * E) (if i ≤ k ∧ k < i + j then co f i * co g (k - i) else 0)).natAbs ≤ l1 E g * (ov D (co f i)).natAbs := by
    split
    · obtain ⟨x1, x2⟩ := ov_mul h1 k1 (h3 i) (k3 (k - i))
      refine ⟨x1, ?_⟩
      rw [x2, Int.natAbs_mul, Nat.mul_comm]
      exact Nat.mul_le_mul_right _ (hv _)
    · exact ⟨Nat.one_dvd _, by rw [ov_zero]; exact Nat.zero_le _⟩
  obtain ⟨s1, s2⟩ := ov_sum hp i fun i' _ => (t i').1
  obtain ⟨a1, a2⟩ := ov_add hp s1 t2.1
  have e : (ov (D * E) (accR (co f) (co g) i j k)).natAbs ≤ l1 E g * l1 D f := by
    unfold accR
    rw [a2, s2]
    have q1 := Int.natAbs_add_le (smI i fun i' => ov (D * E) (if i' ≤ k then co f i' * co g (k - i') else 0)) (ov (D * E) (if i ≤ k ∧ k < i + j then co f i * co g (k - i) else 0))
    have q2 : (smI i fun i' => ov (D * E) (if i' ≤ k then co f i' * co g (k - i') else 0)).natAbs ≤ smN i fun i' => l1 E g * (ov D (co f i')).natAbs := Nat.le_trans (smI_abs _ _) (smN_le fun i' _ => (t i').2)
    have q3 : smN (i + 1) (fun i' => l1 E g * (ov D (co f i')).natAbs) ≤ l1 E g * l1 D f := by
      rw [smN_mul]
      refine Nat.mul_le_mul_left _ ?_
      unfold l1
      obtain ⟨m, hm⟩ : ∃ m, f.length = i + 1 + m := ⟨f.length - (i + 1), by omega⟩
      rw [hm]
      clear hm
      induction m with
      | zero => exact Nat.le_refl _
      | succ m ih => exact Nat.le_trans ih (Nat.le_add_right _ _)
    rw [smN] at q3
    have := t2.2
    omega
  have hz : accR (co f) (co g) i j k = co [accR (co f) (co g) i j k] 0 := rfl
  have hb : Bd (B + C) [accR (co f) (co g) i j k] := by
    refine ⟨D * E, hp, hDE, fun i' => ?_, ?_⟩
    · cases i' with
      | zero => exact a1
      | succ i' => exact Nat.one_dvd _
    · show 0 + (ov (D * E) (accR (co f) (co g) i j k)).natAbs < _
      rw [Nat.mul_comm] at b
      omega
  exact hb.szc 0
theorem zeros_map (n : Nat) : (List.replicate n [eF 0]).flatten = (List.replicate n (0 : Rat)).map eF := by simp
theorem tab_zero (n : Nat) : List.replicate n (0 : Rat) = tab n fun _ => 0 := by
  apply List.ext_getElem
  · simp [tab]
  · intro i h1 h2; simp [tab]
set_option maxHeartbeats 1000000 in
theorem r_law_product (T : LpT tb) {f g : List Rat} {B C : Nat} (hf : Bd B f) (hg : Bd C g) (hB : B + C ≤ 4000) (lf : f.length < 1000) (lg : g.length < 1000) :
    runF cst tb (k + 3) "_law_product" [eP f, eP g] S = some (eP (pmul f g), S) := by
  let N := f.length + g.length
  let F : Nat → Nat → List Rat := fun i j => tab N fun k => accR (co f) (co g) i j k
  let st : Nat → Nat → Sto := fun i j => S ++ [.lst [eF 0], .lst ((F i j).map eF)]
  have hF : ∀ i j, (F i j).length = N := fun i j => by simp [F, tab]
  have hv0 : ∀ j, g.length ≤ j → co g j = 0 := fun j hj => co_of_le hj
  let body : List Sx := [.setI (.var 2) (.bin .add (.var 3) (.var 5)) (.call "_law_plus" [.idx (.var 2) (.bin .add (.var 3) (.var 5)), .call "_law_by" [.var 4, .var 6]])]
  have hbody : body = [.setI (.var 2) (.bin .add (.var 3) (.var 5)) (.call "_law_plus" [.idx (.var 2) (.bin .add (.var 3) (.var 5)), .call "_law_by" [.var 4, .var 6]])] := rfl
  have hit : ∀ (f : List Rat) S, iterD .enum [eP f] S = some ((List.range (f.map eF).length).map fun i => .tup [.int (i : Nat), (f.map eF).getD i .non], []) := fun f S => rfl
  have inner : ∀ i, i < f.length → ∀ x y, ∃ ρ' S', forI ⟨runF cst tb (k + 2), cst⟩ (.tup [.nm 5, .nm 6]) body
      [some (eP f), some (eP g), some (.loc (S.length + 1)), some (.int (i : Nat)), some (eF (co f i)), x, y] (st i 0) (some ((List.range (g.map eF).length).map fun i => .tup [.int (i : Nat), (g.map eF).getD i .non], [])) = some (.nx ρ', S') ∧
      S' = st (i + 1) 0 ∧ ∃ x y, ρ' = [some (eP f), some (eP g), some (.loc (S.length + 1)), some (.int (i : Nat)), some (eF (co f i)), x, y] := by
    intro i hi x y
    obtain ⟨ρ', S', e1, hI⟩ := for_inv (L := []) (S0 := st i 0) (step := forStep ⟨runF cst tb (k + 2), cst⟩ (.tup [.nm 5, .nm 6]) body)
      (fun j ρ S' => S' = st i j ∧ ∃ x y, ρ = [some (eP f), some (eP g), some (.loc (S.length + 1)), some (.int (i : Nat)), some (eF (co f i)), x, y])
      (xs := (List.range (g.map eF).length).map fun i => .tup [.int (i : Nat), (g.map eF).getD i .non]) (S := st i 0) (ρ := [some (eP f), some (eP g), some (.loc (S.length + 1)), some (.int (i : Nat)), some (eF (co f i)), x, y]) ⟨rfl, x, y, rfl⟩ (fun j w ρ S' e hq => by
        obtain ⟨rfl, x1, y1, rfl⟩ := hq
        obtain ⟨hj, rfl⟩ := enum_get e
        rw [List.length_map] at hj
        rw [getD_map hj]
        have hij : (i : Int) + (j : Int) = ((i + j : Nat) : Int) := by omega
        have hlt : i + j < N := by show i + j < f.length + g.length; omega
        have hg' : idxD (.loc (S.length + 1)) (.int ((i + j : Nat) : Int)) (st i j) = some (eF (accR (co f) (co g) i j (i + j))) := by
          rw [i_loc, getA]
          show atI ((F i j).map eF) _ = _
          rw [at_nat, List.getElem?_map, co_get (by rw [hF]; exact hlt)]
          show some (eF (co (tab N _) (i + j))) = _
          rw [co_tab, if_pos hlt]
        have hs : setD (.loc (S.length + 1)) (.int ((i + j : Nat) : Int)) (eF (accR (co f) (co g) i j (i + j) + co f i * co g j)) (st i j) = some (st i (j + 1)) := by
          rw [set_lst (xs := (F i j).map eF) (by rw [getA]; rfl) (by rw [List.length_map, hF]; exact hlt), setA]
          have hh : ((F i j).map eF).set (i + j) (eF (accR (co f) (co g) i j (i + j) + co f i * co g j)) = (F i (j + 1)).map eF := by
            show ((tab N fun k => accR (co f) (co g) i j k).map eF).set _ _ = (tab N fun k => accR (co f) (co g) i (j + 1) k).map eF
            rw [← tab_eF, ← tab_eF, set_tab]
            refine List.map_congr_left fun k _ => ?_
            rw [← accR_step]
            split <;> rfl
          show some (S ++ [.lst [eF 0], .lst (((F i j).map eF).set (i + j) _)]) = _
          rw [hh]
        have r1 := fun k S => r_law_by (cst := cst) (k := k) (S := S) T.toLfT ((hf.szc i).mono (show B ≤ 4000 by omega)) ((hg.szc j).mono (show C ≤ 4000 by omega))
        have r2 := fun k S => r_law_plus (cst := cst) (k := k) (S := S) T.toLfT ((Sz.acc hf hg i j (i + j) hi).mono hB) ((Sz.mul (hf.szc i) (hg.szc j)).mono hB)
        refine ⟨[some (eP f), some (eP g), some (.loc (S.length + 1)), some (.int (i : Nat)), some (eF (co f i)), some (.int (j : Nat)), some (eF (co g j))], st i (j + 1), ?_, by simp, rfl, _, _, rfl⟩
        simp only [forStep, hbody, hij, hg', r1, r2, hs, vK_some, e_var, e_lit, lit_non, lit_bl, lit_int, lit_str, e_glob, oneK_some, e_bin, bin1_some, bin2_some, d_add, d_sub, e_neg, negK_some, e_cmp, cmp1_some, cmp2_some, map_some2, c_lt, c_le, c_gt, c_ge, c_eqI, c_neI, c_eqS, c_neS, tK_some, notK_some, blK_some, e_not, e_and, e_or, t_not, t_and, t_or, t_cmp, t_call, t_blt, a_nil, a_cons, andK_t, andK_f, o_nil, o_cons, orK_t, orK_f, e_ite, iteK_t, iteK_f, s_nil, s_cons, es1_some, es2_some, e_tup, tupK0, tupK1, tupK2, tupK3, tupK4, tupK5, e_lst, lstK0, lstK1, e_call, calK_some, e_blt, bltK_some, b_gcd, b_abs, b_int, b_max, b_min, b_lenT, b_lenL, b_tupT, b_tupL, b_lstT, b_lstL, b_all, items_lst, items_ro, map_some3, e_idx, idx1_some, idx2_some, i_tup, i_loc, at_0, at_1, at_2, at_3, e_slice, slK_some, slK1_some, slK2_some, o_none, o_some, oK_some, sl_tup, sl_loc, e_rev, revK_some, rv_tup, rv_loc, e_pop, popK_some, e_comp, it_tup, it_loc, it_enumT, it_enumL, it_zipT, it_zipL, e_dict, B_nil, B_cons, seqK_nx, seqK_ret, seqK_brk, seqK_cont, S_asg, asgK_some, nxK_some, bd_nm, bd_tup, bd_nil, bd_cons, bdK_some, S_par, parK_some, sa_nil, sa_cons, S_setI, stK_some, stK1_some, stK2_some, nxS_some, S_app, appK2_some, S_popS, popSK_some, S_ret, retK_some, S_retN, S_pass, S_brk, S_cont, S_ite, ifK_t, ifK_f, forK_some, getA, getA0, setA, setA0, lenA, appA, catA, nilA, lenC, len0, g_0, t_0, g_1, t_1, g_2, t_2, g_3, t_3, g_4, t_4, g_5, t_5, g_6, t_6, g_7, t_7, g_8, t_8, g_9, t_9, g_10, t_10, g_11, t_11, g_12, t_12, g_13, t_13, bindS, S_whil, S_for, compK_some])
    rw [List.length_map, List.length_range, List.length_map] at hI
    obtain ⟨h1, x, y, h2⟩ := hI
    refine ⟨ρ', S', e1, ?_, x, y, h2⟩
    rw [h1]
    have hh : F i g.length = F (i + 1) 0 := List.map_congr_left fun k _ => by
      show accR (co f) (co g) i g.length k = accR (co f) (co g) (i + 1) 0 k
      rw [accR_row hv0]
    show S ++ [.lst [eF 0], .lst ((F i g.length).map eF)] = S ++ [.lst [eF 0], .lst ((F (i + 1) 0).map eF)]
    rw [hh]
  obtain ⟨ρ', S', e1, hI⟩ := for_inv (L := []) (S0 := st 0 0) (step := forStep ⟨runF cst tb (k + 2), cst⟩ (.tup [.nm 3, .nm 4]) [.forr .enum [.var 1] (.tup [.nm 5, .nm 6]) body])
    (fun i ρ S' => S' = st i 0 ∧ ∃ x y z w, ρ = [some (eP f), some (eP g), some (.loc (S.length + 1)), x, y, z, w])
    (xs := (List.range (f.map eF).length).map fun i => .tup [.int (i : Nat), (f.map eF).getD i .non]) (S := st 0 0) (ρ := [some (eP f), some (eP g), some (.loc (S.length + 1)), none, none, none, none]) ⟨rfl, _, _, _, _, rfl⟩ (fun i w ρ S' e hq => by
      obtain ⟨rfl, x1, y1, z1, w1, rfl⟩ := hq
      obtain ⟨hi, rfl⟩ := enum_get e
      rw [List.length_map] at hi
      rw [getD_map hi]
      obtain ⟨ρ2, S2, e2, rfl, x2, y2, rfl⟩ := inner i hi z1 w1
      refine ⟨_, st (i + 1) 0, ?_, by simp, rfl, some (.int (i : Nat)), some (eF (co f i)), x2, y2, rfl⟩
      simp only [forStep, hit, e2, vK_some, e_var, e_lit, lit_non, lit_bl, lit_int, lit_str, e_glob, oneK_some, e_bin, bin1_some, bin2_some, d_add, d_sub, e_neg, negK_some, e_cmp, cmp1_some, cmp2_some, map_some2, c_lt, c_le, c_gt, c_ge, c_eqI, c_neI, c_eqS, c_neS, tK_some, notK_some, blK_some, e_not, e_and, e_or, t_not, t_and, t_or, t_cmp, t_call, t_blt, a_nil, a_cons, andK_t, andK_f, o_nil, o_cons, orK_t, orK_f, e_ite, iteK_t, iteK_f, s_nil, s_cons, es1_some, es2_some, e_tup, tupK0, tupK1, tupK2, tupK3, tupK4, tupK5, e_lst, lstK0, lstK1, e_call, calK_some, e_blt, bltK_some, b_gcd, b_abs, b_int, b_max, b_min, b_lenT, b_lenL, b_tupT, b_tupL, b_lstT, b_lstL, b_all, items_lst, items_ro, map_some3, e_idx, idx1_some, idx2_some, i_tup, i_loc, at_0, at_1, at_2, at_3, e_slice, slK_some, slK1_some, slK2_some, o_none, o_some, oK_some, sl_tup, sl_loc, e_rev, revK_some, rv_tup, rv_loc, e_pop, popK_some, e_comp, it_tup, it_loc, it_enumT, it_enumL, it_zipT, it_zipL, e_dict, B_nil, B_cons, seqK_nx, seqK_ret, seqK_brk, seqK_cont, S_asg, asgK_some, nxK_some, bd_nm, bd_tup, bd_nil, bd_cons, bdK_some, S_par, parK_some, sa_nil, sa_cons, S_setI, stK_some, stK1_some, stK2_some, nxS_some, S_app, appK2_some, S_popS, popSK_some, S_ret, retK_some, S_retN, S_pass, S_brk, S_cont, S_ite, ifK_t, ifK_f, forK_some, getA, getA0, setA, setA0, lenA, appA, catA, nilA, lenC, len0, g_0, t_0, g_1, t_1, g_2, t_2, g_3, t_3, g_4, t_4, g_5, t_5, g_6, t_6, g_7, t_7, g_8, t_8, g_9, t_9, g_10, t_10, g_11, t_11, g_12, t_12, g_13, t_13, bindS, S_whil, S_for, compK_some])
  rw [List.length_map, List.length_range, List.length_map] at hI
  obtain ⟨rfl, x, y, z, w, rfl⟩ := hI
  have r := r_law_poly (cst := cst) (tb := tb) (k := k + 1) (S := st f.length 0) T.poly (d := .loc (S.length + 1)) (f := F f.length 0) (by rw [b_lstL, getA]; rfl)
  have hres : trim (F f.length 0) = pmul f g := by
    have hh : F f.length 0 = tab N (cv f g) := List.map_congr_left fun k _ => by
      show accR (co f) (co g) f.length 0 k = cv f g k
      unfold accR
      rw [if_neg (by omega), Rat.add_zero]
      rfl
    rw [hh]
    rfl
  rw [hres] at r
  have hz : binD .mul (.loc S.length) (.int ((N : Nat) : Int)) (S ++ [.lst [eF 0]]) = some (.loc (S.length + 1), st 0 0) := by
    rw [m_loc (xs := [eF 0]) (getA0 ..) (by show f.length + g.length < 2 ^ 62; omega) (by show 1 * (f.length + g.length) ≤ sizeLine; simp only [sizeLine]; omega), zeros_map, tab_zero]
    have hh : (tab N fun _ => (0 : Rat)) = F 0 0 := List.map_congr_left fun k _ => by
      rw [accR, if_neg (by omega), Rat.add_zero]
      rfl
    rw [hh]
    simp only [lenA, appA, catA, nilA, lenC, len0, Nat.zero_add, Nat.reduceAdd, st]
  have hN : (f.length : Int) + (g.length : Int) = ((N : Nat) : Int) := by show _ = ((f.length + g.length : Nat) : Int); omega
  have hl1 : ∀ S, lstK (some ([eF 0], S)) = some (.loc S.length, S ++ [.lst [eF 0]]) := fun S => rfl
  have e1' : forI ⟨runF cst tb (k + 2), cst⟩ (.tup [.nm 3, .nm 4]) [.forr .enum [.var 1] (.tup [.nm 5, .nm 6]) body] _ (st 0 0) (some ((List.range (f.map eF).length).map fun i => .tup [.int (i : Nat), (f.map eF).getD i .non], [])) = _ := e1
  rw [hbody] at e1'
  refine run_ret (G := [.lst [eF 0], .lst ((F f.length 0).map eF)]) T.product rfl ?_ (NoLoc_eP _)
  simp only [d__law_product, List.map, List.replicate, Nat.reduceSub, List.cons_append, List.nil_append, eF_zero, hl1, b_lenP, hN, hz, hit, e1', r, vK_some, e_var, e_lit, lit_non, lit_bl, lit_int, lit_str, e_glob, oneK_some, e_bin, bin1_some, bin2_some, d_add, d_sub, e_neg, negK_some, e_cmp, cmp1_some, cmp2_some, map_some2, c_lt, c_le, c_gt, c_ge, c_eqI, c_neI, c_eqS, c_neS, tK_some, notK_some, blK_some, e_not, e_and, e_or, t_not, t_and, t_or, t_cmp, t_call, t_blt, a_nil, a_cons, andK_t, andK_f, o_nil, o_cons, orK_t, orK_f, e_ite, iteK_t, iteK_f, s_nil, s_cons, es1_some, es2_some, e_tup, tupK0, tupK1, tupK2, tupK3, tupK4, tupK5, e_lst, lstK0, lstK1, e_call, calK_some, e_blt, bltK_some, b_gcd, b_abs, b_int, b_max, b_min, b_lenT, b_lenL, b_tupT, b_tupL, b_lstT, b_lstL, b_all, items_lst, items_ro, map_some3, e_idx, idx1_some, idx2_some, i_tup, i_loc, at_0, at_1, at_2, at_3, e_slice, slK_some, slK1_some, slK2_some, o_none, o_some, oK_some, sl_tup, sl_loc, e_rev, revK_some, rv_tup, rv_loc, e_pop, popK_some, e_comp, it_tup, it_loc, it_enumT, it_enumL, it_zipT, it_zipL, e_dict, B_nil, B_cons, seqK_nx, seqK_ret, seqK_brk, seqK_cont, S_asg, asgK_some, nxK_some, bd_nm, bd_tup, bd_nil, bd_cons, bdK_some, S_par, parK_some, sa_nil, sa_cons, S_setI, stK_some, stK1_some, stK2_some, nxS_some, S_app, appK2_some, S_popS, popSK_some, S_ret, retK_some, S_retN, S_pass, S_brk, S_cont, S_ite, ifK_t, ifK_f, forK_some, getA, getA0, setA, setA0, lenA, appA, catA, nilA, lenC, len0, g_0, t_0, g_1, t_1, g_2, t_2, g_3, t_3, g_4, t_4, g_5, t_5, g_6, t_6, g_7, t_7, g_8, t_8, g_9, t_9, g_10, t_10, g_11, t_11, g_12, t_12, g_13, t_13, bindS, S_whil, S_for, compK_some]
  rfl
end
end Pf.Z

/-! The law's own normals, worths, Dickson's. -/
namespace Pf.Z
open PySem PySem.Spec PyProof.Rows L2
section
variable {cst : Str → Option D} {tb : Str → Option FD} {k : Nat} {S : Sto}
theorem mulOk_r {i j : Int} (h : j.natAbs < 2 ^ 63) : mulOk i j = true := by
  simp [mulOk]
  left; right
  omega
theorem mulOk_l {i j : Int} (h : i.natAbs < 2 ^ 63) : mulOk i j = true := by
  simp [mulOk]
  left; left
  omega
/-- the law's own normal -/
def lnorm (f : List Rat) : List Rat := poften (1 / lead f) (padd f (if co f 0 = 0 then [] else [- co f 0]))
theorem inv_divInt' (c : Rat) : Rat.divInt (c.den : Int) c.num = 1 / c := by rw [← Rat.inv_def, Rat.div_def, Rat.one_mul]
theorem lowOk_inv {c : Rat} (h : c ≠ 0) : LowOk (c.den : Int) c.num := by
  refine LowOk.small (fun z => h (Rat.num_eq_zero.1 z)) ?_
  rw [Int.natAbs_natCast, Nat.gcd_comm]
  have : Nat.gcd c.num.natAbs c.den = 1 := c.reduced
  omega
theorem r_law_normal_of (T : LpT tb) (h : tb "_law_normal_of" = some d__law_normal_of) {f : List Rat} {B : Nat} (hf : Bd B f) (hB : 2 * B + 1 ≤ 4000) (hne : f ≠ []) (h0 : lead f ≠ 0) (lf : f.length < 900) :
    runF cst tb (k + 4) "_law_normal_of" [eP f] S = some (.tup [eF (lead f), eF (co f 0), eP (lnorm f)], S) := by
  refine run_ret0 h rfl ?_ (by simp [NoLoc, NoLocs, NoLoc_eP, NoLoc_eF])
  have hl : ∀ S, idxD (eP f) (.int (-1)) S = some (eF (lead f)) := fun S => i_Plast hne
  have h3 := fun S => i_P0 (S := S) hne
  have r1 := fun k S => r_law_low (cst := cst) (k := k) (S := S) T.low (lowOk_inv h0)
  rw [inv_divInt'] at r1
  have hs : Sz B (1 / lead f) := Sz_inv1 (hf.szc (f.length - 1)) h0
  have s0 : Sz B (co f 0) := hf.szc 0
  by_cases hz : co f 0 = 0
  · have hd : decide ((co f 0).num = 0) = true := decide_eq_true (by rw [hz]; rfl)
    have r2 := fun k S => r_law_sum (cst := cst) (k := k) (S := S) T (f := f) (g := []) (hf.sz.mono (show B ≤ 4000 by omega)) (fun a ha => nomatch ha) (by omega) (by decide)
    have lp := padd_len f []
    have r3 := fun k S => r_law_often (cst := cst) (k := k) (S := S) T.toLfT T.poly T.often (hs.mono (show B ≤ 4000 by omega)) ((Bd.add hf (Bd.nil (B := 0))).sz.mono (show _ ≤ 4000 by omega)) (by simp at lp; omega)
    simp only [d__law_normal_of, List.map, List.replicate, Nat.reduceSub, List.cons_append, List.nil_append, hl, h3, i_F0, i_F1, r1, hd, Bool.not_true, eP_nil, r2, r3, vK_some, e_var, e_lit, lit_non, lit_bl, lit_int, lit_str, e_glob, oneK_some, e_bin, bin1_some, bin2_some, d_add, d_sub, e_neg, negK_some, e_cmp, cmp1_some, cmp2_some, map_some2, c_lt, c_le, c_gt, c_ge, c_eqI, c_neI, c_eqS, c_neS, tK_some, notK_some, blK_some, e_not, e_and, e_or, t_not, t_and, t_or, t_cmp, t_call, t_blt, a_nil, a_cons, andK_t, andK_f, o_nil, o_cons, orK_t, orK_f, e_ite, iteK_t, iteK_f, s_nil, s_cons, es1_some, es2_some, e_tup, tupK0, tupK1, tupK2, tupK3, tupK4, tupK5, e_lst, lstK0, lstK1, e_call, calK_some, e_blt, bltK_some, b_gcd, b_abs, b_int, b_max, b_min, b_lenT, b_lenL, b_tupT, b_tupL, b_lstT, b_lstL, b_all, items_lst, items_ro, map_some3, e_idx, idx1_some, idx2_some, i_tup, i_loc, at_0, at_1, at_2, at_3, e_slice, slK_some, slK1_some, slK2_some, o_none, o_some, oK_some, sl_tup, sl_loc, e_rev, revK_some, rv_tup, rv_loc, e_pop, popK_some, e_comp, it_tup, it_loc, it_enumT, it_enumL, it_zipT, it_zipL, e_dict, B_nil, B_cons, seqK_nx, seqK_ret, seqK_brk, seqK_cont, S_asg, asgK_some, nxK_some, bd_nm, bd_tup, bd_nil, bd_cons, bdK_some, S_par, parK_some, sa_nil, sa_cons, S_setI, stK_some, stK1_some, stK2_some, nxS_some, S_app, appK2_some, S_popS, popSK_some, S_ret, retK_some, S_retN, S_pass, S_brk, S_cont, S_ite, ifK_t, ifK_f, forK_some, getA, getA0, setA, setA0, lenA, appA, catA, nilA, lenC, len0, g_0, t_0, g_1, t_1, g_2, t_2, g_3, t_3, g_4, t_4, g_5, t_5, g_6, t_6, g_7, t_7, g_8, t_8, g_9, t_9, g_10, t_10, g_11, t_11, g_12, t_12, g_13, t_13, bindS, S_whil, S_for, compK_some]
    simp only [lnorm, if_pos hz]
  · have hd : decide ((co f 0).num = 0) = false := decide_eq_false fun z => hz (Rat.num_eq_zero.1 z)
    have e1 : ((0 : Int) - (co f 0).num) = (-(co f 0)).num := by rw [Rat.neg_num]; omega
    have e2 : (.tup [.tup [.int ((0 : Int) - (co f 0).num), .int (co f 0).den]] : D) = eP [-(co f 0)] := by rw [e1]; rfl
    have r2 := fun k S => r_law_sum (cst := cst) (k := k) (S := S) T (f := f) (g := [-(co f 0)]) (hf.sz.mono (show B ≤ 4000 by omega)) ((Bd.flat s0.neg').sz.mono (show B ≤ 4000 by omega)) (by omega) (by simp)
    have lp := padd_len f [-(co f 0)]
    simp only [List.length_singleton] at lp
    have r3 := fun k S => r_law_often (cst := cst) (k := k) (S := S) T.toLfT T.poly T.often (hs.mono (show B ≤ 4000 by omega)) ((Bd.add hf (Bd.flat s0.neg')).sz.mono (show _ ≤ 4000 by omega)) (by omega)
    simp only [d__law_normal_of, List.map, List.replicate, Nat.reduceSub, List.cons_append, List.nil_append, hl, h3, i_F0, i_F1, r1, hd, Bool.not_false, e2, r2, r3, vK_some, e_var, e_lit, lit_non, lit_bl, lit_int, lit_str, e_glob, oneK_some, e_bin, bin1_some, bin2_some, d_add, d_sub, e_neg, negK_some, e_cmp, cmp1_some, cmp2_some, map_some2, c_lt, c_le, c_gt, c_ge, c_eqI, c_neI, c_eqS, c_neS, tK_some, notK_some, blK_some, e_not, e_and, e_or, t_not, t_and, t_or, t_cmp, t_call, t_blt, a_nil, a_cons, andK_t, andK_f, o_nil, o_cons, orK_t, orK_f, e_ite, iteK_t, iteK_f, s_nil, s_cons, es1_some, es2_some, e_tup, tupK0, tupK1, tupK2, tupK3, tupK4, tupK5, e_lst, lstK0, lstK1, e_call, calK_some, e_blt, bltK_some, b_gcd, b_abs, b_int, b_max, b_min, b_lenT, b_lenL, b_tupT, b_tupL, b_lstT, b_lstL, b_all, items_lst, items_ro, map_some3, e_idx, idx1_some, idx2_some, i_tup, i_loc, at_0, at_1, at_2, at_3, e_slice, slK_some, slK1_some, slK2_some, o_none, o_some, oK_some, sl_tup, sl_loc, e_rev, revK_some, rv_tup, rv_loc, e_pop, popK_some, e_comp, it_tup, it_loc, it_enumT, it_enumL, it_zipT, it_zipL, e_dict, B_nil, B_cons, seqK_nx, seqK_ret, seqK_brk, seqK_cont, S_asg, asgK_some, nxK_some, bd_nm, bd_tup, bd_nil, bd_cons, bdK_some, S_par, parK_some, sa_nil, sa_cons, S_setI, stK_some, stK1_some, stK2_some, nxS_some, S_app, appK2_some, S_popS, popSK_some, S_ret, retK_some, S_retN, S_pass, S_brk, S_cont, S_ite, ifK_t, ifK_f, forK_some, getA, getA0, setA, setA0, lenA, appA, catA, nilA, lenC, len0, g_0, t_0, g_1, t_1, g_2, t_2, g_3, t_3, g_4, t_4, g_5, t_5, g_6, t_6, g_7, t_7, g_8, t_8, g_9, t_9, g_10, t_10, g_11, t_11, g_12, t_12, g_13, t_13, bindS, S_whil, S_for, compK_some]
    simp only [lnorm, if_neg hz]
/-- the law's own worth -/
def lat (x : Rat) : List Rat → Rat → Rat → Rat
  | [], a, _ => a
  | c :: f, a, p => lat x f (a + c * p) (p * x)
theorem lat_take (x : Rat) : ∀ (f : List Rat) (i : Nat) (a p : Rat) (c : Rat), f[i]? = some c → lat x (f.take (i + 1)) a p = lat x (f.take i) a p + c * (p * x ^ i)
  | b :: f, 0, a, p, c, h => by
    cases h
    show a + b * p = a + b * (p * x ^ 0)
    rw [Rat.pow_zero, Rat.mul_one]
  | b :: f, i + 1, a, p, c, h => by
    have := lat_take x f i (a + b * p) (p * x) c h
    show lat x (f.take (i + 1)) (a + b * p) (p * x) = lat x (f.take i) (a + b * p) (p * x) + _
    rw [this, Rat.pow_succ]
    grind
theorem Sz.lat {B C : Nat} {x : Rat} (hx : Sz C x) {f : List Rat} (hf : SzP B f) : ∀ i, i ≤ f.length → Sz (i * (B + f.length * C + 2) + 1) (lat x (f.take i) 0 1)
  | 0, _ => (Sz0 0).mono (by omega)
  | i + 1, h => by
    have ih := Sz.lat hx hf i (by omega)
    obtain ⟨c, hc⟩ : ∃ c, f[i]? = some c := ⟨_, List.getElem?_eq_getElem (by omega)⟩
    rw [lat_take x f i 0 1 c hc, Rat.one_mul]
    have m := Nat.mul_le_mul_right C (show i ≤ f.length by omega)
    exact (Sz.add ih (Sz.mul (hf c (List.mem_of_getElem? hc)) (hx.pow i))).mono (by rw [Nat.succ_mul]; omega)
theorem r_law_at (T : LfT tb) (h : tb "_law_at" = some d__law_at) {f : List Rat} {x : Rat} {B C : Nat} (hf : SzP B f) (hx : Sz C x) (hB : f.length * (B + f.length * C + 2) + B + f.length * C + 2 ≤ 4000) (hC : C ≤ 4000) :
    runF cst tb (k + 3) "_law_at" [eP f, eF x] S = some (eF (lat x f 0 1), S) := by
  refine run_ret0 h rfl ?_ (NoLoc_eF _)
  obtain ⟨ρ', S', e1, hI⟩ := for_inv (L := []) (S0 := S) (step := forStep ⟨runF cst tb (k + 2), cst⟩ (.nm 2) [.par [3, 4] [.call "_law_plus" [.var 3, .call "_law_by" [.var 2, .var 4]], .call "_law_by" [.var 4, .var 1]]])
    (fun i ρ S' => S' = S ∧ ∃ y, ρ = [some (eP f), some (eF x), y, some (eF (lat x (f.take i) 0 1)), some (eF (x ^ i))]) (xs := f.map eF) (ρ := [some (eP f), some (eF x), none, some (eF 0), some (eF 1)]) (S := S) ⟨rfl, none, by rw [Rat.pow_zero]; rfl⟩ (fun i w ρ S' e q => by
      obtain ⟨rfl, y, rfl⟩ := q
      obtain ⟨c, hc, rfl, hi⟩ := map_get e
      have m := Nat.mul_le_mul_right C (show i ≤ f.length by omega)
      have m2 := Nat.mul_le_mul_right (B + f.length * C + 2) (show i ≤ f.length by omega)
      have sp := hx.pow i
      have sc := hf c (List.mem_of_getElem? hc)
      have r1 := fun k S => r_law_by (cst := cst) (k := k) (S := S) T (sc.mono (show B ≤ 4000 by omega)) (sp.mono (show _ ≤ 4000 by omega))
      have r2 := fun k S => r_law_by (cst := cst) (k := k) (S := S) T (sp.mono (show _ ≤ 4000 by omega)) (hx.mono hC)
      have r3 := fun k S => r_law_plus (cst := cst) (k := k) (S := S) T ((Sz.lat hx hf i (by omega)).mono (show _ ≤ 4000 by omega)) ((Sz.mul sc sp).mono (show _ ≤ 4000 by omega))
      refine ⟨[some (eP f), some (eF x), some (eF c), some (eF (lat x (f.take (i + 1)) 0 1)), some (eF (x ^ (i + 1)))], S', ?_, by simp, rfl, _, rfl⟩
      rw [lat_take x f i 0 1 c hc, Rat.one_mul, Rat.pow_succ]
      simp only [forStep, r1, r2, r3, vK_some, e_var, e_lit, lit_non, lit_bl, lit_int, lit_str, e_glob, oneK_some, e_bin, bin1_some, bin2_some, d_add, d_sub, e_neg, negK_some, e_cmp, cmp1_some, cmp2_some, map_some2, c_lt, c_le, c_gt, c_ge, c_eqI, c_neI, c_eqS, c_neS, tK_some, notK_some, blK_some, e_not, e_and, e_or, t_not, t_and, t_or, t_cmp, t_call, t_blt, a_nil, a_cons, andK_t, andK_f, o_nil, o_cons, orK_t, orK_f, e_ite, iteK_t, iteK_f, s_nil, s_cons, es1_some, es2_some, e_tup, tupK0, tupK1, tupK2, tupK3, tupK4, tupK5, e_lst, lstK0, lstK1, e_call, calK_some, e_blt, bltK_some, b_gcd, b_abs, b_int, b_max, b_min, b_lenT, b_lenL, b_tupT, b_tupL, b_lstT, b_lstL, b_all, items_lst, items_ro, map_some3, e_idx, idx1_some, idx2_some, i_tup, i_loc, at_0, at_1, at_2, at_3, e_slice, slK_some, slK1_some, slK2_some, o_none, o_some, oK_some, sl_tup, sl_loc, e_rev, revK_some, rv_tup, rv_loc, e_pop, popK_some, e_comp, it_tup, it_loc, it_enumT, it_enumL, it_zipT, it_zipL, e_dict, B_nil, B_cons, seqK_nx, seqK_ret, seqK_brk, seqK_cont, S_asg, asgK_some, nxK_some, bd_nm, bd_tup, bd_nil, bd_cons, bdK_some, S_par, parK_some, sa_nil, sa_cons, S_setI, stK_some, stK1_some, stK2_some, nxS_some, S_app, appK2_some, S_popS, popSK_some, S_ret, retK_some, S_retN, S_pass, S_brk, S_cont, S_ite, ifK_t, ifK_f, forK_some, getA, getA0, setA, setA0, lenA, appA, catA, nilA, lenC, len0, g_0, t_0, g_1, t_1, g_2, t_2, g_3, t_3, g_4, t_4, g_5, t_5, g_6, t_6, g_7, t_7, g_8, t_8, g_9, t_9, g_10, t_10, g_11, t_11, g_12, t_12, g_13, t_13, bindS, S_whil, S_for, compK_some])
  obtain ⟨rfl, y, rfl⟩ := hI
  rw [List.length_map, List.take_length] at e1
  simp only [d__law_at, List.map, List.replicate, Nat.reduceSub, List.cons_append, List.nil_append, eF_zero, eF_one, it_P, forI_some, e1, vK_some, e_var, e_lit, lit_non, lit_bl, lit_int, lit_str, e_glob, oneK_some, e_bin, bin1_some, bin2_some, d_add, d_sub, e_neg, negK_some, e_cmp, cmp1_some, cmp2_some, map_some2, c_lt, c_le, c_gt, c_ge, c_eqI, c_neI, c_eqS, c_neS, tK_some, notK_some, blK_some, e_not, e_and, e_or, t_not, t_and, t_or, t_cmp, t_call, t_blt, a_nil, a_cons, andK_t, andK_f, o_nil, o_cons, orK_t, orK_f, e_ite, iteK_t, iteK_f, s_nil, s_cons, es1_some, es2_some, e_tup, tupK0, tupK1, tupK2, tupK3, tupK4, tupK5, e_lst, lstK0, lstK1, e_call, calK_some, e_blt, bltK_some, b_gcd, b_abs, b_int, b_max, b_min, b_lenT, b_lenL, b_tupT, b_tupL, b_lstT, b_lstL, b_all, items_lst, items_ro, map_some3, e_idx, idx1_some, idx2_some, i_tup, i_loc, at_0, at_1, at_2, at_3, e_slice, slK_some, slK1_some, slK2_some, o_none, o_some, oK_some, sl_tup, sl_loc, e_rev, revK_some, rv_tup, rv_loc, e_pop, popK_some, e_comp, it_tup, it_loc, it_enumT, it_enumL, it_zipT, it_zipL, e_dict, B_nil, B_cons, seqK_nx, seqK_ret, seqK_brk, seqK_cont, S_asg, asgK_some, nxK_some, bd_nm, bd_tup, bd_nil, bd_cons, bdK_some, S_par, parK_some, sa_nil, sa_cons, S_setI, stK_some, stK1_some, stK2_some, nxS_some, S_app, appK2_some, S_popS, popSK_some, S_ret, retK_some, S_retN, S_pass, S_brk, S_cont, S_ite, ifK_t, ifK_f, forK_some, getA, getA0, setA, setA0, lenA, appA, catA, nilA, lenC, len0, g_0, t_0, g_1, t_1, g_2, t_2, g_3, t_3, g_4, t_4, g_5, t_5, g_6, t_6, g_7, t_7, g_8, t_8, g_9, t_9, g_10, t_10, g_11, t_11, g_12, t_12, g_13, t_13, bindS, S_whil, S_for, compK_some]
/-- the law's own putting in -/
def lwi (h : List Rat) : List Rat → List Rat → List Rat → List Rat
  | [], a, _ => a
  | c :: g, a, p => lwi h g (padd a (poften c p)) (pmul p h)
theorem lwi_take (h : List Rat) : ∀ (g : List Rat) (i : Nat) (a : List Rat) (m : Nat) (c : Rat), g[i]? = some c → lwi h (g.take (i + 1)) a (ppow h m) = padd (lwi h (g.take i) a (ppow h m)) (poften c (ppow h (m + i)))
  | b :: g, 0, a, m, c, e => by
    cases e
    rfl
  | b :: g, i + 1, a, m, c, e => by
    have := lwi_take h g i (padd a (poften b (ppow h m))) (m + 1) c e
    show lwi h (g.take (i + 1)) (padd a (poften b (ppow h m))) (ppow h (m + 1)) = padd (lwi h (g.take i) (padd a (poften b (ppow h m))) (ppow h (m + 1))) _
    rw [this, show m + 1 + i = m + (i + 1) by omega]
theorem Bd.lwi {B C : Nat} {h g : List Rat} (hh : Bd C h) (hg : SzP B g) : ∀ i, i ≤ g.length → Bd (i * (B + g.length * C + 2) + 1) (lwi h (g.take i) [] [1]) ∧ (lwi h (g.take i) [] [1]).length ≤ i * h.length + 1
  | 0, _ => ⟨(Bd.nil (B := 0)).mono (by omega), by simp [Pf.Z.lwi]⟩
  | i + 1, hi => by
    obtain ⟨ih, il⟩ := Bd.lwi hh hg i (by omega)
    obtain ⟨c, hc⟩ : ∃ c, g[i]? = some c := ⟨_, List.getElem?_eq_getElem (by omega)⟩
    have e := lwi_take h g i [] 0 c hc
    rw [Nat.zero_add] at e
    have e' : Pf.Z.lwi h (g.take (i + 1)) [] [1] = padd (Pf.Z.lwi h (g.take i) [] [1]) (poften c (ppow h i)) := e
    rw [e']
    have m := Nat.mul_le_mul_right C (show i ≤ g.length by omega)
    refine ⟨(Bd.add ih (Bd.often (hg c (List.mem_of_getElem? hc)) (hh.pow i))).mono (by rw [Nat.succ_mul]; omega), ?_⟩
    have l1 := padd_len (Pf.Z.lwi h (g.take i) [] [1]) (poften c (ppow h i))
    have l2 := poften_len c (ppow h i)
    have l3 := ppow_len h i
    rw [Nat.succ_mul]
    omega
structure LwT (tb : Str → Option FD) : Prop extends LpT tb where
  within : tb "_law_within" = some d__law_within
theorem r_law_within (T : LwT tb) {g h : List Rat} {B C : Nat} (hg : SzP B g) (hh : Bd C h) (hB : g.length * (B + g.length * C + 2) + B + g.length * C + C + 4 ≤ 4000) (hl : g.length * h.length + h.length + 2 < 900) :
    runF cst tb (k + 4) "_law_within" [eP g, eP h] S = some (eP (lwi h g [] [1]), S) := by
  refine run_ret0 T.within rfl ?_ (NoLoc_eP _)
  obtain ⟨ρ', S', e1, hI⟩ := for_inv (L := []) (S0 := S) (step := forStep ⟨runF cst tb (k + 3), cst⟩ (.nm 2) [.par [3, 4] [.call "_law_sum" [.var 3, .call "_law_often" [.var 2, .var 4]], .call "_law_product" [.var 4, .var 1]]])
    (fun i ρ S' => S' = S ∧ ∃ y, ρ = [some (eP g), some (eP h), y, some (eP (lwi h (g.take i) [] [1])), some (eP (ppow h i))]) (xs := g.map eF) (ρ := [some (eP g), some (eP h), none, some (eP []), some (eP [1])]) (S := S) ⟨rfl, none, rfl⟩ (fun i w ρ S' e q => by
      obtain ⟨rfl, y, rfl⟩ := q
      obtain ⟨c, hc, rfl, hi⟩ := map_get e
      have m := Nat.mul_le_mul_right C (show i ≤ g.length by omega)
      have m2 := Nat.mul_le_mul_right (B + g.length * C + 2) (show i ≤ g.length by omega)
      have m3 := Nat.mul_le_mul_right h.length (show i ≤ g.length by omega)
      have sc := hg c (List.mem_of_getElem? hc)
      have bp := hh.pow i
      have lp := ppow_len h i
      obtain ⟨bf, lf⟩ := Bd.lwi hh hg i (by omega)
      have lo := poften_len c (ppow h i)
      have e := lwi_take h g i [] 0 c hc
      rw [Nat.zero_add] at e
      have e' : lwi h (g.take (i + 1)) [] [1] = padd (lwi h (g.take i) [] [1]) (poften c (ppow h i)) := e
      have r1 := fun k S => r_law_often (cst := cst) (k := k) (S := S) T.toLfT T.poly T.often (sc.mono (show B ≤ 4000 by omega)) (bp.sz.mono (show _ ≤ 4000 by omega)) (by omega)
      have r2 := fun k S => r_law_sum (cst := cst) (k := k) (S := S) T.toLpT (bf.sz.mono (show _ ≤ 4000 by omega)) ((Bd.often sc bp).sz.mono (show _ ≤ 4000 by omega)) (by omega) (by omega)
      have r3 := fun k S => r_law_product (cst := cst) (k := k) (S := S) T.toLpT bp hh (by omega) (by omega) (by omega)
      refine ⟨[some (eP g), some (eP h), some (eF c), some (eP (lwi h (g.take (i + 1)) [] [1])), some (eP (ppow h (i + 1)))], S', ?_, by simp, rfl, _, rfl⟩
      rw [e', ppow]
      simp only [forStep, r1, r2, r3, vK_some, e_var, e_lit, lit_non, lit_bl, lit_int, lit_str, e_glob, oneK_some, e_bin, bin1_some, bin2_some, d_add, d_sub, e_neg, negK_some, e_cmp, cmp1_some, cmp2_some, map_some2, c_lt, c_le, c_gt, c_ge, c_eqI, c_neI, c_eqS, c_neS, tK_some, notK_some, blK_some, e_not, e_and, e_or, t_not, t_and, t_or, t_cmp, t_call, t_blt, a_nil, a_cons, andK_t, andK_f, o_nil, o_cons, orK_t, orK_f, e_ite, iteK_t, iteK_f, s_nil, s_cons, es1_some, es2_some, e_tup, tupK0, tupK1, tupK2, tupK3, tupK4, tupK5, e_lst, lstK0, lstK1, e_call, calK_some, e_blt, bltK_some, b_gcd, b_abs, b_int, b_max, b_min, b_lenT, b_lenL, b_tupT, b_tupL, b_lstT, b_lstL, b_all, items_lst, items_ro, map_some3, e_idx, idx1_some, idx2_some, i_tup, i_loc, at_0, at_1, at_2, at_3, e_slice, slK_some, slK1_some, slK2_some, o_none, o_some, oK_some, sl_tup, sl_loc, e_rev, revK_some, rv_tup, rv_loc, e_pop, popK_some, e_comp, it_tup, it_loc, it_enumT, it_enumL, it_zipT, it_zipL, e_dict, B_nil, B_cons, seqK_nx, seqK_ret, seqK_brk, seqK_cont, S_asg, asgK_some, nxK_some, bd_nm, bd_tup, bd_nil, bd_cons, bdK_some, S_par, parK_some, sa_nil, sa_cons, S_setI, stK_some, stK1_some, stK2_some, nxS_some, S_app, appK2_some, S_popS, popSK_some, S_ret, retK_some, S_retN, S_pass, S_brk, S_cont, S_ite, ifK_t, ifK_f, forK_some, getA, getA0, setA, setA0, lenA, appA, catA, nilA, lenC, len0, g_0, t_0, g_1, t_1, g_2, t_2, g_3, t_3, g_4, t_4, g_5, t_5, g_6, t_6, g_7, t_7, g_8, t_8, g_9, t_9, g_10, t_10, g_11, t_11, g_12, t_12, g_13, t_13, bindS, S_whil, S_for, compK_some])
  obtain ⟨rfl, y, rfl⟩ := hI
  rw [List.length_map, List.take_length] at e1
  simp only [d__law_within, List.map, List.replicate, Nat.reduceSub, List.cons_append, List.nil_append, eF_one, eP_one, eP_nil, it_P, forI_some, e1, vK_some, e_var, e_lit, lit_non, lit_bl, lit_int, lit_str, e_glob, oneK_some, e_bin, bin1_some, bin2_some, d_add, d_sub, e_neg, negK_some, e_cmp, cmp1_some, cmp2_some, map_some2, c_lt, c_le, c_gt, c_ge, c_eqI, c_neI, c_eqS, c_neS, tK_some, notK_some, blK_some, e_not, e_and, e_or, t_not, t_and, t_or, t_cmp, t_call, t_blt, a_nil, a_cons, andK_t, andK_f, o_nil, o_cons, orK_t, orK_f, e_ite, iteK_t, iteK_f, s_nil, s_cons, es1_some, es2_some, e_tup, tupK0, tupK1, tupK2, tupK3, tupK4, tupK5, e_lst, lstK0, lstK1, e_call, calK_some, e_blt, bltK_some, b_gcd, b_abs, b_int, b_max, b_min, b_lenT, b_lenL, b_tupT, b_tupL, b_lstT, b_lstL, b_all, items_lst, items_ro, map_some3, e_idx, idx1_some, idx2_some, i_tup, i_loc, at_0, at_1, at_2, at_3, e_slice, slK_some, slK1_some, slK2_some, o_none, o_some, oK_some, sl_tup, sl_loc, e_rev, revK_some, rv_tup, rv_loc, e_pop, popK_some, e_comp, it_tup, it_loc, it_enumT, it_enumL, it_zipT, it_zipL, e_dict, B_nil, B_cons, seqK_nx, seqK_ret, seqK_brk, seqK_cont, S_asg, asgK_some, nxK_some, bd_nm, bd_tup, bd_nil, bd_cons, bdK_some, S_par, parK_some, sa_nil, sa_cons, S_setI, stK_some, stK1_some, stK2_some, nxS_some, S_app, appK2_some, S_popS, popSK_some, S_ret, retK_some, S_retN, S_pass, S_brk, S_cont, S_ite, ifK_t, ifK_f, forK_some, getA, getA0, setA, setA0, lenA, appA, catA, nilA, lenC, len0, g_0, t_0, g_1, t_1, g_2, t_2, g_3, t_3, g_4, t_4, g_5, t_5, g_6, t_6, g_7, t_7, g_8, t_8, g_9, t_9, g_10, t_10, g_11, t_11, g_12, t_12, g_13, t_13, bindS, S_whil, S_for, compK_some]
/-- how many ways to choose -/
def lch (n : Int) : Nat → Int
  | 0 => 1
  | i + 1 => (lch n i * (n - (i : Nat))).fdiv (((i : Nat) : Int) + 1)
theorem r_law_choose (h : tb "_law_choose" = some d__law_choose) {n : Int} {m : Nat} (hn : n.natAbs < 2 ^ 60) (hm : m < 2 ^ 20) : runF cst tb (k + 1) "_law_choose" [.int n, .int (m : Int)] S = some (.int (lch n m), S) := by
  refine run_ret0 h rfl ?_ trivial
  obtain ⟨ρ', S', e1, hI⟩ := for_inv (L := []) (S0 := S) (step := forStep ⟨runF cst tb k, cst⟩ (.nm 3) [.asg (.nm 2) (.bin .fdiv (.bin .mul (.var 2) (.bin .sub (.var 0) (.var 3))) (.bin .add (.var 3) (.lit (.int 1))))])
    (fun i ρ S' => S' = S ∧ ∃ x, ρ = [some (.int n), some (.int (m : Int)), some (.int (lch n i)), x]) (xs := (List.range m).map fun i => D.int (i : Nat)) (ρ := [some (.int n), some (.int (m : Int)), some (.int 1), none]) (S := S) ⟨rfl, none, rfl⟩ (fun i x ρ S' e q => by
      obtain ⟨rfl, x1, rfl⟩ := q
      obtain ⟨hi, rfl⟩ := rng_get e
      have f1 := fun S => d_mul (S := S) (i := lch n i) (j := n - (i : Nat)) (mulOk_r (by omega))
      have f2 := fun i' S => d_fdiv (S := S) (i := i') (j := ((i : Nat) : Int) + 1) (divOk_small (by omega) (by omega))
      refine ⟨[some (.int n), some (.int (m : Int)), some (.int (lch n (i + 1))), some (.int (i : Nat))], S', ?_, by simp, rfl, _, rfl⟩
      simp only [forStep, f1, f2, lch, vK_some, e_var, e_lit, lit_non, lit_bl, lit_int, lit_str, e_glob, oneK_some, e_bin, bin1_some, bin2_some, d_add, d_sub, e_neg, negK_some, e_cmp, cmp1_some, cmp2_some, map_some2, c_lt, c_le, c_gt, c_ge, c_eqI, c_neI, c_eqS, c_neS, tK_some, notK_some, blK_some, e_not, e_and, e_or, t_not, t_and, t_or, t_cmp, t_call, t_blt, a_nil, a_cons, andK_t, andK_f, o_nil, o_cons, orK_t, orK_f, e_ite, iteK_t, iteK_f, s_nil, s_cons, es1_some, es2_some, e_tup, tupK0, tupK1, tupK2, tupK3, tupK4, tupK5, e_lst, lstK0, lstK1, e_call, calK_some, e_blt, bltK_some, b_gcd, b_abs, b_int, b_max, b_min, b_lenT, b_lenL, b_tupT, b_tupL, b_lstT, b_lstL, b_all, items_lst, items_ro, map_some3, e_idx, idx1_some, idx2_some, i_tup, i_loc, at_0, at_1, at_2, at_3, e_slice, slK_some, slK1_some, slK2_some, o_none, o_some, oK_some, sl_tup, sl_loc, e_rev, revK_some, rv_tup, rv_loc, e_pop, popK_some, e_comp, it_tup, it_loc, it_enumT, it_enumL, it_zipT, it_zipL, e_dict, B_nil, B_cons, seqK_nx, seqK_ret, seqK_brk, seqK_cont, S_asg, asgK_some, nxK_some, bd_nm, bd_tup, bd_nil, bd_cons, bdK_some, S_par, parK_some, sa_nil, sa_cons, S_setI, stK_some, stK1_some, stK2_some, nxS_some, S_app, appK2_some, S_popS, popSK_some, S_ret, retK_some, S_retN, S_pass, S_brk, S_cont, S_ite, ifK_t, ifK_f, forK_some, getA, getA0, setA, setA0, lenA, appA, catA, nilA, lenC, len0, g_0, t_0, g_1, t_1, g_2, t_2, g_3, t_3, g_4, t_4, g_5, t_5, g_6, t_6, g_7, t_7, g_8, t_8, g_9, t_9, g_10, t_10, g_11, t_11, g_12, t_12, g_13, t_13, bindS, S_whil, S_for, compK_some])
  obtain ⟨rfl, x, rfl⟩ := hI
  rw [List.length_map, List.length_range] at e1
  have hr := it_rng (S := S') (m : Int) (by omega)
  simp only [d__law_choose, List.map, List.replicate, Nat.reduceSub, List.cons_append, List.nil_append, hr, Int.toNat_natCast, forI_some, e1, vK_some, e_var, e_lit, lit_non, lit_bl, lit_int, lit_str, e_glob, oneK_some, e_bin, bin1_some, bin2_some, d_add, d_sub, e_neg, negK_some, e_cmp, cmp1_some, cmp2_some, map_some2, c_lt, c_le, c_gt, c_ge, c_eqI, c_neI, c_eqS, c_neS, tK_some, notK_some, blK_some, e_not, e_and, e_or, t_not, t_and, t_or, t_cmp, t_call, t_blt, a_nil, a_cons, andK_t, andK_f, o_nil, o_cons, orK_t, orK_f, e_ite, iteK_t, iteK_f, s_nil, s_cons, es1_some, es2_some, e_tup, tupK0, tupK1, tupK2, tupK3, tupK4, tupK5, e_lst, lstK0, lstK1, e_call, calK_some, e_blt, bltK_some, b_gcd, b_abs, b_int, b_max, b_min, b_lenT, b_lenL, b_tupT, b_tupL, b_lstT, b_lstL, b_all, items_lst, items_ro, map_some3, e_idx, idx1_some, idx2_some, i_tup, i_loc, at_0, at_1, at_2, at_3, e_slice, slK_some, slK1_some, slK2_some, o_none, o_some, oK_some, sl_tup, sl_loc, e_rev, revK_some, rv_tup, rv_loc, e_pop, popK_some, e_comp, it_tup, it_loc, it_enumT, it_enumL, it_zipT, it_zipL, e_dict, B_nil, B_cons, seqK_nx, seqK_ret, seqK_brk, seqK_cont, S_asg, asgK_some, nxK_some, bd_nm, bd_tup, bd_nil, bd_cons, bdK_some, S_par, parK_some, sa_nil, sa_cons, S_setI, stK_some, stK1_some, stK2_some, nxS_some, S_app, appK2_some, S_popS, popSK_some, S_ret, retK_some, S_retN, S_pass, S_brk, S_cont, S_ite, ifK_t, ifK_f, forK_some, getA, getA0, setA, setA0, lenA, appA, catA, nilA, lenC, len0, g_0, t_0, g_1, t_1, g_2, t_2, g_3, t_3, g_4, t_4, g_5, t_5, g_6, t_6, g_7, t_7, g_8, t_8, g_9, t_9, g_10, t_10, g_11, t_11, g_12, t_12, g_13, t_13, bindS, S_whil, S_for, compK_some]
/-- the number of the i-th place from above -/
def ldc (n i : Nat) : Int := ((n : Int) * lch ((n : Int) - (i : Int)) i).fdiv ((n : Int) - (i : Int))
def ldkN (n : Nat) (t : Rat) (i : Nat) : List Rat := tab (n + 1) fun j => if (n - j) % 2 = 0 ∧ (n - j) / 2 < i then ((ldc n ((n - j) / 2) : Int) : Rat) * (-t) ^ ((n - j) / 2) else 0
def ldk (n : Nat) (t : Rat) : List Rat := ldkN n t (n / 2 + 1)
structure LdT (tb : Str → Option FD) : Prop extends LfT tb where
  to' : tb "_law_to" = some d__law_to
  choose : tb "_law_choose" = some d__law_choose
  ldickson : tb "_law_dickson" = some d__law_dickson
theorem r_law_dickson (T : LdT tb) {n : Nat} {t : Rat} {C : Nat} (ht : Sz C t) (hn : 1 ≤ n) (hn2 : n < 1000) (hB : n * C + 1 ≤ 4000) (hc : ∀ i, i ≤ n / 2 → (ldc n i).natAbs < 2 ^ 4000) :
    runF cst tb (k + 4) "_law_dickson" [.int (n : Int), eF t] S = some (eP (ldk n t), S) := by
  have hC : C ≤ 4000 := by
    have := Nat.mul_le_mul_right C hn
    omega
  let st : Nat → Sto := fun i => S ++ [.lst [eF 0], .lst ((ldkN n t i).map eF)]
  have hlen : ∀ i, (ldkN n t i).length = n + 1 := fun i => by simp [ldkN, tab]
  have hn0 : ldkN n t 0 = List.replicate (n + 1) 0 := by
    rw [tab_zero]
    refine List.map_congr_left fun j _ => ?_
    rw [if_neg (by omega)]
  obtain ⟨ρ', S', e1, hI⟩ := for_inv (L := []) (S0 := st 0) (step := forStep ⟨runF cst tb (k + 3), cst⟩ (.nm 2) [.setI (.var 3) (.bin .sub (.var 0) (.bin .mul (.lit (.int 2)) (.var 2))) (.call "_law_by" [.tup [.bin .fdiv (.bin .mul (.var 0) (.call "_law_choose" [.bin .sub (.var 0) (.var 2), .var 2])) (.bin .sub (.var 0) (.var 2)), .lit (.int 1)], .call "_law_to" [.var 4, .var 2]])])
    (fun i ρ S' => S' = st i ∧ ∃ x, ρ = [some (.int (n : Int)), some (eF t), x, some (.loc (S.length + 1)), some (eF (-t))]) (xs := (List.range (n / 2 + 1)).map fun i => D.int (i : Nat)) (ρ := [some (.int (n : Int)), some (eF t), none, some (.loc (S.length + 1)), some (eF (-t))]) (S := st 0) ⟨rfl, none, rfl⟩ (fun i x ρ S' e q => by
      obtain ⟨rfl, x1, rfl⟩ := q
      obtain ⟨hi, rfl⟩ := rng_get e
      have f0 := fun S => d_mul (S := S) (i := 2) (j := (i : Int)) (mulOk_r (by omega))
      have hix : (n : Int) - 2 * (i : Int) = ((n - 2 * i : Nat) : Int) := by omega
      have r0 := fun k S => r_law_choose (cst := cst) (k := k) (S := S) T.choose (n := (n : Int) - (i : Int)) (m := i) (by omega) (by omega)
      have f1 := fun S => d_mul (S := S) (i := (n : Int)) (j := lch ((n : Int) - (i : Int)) i) (mulOk_l (by omega))
      have f2 := fun i' S => d_fdiv (S := S) (i := i') (j := (n : Int) - (i : Int)) (divOk_small (by omega) (by omega))
      have m := Nat.mul_le_mul_right C (show i ≤ n by omega)
      have r1 := fun k S => r_law_to (cst := cst) (k := k) (S := S) T.toLfT T.to' (n := i) ht.neg' (by omega) hC (by omega)
      have sc : Sz 4000 ((ldc n i : Int) : Rat) := ⟨by simpa using hc i (by omega), by simp⟩
      have r2 := fun k S => r_law_by (cst := cst) (k := k) (S := S) T.toLfT sc ((ht.neg'.pow i).mono (show _ ≤ 4000 by omega))
      have ec : (.tup [.int (((n : Int) * lch ((n : Int) - (i : Int)) i).fdiv ((n : Int) - (i : Int))), .int 1] : D) = eF ((ldc n i : Int) : Rat) := rfl
      have hs : setD (.loc (S.length + 1)) (.int ((n - 2 * i : Nat) : Int)) (eF (((ldc n i : Int) : Rat) * (-t) ^ i)) (st i) = some (st (i + 1)) := by
        rw [set_lst (xs := (ldkN n t i).map eF) (by rw [getA]; rfl) (by rw [List.length_map, hlen]; omega), setA]
        have hh : ((ldkN n t i).map eF).set (n - 2 * i) (eF (((ldc n i : Int) : Rat) * (-t) ^ i)) = (ldkN n t (i + 1)).map eF := by
          unfold ldkN
          rw [← tab_eF, ← tab_eF, set_tab]
          refine List.map_congr_left fun j hj => ?_
          rw [List.mem_range] at hj
          by_cases h1 : j = n - 2 * i
          · have h2 : (n - j) / 2 = i := by omega
            rw [if_pos h1, if_pos (by omega), h2]
          · rw [if_neg h1]
            congr 1
            by_cases h2 : (n - j) % 2 = 0 ∧ (n - j) / 2 < i
            · rw [if_pos h2, if_pos (by omega)]
            · rw [if_neg h2, if_neg (by omega)]
        show some (S ++ [.lst [eF 0], .lst (((ldkN n t i).map eF).set (n - 2 * i) _)]) = _
        rw [hh]
      refine ⟨[some (.int (n : Int)), some (eF t), some (.int (i : Nat)), some (.loc (S.length + 1)), some (eF (-t))], st (i + 1), ?_, by simp, rfl, _, rfl⟩
      simp only [forStep, f0, hix, r0, f1, f2, r1, ec, r2, hs, vK_some, e_var, e_lit, lit_non, lit_bl, lit_int, lit_str, e_glob, oneK_some, e_bin, bin1_some, bin2_some, d_add, d_sub, e_neg, negK_some, e_cmp, cmp1_some, cmp2_some, map_some2, c_lt, c_le, c_gt, c_ge, c_eqI, c_neI, c_eqS, c_neS, tK_some, notK_some, blK_some, e_not, e_and, e_or, t_not, t_and, t_or, t_cmp, t_call, t_blt, a_nil, a_cons, andK_t, andK_f, o_nil, o_cons, orK_t, orK_f, e_ite, iteK_t, iteK_f, s_nil, s_cons, es1_some, es2_some, e_tup, tupK0, tupK1, tupK2, tupK3, tupK4, tupK5, e_lst, lstK0, lstK1, e_call, calK_some, e_blt, bltK_some, b_gcd, b_abs, b_int, b_max, b_min, b_lenT, b_lenL, b_tupT, b_tupL, b_lstT, b_lstL, b_all, items_lst, items_ro, map_some3, e_idx, idx1_some, idx2_some, i_tup, i_loc, at_0, at_1, at_2, at_3, e_slice, slK_some, slK1_some, slK2_some, o_none, o_some, oK_some, sl_tup, sl_loc, e_rev, revK_some, rv_tup, rv_loc, e_pop, popK_some, e_comp, it_tup, it_loc, it_enumT, it_enumL, it_zipT, it_zipL, e_dict, B_nil, B_cons, seqK_nx, seqK_ret, seqK_brk, seqK_cont, S_asg, asgK_some, nxK_some, bd_nm, bd_tup, bd_nil, bd_cons, bdK_some, S_par, parK_some, sa_nil, sa_cons, S_setI, stK_some, stK1_some, stK2_some, nxS_some, S_app, appK2_some, S_popS, popSK_some, S_ret, retK_some, S_retN, S_pass, S_brk, S_cont, S_ite, ifK_t, ifK_f, forK_some, getA, getA0, setA, setA0, lenA, appA, catA, nilA, lenC, len0, g_0, t_0, g_1, t_1, g_2, t_2, g_3, t_3, g_4, t_4, g_5, t_5, g_6, t_6, g_7, t_7, g_8, t_8, g_9, t_9, g_10, t_10, g_11, t_11, g_12, t_12, g_13, t_13, bindS, S_whil, S_for, compK_some])
  obtain ⟨rfl, x, rfl⟩ := hI
  rw [List.length_map, List.length_range] at e1
  have hd2 := fun S => d_fdiv (S := S) (i := (n : Int)) (j := 2) (divOk_small (by decide) (by decide))
  have hn2' : (n : Int).fdiv 2 + 1 = ((n / 2 + 1 : Nat) : Int) := by
    have := fdivNat n 2
    have e : ((2 : Nat) : Int) = 2 := rfl
    rw [e] at this
    rw [this]
    omega
  have hr := it_rng (S := st 0) ((n / 2 + 1 : Nat) : Int) (by omega)
  have hz : binD .mul (.loc S.length) (.int ((n + 1 : Nat) : Int)) (S ++ [.lst [eF 0]]) = some (.loc (S.length + 1), st 0) := by
    rw [m_loc (xs := [eF 0]) (getA0 ..) (by omega) (by show 1 * (n + 1) ≤ sizeLine; simp only [sizeLine]; omega), zeros_map, ← hn0]
    simp only [lenA, appA, catA, nilA, lenC, len0, Nat.zero_add, Nat.reduceAdd, st]
  have hn1 : (n : Int) + 1 = ((n + 1 : Nat) : Int) := by omega
  have hl1 : ∀ S, lstK (some ([eF 0], S)) = some (.loc S.length, S ++ [.lst [eF 0]]) := fun S => rfl
  have et : (.tup [.int ((0 : Int) - t.num), .int t.den] : D) = eF (-t) := by
    rw [show (0 : Int) - t.num = (-t).num by rw [Rat.neg_num]; omega]
    rfl
  refine run_ret (G := [.lst [eF 0], .lst ((ldk n t).map eF)]) T.ldickson rfl ?_ (NoLoc_eP _)
  have hres : bltD "tuple" [.loc (S.length + 1)] (st (n / 2 + 1)) = some (eP (ldk n t), st (n / 2 + 1)) := by
    rw [b_tupL, getA]
    rfl
  simp only [d__law_dickson, List.map, List.replicate, Nat.reduceSub, List.cons_append, List.nil_append, eF_zero, hl1, hn1, hz, i_F0, i_F1, et, hd2, hn2', hr, Int.toNat_natCast, forI_some, e1, hres, vK_some, e_var, e_lit, lit_non, lit_bl, lit_int, lit_str, e_glob, oneK_some, e_bin, bin1_some, bin2_some, d_add, d_sub, e_neg, negK_some, e_cmp, cmp1_some, cmp2_some, map_some2, c_lt, c_le, c_gt, c_ge, c_eqI, c_neI, c_eqS, c_neS, tK_some, notK_some, blK_some, e_not, e_and, e_or, t_not, t_and, t_or, t_cmp, t_call, t_blt, a_nil, a_cons, andK_t, andK_f, o_nil, o_cons, orK_t, orK_f, e_ite, iteK_t, iteK_f, s_nil, s_cons, es1_some, es2_some, e_tup, tupK0, tupK1, tupK2, tupK3, tupK4, tupK5, e_lst, lstK0, lstK1, e_call, calK_some, e_blt, bltK_some, b_gcd, b_abs, b_int, b_max, b_min, b_lenT, b_lenL, b_tupT, b_tupL, b_lstT, b_lstL, b_all, items_lst, items_ro, map_some3, e_idx, idx1_some, idx2_some, i_tup, i_loc, at_0, at_1, at_2, at_3, e_slice, slK_some, slK1_some, slK2_some, o_none, o_some, oK_some, sl_tup, sl_loc, e_rev, revK_some, rv_tup, rv_loc, e_pop, popK_some, e_comp, it_tup, it_loc, it_enumT, it_enumL, it_zipT, it_zipL, e_dict, B_nil, B_cons, seqK_nx, seqK_ret, seqK_brk, seqK_cont, S_asg, asgK_some, nxK_some, bd_nm, bd_tup, bd_nil, bd_cons, bdK_some, S_par, parK_some, sa_nil, sa_cons, S_setI, stK_some, stK1_some, stK2_some, nxS_some, S_app, appK2_some, S_popS, popSK_some, S_ret, retK_some, S_retN, S_pass, S_brk, S_cont, S_ite, ifK_t, ifK_f, forK_some, getA, getA0, setA, setA0, lenA, appA, catA, nilA, lenC, len0, g_0, t_0, g_1, t_1, g_2, t_2, g_3, t_3, g_4, t_4, g_5, t_5, g_6, t_6, g_7, t_7, g_8, t_8, g_9, t_9, g_10, t_10, g_11, t_11, g_12, t_12, g_13, t_13, bindS, S_whil, S_for, compK_some]
  rfl
end
end Pf.Z

/-! What a law draws from its script. -/
namespace Pf.Z
open PySem PySem.Spec PyProof.Rows L2
section
variable {cst : Str → Option D} {tb : Str → Option FD} {k : Nat} {S : Sto}
/-- the source's place -/
def srcD (p : Nat) (l m t : Int) : Cell := .dct [(Sum.inr "cells", .loc p), (Sum.inr "left", .int l), (Sum.inr "mixed", .int m), (Sum.inr "turn", .int t)]
def SrcAt (S : Sto) (n p : Nat) : Prop := n ≠ p ∧ ∃ (cs : List Int) (l m t : Int), S[n]? = some (srcD p l m t) ∧ S[p]? = some (.lst (cs.map D.int))
/-- what stood stands, but the source -/
def Frm (n p : Nat) (S S' : Sto) : Prop := S.length ≤ S'.length ∧ ∀ i, i < S.length → i ≠ n → i ≠ p → S'[i]? = S[i]?
theorem Frm.refl (n p : Nat) (S : Sto) : Frm n p S S := ⟨Nat.le_refl _, fun _ _ _ _ => rfl⟩
theorem Frm.trans {n p : Nat} {S S' S'' : Sto} (a : Frm n p S S') (b : Frm n p S' S'') : Frm n p S S'' :=
  ⟨Nat.le_trans a.1 b.1, fun i h1 h2 h3 => (b.2 i (Nat.lt_of_lt_of_le h1 a.1) h2 h3).trans (a.2 i h1 h2 h3)⟩
theorem Frm.app (n p : Nat) (S G : Sto) : Frm n p S (S ++ G) := ⟨by simp, fun i h _ _ => List.getElem?_append_left h⟩
theorem SrcAt.lt {S : Sto} {n p : Nat} (h : SrcAt S n p) : n < S.length ∧ p < S.length := by
  obtain ⟨_, cs, l, m, t, h1, h2⟩ := h
  exact ⟨(List.getElem?_eq_some_iff.1 h1).1, (List.getElem?_eq_some_iff.1 h2).1⟩
theorem SrcAt.app {S : Sto} {n p : Nat} (h : SrcAt S n p) (G : Sto) : SrcAt (S ++ G) n p := by
  obtain ⟨l1, l2⟩ := h.lt
  obtain ⟨h0, cs, l, m, t, h1, h2⟩ := h
  exact ⟨h0, cs, l, m, t, by rw [List.getElem?_append_left l1]; exact h1, by rw [List.getElem?_append_left l2]; exact h2⟩
theorem run_src {f : Str} {fd : FD} {ds : List D} {d : D} {S' : Sto} {n p : Nat} (h : tb f = some fd) (hl : ds.length = fd.np) (e : evB ⟨runF cst tb k, cst⟩ fd.body (ds.map some ++ List.replicate (fd.nl - fd.np) none) S = some (.ret d, S'))
    (hS : SrcAt S n p) (hF : Frm n p S S') (hS' : SrcAt S' n p) : ∃ S'', runF cst tb (k + 1) f ds S = some (d, S'') ∧ Frm n p S S'' ∧ SrcAt S'' n p := by
  rw [runF, h, Option.bind_some, if_pos hl, e, Option.bind_some]
  simp only [retD]
  split
  · exact ⟨S, rfl, Frm.refl n p S, hS⟩
  · exact ⟨S', rfl, hF, hS'⟩
theorem g_cells {n p : Nat} {l m t : Int} (h : S[n]? = some (srcD p l m t)) : idxD (.loc n) (.str "cells") S = some (.loc p) := by
  rw [i_dct n _ _ h]; rfl
theorem g_left {n p : Nat} {l m t : Int} (h : S[n]? = some (srcD p l m t)) : idxD (.loc n) (.str "left") S = some (.int l) := by
  rw [i_dct n _ _ h]; rfl
theorem g_mixed {n p : Nat} {l m t : Int} (h : S[n]? = some (srcD p l m t)) : idxD (.loc n) (.str "mixed") S = some (.int m) := by
  rw [i_dct n _ _ h]; rfl
theorem g_turn {n p : Nat} {l m t : Int} (h : S[n]? = some (srcD p l m t)) : idxD (.loc n) (.str "turn") S = some (.int t) := by
  rw [i_dct n _ _ h]; rfl
theorem p_left {n p : Nat} {l m t : Int} (h : S[n]? = some (srcD p l m t)) (v : Int) : setD (.loc n) (.str "left") (.int v) S = some (S.set n (srcD p v m t)) := by
  rw [set_dct h (by simp [sizeLine])]; rfl
theorem p_mixed {n p : Nat} {l m t : Int} (h : S[n]? = some (srcD p l m t)) (v : Int) : setD (.loc n) (.str "mixed") (.int v) S = some (S.set n (srcD p l v t)) := by
  rw [set_dct h (by simp [sizeLine])]; rfl
theorem p_turn {n p : Nat} {l m t : Int} (h : S[n]? = some (srcD p l m t)) (v : Int) : setD (.loc n) (.str "turn") (.int v) S = some (S.set n (srcD p l m v)) := by
  rw [set_dct h (by simp [sizeLine])]; rfl
theorem set_get {α : Type} {S : List α} {n : Nat} {x c : α} (h : S[n]? = some x) : (S.set n c)[n]? = some c := by
  have := (List.getElem?_eq_some_iff.1 h).1
  simp [this]
theorem set_ne {α : Type} {S : List α} {n m : Nat} (c : α) (h : n ≠ m) : (S.set n c)[m]? = S[m]? := List.getElem?_set_ne h
theorem Frm.set {n p : Nat} (S : Sto) (c : Cell) : Frm n p S (S.set n c) := ⟨by simp, fun i _ h2 _ => set_ne c (Ne.symm h2)⟩
theorem Frm.setp {n p : Nat} (S : Sto) (c : Cell) : Frm n p S (S.set p c) := ⟨by simp, fun i _ _ h3 => set_ne c (Ne.symm h3)⟩
/-- the loop of a draw -/
theorem pick_loop (C : Cfg) {n p : Nat} (hnp : n ≠ p) {m t : Int} (many : Int) (x y : Option D) : ∀ (j : Nat) (cs : List Int) (l : Int) (S : Sto), cs.length = j → S[n]? = some (srcD p l m t) → S[p]? = some (.lst (cs.map D.int)) → ∃ (fuel : Nat) (S' : Sto) (l' : Int) (cs' : List Int),
    whileN (fun ρ1 S1 => evT C (.and [.cmp .gt (.var 1) (.lit (.int 1)), .cmp .lt (.idx (.var 0) (.lit (.str "left"))) (.lit (.int 2)), .cmp .gt (.blt "len" [.idx (.var 0) (.lit (.str "cells"))]) (.lit (.int 0))]) ρ1 S1) (fun ρ1 S1 => evB C [.setI (.var 0) (.lit (.str "left")) (.pop (.idx (.var 0) (.lit (.str "cells"))))] ρ1 S1) fuel [some (.loc n), some (.int many), x, y] S = some (.nx [some (.loc n), some (.int many), x, y], S') ∧
      Frm n p S S' ∧ S'[n]? = some (srcD p l' m t) ∧ S'[p]? = some (.lst (cs'.map D.int))
  | j, cs, l, S, hj, h1, h2 => by
    have hlen : bltD "len" [.loc p] S = some (.int cs.length, S) := by
      rw [b_lenL, h2]
      simp [Cell.items]
    have hc : evT C (.and [.cmp .gt (.var 1) (.lit (.int 1)), .cmp .lt (.idx (.var 0) (.lit (.str "left"))) (.lit (.int 2)), .cmp .gt (.blt "len" [.idx (.var 0) (.lit (.str "cells"))]) (.lit (.int 0))]) [some (.loc n), some (.int many), x, y] S = some (decide (1 < many) && (decide (l < 2) && decide ((0 : Int) < cs.length)), S) := by
      by_cases a1 : 1 < many
      · by_cases a2 : l < 2
        · by_cases a3 : (0 : Int) < cs.length
          · have d1 := decide_eq_true a1
            have d2 := decide_eq_true a2
            have d3 := decide_eq_true a3
            simp only [g_left h1, g_cells h1, hlen, d1, d2, d3, Bool.and_self, vK_some, e_var, e_lit, lit_non, lit_bl, lit_int, lit_str, e_glob, oneK_some, e_bin, bin1_some, bin2_some, d_add, d_sub, e_neg, negK_some, e_cmp, cmp1_some, cmp2_some, map_some2, c_lt, c_le, c_gt, c_ge, c_eqI, c_neI, c_eqS, c_neS, tK_some, notK_some, blK_some, e_not, e_and, e_or, t_not, t_and, t_or, t_cmp, t_call, t_blt, a_nil, a_cons, andK_t, andK_f, o_nil, o_cons, orK_t, orK_f, e_ite, iteK_t, iteK_f, s_nil, s_cons, es1_some, es2_some, e_tup, tupK0, tupK1, tupK2, tupK3, tupK4, tupK5, e_lst, lstK0, lstK1, e_call, calK_some, e_blt, bltK_some, b_gcd, b_abs, b_int, b_max, b_min, b_lenT, b_lenL, b_tupT, b_tupL, b_lstT, b_lstL, b_all, items_lst, items_ro, map_some3, e_idx, idx1_some, idx2_some, i_tup, i_loc, at_0, at_1, at_2, at_3, e_slice, slK_some, slK1_some, slK2_some, o_none, o_some, oK_some, sl_tup, sl_loc, e_rev, revK_some, rv_tup, rv_loc, e_pop, popK_some, e_comp, it_tup, it_loc, it_enumT, it_enumL, it_zipT, it_zipL, e_dict, B_nil, B_cons, seqK_nx, seqK_ret, seqK_brk, seqK_cont, S_asg, asgK_some, nxK_some, bd_nm, bd_tup, bd_nil, bd_cons, bdK_some, S_par, parK_some, sa_nil, sa_cons, S_setI, stK_some, stK1_some, stK2_some, nxS_some, S_app, appK2_some, S_popS, popSK_some, S_ret, retK_some, S_retN, S_pass, S_brk, S_cont, S_ite, ifK_t, ifK_f, forK_some, getA, getA0, setA, setA0, lenA, appA, catA, nilA, lenC, len0, g_0, t_0, g_1, t_1, g_2, t_2, g_3, t_3, g_4, t_4, g_5, t_5, g_6, t_6, g_7, t_7, g_8, t_8, g_9, t_9, g_10, t_10, g_11, t_11, g_12, t_12, g_13, t_13, bindS, S_whil, S_for, compK_some]
          · have d1 := decide_eq_true a1
            have d2 := decide_eq_true a2
            have d3 := decide_eq_false a3
            simp only [g_left h1, g_cells h1, hlen, d1, d2, d3, Bool.and_false, vK_some, e_var, e_lit, lit_non, lit_bl, lit_int, lit_str, e_glob, oneK_some, e_bin, bin1_some, bin2_some, d_add, d_sub, e_neg, negK_some, e_cmp, cmp1_some, cmp2_some, map_some2, c_lt, c_le, c_gt, c_ge, c_eqI, c_neI, c_eqS, c_neS, tK_some, notK_some, blK_some, e_not, e_and, e_or, t_not, t_and, t_or, t_cmp, t_call, t_blt, a_nil, a_cons, andK_t, andK_f, o_nil, o_cons, orK_t, orK_f, e_ite, iteK_t, iteK_f, s_nil, s_cons, es1_some, es2_some, e_tup, tupK0, tupK1, tupK2, tupK3, tupK4, tupK5, e_lst, lstK0, lstK1, e_call, calK_some, e_blt, bltK_some, b_gcd, b_abs, b_int, b_max, b_min, b_lenT, b_lenL, b_tupT, b_tupL, b_lstT, b_lstL, b_all, items_lst, items_ro, map_some3, e_idx, idx1_some, idx2_some, i_tup, i_loc, at_0, at_1, at_2, at_3, e_slice, slK_some, slK1_some, slK2_some, o_none, o_some, oK_some, sl_tup, sl_loc, e_rev, revK_some, rv_tup, rv_loc, e_pop, popK_some, e_comp, it_tup, it_loc, it_enumT, it_enumL, it_zipT, it_zipL, e_dict, B_nil, B_cons, seqK_nx, seqK_ret, seqK_brk, seqK_cont, S_asg, asgK_some, nxK_some, bd_nm, bd_tup, bd_nil, bd_cons, bdK_some, S_par, parK_some, sa_nil, sa_cons, S_setI, stK_some, stK1_some, stK2_some, nxS_some, S_app, appK2_some, S_popS, popSK_some, S_ret, retK_some, S_retN, S_pass, S_brk, S_cont, S_ite, ifK_t, ifK_f, forK_some, getA, getA0, setA, setA0, lenA, appA, catA, nilA, lenC, len0, g_0, t_0, g_1, t_1, g_2, t_2, g_3, t_3, g_4, t_4, g_5, t_5, g_6, t_6, g_7, t_7, g_8, t_8, g_9, t_9, g_10, t_10, g_11, t_11, g_12, t_12, g_13, t_13, bindS, S_whil, S_for, compK_some]
        · have d1 := decide_eq_true a1
          have d2 := decide_eq_false a2
          simp only [g_left h1, g_cells h1, hlen, d1, d2, Bool.false_and, Bool.and_false, vK_some, e_var, e_lit, lit_non, lit_bl, lit_int, lit_str, e_glob, oneK_some, e_bin, bin1_some, bin2_some, d_add, d_sub, e_neg, negK_some, e_cmp, cmp1_some, cmp2_some, map_some2, c_lt, c_le, c_gt, c_ge, c_eqI, c_neI, c_eqS, c_neS, tK_some, notK_some, blK_some, e_not, e_and, e_or, t_not, t_and, t_or, t_cmp, t_call, t_blt, a_nil, a_cons, andK_t, andK_f, o_nil, o_cons, orK_t, orK_f, e_ite, iteK_t, iteK_f, s_nil, s_cons, es1_some, es2_some, e_tup, tupK0, tupK1, tupK2, tupK3, tupK4, tupK5, e_lst, lstK0, lstK1, e_call, calK_some, e_blt, bltK_some, b_gcd, b_abs, b_int, b_max, b_min, b_lenT, b_lenL, b_tupT, b_tupL, b_lstT, b_lstL, b_all, items_lst, items_ro, map_some3, e_idx, idx1_some, idx2_some, i_tup, i_loc, at_0, at_1, at_2, at_3, e_slice, slK_some, slK1_some, slK2_some, o_none, o_some, oK_some, sl_tup, sl_loc, e_rev, revK_some, rv_tup, rv_loc, e_pop, popK_some, e_comp, it_tup, it_loc, it_enumT, it_enumL, it_zipT, it_zipL, e_dict, B_nil, B_cons, seqK_nx, seqK_ret, seqK_brk, seqK_cont, S_asg, asgK_some, nxK_some, bd_nm, bd_tup, bd_nil, bd_cons, bdK_some, S_par, parK_some, sa_nil, sa_cons, S_setI, stK_some, stK1_some, stK2_some, nxS_some, S_app, appK2_some, S_popS, popSK_some, S_ret, retK_some, S_retN, S_pass, S_brk, S_cont, S_ite, ifK_t, ifK_f, forK_some, getA, getA0, setA, setA0, lenA, appA, catA, nilA, lenC, len0, g_0, t_0, g_1, t_1, g_2, t_2, g_3, t_3, g_4, t_4, g_5, t_5, g_6, t_6, g_7, t_7, g_8, t_8, g_9, t_9, g_10, t_10, g_11, t_11, g_12, t_12, g_13, t_13, bindS, S_whil, S_for, compK_some]
      · have d1 := decide_eq_false a1
        simp only [g_left h1, g_cells h1, hlen, d1, Bool.false_and, vK_some, e_var, e_lit, lit_non, lit_bl, lit_int, lit_str, e_glob, oneK_some, e_bin, bin1_some, bin2_some, d_add, d_sub, e_neg, negK_some, e_cmp, cmp1_some, cmp2_some, map_some2, c_lt, c_le, c_gt, c_ge, c_eqI, c_neI, c_eqS, c_neS, tK_some, notK_some, blK_some, e_not, e_and, e_or, t_not, t_and, t_or, t_cmp, t_call, t_blt, a_nil, a_cons, andK_t, andK_f, o_nil, o_cons, orK_t, orK_f, e_ite, iteK_t, iteK_f, s_nil, s_cons, es1_some, es2_some, e_tup, tupK0, tupK1, tupK2, tupK3, tupK4, tupK5, e_lst, lstK0, lstK1, e_call, calK_some, e_blt, bltK_some, b_gcd, b_abs, b_int, b_max, b_min, b_lenT, b_lenL, b_tupT, b_tupL, b_lstT, b_lstL, b_all, items_lst, items_ro, map_some3, e_idx, idx1_some, idx2_some, i_tup, i_loc, at_0, at_1, at_2, at_3, e_slice, slK_some, slK1_some, slK2_some, o_none, o_some, oK_some, sl_tup, sl_loc, e_rev, revK_some, rv_tup, rv_loc, e_pop, popK_some, e_comp, it_tup, it_loc, it_enumT, it_enumL, it_zipT, it_zipL, e_dict, B_nil, B_cons, seqK_nx, seqK_ret, seqK_brk, seqK_cont, S_asg, asgK_some, nxK_some, bd_nm, bd_tup, bd_nil, bd_cons, bdK_some, S_par, parK_some, sa_nil, sa_cons, S_setI, stK_some, stK1_some, stK2_some, nxS_some, S_app, appK2_some, S_popS, popSK_some, S_ret, retK_some, S_retN, S_pass, S_brk, S_cont, S_ite, ifK_t, ifK_f, forK_some, getA, getA0, setA, setA0, lenA, appA, catA, nilA, lenC, len0, g_0, t_0, g_1, t_1, g_2, t_2, g_3, t_3, g_4, t_4, g_5, t_5, g_6, t_6, g_7, t_7, g_8, t_8, g_9, t_9, g_10, t_10, g_11, t_11, g_12, t_12, g_13, t_13, bindS, S_whil, S_for, compK_some]
    cases hd : (decide (1 < many) && (decide (l < 2) && decide ((0 : Int) < cs.length))) with
    | false =>
      rw [hd] at hc
      exact ⟨1, S, l, cs, while_stop hc, Frm.refl n p S, h1, h2⟩
    | true =>
      rw [hd] at hc
      simp only [Bool.and_eq_true, decide_eq_true_iff] at hd
      rcases List.eq_nil_or_concat cs with rfl | ⟨r, c, rfl⟩
      · exact absurd hd.2.2 (by simp)
      · have e1 : (r.concat c).map D.int = r.map D.int ++ [.int c] := by simp
        rw [e1] at h2
        have hpop : popD (.loc p) S = some (.int c, S.set p (.lst (r.map D.int))) := pop_loc h2
        have h1' : (S.set p (.lst (r.map D.int)))[n]? = some (srcD p l m t) := by rw [set_ne _ (Ne.symm hnp)]; exact h1
        have hset := p_left h1' c
        have hb : evB C [.setI (.var 0) (.lit (.str "left")) (.pop (.idx (.var 0) (.lit (.str "cells"))))] [some (.loc n), some (.int many), x, y] S = some (.nx [some (.loc n), some (.int many), x, y], (S.set p (.lst (r.map D.int))).set n (srcD p c m t)) := by
          simp only [g_cells h1, hpop, hset, vK_some, e_var, e_lit, lit_non, lit_bl, lit_int, lit_str, e_glob, oneK_some, e_bin, bin1_some, bin2_some, d_add, d_sub, e_neg, negK_some, e_cmp, cmp1_some, cmp2_some, map_some2, c_lt, c_le, c_gt, c_ge, c_eqI, c_neI, c_eqS, c_neS, tK_some, notK_some, blK_some, e_not, e_and, e_or, t_not, t_and, t_or, t_cmp, t_call, t_blt, a_nil, a_cons, andK_t, andK_f, o_nil, o_cons, orK_t, orK_f, e_ite, iteK_t, iteK_f, s_nil, s_cons, es1_some, es2_some, e_tup, tupK0, tupK1, tupK2, tupK3, tupK4, tupK5, e_lst, lstK0, lstK1, e_call, calK_some, e_blt, bltK_some, b_gcd, b_abs, b_int, b_max, b_min, b_lenT, b_lenL, b_tupT, b_tupL, b_lstT, b_lstL, b_all, items_lst, items_ro, map_some3, e_idx, idx1_some, idx2_some, i_tup, i_loc, at_0, at_1, at_2, at_3, e_slice, slK_some, slK1_some, slK2_some, o_none, o_some, oK_some, sl_tup, sl_loc, e_rev, revK_some, rv_tup, rv_loc, e_pop, popK_some, e_comp, it_tup, it_loc, it_enumT, it_enumL, it_zipT, it_zipL, e_dict, B_nil, B_cons, seqK_nx, seqK_ret, seqK_brk, seqK_cont, S_asg, asgK_some, nxK_some, bd_nm, bd_tup, bd_nil, bd_cons, bdK_some, S_par, parK_some, sa_nil, sa_cons, S_setI, stK_some, stK1_some, stK2_some, nxS_some, S_app, appK2_some, S_popS, popSK_some, S_ret, retK_some, S_retN, S_pass, S_brk, S_cont, S_ite, ifK_t, ifK_f, forK_some, getA, getA0, setA, setA0, lenA, appA, catA, nilA, lenC, len0, g_0, t_0, g_1, t_1, g_2, t_2, g_3, t_3, g_4, t_4, g_5, t_5, g_6, t_6, g_7, t_7, g_8, t_8, g_9, t_9, g_10, t_10, g_11, t_11, g_12, t_12, g_13, t_13, bindS, S_whil, S_for, compK_some]
        obtain ⟨fuel, S', l', cs', e, f1, f2, f3⟩ := pick_loop C hnp many x y (j - 1) r c ((S.set p (.lst (r.map D.int))).set n (srcD p c m t)) (by simp at hj; omega) (set_get h1') (by rw [set_ne _ hnp]; exact set_get h2)
        refine ⟨fuel + 1, S', l', cs', ?_, ((Frm.setp S _).trans (Frm.set _ _)).trans f1, f2, f3⟩
        rw [while_step hc hb, e]
termination_by j => j
decreasing_by simp at hj; omega
theorem fmod_b (a : Int) {b : Int} (h : 0 < b) : 0 ≤ a.fmod b ∧ a.fmod b < b := by
  rw [Int.fmod_eq_emod_of_nonneg _ (by omega)]
  exact ⟨Int.emod_nonneg _ (by omega), Int.emod_lt_of_pos _ h⟩
theorem max_b (many : Int) : (if many > 1 then many else 1) = max 1 many := by split <;> omega
theorem r_law_pick (h : tb "_law_pick" = some d__law_pick) {n p : Nat} {many : Nat} (hS : SrcAt S n p) (hm : many < 2 ^ 29) :
    ∃ (v : Nat) (S' : Sto), runF cst tb (k + 1) "_law_pick" [.loc n, .int (many : Int)] S = some (.int (v : Int), S') ∧ v < max 1 many ∧ Frm n p S S' ∧ SrcAt S' n p := by
  obtain ⟨hnp, cs, l, m, t, h1, h2⟩ := hS
  obtain ⟨fuel, S1, l', cs', e, f1, g1, g2⟩ := pick_loop ⟨runF cst tb k, cst⟩ hnp (m := m) (t := t) (many : Int) none none cs.length cs l S rfl h1 h2
  have e' := whK_of e
  have fin : ∀ {v : Int} {S' : Sto} {b : Int}, evB ⟨runF cst tb k, cst⟩ d__law_pick.body ([.loc n, .int (many : Int)].map some ++ List.replicate (d__law_pick.nl - d__law_pick.np) none) S = some (.ret (.int v), S') → 0 ≤ v → v < ((max 1 many : Nat) : Int) → Frm n p S S' → SrcAt S' n p →
      ∃ (v : Nat) (S' : Sto), runF cst tb (k + 1) "_law_pick" [.loc n, .int (many : Int)] S = some (.int (v : Int), S') ∧ v < max 1 many ∧ Frm n p S S' ∧ SrcAt S' n p := fun {v S' b} q v0 v1 fr sr => by
    obtain ⟨S'', e1, e2, e3⟩ := run_src h rfl q ⟨hnp, cs, l, m, t, h1, h2⟩ fr sr
    refine ⟨v.toNat, S'', ?_, by omega, e2, e3⟩
    rw [e1, Int.toNat_of_nonneg v0]
  by_cases hc : (many : Int) < 2 ∨ l' > 1
  · have hd : evT ⟨runF cst tb k, cst⟩ (.or [.cmp .lt (.var 1) (.lit (.int 2)), .cmp .gt (.var 2) (.lit (.int 1))]) [some (.loc n), some (.int (many : Int)), some (.int l'), none] S1 = some (true, S1) := by
      by_cases a : (many : Int) < 2
      · have d1 := decide_eq_true a
        simp only [d1, vK_some, e_var, e_lit, lit_non, lit_bl, lit_int, lit_str, e_glob, oneK_some, e_bin, bin1_some, bin2_some, d_add, d_sub, e_neg, negK_some, e_cmp, cmp1_some, cmp2_some, map_some2, c_lt, c_le, c_gt, c_ge, c_eqI, c_neI, c_eqS, c_neS, tK_some, notK_some, blK_some, e_not, e_and, e_or, t_not, t_and, t_or, t_cmp, t_call, t_blt, a_nil, a_cons, andK_t, andK_f, o_nil, o_cons, orK_t, orK_f, e_ite, iteK_t, iteK_f, s_nil, s_cons, es1_some, es2_some, e_tup, tupK0, tupK1, tupK2, tupK3, tupK4, tupK5, e_lst, lstK0, lstK1, e_call, calK_some, e_blt, bltK_some, b_gcd, b_abs, b_int, b_max, b_min, b_lenT, b_lenL, b_tupT, b_tupL, b_lstT, b_lstL, b_all, items_lst, items_ro, map_some3, e_idx, idx1_some, idx2_some, i_tup, i_loc, at_0, at_1, at_2, at_3, e_slice, slK_some, slK1_some, slK2_some, o_none, o_some, oK_some, sl_tup, sl_loc, e_rev, revK_some, rv_tup, rv_loc, e_pop, popK_some, e_comp, it_tup, it_loc, it_enumT, it_enumL, it_zipT, it_zipL, e_dict, B_nil, B_cons, seqK_nx, seqK_ret, seqK_brk, seqK_cont, S_asg, asgK_some, nxK_some, bd_nm, bd_tup, bd_nil, bd_cons, bdK_some, S_par, parK_some, sa_nil, sa_cons, S_setI, stK_some, stK1_some, stK2_some, nxS_some, S_app, appK2_some, S_popS, popSK_some, S_ret, retK_some, S_retN, S_pass, S_brk, S_cont, S_ite, ifK_t, ifK_f, forK_some, getA, getA0, setA, setA0, lenA, appA, catA, nilA, lenC, len0, g_0, t_0, g_1, t_1, g_2, t_2, g_3, t_3, g_4, t_4, g_5, t_5, g_6, t_6, g_7, t_7, g_8, t_8, g_9, t_9, g_10, t_10, g_11, t_11, g_12, t_12, g_13, t_13, bindS, S_whil, S_for, compK_some]
      · have d1 := decide_eq_false a
        have d2 : decide (1 < l') = true := decide_eq_true (by omega)
        simp only [d1, d2, vK_some, e_var, e_lit, lit_non, lit_bl, lit_int, lit_str, e_glob, oneK_some, e_bin, bin1_some, bin2_some, d_add, d_sub, e_neg, negK_some, e_cmp, cmp1_some, cmp2_some, map_some2, c_lt, c_le, c_gt, c_ge, c_eqI, c_neI, c_eqS, c_neS, tK_some, notK_some, blK_some, e_not, e_and, e_or, t_not, t_and, t_or, t_cmp, t_call, t_blt, a_nil, a_cons, andK_t, andK_f, o_nil, o_cons, orK_t, orK_f, e_ite, iteK_t, iteK_f, s_nil, s_cons, es1_some, es2_some, e_tup, tupK0, tupK1, tupK2, tupK3, tupK4, tupK5, e_lst, lstK0, lstK1, e_call, calK_some, e_blt, bltK_some, b_gcd, b_abs, b_int, b_max, b_min, b_lenT, b_lenL, b_tupT, b_tupL, b_lstT, b_lstL, b_all, items_lst, items_ro, map_some3, e_idx, idx1_some, idx2_some, i_tup, i_loc, at_0, at_1, at_2, at_3, e_slice, slK_some, slK1_some, slK2_some, o_none, o_some, oK_some, sl_tup, sl_loc, e_rev, revK_some, rv_tup, rv_loc, e_pop, popK_some, e_comp, it_tup, it_loc, it_enumT, it_enumL, it_zipT, it_zipL, e_dict, B_nil, B_cons, seqK_nx, seqK_ret, seqK_brk, seqK_cont, S_asg, asgK_some, nxK_some, bd_nm, bd_tup, bd_nil, bd_cons, bdK_some, S_par, parK_some, sa_nil, sa_cons, S_setI, stK_some, stK1_some, stK2_some, nxS_some, S_app, appK2_some, S_popS, popSK_some, S_ret, retK_some, S_retN, S_pass, S_brk, S_cont, S_ite, ifK_t, ifK_f, forK_some, getA, getA0, setA, setA0, lenA, appA, catA, nilA, lenC, len0, g_0, t_0, g_1, t_1, g_2, t_2, g_3, t_3, g_4, t_4, g_5, t_5, g_6, t_6, g_7, t_7, g_8, t_8, g_9, t_9, g_10, t_10, g_11, t_11, g_12, t_12, g_13, t_13, bindS, S_whil, S_for, compK_some]
    have f1' := fun i S => d_fdiv (S := S) (i := i) (j := max 1 (many : Int)) (divOk_small (by omega) (by omega))
    have f2' := fun i S => d_mod (S := S) (i := i) (j := max 1 (many : Int)) (by omega)
    have hset := p_left g1 (l'.fdiv (max 1 (many : Int)))
    have hb := fmod_b l' (b := max 1 (many : Int)) (by omega)
    refine fin (b := 0) (v := l'.fmod (max 1 (many : Int))) (S' := S1.set n (srcD p (l'.fdiv (max 1 (many : Int))) m t)) ?_ hb.1 (by omega) (f1.trans (Frm.set _ _)) ⟨hnp, cs', _, m, t, set_get g1, by rw [set_ne _ hnp]; exact g2⟩
    simp only [d__law_pick, List.map, List.replicate, Nat.reduceSub, List.cons_append, List.nil_append, S_ite, e', g_left g1, hd, max_b, f1', f2', hset, vK_some, e_var, e_lit, lit_non, lit_bl, lit_int, lit_str, e_glob, oneK_some, e_bin, bin1_some, bin2_some, d_add, d_sub, e_neg, negK_some, e_cmp, cmp1_some, cmp2_some, map_some2, c_lt, c_le, c_gt, c_ge, c_eqI, c_neI, c_eqS, c_neS, tK_some, notK_some, blK_some, e_not, e_and, e_or, t_not, t_and, t_or, t_cmp, t_call, t_blt, a_nil, a_cons, andK_t, andK_f, o_nil, o_cons, orK_t, orK_f, e_ite, iteK_t, iteK_f, s_nil, s_cons, es1_some, es2_some, e_tup, tupK0, tupK1, tupK2, tupK3, tupK4, tupK5, e_lst, lstK0, lstK1, e_call, calK_some, e_blt, bltK_some, b_gcd, b_abs, b_int, b_max, b_min, b_lenT, b_lenL, b_tupT, b_tupL, b_lstT, b_lstL, b_all, items_lst, items_ro, map_some3, e_idx, idx1_some, idx2_some, i_tup, i_loc, at_0, at_1, at_2, at_3, e_slice, slK_some, slK1_some, slK2_some, o_none, o_some, oK_some, sl_tup, sl_loc, e_rev, revK_some, rv_tup, rv_loc, e_pop, popK_some, e_comp, it_tup, it_loc, it_enumT, it_enumL, it_zipT, it_zipL, e_dict, B_nil, B_cons, seqK_nx, seqK_ret, seqK_brk, seqK_cont, S_asg, asgK_some, nxK_some, bd_nm, bd_tup, bd_nil, bd_cons, bdK_some, S_par, parK_some, sa_nil, sa_cons, S_setI, stK_some, stK1_some, stK2_some, nxS_some, S_app, appK2_some, S_popS, popSK_some, S_ret, retK_some, S_retN, S_pass, S_brk, S_cont, S_ite, ifK_t, ifK_f, forK_some, getA, getA0, setA, setA0, lenA, appA, catA, nilA, lenC, len0, g_0, t_0, g_1, t_1, g_2, t_2, g_3, t_3, g_4, t_4, g_5, t_5, g_6, t_6, g_7, t_7, g_8, t_8, g_9, t_9, g_10, t_10, g_11, t_11, g_12, t_12, g_13, t_13, bindS, S_whil, S_for, compK_some]
  · have hd : evT ⟨runF cst tb k, cst⟩ (.or [.cmp .lt (.var 1) (.lit (.int 2)), .cmp .gt (.var 2) (.lit (.int 1))]) [some (.loc n), some (.int (many : Int)), some (.int l'), none] S1 = some (false, S1) := by
      have d1 : decide ((many : Int) < 2) = false := decide_eq_false (by omega)
      have d2 : decide (1 < l') = false := decide_eq_false (by omega)
      simp only [d1, d2, vK_some, e_var, e_lit, lit_non, lit_bl, lit_int, lit_str, e_glob, oneK_some, e_bin, bin1_some, bin2_some, d_add, d_sub, e_neg, negK_some, e_cmp, cmp1_some, cmp2_some, map_some2, c_lt, c_le, c_gt, c_ge, c_eqI, c_neI, c_eqS, c_neS, tK_some, notK_some, blK_some, e_not, e_and, e_or, t_not, t_and, t_or, t_cmp, t_call, t_blt, a_nil, a_cons, andK_t, andK_f, o_nil, o_cons, orK_t, orK_f, e_ite, iteK_t, iteK_f, s_nil, s_cons, es1_some, es2_some, e_tup, tupK0, tupK1, tupK2, tupK3, tupK4, tupK5, e_lst, lstK0, lstK1, e_call, calK_some, e_blt, bltK_some, b_gcd, b_abs, b_int, b_max, b_min, b_lenT, b_lenL, b_tupT, b_tupL, b_lstT, b_lstL, b_all, items_lst, items_ro, map_some3, e_idx, idx1_some, idx2_some, i_tup, i_loc, at_0, at_1, at_2, at_3, e_slice, slK_some, slK1_some, slK2_some, o_none, o_some, oK_some, sl_tup, sl_loc, e_rev, revK_some, rv_tup, rv_loc, e_pop, popK_some, e_comp, it_tup, it_loc, it_enumT, it_enumL, it_zipT, it_zipL, e_dict, B_nil, B_cons, seqK_nx, seqK_ret, seqK_brk, seqK_cont, S_asg, asgK_some, nxK_some, bd_nm, bd_tup, bd_nil, bd_cons, bdK_some, S_par, parK_some, sa_nil, sa_cons, S_setI, stK_some, stK1_some, stK2_some, nxS_some, S_app, appK2_some, S_popS, popSK_some, S_ret, retK_some, S_retN, S_pass, S_brk, S_cont, S_ite, ifK_t, ifK_f, forK_some, getA, getA0, setA, setA0, lenA, appA, catA, nilA, lenC, len0, g_0, t_0, g_1, t_1, g_2, t_2, g_3, t_3, g_4, t_4, g_5, t_5, g_6, t_6, g_7, t_7, g_8, t_8, g_9, t_9, g_10, t_10, g_11, t_11, g_12, t_12, g_13, t_13, bindS, S_whil, S_for, compK_some]
    have s1 := p_turn g1 (t + 1)
    have g3 : (S1.set n (srcD p l' m (t + 1)))[n]? = some (srcD p l' m (t + 1)) := set_get g1
    have m1 := fun S => d_mul (S := S) (i := t + 1) (j := 104729) (mulOk_r (by decide))
    have m2 := fun S => d_mul (S := S) (i := t + 1) (j := 17) (mulOk_r (by decide))
    have q1 := fun i S => d_mod (S := S) (i := i) (j := 998244353) (by decide)
    have q2 := fun i S => d_mod (S := S) (i := i) (j := 2147483647) (by decide)
    have b1 := fmod_b (m + (t + 1) * 104729) (b := 998244353) (by decide)
    have m3 := fun S => d_mul (S := S) (i := (m + (t + 1) * 104729).fmod 998244353) (j := (m + (t + 1) * 104729).fmod 998244353) (mulOk_r (by omega))
    have s2 := p_mixed g3 (((m + (t + 1) * 104729).fmod 998244353 * (m + (t + 1) * 104729).fmod 998244353 + (t + 1) * 17).fmod 2147483647)
    have q3 := fun i S => d_fdiv (S := S) (i := i) (j := 16) (divOk_small (by decide) (by decide))
    have q4 := fun i S => d_mod (S := S) (i := i) (j := (many : Int)) (by omega)
    have hb := fmod_b ((((m + (t + 1) * 104729).fmod 998244353 * (m + (t + 1) * 104729).fmod 998244353 + (t + 1) * 17).fmod 2147483647).fdiv 16) (b := (many : Int)) (by omega)
    refine fin (b := 0) (v := ((((m + (t + 1) * 104729).fmod 998244353 * (m + (t + 1) * 104729).fmod 998244353 + (t + 1) * 17).fmod 2147483647).fdiv 16).fmod (many : Int)) (S' := (S1.set n (srcD p l' m (t + 1))).set n (srcD p l' (((m + (t + 1) * 104729).fmod 998244353 * (m + (t + 1) * 104729).fmod 998244353 + (t + 1) * 17).fmod 2147483647) (t + 1))) ?_ hb.1 (by omega) ((f1.trans (Frm.set _ _)).trans (Frm.set _ _)) ⟨hnp, cs', _, _, _, set_get g3, by rw [set_ne _ hnp, set_ne _ hnp]; exact g2⟩
    simp only [d__law_pick, List.map, List.replicate, Nat.reduceSub, List.cons_append, List.nil_append, S_ite, e', g_left g1, g_turn g1, hd, s1, g_mixed g3, g_turn g3, m1, m2, m3, q1, q2, q3, q4, s2, vK_some, e_var, e_lit, lit_non, lit_bl, lit_int, lit_str, e_glob, oneK_some, e_bin, bin1_some, bin2_some, d_add, d_sub, e_neg, negK_some, e_cmp, cmp1_some, cmp2_some, map_some2, c_lt, c_le, c_gt, c_ge, c_eqI, c_neI, c_eqS, c_neS, tK_some, notK_some, blK_some, e_not, e_and, e_or, t_not, t_and, t_or, t_cmp, t_call, t_blt, a_nil, a_cons, andK_t, andK_f, o_nil, o_cons, orK_t, orK_f, e_ite, iteK_t, iteK_f, s_nil, s_cons, es1_some, es2_some, e_tup, tupK0, tupK1, tupK2, tupK3, tupK4, tupK5, e_lst, lstK0, lstK1, e_call, calK_some, e_blt, bltK_some, b_gcd, b_abs, b_int, b_max, b_min, b_lenT, b_lenL, b_tupT, b_tupL, b_lstT, b_lstL, b_all, items_lst, items_ro, map_some3, e_idx, idx1_some, idx2_some, i_tup, i_loc, at_0, at_1, at_2, at_3, e_slice, slK_some, slK1_some, slK2_some, o_none, o_some, oK_some, sl_tup, sl_loc, e_rev, revK_some, rv_tup, rv_loc, e_pop, popK_some, e_comp, it_tup, it_loc, it_enumT, it_enumL, it_zipT, it_zipL, e_dict, B_nil, B_cons, seqK_nx, seqK_ret, seqK_brk, seqK_cont, S_asg, asgK_some, nxK_some, bd_nm, bd_tup, bd_nil, bd_cons, bdK_some, S_par, parK_some, sa_nil, sa_cons, S_setI, stK_some, stK1_some, stK2_some, nxS_some, S_app, appK2_some, S_popS, popSK_some, S_ret, retK_some, S_retN, S_pass, S_brk, S_cont, S_ite, ifK_t, ifK_f, forK_some, getA, getA0, setA, setA0, lenA, appA, catA, nilA, lenC, len0, g_0, t_0, g_1, t_1, g_2, t_2, g_3, t_3, g_4, t_4, g_5, t_5, g_6, t_6, g_7, t_7, g_8, t_8, g_9, t_9, g_10, t_10, g_11, t_11, g_12, t_12, g_13, t_13, bindS, S_whil, S_for, compK_some]
/-- one of a list -/
theorem r_law_of (h0 : tb "_law_pick" = some d__law_pick) (h : tb "_law_of" = some d__law_of) {n p q : Nat} {xs : List D} (hS : SrcAt S n p) (hq : S[q]? = some (.lst xs)) (hqn : q ≠ n) (hqp : q ≠ p) (hx : xs ≠ []) (hl : xs.length < 2 ^ 29) :
    ∃ (x : D) (S' : Sto), x ∈ xs ∧ runF cst tb (k + 2) "_law_of" [.loc n, .loc q] S = some (x, S') ∧ Frm n p S S' ∧ SrcAt S' n p := by
  have hpos := List.length_pos_iff.2 hx
  obtain ⟨v, S1, e1, hv, f1, s1⟩ := r_law_pick (cst := cst) (tb := tb) (k := k) h0 hS hl
  have hq' : S1[q]? = some (.lst xs) := (f1.2 q (List.getElem?_eq_some_iff.1 hq).1 hqn hqp).trans hq
  have hv' : v < xs.length := by omega
  have hi : idxD (.loc q) (.int (v : Int)) S1 = some xs[v] := by
    rw [i_loc, hq', bindS, items_lst, bindS, at_nat, List.getElem?_eq_getElem hv']
  have hlen : bltD "len" [.loc q] S = some (.int xs.length, S) := by
    rw [b_lenL, hq]
    rfl
  obtain ⟨S', a1, a2, a3⟩ := run_src (cst := cst) (k := k + 1) (S := S) (S' := S1) (d := xs[v]) (ds := [.loc n, .loc q]) h rfl (by
    simp only [d__law_of, List.map, List.replicate, Nat.sub_self, List.cons_append, List.nil_append, hlen, e1, hi, vK_some, e_var, e_lit, lit_non, lit_bl, lit_int, lit_str, e_glob, oneK_some, e_bin, bin1_some, bin2_some, d_add, d_sub, e_neg, negK_some, e_cmp, cmp1_some, cmp2_some, map_some2, c_lt, c_le, c_gt, c_ge, c_eqI, c_neI, c_eqS, c_neS, tK_some, notK_some, blK_some, e_not, e_and, e_or, t_not, t_and, t_or, t_cmp, t_call, t_blt, a_nil, a_cons, andK_t, andK_f, o_nil, o_cons, orK_t, orK_f, e_ite, iteK_t, iteK_f, s_nil, s_cons, es1_some, es2_some, e_tup, tupK0, tupK1, tupK2, tupK3, tupK4, tupK5, e_lst, lstK0, lstK1, e_call, calK_some, e_blt, bltK_some, b_gcd, b_abs, b_int, b_max, b_min, b_lenT, b_lenL, b_tupT, b_tupL, b_lstT, b_lstL, b_all, items_lst, items_ro, map_some3, e_idx, idx1_some, idx2_some, i_tup, i_loc, at_0, at_1, at_2, at_3, e_slice, slK_some, slK1_some, slK2_some, o_none, o_some, oK_some, sl_tup, sl_loc, e_rev, revK_some, rv_tup, rv_loc, e_pop, popK_some, e_comp, it_tup, it_loc, it_enumT, it_enumL, it_zipT, it_zipL, e_dict, B_nil, B_cons, seqK_nx, seqK_ret, seqK_brk, seqK_cont, S_asg, asgK_some, nxK_some, bd_nm, bd_tup, bd_nil, bd_cons, bdK_some, S_par, parK_some, sa_nil, sa_cons, S_setI, stK_some, stK1_some, stK2_some, nxS_some, S_app, appK2_some, S_popS, popSK_some, S_ret, retK_some, S_retN, S_pass, S_brk, S_cont, S_ite, ifK_t, ifK_f, forK_some, getA, getA0, setA, setA0, lenA, appA, catA, nilA, lenC, len0, g_0, t_0, g_1, t_1, g_2, t_2, g_3, t_3, g_4, t_4, g_5, t_5, g_6, t_6, g_7, t_7, g_8, t_8, g_9, t_9, g_10, t_10, g_11, t_11, g_12, t_12, g_13, t_13, bindS, S_whil, S_for, compK_some]) hS f1 s1
  exact ⟨_, S', List.getElem_mem hv', a1, a2, a3⟩
end
end Pf.Z

/-! The source of draws. -/
namespace Pf.Z
open PySem PySem.Spec PyProof.Rows L2
section
variable {cst : Str → Option D} {tb : Str → Option FD} {k : Nat} {S : Sto}
theorem dct4 {n : Nat} {a b c d : D} (h : S[n]? = some (.dct [])) : dctK ["cells", "left", "mixed", "turn"] n (some ([a, b, c, d], S)) = some (.loc n, S.set n (.dct [(Sum.inr "cells", a), (Sum.inr "left", b), (Sum.inr "mixed", c), (Sum.inr "turn", d)])) := by
  simp only [dctK, h]
  rw [if_pos ⟨rfl, by decide, by decide⟩]
  rfl
theorem r_law_source (h : tb "_law_source" = some d__law_source) {n : Nat} {ns : List Int} (hS : S[n]? = some (.ro (ns.map D.int))) (hl : ns.length < 1000000) :
    ∃ S', runF cst tb (k + 1) "_law_source" [.loc n] S = some (.loc S.length, S') ∧ SrcAt S' S.length (S.length + 2) ∧ (∀ i, i < S.length → S'[i]? = S[i]?) ∧ S.length ≤ S'.length := by
  have hn := (List.getElem?_eq_some_iff.1 hS).1
  obtain ⟨ρ', S1, e1, hI⟩ := for_inv (L := [n]) (S0 := S) (step := forStep ⟨runF cst tb k, cst⟩ (.nm 2) [.asg (.nm 1) (.bin .mod (.blt "int" [.bin .add (.bin .add (.bin .mul (.var 1) (.lit (.int 69069))) (.bin .mul (.var 2) (.lit (.int 31)))) (.lit (.int 5))]) (.lit (.int 2147483629)))])
    (fun i ρ S' => S' = S ∧ ∃ (m : Int) (x : Option D), ρ = [some (.loc n), some (.int m), x]) (xs := ns.map D.int) (ρ := [some (.loc n), some (.int 11), none]) (S := S) ⟨rfl, 11, none, rfl⟩ (fun i w ρ S' e q => by
      obtain ⟨rfl, m, x, rfl⟩ := q
      obtain ⟨a, ha, rfl, hi⟩ := map_get e
      have m1 := fun S => d_mul (S := S) (i := m) (j := 69069) (mulOk_r (by decide))
      have m2 := fun S => d_mul (S := S) (i := a) (j := 31) (mulOk_r (by decide))
      have q1 := fun i S => d_mod (S := S) (i := i) (j := 2147483629) (by decide)
      refine ⟨[some (.loc n), some (.int ((m * 69069 + a * 31 + 5).fmod 2147483629)), some (.int a)], S', ?_, fun _ _ => rfl, rfl, _, _, rfl⟩
      simp only [forStep, m1, m2, q1, vK_some, e_var, e_lit, lit_non, lit_bl, lit_int, lit_str, e_glob, oneK_some, e_bin, bin1_some, bin2_some, d_add, d_sub, e_neg, negK_some, e_cmp, cmp1_some, cmp2_some, map_some2, c_lt, c_le, c_gt, c_ge, c_eqI, c_neI, c_eqS, c_neS, tK_some, notK_some, blK_some, e_not, e_and, e_or, t_not, t_and, t_or, t_cmp, t_call, t_blt, a_nil, a_cons, andK_t, andK_f, o_nil, o_cons, orK_t, orK_f, e_ite, iteK_t, iteK_f, s_nil, s_cons, es1_some, es2_some, e_tup, tupK0, tupK1, tupK2, tupK3, tupK4, tupK5, e_lst, lstK0, lstK1, e_call, calK_some, e_blt, bltK_some, b_gcd, b_abs, b_int, b_max, b_min, b_lenT, b_lenL, b_tupT, b_tupL, b_lstT, b_lstL, b_all, items_lst, items_ro, map_some3, e_idx, idx1_some, idx2_some, i_tup, i_loc, at_0, at_1, at_2, at_3, e_slice, slK_some, slK1_some, slK2_some, o_none, o_some, oK_some, sl_tup, sl_loc, e_rev, revK_some, rv_tup, rv_loc, e_pop, popK_some, e_comp, it_tup, it_loc, it_enumT, it_enumL, it_zipT, it_zipL, e_dict, B_nil, B_cons, seqK_nx, seqK_ret, seqK_brk, seqK_cont, S_asg, asgK_some, nxK_some, bd_nm, bd_tup, bd_nil, bd_cons, bdK_some, S_par, parK_some, sa_nil, sa_cons, S_setI, stK_some, stK1_some, stK2_some, nxS_some, S_app, appK2_some, S_popS, popSK_some, S_ret, retK_some, S_retN, S_pass, S_brk, S_cont, S_ite, ifK_t, ifK_f, forK_some, getA, getA0, setA, setA0, lenA, appA, catA, nilA, lenC, len0, g_0, t_0, g_1, t_1, g_2, t_2, g_3, t_3, g_4, t_4, g_5, t_5, g_6, t_6, g_7, t_7, g_8, t_8, g_9, t_9, g_10, t_10, g_11, t_11, g_12, t_12, g_13, t_13, bindS, S_whil, S_for, compK_some])
  obtain ⟨rfl, m, x, rfl⟩ := hI
  have hn' : (S1 ++ [Cell.dct []])[n]? = some (.ro (ns.map D.int)) := by rw [List.getElem?_append_left hn]; exact hS
  have hc := compI_map (S := S1 ++ [Cell.dct []]) (C := ⟨runF cst tb k, cst⟩) (t := .nm 2) (ifs := []) (elt := .blt "abs" [.var 2]) (own := [2]) (ρ := [some (.loc n), some (.int m), x])
    (xs := ns.map D.int) (L := [n]) (fun i => .int ((ns.getD i 0).natAbs : Int)) (by simp; omega) (by simp [sizeLine]; omega) (fun i w acc e => by
      obtain ⟨a, ha, rfl, hi⟩ := map_get e
      refine cs0 (ρ1 := [some (.loc n), some (.int m), some (.int a)]) (by simp only [w_nil, w_cons, vK_some, e_var, e_lit, lit_non, lit_bl, lit_int, lit_str, e_glob, oneK_some, e_bin, bin1_some, bin2_some, d_add, d_sub, e_neg, negK_some, e_cmp, cmp1_some, cmp2_some, map_some2, c_lt, c_le, c_gt, c_ge, c_eqI, c_neI, c_eqS, c_neS, tK_some, notK_some, blK_some, e_not, e_and, e_or, t_not, t_and, t_or, t_cmp, t_call, t_blt, a_nil, a_cons, andK_t, andK_f, o_nil, o_cons, orK_t, orK_f, e_ite, iteK_t, iteK_f, s_nil, s_cons, es1_some, es2_some, e_tup, tupK0, tupK1, tupK2, tupK3, tupK4, tupK5, e_lst, lstK0, lstK1, e_call, calK_some, e_blt, bltK_some, b_gcd, b_abs, b_int, b_max, b_min, b_lenT, b_lenL, b_tupT, b_tupL, b_lstT, b_lstL, b_all, items_lst, items_ro, map_some3, e_idx, idx1_some, idx2_some, i_tup, i_loc, at_0, at_1, at_2, at_3, e_slice, slK_some, slK1_some, slK2_some, o_none, o_some, oK_some, sl_tup, sl_loc, e_rev, revK_some, rv_tup, rv_loc, e_pop, popK_some, e_comp, it_tup, it_loc, it_enumT, it_enumL, it_zipT, it_zipL, e_dict, B_nil, B_cons, seqK_nx, seqK_ret, seqK_brk, seqK_cont, S_asg, asgK_some, nxK_some, bd_nm, bd_tup, bd_nil, bd_cons, bdK_some, S_par, parK_some, sa_nil, sa_cons, S_setI, stK_some, stK1_some, stK2_some, nxS_some, S_app, appK2_some, S_popS, popSK_some, S_ret, retK_some, S_retN, S_pass, S_brk, S_cont, S_ite, ifK_t, ifK_f, forK_some, getA, getA0, setA, setA0, lenA, appA, catA, nilA, lenC, len0, g_0, t_0, g_1, t_1, g_2, t_2, g_3, t_3, g_4, t_4, g_5, t_5, g_6, t_6, g_7, t_7, g_8, t_8, g_9, t_9, g_10, t_10, g_11, t_11, g_12, t_12, g_13, t_13, bindS, S_whil, S_for, compK_some]) ?_
      have hg : ns.getD i 0 = a := by rw [List.getD_eq_getElem?_getD, ha]; rfl
      rw [hg]
      simp only [abs_nat, vK_some, e_var, e_lit, lit_non, lit_bl, lit_int, lit_str, e_glob, oneK_some, e_bin, bin1_some, bin2_some, d_add, d_sub, e_neg, negK_some, e_cmp, cmp1_some, cmp2_some, map_some2, c_lt, c_le, c_gt, c_ge, c_eqI, c_neI, c_eqS, c_neS, tK_some, notK_some, blK_some, e_not, e_and, e_or, t_not, t_and, t_or, t_cmp, t_call, t_blt, a_nil, a_cons, andK_t, andK_f, o_nil, o_cons, orK_t, orK_f, e_ite, iteK_t, iteK_f, s_nil, s_cons, es1_some, es2_some, e_tup, tupK0, tupK1, tupK2, tupK3, tupK4, tupK5, e_lst, lstK0, lstK1, e_call, calK_some, e_blt, bltK_some, b_gcd, b_abs, b_int, b_max, b_min, b_lenT, b_lenL, b_tupT, b_tupL, b_lstT, b_lstL, b_all, items_lst, items_ro, map_some3, e_idx, idx1_some, idx2_some, i_tup, i_loc, at_0, at_1, at_2, at_3, e_slice, slK_some, slK1_some, slK2_some, o_none, o_some, oK_some, sl_tup, sl_loc, e_rev, revK_some, rv_tup, rv_loc, e_pop, popK_some, e_comp, it_tup, it_loc, it_enumT, it_enumL, it_zipT, it_zipL, e_dict, B_nil, B_cons, seqK_nx, seqK_ret, seqK_brk, seqK_cont, S_asg, asgK_some, nxK_some, bd_nm, bd_tup, bd_nil, bd_cons, bdK_some, S_par, parK_some, sa_nil, sa_cons, S_setI, stK_some, stK1_some, stK2_some, nxS_some, S_app, appK2_some, S_popS, popSK_some, S_ret, retK_some, S_retN, S_pass, S_brk, S_cont, S_ite, ifK_t, ifK_f, forK_some, getA, getA0, setA, setA0, lenA, appA, catA, nilA, lenC, len0, g_0, t_0, g_1, t_1, g_2, t_2, g_3, t_3, g_4, t_4, g_5, t_5, g_6, t_6, g_7, t_7, g_8, t_8, g_9, t_9, g_10, t_10, g_11, t_11, g_12, t_12, g_13, t_13, bindS, S_whil, S_for, compK_some])
  rw [List.length_map, range_map ns (fun a => D.int (a.natAbs : Int)) 0] at hc
  have it1 : iterD .seq [.loc n] S1 = some (ns.map D.int, [n]) := by rw [it_loc, hS]; rfl
  have it2 : iterD .seq [.loc n] (S1 ++ [Cell.dct []]) = some (ns.map D.int, [n]) := by rw [it_loc, hn']; rfl
  have hrev : revD (.loc (S1.length + 1)) (S1 ++ [Cell.dct [], .lst (ns.map fun a => D.int (a.natAbs : Int))]) = some (.loc (S1.length + 2), S1 ++ [Cell.dct [], .lst (ns.map fun a => D.int (a.natAbs : Int)), .lst (ns.map fun a => D.int (a.natAbs : Int)).reverse]) := by
    rw [rv_loc, getA]
    simp only [appA, catA, nilA, lenA, lenC, len0, Nat.zero_add, Nat.reduceAdd, g_1, bindS, items_lst]
  have hd4 : ∀ (a b c d : D) (G : Sto), dctK ["cells", "left", "mixed", "turn"] S1.length (some ([a, b, c, d], S1 ++ Cell.dct [] :: G)) = some (.loc S1.length, S1 ++ Cell.dct [(Sum.inr "cells", a), (Sum.inr "left", b), (Sum.inr "mixed", c), (Sum.inr "turn", d)] :: G) := fun a b c d G => by
    rw [dct4 (getA0 ..), setA0]
  refine ⟨S1 ++ [srcD (S1.length + 2) 1 m 0, .lst (ns.map fun a => D.int (a.natAbs : Int)), .lst ((ns.map fun a => (a.natAbs : Int)).reverse.map D.int)], ?_, ⟨by omega, _, 1, m, 0, getA0 .., by rw [getA]; rfl⟩, fun i hi => List.getElem?_append_left hi, by simp⟩
  refine run_loc h rfl ?_ (fun z => z.1.elim)
  have hl2 : (S1 ++ [Cell.dct []]).length = S1.length + 1 := by simp
  rw [hl2] at hc
  simp only [d__law_source, List.map, List.replicate, Nat.reduceSub, List.cons_append, List.nil_append, it1, forI_some, e1, e_dict, it2, hc, hrev, hd4, Nat.reduceAdd, vK_some, e_var, e_lit, lit_non, lit_bl, lit_int, lit_str, e_glob, oneK_some, e_bin, bin1_some, bin2_some, d_add, d_sub, e_neg, negK_some, e_cmp, cmp1_some, cmp2_some, map_some2, c_lt, c_le, c_gt, c_ge, c_eqI, c_neI, c_eqS, c_neS, tK_some, notK_some, blK_some, e_not, e_and, e_or, t_not, t_and, t_or, t_cmp, t_call, t_blt, a_nil, a_cons, andK_t, andK_f, o_nil, o_cons, orK_t, orK_f, e_ite, iteK_t, iteK_f, s_nil, s_cons, es1_some, es2_some, e_tup, tupK0, tupK1, tupK2, tupK3, tupK4, tupK5, e_lst, lstK0, lstK1, e_call, calK_some, e_blt, bltK_some, b_gcd, b_abs, b_int, b_max, b_min, b_lenT, b_lenL, b_tupT, b_tupL, b_lstT, b_lstL, b_all, items_lst, items_ro, map_some3, e_idx, idx1_some, idx2_some, i_tup, i_loc, at_0, at_1, at_2, at_3, e_slice, slK_some, slK1_some, slK2_some, o_none, o_some, oK_some, sl_tup, sl_loc, e_rev, revK_some, rv_tup, rv_loc, e_pop, popK_some, e_comp, it_tup, it_loc, it_enumT, it_enumL, it_zipT, it_zipL, e_dict, B_nil, B_cons, seqK_nx, seqK_ret, seqK_brk, seqK_cont, S_asg, asgK_some, nxK_some, bd_nm, bd_tup, bd_nil, bd_cons, bdK_some, S_par, parK_some, sa_nil, sa_cons, S_setI, stK_some, stK1_some, stK2_some, nxS_some, S_app, appK2_some, S_popS, popSK_some, S_ret, retK_some, S_retN, S_pass, S_brk, S_cont, S_ite, ifK_t, ifK_f, forK_some, getA, getA0, setA, setA0, lenA, appA, catA, nilA, lenC, len0, g_0, t_0, g_1, t_1, g_2, t_2, g_3, t_3, g_4, t_4, g_5, t_5, g_6, t_6, g_7, t_7, g_8, t_8, g_9, t_9, g_10, t_10, g_11, t_11, g_12, t_12, g_13, t_13, bindS, S_whil, S_for, compK_some]
  have e2 : (ns.map fun a => D.int (a.natAbs : Int)).reverse = (ns.map fun a => (a.natAbs : Int)).reverse.map D.int := by
    rw [← List.map_reverse, ← List.map_reverse, List.map_map]
    rfl
  rw [e2]
  rfl
end
end Pf.Z

/-! Data shown as text. -/
namespace Pf.Z
open PySem PySem.Spec PyProof.Rows L2
mutual
/-- every whole number has at most K figures -/
def IB (K : Nat) : D → Prop
  | .int i => i.natAbs < 10 ^ K
  | .tup xs => IBs K xs
  | _ => True
def IBs (K : Nat) : List D → Prop
  | [] => True
  | x :: xs => IB K x ∧ IBs K xs
end
mutual
def wtD (K : Nat) : D → Nat
  | .int _ => 4 * K + 1
  | .tup xs => wtDs K xs
  | _ => 0
def wtDs (K : Nat) : List D → Nat
  | [] => 0
  | x :: xs => wtD K x + 1 + wtDs K xs
end
theorem log_lt {K n : Nat} (hK : 1 ≤ K) (h : n < 10 ^ K) : n.log2 < 4 * K := by
  by_cases z : n = 0
  · subst z; simp; omega
  · rw [Nat.log2_lt z]
    refine Nat.lt_of_lt_of_le h ?_
    rw [Nat.pow_mul]
    exact Nat.pow_le_pow_left (by decide) K
mutual
theorem IB.py {K : Nat} (hK : 1 ≤ K) (hK2 : K ≤ 480) : ∀ {a : D}, NB a → IB K a → ∃ p, pyD a = some p ∧ p.canLay0 = true ∧ p.showable = true ∧ p.intsShort (K + 1) = true ∧ p.weight ≤ wtD K a ∧ p.depth = dpt a
  | .non, _, _ => ⟨.none, rfl, rfl, rfl, rfl, Nat.le_refl _, rfl⟩
  | .int i, _, h => by
    have hl := log_lt hK h
    refine ⟨.int i, rfl, rfl, by simp only [PyData.showable, decide_eq_true_iff]; omega, ?_, ?_, rfl⟩
    · simp only [PyData.intsShort, decide_eq_true_iff]
      have e := int_text_length_le10 (k := K) hK h
      show (Str.ofString (toString i)).length ≤ K + 1
      rw [PySem.ofString_length]; exact e
    · simp only [PyData.weight, wtD]
      split <;> omega
  | .tup xs, h, h2 => by
    obtain ⟨ps, h1, h3, h4, h5, h6, h7⟩ := IBs.py hK hK2 (a := xs) (by simpa only [NB] using h) (by simpa only [IB] using h2)
    exact ⟨.tuple ps, by simp only [pyD, h1, Option.map_some], by simpa only [PyData.canLay0] using h3, by simpa only [PyData.showable] using h4, by simpa only [PyData.intsShort] using h5, by simpa only [PyData.weight, wtD] using h6, by simp only [PyData.depth, dpt, h7]⟩
  | .bl _, h, _ => (by simp only [NB] at h)
  | .str _, h, _ => (by simp only [NB] at h)
  | .loc _, h, _ => (by simp only [NB] at h)
theorem IBs.py {K : Nat} (hK : 1 ≤ K) (hK2 : K ≤ 480) : ∀ {a : List D}, NBs a → IBs K a → ∃ p, pyDs a = some p ∧ PyData.canLayAll0 p = true ∧ PyData.showableAll p = true ∧ PyData.intsShortAll (K + 1) p = true ∧ PyData.weightAll p ≤ wtDs K a ∧ PyData.depthAll p = dpts a
  | [], _, _ => ⟨[], rfl, rfl, rfl, rfl, Nat.le_refl _, rfl⟩
  | x :: xs, h, g => by
    simp only [NBs] at h
    simp only [IBs] at g
    obtain ⟨p, h1, h2, h3, h4, h5, h6⟩ := IB.py hK hK2 (a := x) h.1 g.1
    obtain ⟨ps, g1, g2, g3, g4, g5, g6⟩ := IBs.py hK hK2 (a := xs) h.2 g.2
    exact ⟨p :: ps, by simp only [pyDs, h1, g1, Option.bind_some, Option.map_some], by simp only [PyData.canLayAll0, h2, g2, Bool.and_true], by simp only [PyData.showableAll, h3, g3, Bool.and_true], by simp only [PyData.intsShortAll, h4, g4, Bool.and_true], by simp only [PyData.weightAll, wtDs]; omega, by simp only [PyData.depthAll, dpts, h6, g6]⟩
end
/-- what a tuple is shown as -/
def shw (d : D) : Str := ((pyD d).map PyData.shown).getD ""
theorem b_repr {K : Nat} {xs : List D} {S : Sto} (hK : 8 ≤ K) (hK2 : K ≤ 480) (h : NBs xs) (hi : IBs K xs) (hw : (K + 3) * wtDs K xs + (K + 1) ≤ 16777216) (hd : dpts xs ≤ 59) : bltD "repr" [.tup xs] S = some (.str (shw (.tup xs)), S) := by
  obtain ⟨p, h1, h2, h3, h4, h5, h6⟩ := IB.py (K := K) (by omega) hK2 (a := .tup xs) h hi
  have hs := PyData.shown_le (K + 1) (by omega) p (PyData.leavesShort_of_canLay0 (K + 1) p h2 h4)
  have h5' : p.weight ≤ wtDs K xs := h5
  have hl : p.shown.length ≤ sizeLine := by
    have := Nat.mul_le_mul_left (K + 3) h5'
    rw [show K + 1 + 2 = K + 3 by omega] at hs
    simp only [sizeLine]
    omega
  have hdp : p.depth ≤ 60 := by
    rw [h6]
    simp only [dpt]
    omega
  show ((pyD (.tup xs)).bind fun p => if p.showable = true ∧ p.shown.length ≤ sizeLine ∧ p.depth ≤ 60 then some (D.str p.shown, S) else none) = _
  rw [h1, Option.bind_some, if_pos ⟨h3, hl, hdp⟩]
  simp only [shw, h1, Option.map_some, Option.getD_some]
theorem IB_eF {K B : Nat} {a : Rat} (h : Sz B a) (hB : 2 ^ B ≤ 10 ^ K) : IB K (eF a) := by
  refine ⟨Nat.lt_of_lt_of_le h.1 hB, ?_, trivial⟩
  show ((a.den : Int)).natAbs < _
  rw [Int.natAbs_natCast]
  exact Nat.lt_of_lt_of_le h.2 hB
theorem IBs_eFs {K B : Nat} (hB : 2 ^ B ≤ 10 ^ K) : ∀ {f : List Rat}, SzP B f → IBs K (f.map eF)
  | [], _ => trivial
  | a :: f, h => ⟨IB_eF (h a (.head _)) hB, IBs_eFs hB (f := f) fun b hb => h b (.tail _ hb)⟩
theorem wt_eF (K : Nat) (a : Rat) : wtD K (eF a) = 8 * K + 4 := by simp [eF, wtD, wtDs]; omega
theorem wt_eFs (K : Nat) : ∀ f : List Rat, wtDs K (f.map eF) = f.length * (8 * K + 5)
  | [] => by simp [wtDs]
  | a :: f => by
    rw [List.map, wtDs, wt_eF, wt_eFs K f, List.length_cons, Nat.add_mul, Nat.one_mul]
    omega
theorem b_reprP {f : List Rat} {B : Nat} {S : Sto} (hf : SzP B f) (hB : B ≤ 60) (hl : f.length ≤ 100) : bltD "repr" [eP f] S = some (.str (shw (eP f)), S) := by
  have h1 := dpts_eFs f
  refine b_repr (K := 20) (by decide) (by decide) (NBs_eFs f) (IBs_eFs (B := 60) (by decide) (hf.mono hB)) ?_ (by omega)
  rw [wt_eFs]
  omega
/-- two pairs of polynomials, shown -/
theorem b_repr22 {a b c d : List Rat} {B : Nat} {S : Sto} (ha : SzP B a) (hb : SzP B b) (hc : SzP B c) (hd : SzP B d) (hB : B ≤ 60) (la : a.length ≤ 100) (lb : b.length ≤ 100) (lc : c.length ≤ 100) (ld : d.length ≤ 100) :
    bltD "repr" [.tup [.tup [eP a, eP b], .tup [eP c, eP d]]] S = some (.str (shw (.tup [.tup [eP a, eP b], .tup [eP c, eP d]])), S) := by
  have q : ∀ {f : List Rat}, SzP B f → IB 20 (eP f) := fun hf => IBs_eFs (B := 60) (by decide) (hf.mono hB)
  have w : ∀ f : List Rat, wtD 20 (eP f) = f.length * 165 := fun f => wt_eFs 20 f
  have g1 := dpt_eP a
  have g2 := dpt_eP b
  have g3 := dpt_eP c
  have g4 := dpt_eP d
  refine b_repr (K := 20) (by decide) (by decide) ⟨⟨NB_eP a, NB_eP b, trivial⟩, ⟨NB_eP c, NB_eP d, trivial⟩, trivial⟩ ⟨⟨q ha, q hb, trivial⟩, ⟨q hc, q hd, trivial⟩, trivial⟩ ?_ ?_
  · simp only [wtDs, wtD, w]
    omega
  · simp only [dpts, dpt]
    omega
end Pf.Z

/-! Products as sums over all splittings; quick forms to look with. -/
namespace Pf.Z
theorem smR_left (n : Nat) (f : Nat → Rat) : smR (n + 1) f = f 0 + smR n fun i => f (i + 1) := by
  induction n with
  | zero => rw [smR, smR, smR]; grind
  | succ n ih => rw [smR, ih, smR]; grind
theorem smR_rev (n : Nat) (f : Nat → Rat) : smR n (fun i => f (n - 1 - i)) = smR n f := by
  induction n with
  | zero => rfl
  | succ n ih =>
    rw [smR_left, smR]
    have e : (smR n fun i => f (n + 1 - 1 - (i + 1))) = smR n fun i => f (n - 1 - i) := smR_congr fun i _ => by rw [show n + 1 - 1 - (i + 1) = n - 1 - i by omega]
    rw [e, ih, show n + 1 - 1 - 0 = n by omega]
    grind
/-- the number at k of a product of what has the numbers u and v -/
def cf (u v : Nat → Rat) (k : Nat) : Rat := smR (k + 1) fun i => u i * v (k - i)
theorem cv_cf (f g : List Rat) (k : Nat) : cv f g k = cf (co f) (co g) k := by
  have h1 : smR (max f.length (k + 1)) (fun i => if i ≤ k then co f i * co g (k - i) else 0) = cv f g k := smR_ext (by omega) fun i hi => by
    split
    · rw [co_of_le (f := f) (by omega), Rat.zero_mul]
    · rfl
  have h2 : smR (max f.length (k + 1)) (fun i => if i ≤ k then co f i * co g (k - i) else 0) = smR (k + 1) (fun i => if i ≤ k then co f i * co g (k - i) else 0) := smR_ext (by omega) fun i hi => if_neg (by omega)
  rw [← h1, h2, cf]
  exact smR_congr fun i hi => if_pos (by omega)
theorem cf_comm (u v : Nat → Rat) (k : Nat) : cf u v k = cf v u k := by
  unfold cf
  rw [← smR_rev]
  refine smR_congr fun i hi => ?_
  rw [show k + 1 - 1 - i = k - i by omega, show k - (k - i) = i by omega, Rat.mul_comm]
theorem cf_add (u u' v : Nat → Rat) (k : Nat) : cf (fun i => u i + u' i) v k = cf u v k + cf u' v k := by
  unfold cf
  rw [← smR_add]
  exact smR_congr fun i _ => by grind
theorem cf_smul (c : Rat) (u v : Nat → Rat) (k : Nat) : cf (fun i => c * u i) v k = c * cf u v k := by
  unfold cf
  rw [← smR_mul]
  exact smR_congr fun i _ => by grind
theorem cf_sub (u u' v : Nat → Rat) (k : Nat) : cf (fun i => u i - u' i) v k = cf u v k - cf u' v k := by
  have := cf_add u (fun i => -1 * u' i) v k
  rw [cf_smul] at this
  have e : (fun i => u i - u' i) = fun i => u i + -1 * u' i := by funext i; grind
  rw [e, this]
  grind
/-- squares' difference -/
theorem cf_sq (u v : Nat → Rat) (k : Nat) : cf u u k - cf v v k = cf (fun i => u i - v i) (fun i => u i + v i) k := by
  rw [cf_sub, cf_comm u (fun i => u i + v i), cf_comm v (fun i => u i + v i), cf_add, cf_add, cf_comm v u]
  grind
/-- where both end -/
theorem cf_top {u v : Nat → Rat} {a b : Nat} (hu : ∀ i, a < i → u i = 0) (hv : ∀ i, b < i → v i = 0) : cf u v (a + b) = u a * v b := by
  unfold cf
  have h1 : smR (a + b + 1) (fun i => u i * v (a + b - i)) = smR (a + 1) fun i => u i * v (a + b - i) := smR_ext (by omega) fun i hi => by rw [hu i (by omega), Rat.zero_mul]
  rw [h1, smR, smR_zero fun i hi => by rw [hv _ (by omega), Rat.mul_zero], Rat.zero_add, show a + b - a = b by omega]
theorem cf_congr {u u' v v' : Nat → Rat} (h : ∀ i, u i = u' i) (h2 : ∀ i, v i = v' i) (k : Nat) : cf u v k = cf u' v' k := smR_congr fun i _ => by rw [h, h2]
/-! quick forms -/
def qadd : List Rat → List Rat → List Rat
  | [], g => g
  | f, [] => f
  | a :: f, b :: g => (a + b) :: qadd f g
theorem co_qadd : ∀ (f g : List Rat) (i : Nat), co (qadd f g) i = co f i + co g i
  | [], g, i => by rw [qadd, co_nil, Rat.zero_add]
  | a :: f, [], i => by rw [qadd, co_nil, Rat.add_zero]; exact fun h => nomatch h
  | a :: f, b :: g, 0 => rfl
  | a :: f, b :: g, i + 1 => co_qadd f g i
theorem co_map_mul (c : Rat) (f : List Rat) (i : Nat) : co (f.map (c * ·)) i = c * co f i := by
  have := co_poften c f i
  rwa [poften, co_trim] at this
def qmul : List Rat → List Rat → List Rat
  | [], _ => []
  | a :: f, g => if a = 0 then 0 :: qmul f g else qadd (g.map (a * ·)) (0 :: qmul f g)
theorem co_qmul : ∀ (f g : List Rat) (k : Nat), co (qmul f g) k = cf (co f) (co g) k
  | [], g, k => by
    rw [qmul, co_nil]
    exact (smR_zero fun i _ => by rw [co_nil, Rat.zero_mul]).symm
  | a :: f, g, k => by
    have e : co (qmul (a :: f) g) k = a * co g k + co (0 :: qmul f g) k := by
      rw [qmul]
      split
      · rename_i h
        rw [h, Rat.zero_mul, Rat.zero_add]
      · rw [co_qadd, co_map_mul]
    rw [e, cf, smR_left, co_cons0, Nat.sub_zero]
    congr 1
    cases k with
    | zero => rfl
    | succ k =>
      rw [co_consS, co_qmul f g k, cf]
      exact smR_congr fun i _ => by rw [co_consS, show k + 1 - (i + 1) = k - i by omega]
theorem padd_q (f g : List Rat) : padd f g = trim (qadd f g) := Nm_ext (Nm_trim _) (Nm_trim _) fun i => by rw [co_padd, co_trim, co_qadd]
theorem pmul_q (f g : List Rat) : pmul f g = trim (qmul f g) := Nm_ext (Nm_trim _) (Nm_trim _) fun i => by rw [co_pmul, co_trim, co_qmul, cv_cf]
theorem pless_q (f g : List Rat) : pless f g = trim (qadd f (g.map (-1 * ·))) := Nm_ext (Nm_trim _) (Nm_trim _) fun i => by rw [co_pless, co_trim, co_qadd, co_map_mul]; grind
/-- the next of Dickson's -/
def nxD (t : Rat) (a b : List Rat) : List Rat := trim (qadd (0 :: b) (a.map (-t * ·)))
theorem co_X (f : List Rat) (i : Nat) : co (pmul [0, 1] f) i = co (0 :: f) i := by
  rw [co_pmul]
  show ((0 + if 0 ≤ i then co [0, 1] 0 * co f (i - 0) else 0) + if 1 ≤ i then co [0, 1] 1 * co f (i - 1) else 0) = _
  have h0 : co [0, 1] 0 = 0 := rfl
  have h1 : co [0, 1] 1 = 1 := rfl
  rw [h0, h1]
  cases i with
  | zero => rw [co_cons0, if_pos (Nat.le_refl _), if_neg (by omega)]; grind
  | succ i => rw [co_consS, if_pos (by omega), if_pos (by omega), Nat.add_sub_cancel]; grind
theorem nxD_eq (t : Rat) (a b : List Rat) : pless (pmul [0, 1] b) (poften t a) = nxD t a b := Nm_ext (Nm_trim _) (Nm_trim _) fun i => by
  rw [co_pless, co_X, co_poften, nxD, co_trim, co_qadd, co_map_mul]
  grind
def qsq (f : List Rat) : List Rat := qmul f f
theorem co_sq (f : List Rat) (k : Nat) : co (ppow f 2) k = cf (co f) (co f) k := by
  show co (pmul (pmul [1] f) f) k = _
  rw [co_pmul, cv_cf]
  refine cf_congr (fun i => ?_) (fun _ => rfl) k
  rw [co_pmul, cv_cf, cf_comm]
  have := cf_top (u := fun j => if j ≤ i then co f j else 0) (v := co [1]) (a := i) (b := 0) (fun j hj => if_neg (by omega)) (fun j hj => co_of_le (by simp; omega))
  rw [Nat.add_zero, if_pos (Nat.le_refl i)] at this
  have h1 : co [1] 0 = 1 := rfl
  rw [h1, Rat.mul_one] at this
  rw [← this]
  exact smR_congr fun j hj => by
    show co f j * _ = (if j ≤ i then co f j else 0) * _
    rw [if_pos (by omega)]
/-- the wave's rest, quickly -/
def qwave (f : List Rat) (t : Rat) : List Rat :=
  qadd (qmul [-4 * t, 0, 1] (qsq (pslope f))) ((qadd (qsq f) [-4 * t ^ (f.length - 1)]).map (-(((f.length - 1) * (f.length - 1) : Nat) : Rat) * ·))
theorem wrest_q (f : List Rat) (t : Rat) : wrest f t = trim (qwave f t) := Nm_ext (Nm_trim _) (Nm_trim _) fun i => by
  unfold wrest qwave qsq
  rw [co_pless, co_pmul, cv_cf, co_poften, co_pless, co_sq, co_trim, co_trim, co_qadd, co_qmul, co_map_mul, co_qadd, co_qmul]
  have e1 : cf (co (trim [-4 * t, 0, 1])) (co (ppow (pslope f) 2)) i = cf (co [-4 * t, 0, 1]) (co (qmul (pslope f) (pslope f))) i := cf_congr (fun j => co_trim _ j) (fun j => by rw [co_sq, co_qmul]) i
  have e2 : co [-4 * t ^ (f.length - 1)] i = - co [4 * t ^ (f.length - 1)] i := by
    cases i with
    | zero => rw [co_cons0, co_cons0]; grind
    | succ i => rw [co_of_le (by simp), co_of_le (by simp)]; rfl
  rw [e1, e2]
  grind
end Pf.Z

/-! One number otherwise: no wave. -/
namespace Pf.Z
theorem cf_far {u v : Nat → Rat} {a b k : Nat} (hu : ∀ i, a < i → u i = 0) (hv : ∀ i, b < i → v i = 0) (hk : a + b < k) : cf u v k = 0 := smR_zero fun i hi => by
  by_cases h : a < i
  · rw [hu i h, Rat.zero_mul]
  · rw [hv _ (by omega), Rat.mul_zero]
theorem co_wrest (f : List Rat) (t : Rat) (k : Nat) : co (wrest f t) k = cf (co [-4 * t, 0, 1]) (fun j => cf (co (pslope f)) (co (pslope f)) j) k - (((f.length - 1) * (f.length - 1) : Nat) : Rat) * (cf (co f) (co f) k - co [4 * t ^ (f.length - 1)] k) := by
  unfold wrest
  rw [co_pless, co_pmul, cv_cf, co_poften, co_pless, co_sq, co_trim]
  have e1 : cf (co (trim [-4 * t, 0, 1])) (co (ppow (pslope f) 2)) k = cf (co [-4 * t, 0, 1]) (fun j => cf (co (pslope f)) (co (pslope f)) j) k := cf_congr (fun j => co_trim _ j) (fun j => co_sq _ j) k
  rw [e1]
/-- c at place i -/
def unit (i : Nat) (c : Rat) : List Rat := List.replicate i 0 ++ [c]
theorem co_unit (i : Nat) (c : Rat) (j : Nat) : co (unit i c) j = if j = i then c else 0 := by
  unfold unit
  by_cases h : j < i
  · rw [if_neg (by omega), co, List.getD_eq_getElem?_getD, List.getElem?_append_left (by simpa using h)]
    simp [h]
  · by_cases e : j = i
    · subst e
      rw [if_pos rfl, co, List.getD_eq_getElem?_getD, List.getElem?_append_right (by simp)]
      simp
    · rw [if_neg e, co_of_le (by simp; omega)]
theorem len_of {f : List Rat} {n : Nat} (h1 : f.length ≤ n + 1) (h2 : co f n ≠ 0) : f.length = n + 1 := by
  by_cases h : f.length ≤ n
  · exact absurd (co_of_le h) h2
  · omega
theorem bent_len {f : List Rat} {n i : Nat} {c : Rat} (hl : f.length = n + 1) (h1 : co f n = 1) (hi : i < n) : (padd f (unit i c)).length = n + 1 := by
  refine len_of ?_ ?_
  · have := padd_len f (unit i c)
    have e : (unit i c).length = i + 1 := by simp [unit]
    omega
  · rw [co_padd, co_unit, if_neg (by omega), h1, Rat.add_zero]
    decide
theorem bent_wave {f : List Rat} {n i : Nat} {t c : Rat} (hl : f.length = n + 1) (h1 : co f n = 1) (hi : i < n) (hc : c ≠ 0) (hw : wrest f t = []) : wrest (padd f (unit i c)) t ≠ [] := by
  intro hg
  have hgl := bent_len (c := c) hl h1 hi
  have a1 := co_wrest f t (n + i)
  have a2 := co_wrest (padd f (unit i c)) t (n + i)
  rw [hw, co_nil, hl, Nat.add_sub_cancel] at a1
  rw [hg, co_nil, hgl, Nat.add_sub_cancel] at a2
  have cg : ∀ j, co (padd f (unit i c)) j = co f j + co (unit i c) j := co_padd f (unit i c)
  -- squares
  have s1 : cf (co (padd f (unit i c))) (co (padd f (unit i c))) (n + i) - cf (co f) (co f) (n + i) = 2 * c := by
    rw [cf_sq, Nat.add_comm n i, cf_top (a := i) (b := n)]
    · rw [cg, cg, co_unit, if_pos rfl, co_unit, if_neg (show n ≠ i by omega), h1]
      grind
    · intro j hj
      rw [cg, co_unit, if_neg (by omega)]
      grind
    · intro j hj
      rw [cg, co_unit, if_neg (by omega), co_of_le (f := f) (by omega)]
      grind
  -- the slopes' squares
  have s2 : cf (co [-4 * t, 0, 1]) (fun j => cf (co (pslope (padd f (unit i c)))) (co (pslope (padd f (unit i c)))) j) (n + i) - cf (co [-4 * t, 0, 1]) (fun j => cf (co (pslope f)) (co (pslope f)) j) (n + i) = 2 * (n : Rat) * (i : Rat) * c := by
    rw [cf_comm (co [-4 * t, 0, 1]), cf_comm (co [-4 * t, 0, 1]), ← cf_sub]
    have e : ∀ j, cf (co (pslope (padd f (unit i c)))) (co (pslope (padd f (unit i c)))) j - cf (co (pslope f)) (co (pslope f)) j = cf (fun j => ((j + 1 : Nat) : Rat) * co (unit i c) (j + 1)) (fun j => ((j + 1 : Nat) : Rat) * (2 * co f (j + 1) + co (unit i c) (j + 1))) j := fun j => by
      rw [cf_sq]
      refine cf_congr (fun m => ?_) (fun m => ?_) j
      · rw [co_pslope, co_pslope, cg]; grind
      · rw [co_pslope, co_pslope, cg]; grind
    rw [cf_congr (v := co [-4 * t, 0, 1]) (v' := co [-4 * t, 0, 1]) e (fun _ => rfl)]
    cases i with
    | zero =>
      have z : ∀ j, cf (fun j => ((j + 1 : Nat) : Rat) * co (unit 0 c) (j + 1)) (fun j => ((j + 1 : Nat) : Rat) * (2 * co f (j + 1) + co (unit 0 c) (j + 1))) j = 0 := fun j => smR_zero fun m _ => by
        show ((m + 1 : Nat) : Rat) * co (unit 0 c) (m + 1) * _ = 0
        rw [co_unit, if_neg (by omega), Rat.mul_zero, Rat.zero_mul]
      have z2 : cf (fun j => cf (fun j => ((j + 1 : Nat) : Rat) * co (unit 0 c) (j + 1)) (fun j => ((j + 1 : Nat) : Rat) * (2 * co f (j + 1) + co (unit 0 c) (j + 1))) j) (co [-4 * t, 0, 1]) (n + 0) = 0 := smR_zero fun m _ => by
        show cf (fun j => ((j + 1 : Nat) : Rat) * co (unit 0 c) (j + 1)) (fun j => ((j + 1 : Nat) : Rat) * (2 * co f (j + 1) + co (unit 0 c) (j + 1))) m * _ = 0
        rw [z, Rat.zero_mul]
      rw [z2]
      simp
    | succ i =>
      obtain ⟨m, rfl⟩ : ∃ m, n = m + 1 := ⟨n - 1, by omega⟩
      have hu : ∀ j, i < j → ((j + 1 : Nat) : Rat) * co (unit (i + 1) c) (j + 1) = 0 := fun j hj => by
        rw [co_unit, if_neg (by omega), Rat.mul_zero]
      have hv : ∀ j, m < j → ((j + 1 : Nat) : Rat) * (2 * co f (j + 1) + co (unit (i + 1) c) (j + 1)) = 0 := fun j hj => by
        rw [co_unit, if_neg (by omega), co_of_le (f := f) (by omega)]
        grind
      have ht := cf_top hu hv
      rw [show m + 1 + (i + 1) = i + m + 2 by omega, cf_top (a := i + m) (b := 2) (fun j hj => cf_far hu hv (by omega)) (fun j hj => co_of_le (by simp; omega)), ht, co_unit, if_pos rfl, co_unit, if_neg (by omega), h1]
      have h2 : co [-4 * t, 0, 1] 2 = 1 := rfl
      rw [h2]
      grind
  have hn : ((n * n : Nat) : Rat) = (n : Rat) * (n : Rat) := Rat.natCast_mul n n
  rw [hn] at a1 a2
  have key : (n : Rat) * (2 * c * ((i : Rat) - (n : Rat))) = 0 := by grind
  rcases Rat.mul_eq_zero.1 key with z | z
  · have := Rat.natCast_eq_zero_iff.1 z
    omega
  · rcases Rat.mul_eq_zero.1 z with z | z
    · rcases Rat.mul_eq_zero.1 z with z | z
      · exact absurd z (by decide)
      · exact hc z
    · have : (i : Rat) = (n : Rat) := by grind
      have := Rat.natCast_inj.1 this
      omega
end Pf.Z

/-! Dickson's: what is found by looking at the drawn ones. -/
namespace Pf.Z
def Ts : List Rat := [0, 1, -1, 2, 1 / 4, -1 / 2, 4, 3 / 2]
def Ys : List Rat := [1, -1, 2, -3, 5].flatMap fun p => [1, 2, 3].map fun q => Rat.divInt p q
def chkY (n : Nat) (t : Rat) (a : List Rat) (y : Rat) : Bool :=
  decide (pat (y + t * (1 / y)) a = y ^ n + (t * (1 / y)) ^ n) && decide (lat (-y) a 0 1 = ((1 - 2 * ((n % 2 : Nat) : Int) : Int) : Rat) * lat y a 0 1)
def chkN (n : Nat) (t : Rat) (a : List Rat) : Bool :=
  decide (a = ldk n t) && bdB 39 a && decide (a.length = n + 1) && decide (co a n = 1) && decide (pnormal a = lnorm a) && (qwave a t).all (fun c => decide (c = 0)) && (qwave (poften (-1) a) t).all (fun c => decide (c = 0))
/-- Dickson's one after another -/
def goT (P : Nat → List Rat → Bool) (t : Rat) : Nat → Nat → List Rat → List Rat → Bool
  | 0, _, _, _ => true
  | m + 1, n, a, b => P n a && goT P t m (n + 1) b (nxD t a b)
theorem goT_all {P : Nat → List Rat → Bool} {t : Rat} : ∀ {m n : Nat}, goT P t m n (dk n t) (dk (n + 1) t) = true → ∀ i, i < m → P (n + i) (dk (n + i) t) = true
  | 0, n, _, i, hi => absurd hi (by omega)
  | m + 1, n, h, i, hi => by
    rw [goT, Bool.and_eq_true] at h
    cases i with
    | zero => exact h.1
    | succ i =>
      have e : nxD t (dk n t) (dk (n + 1) t) = dk (n + 1 + 1) t := (nxD_eq t (dk n t) (dk (n + 1) t)).symm
      rw [e] at h
      have := goT_all (m := m) (n := n + 1) h.2 i (by omega)
      rwa [show n + 1 + i = n + (i + 1) by omega] at this
/-- one by one: each look for itself -/
theorem all8 {P : Rat → Bool} (h0 : P 0 = true) (h1 : P 1 = true) (h2 : P (-1) = true) (h3 : P 2 = true) (h4 : P (1 / 4) = true) (h5 : P (-1 / 2) = true) (h6 : P 4 = true) (h7 : P (3 / 2) = true) : Ts.all P = true := by
  simp only [Ts, List.all_cons, List.all_nil, h0, h1, h2, h3, h4, h5, h6, h7, Bool.and_self]
theorem k1_0 : (fun t : Rat => goT (fun n a => chkN n t a) t 21 1 (dk 1 t) (dk 2 t)) 0 = true := by decide +kernel
theorem k1_1 : (fun t : Rat => goT (fun n a => chkN n t a) t 21 1 (dk 1 t) (dk 2 t)) 1 = true := by decide +kernel
theorem k1_2 : (fun t : Rat => goT (fun n a => chkN n t a) t 21 1 (dk 1 t) (dk 2 t)) (-1) = true := by decide +kernel
theorem k1_3 : (fun t : Rat => goT (fun n a => chkN n t a) t 21 1 (dk 1 t) (dk 2 t)) 2 = true := by decide +kernel
theorem k1_4 : (fun t : Rat => goT (fun n a => chkN n t a) t 21 1 (dk 1 t) (dk 2 t)) (1 / 4) = true := by decide +kernel
theorem k1_5 : (fun t : Rat => goT (fun n a => chkN n t a) t 21 1 (dk 1 t) (dk 2 t)) (-1 / 2) = true := by decide +kernel
theorem k1_6 : (fun t : Rat => goT (fun n a => chkN n t a) t 21 1 (dk 1 t) (dk 2 t)) 4 = true := by decide +kernel
theorem k1_7 : (fun t : Rat => goT (fun n a => chkN n t a) t 21 1 (dk 1 t) (dk 2 t)) (3 / 2) = true := by decide +kernel
theorem k1 : Ts.all (fun t => goT (fun n a => chkN n t a) t 21 1 (dk 1 t) (dk 2 t)) = true := all8 k1_0 k1_1 k1_2 k1_3 k1_4 k1_5 k1_6 k1_7
theorem k2_0 : (fun t : Rat => goT (fun n a => Ys.all fun y => chkY n t a y) t 20 1 (dk 1 t) (dk 2 t)) 0 = true := by decide +kernel
theorem k2_1 : (fun t : Rat => goT (fun n a => Ys.all fun y => chkY n t a y) t 20 1 (dk 1 t) (dk 2 t)) 1 = true := by decide +kernel
theorem k2_2 : (fun t : Rat => goT (fun n a => Ys.all fun y => chkY n t a y) t 20 1 (dk 1 t) (dk 2 t)) (-1) = true := by decide +kernel
theorem k2_3 : (fun t : Rat => goT (fun n a => Ys.all fun y => chkY n t a y) t 20 1 (dk 1 t) (dk 2 t)) 2 = true := by decide +kernel
theorem k2_4 : (fun t : Rat => goT (fun n a => Ys.all fun y => chkY n t a y) t 20 1 (dk 1 t) (dk 2 t)) (1 / 4) = true := by decide +kernel
theorem k2_5 : (fun t : Rat => goT (fun n a => Ys.all fun y => chkY n t a y) t 20 1 (dk 1 t) (dk 2 t)) (-1 / 2) = true := by decide +kernel
theorem k2_6 : (fun t : Rat => goT (fun n a => Ys.all fun y => chkY n t a y) t 20 1 (dk 1 t) (dk 2 t)) 4 = true := by decide +kernel
theorem k2_7 : (fun t : Rat => goT (fun n a => Ys.all fun y => chkY n t a y) t 20 1 (dk 1 t) (dk 2 t)) (3 / 2) = true := by decide +kernel
theorem k2 : Ts.all (fun t => goT (fun n a => Ys.all fun y => chkY n t a y) t 20 1 (dk 1 t) (dk 2 t)) = true := all8 k2_0 k2_1 k2_2 k2_3 k2_4 k2_5 k2_6 k2_7
def qit (f h : List Rat) : Nat → List Rat
  | 0 => f
  | i + 1 => pquo (qit f h i) h
def chkW (t : Rat) (m k : Nat) : Bool :=
  (List.range 6).all (fun i => bdB 39 (dk i (t ^ k)) && decide ((dk i (t ^ k)).length ≤ 22)) && decide (dk m (t ^ k) = ldk m (t ^ k)) && decide (pwithin (dk k t) (dk m (t ^ k)) = ldk (m * k) t) &&
  bdB 39 (pnormal (dk k t)) && decide ((pnormal (dk k t)).length = k + 1) && decide (lead (pnormal (dk k t)) = 1) && bdB 39 (poften (lead (pnormal (dk k t)))⁻¹ (pnormal (dk k t))) &&
  (List.range 17).all (fun i => bdB 39 (qit (ldk (m * k) t) (pnormal (dk k t)) i)) && decide (qit (ldk (m * k) t) (pnormal (dk k t)) 17 = []) &&
  allFlat (pdigits (pnormal (dk k t)) (ldk (m * k) t).length (ldk (m * k) t)) && decide (pouter (ldk (m * k) t) (pnormal (dk k t)) = lwi (trim [co (dk k t) 0, 1]) (dk m (t ^ k)) [] [1]) &&
  bdB 39 (pouter (ldk (m * k) t) (pnormal (dk k t))) && decide ((pouter (ldk (m * k) t) (pnormal (dk k t))).length ≤ 22) && decide (dk m (t ^ k) ≠ []) && decide (dk k t ≠ [])
theorem all4 {P : Nat → Bool} (h1 : P 1 = true) (h2 : P 2 = true) (h3 : P 3 = true) (h4 : P 4 = true) : [1, 2, 3, 4].all P = true := by
  simp only [List.all_cons, List.all_nil, h1, h2, h3, h4, Bool.and_self]
theorem k4_0_1 : (fun t : Rat => (fun m : Nat => [1, 2, 3, 4].all fun k => chkW t m k) 1) 0 = true := by decide +kernel
theorem k4_0_2 : (fun t : Rat => (fun m : Nat => [1, 2, 3, 4].all fun k => chkW t m k) 2) 0 = true := by decide +kernel
theorem k4_0_3 : (fun t : Rat => (fun m : Nat => [1, 2, 3, 4].all fun k => chkW t m k) 3) 0 = true := by decide +kernel
theorem k4_0_4 : (fun t : Rat => (fun m : Nat => [1, 2, 3, 4].all fun k => chkW t m k) 4) 0 = true := by decide +kernel
theorem k4_1_1 : (fun t : Rat => (fun m : Nat => [1, 2, 3, 4].all fun k => chkW t m k) 1) 1 = true := by decide +kernel
theorem k4_1_2 : (fun t : Rat => (fun m : Nat => [1, 2, 3, 4].all fun k => chkW t m k) 2) 1 = true := by decide +kernel
theorem k4_1_3 : (fun t : Rat => (fun m : Nat => [1, 2, 3, 4].all fun k => chkW t m k) 3) 1 = true := by decide +kernel
theorem k4_1_4 : (fun t : Rat => (fun m : Nat => [1, 2, 3, 4].all fun k => chkW t m k) 4) 1 = true := by decide +kernel
theorem k4_2_1 : (fun t : Rat => (fun m : Nat => [1, 2, 3, 4].all fun k => chkW t m k) 1) (-1) = true := by decide +kernel
theorem k4_2_2 : (fun t : Rat => (fun m : Nat => [1, 2, 3, 4].all fun k => chkW t m k) 2) (-1) = true := by decide +kernel
theorem k4_2_3 : (fun t : Rat => (fun m : Nat => [1, 2, 3, 4].all fun k => chkW t m k) 3) (-1) = true := by decide +kernel
theorem k4_2_4 : (fun t : Rat => (fun m : Nat => [1, 2, 3, 4].all fun k => chkW t m k) 4) (-1) = true := by decide +kernel
theorem k4_3_1 : (fun t : Rat => (fun m : Nat => [1, 2, 3, 4].all fun k => chkW t m k) 1) 2 = true := by decide +kernel
theorem k4_3_2 : (fun t : Rat => (fun m : Nat => [1, 2, 3, 4].all fun k => chkW t m k) 2) 2 = true := by decide +kernel
theorem k4_3_3 : (fun t : Rat => (fun m : Nat => [1, 2, 3, 4].all fun k => chkW t m k) 3) 2 = true := by decide +kernel
theorem k4_3_4 : (fun t : Rat => (fun m : Nat => [1, 2, 3, 4].all fun k => chkW t m k) 4) 2 = true := by decide +kernel
theorem k4_4_1 : (fun t : Rat => (fun m : Nat => [1, 2, 3, 4].all fun k => chkW t m k) 1) (1 / 4) = true := by decide +kernel
theorem k4_4_2 : (fun t : Rat => (fun m : Nat => [1, 2, 3, 4].all fun k => chkW t m k) 2) (1 / 4) = true := by decide +kernel
theorem k4_4_3 : (fun t : Rat => (fun m : Nat => [1, 2, 3, 4].all fun k => chkW t m k) 3) (1 / 4) = true := by decide +kernel
theorem k4_4_4 : (fun t : Rat => (fun m : Nat => [1, 2, 3, 4].all fun k => chkW t m k) 4) (1 / 4) = true := by decide +kernel
theorem k4_5_1 : (fun t : Rat => (fun m : Nat => [1, 2, 3, 4].all fun k => chkW t m k) 1) (-1 / 2) = true := by decide +kernel
theorem k4_5_2 : (fun t : Rat => (fun m : Nat => [1, 2, 3, 4].all fun k => chkW t m k) 2) (-1 / 2) = true := by decide +kernel
theorem k4_5_3 : (fun t : Rat => (fun m : Nat => [1, 2, 3, 4].all fun k => chkW t m k) 3) (-1 / 2) = true := by decide +kernel
theorem k4_5_4 : (fun t : Rat => (fun m : Nat => [1, 2, 3, 4].all fun k => chkW t m k) 4) (-1 / 2) = true := by decide +kernel
theorem k4_6_1 : (fun t : Rat => (fun m : Nat => [1, 2, 3, 4].all fun k => chkW t m k) 1) 4 = true := by decide +kernel
theorem k4_6_2 : (fun t : Rat => (fun m : Nat => [1, 2, 3, 4].all fun k => chkW t m k) 2) 4 = true := by decide +kernel
theorem k4_6_3 : (fun t : Rat => (fun m : Nat => [1, 2, 3, 4].all fun k => chkW t m k) 3) 4 = true := by decide +kernel
theorem k4_6_4 : (fun t : Rat => (fun m : Nat => [1, 2, 3, 4].all fun k => chkW t m k) 4) 4 = true := by decide +kernel
theorem k4_7_1 : (fun t : Rat => (fun m : Nat => [1, 2, 3, 4].all fun k => chkW t m k) 1) (3 / 2) = true := by decide +kernel
theorem k4_7_2 : (fun t : Rat => (fun m : Nat => [1, 2, 3, 4].all fun k => chkW t m k) 2) (3 / 2) = true := by decide +kernel
theorem k4_7_3 : (fun t : Rat => (fun m : Nat => [1, 2, 3, 4].all fun k => chkW t m k) 3) (3 / 2) = true := by decide +kernel
theorem k4_7_4 : (fun t : Rat => (fun m : Nat => [1, 2, 3, 4].all fun k => chkW t m k) 4) (3 / 2) = true := by decide +kernel
theorem k4 : Ts.all (fun t => [1, 2, 3, 4].all fun m => [1, 2, 3, 4].all fun k => chkW t m k) = true := all8 (all4 k4_0_1 k4_0_2 k4_0_3 k4_0_4) (all4 k4_1_1 k4_1_2 k4_1_3 k4_1_4) (all4 k4_2_1 k4_2_2 k4_2_3 k4_2_4) (all4 k4_3_1 k4_3_2 k4_3_3 k4_3_4) (all4 k4_4_1 k4_4_2 k4_4_3 k4_4_4) (all4 k4_5_1 k4_5_2 k4_5_3 k4_5_4) (all4 k4_6_1 k4_6_2 k4_6_3 k4_6_4) (all4 k4_7_1 k4_7_2 k4_7_3 k4_7_4)
/-- the numbers led along -/
def szd (y : Rat) : List Rat → Rat → List Rat
  | [], _ => []
  | c :: f, p => c * p :: szd y f (p * y)
def chkS (y t : Rat) (n : Nat) (a : List Rat) : Bool := bdB 300 a && decide (a.length ≤ 22) && decide (a.map (y ^ n * ·) = szd y (ldk n t) 1) && decide (co (szd y (ldk n t) 1) n ≠ 0)
theorem k5_0_0 : (fun t : Rat => [1, 2, 3].all fun q => (fun y : Rat => goT (fun n a => chkS y t n a) (t * (1 / y) ^ 2) 21 1 (dk 1 (t * (1 / y) ^ 2)) (dk 2 (t * (1 / y) ^ 2))) (Rat.divInt 1 q)) 0 = true := by decide +kernel
theorem k5_0_1 : (fun t : Rat => [1, 2, 3].all fun q => (fun y : Rat => goT (fun n a => chkS y t n a) (t * (1 / y) ^ 2) 21 1 (dk 1 (t * (1 / y) ^ 2)) (dk 2 (t * (1 / y) ^ 2))) (Rat.divInt (-1) q)) 0 = true := by decide +kernel
theorem k5_0_2 : (fun t : Rat => [1, 2, 3].all fun q => (fun y : Rat => goT (fun n a => chkS y t n a) (t * (1 / y) ^ 2) 21 1 (dk 1 (t * (1 / y) ^ 2)) (dk 2 (t * (1 / y) ^ 2))) (Rat.divInt 2 q)) 0 = true := by decide +kernel
theorem k5_0_3 : (fun t : Rat => [1, 2, 3].all fun q => (fun y : Rat => goT (fun n a => chkS y t n a) (t * (1 / y) ^ 2) 21 1 (dk 1 (t * (1 / y) ^ 2)) (dk 2 (t * (1 / y) ^ 2))) (Rat.divInt (-3) q)) 0 = true := by decide +kernel
theorem k5_0_4 : (fun t : Rat => [1, 2, 3].all fun q => (fun y : Rat => goT (fun n a => chkS y t n a) (t * (1 / y) ^ 2) 21 1 (dk 1 (t * (1 / y) ^ 2)) (dk 2 (t * (1 / y) ^ 2))) (Rat.divInt 5 q)) 0 = true := by decide +kernel
theorem k5_1_0 : (fun t : Rat => [1, 2, 3].all fun q => (fun y : Rat => goT (fun n a => chkS y t n a) (t * (1 / y) ^ 2) 21 1 (dk 1 (t * (1 / y) ^ 2)) (dk 2 (t * (1 / y) ^ 2))) (Rat.divInt 1 q)) 1 = true := by decide +kernel
theorem k5_1_1 : (fun t : Rat => [1, 2, 3].all fun q => (fun y : Rat => goT (fun n a => chkS y t n a) (t * (1 / y) ^ 2) 21 1 (dk 1 (t * (1 / y) ^ 2)) (dk 2 (t * (1 / y) ^ 2))) (Rat.divInt (-1) q)) 1 = true := by decide +kernel
theorem k5_1_2 : (fun t : Rat => [1, 2, 3].all fun q => (fun y : Rat => goT (fun n a => chkS y t n a) (t * (1 / y) ^ 2) 21 1 (dk 1 (t * (1 / y) ^ 2)) (dk 2 (t * (1 / y) ^ 2))) (Rat.divInt 2 q)) 1 = true := by decide +kernel
theorem k5_1_3 : (fun t : Rat => [1, 2, 3].all fun q => (fun y : Rat => goT (fun n a => chkS y t n a) (t * (1 / y) ^ 2) 21 1 (dk 1 (t * (1 / y) ^ 2)) (dk 2 (t * (1 / y) ^ 2))) (Rat.divInt (-3) q)) 1 = true := by decide +kernel
theorem k5_1_4 : (fun t : Rat => [1, 2, 3].all fun q => (fun y : Rat => goT (fun n a => chkS y t n a) (t * (1 / y) ^ 2) 21 1 (dk 1 (t * (1 / y) ^ 2)) (dk 2 (t * (1 / y) ^ 2))) (Rat.divInt 5 q)) 1 = true := by decide +kernel
theorem k5_2_0 : (fun t : Rat => [1, 2, 3].all fun q => (fun y : Rat => goT (fun n a => chkS y t n a) (t * (1 / y) ^ 2) 21 1 (dk 1 (t * (1 / y) ^ 2)) (dk 2 (t * (1 / y) ^ 2))) (Rat.divInt 1 q)) (-1) = true := by decide +kernel
theorem k5_2_1 : (fun t : Rat => [1, 2, 3].all fun q => (fun y : Rat => goT (fun n a => chkS y t n a) (t * (1 / y) ^ 2) 21 1 (dk 1 (t * (1 / y) ^ 2)) (dk 2 (t * (1 / y) ^ 2))) (Rat.divInt (-1) q)) (-1) = true := by decide +kernel
theorem k5_2_2 : (fun t : Rat => [1, 2, 3].all fun q => (fun y : Rat => goT (fun n a => chkS y t n a) (t * (1 / y) ^ 2) 21 1 (dk 1 (t * (1 / y) ^ 2)) (dk 2 (t * (1 / y) ^ 2))) (Rat.divInt 2 q)) (-1) = true := by decide +kernel
theorem k5_2_3 : (fun t : Rat => [1, 2, 3].all fun q => (fun y : Rat => goT (fun n a => chkS y t n a) (t * (1 / y) ^ 2) 21 1 (dk 1 (t * (1 / y) ^ 2)) (dk 2 (t * (1 / y) ^ 2))) (Rat.divInt (-3) q)) (-1) = true := by decide +kernel
theorem k5_2_4 : (fun t : Rat => [1, 2, 3].all fun q => (fun y : Rat => goT (fun n a => chkS y t n a) (t * (1 / y) ^ 2) 21 1 (dk 1 (t * (1 / y) ^ 2)) (dk 2 (t * (1 / y) ^ 2))) (Rat.divInt 5 q)) (-1) = true := by decide +kernel
theorem k5_3_0 : (fun t : Rat => [1, 2, 3].all fun q => (fun y : Rat => goT (fun n a => chkS y t n a) (t * (1 / y) ^ 2) 21 1 (dk 1 (t * (1 / y) ^ 2)) (dk 2 (t * (1 / y) ^ 2))) (Rat.divInt 1 q)) 2 = true := by decide +kernel
theorem k5_3_1 : (fun t : Rat => [1, 2, 3].all fun q => (fun y : Rat => goT (fun n a => chkS y t n a) (t * (1 / y) ^ 2) 21 1 (dk 1 (t * (1 / y) ^ 2)) (dk 2 (t * (1 / y) ^ 2))) (Rat.divInt (-1) q)) 2 = true := by decide +kernel
theorem k5_3_2 : (fun t : Rat => [1, 2, 3].all fun q => (fun y : Rat => goT (fun n a => chkS y t n a) (t * (1 / y) ^ 2) 21 1 (dk 1 (t * (1 / y) ^ 2)) (dk 2 (t * (1 / y) ^ 2))) (Rat.divInt 2 q)) 2 = true := by decide +kernel
theorem k5_3_3 : (fun t : Rat => [1, 2, 3].all fun q => (fun y : Rat => goT (fun n a => chkS y t n a) (t * (1 / y) ^ 2) 21 1 (dk 1 (t * (1 / y) ^ 2)) (dk 2 (t * (1 / y) ^ 2))) (Rat.divInt (-3) q)) 2 = true := by decide +kernel
theorem k5_3_4 : (fun t : Rat => [1, 2, 3].all fun q => (fun y : Rat => goT (fun n a => chkS y t n a) (t * (1 / y) ^ 2) 21 1 (dk 1 (t * (1 / y) ^ 2)) (dk 2 (t * (1 / y) ^ 2))) (Rat.divInt 5 q)) 2 = true := by decide +kernel
theorem k5_4_0 : (fun t : Rat => [1, 2, 3].all fun q => (fun y : Rat => goT (fun n a => chkS y t n a) (t * (1 / y) ^ 2) 21 1 (dk 1 (t * (1 / y) ^ 2)) (dk 2 (t * (1 / y) ^ 2))) (Rat.divInt 1 q)) (1 / 4) = true := by decide +kernel
theorem k5_4_1 : (fun t : Rat => [1, 2, 3].all fun q => (fun y : Rat => goT (fun n a => chkS y t n a) (t * (1 / y) ^ 2) 21 1 (dk 1 (t * (1 / y) ^ 2)) (dk 2 (t * (1 / y) ^ 2))) (Rat.divInt (-1) q)) (1 / 4) = true := by decide +kernel
theorem k5_4_2 : (fun t : Rat => [1, 2, 3].all fun q => (fun y : Rat => goT (fun n a => chkS y t n a) (t * (1 / y) ^ 2) 21 1 (dk 1 (t * (1 / y) ^ 2)) (dk 2 (t * (1 / y) ^ 2))) (Rat.divInt 2 q)) (1 / 4) = true := by decide +kernel
theorem k5_4_3 : (fun t : Rat => [1, 2, 3].all fun q => (fun y : Rat => goT (fun n a => chkS y t n a) (t * (1 / y) ^ 2) 21 1 (dk 1 (t * (1 / y) ^ 2)) (dk 2 (t * (1 / y) ^ 2))) (Rat.divInt (-3) q)) (1 / 4) = true := by decide +kernel
theorem k5_4_4 : (fun t : Rat => [1, 2, 3].all fun q => (fun y : Rat => goT (fun n a => chkS y t n a) (t * (1 / y) ^ 2) 21 1 (dk 1 (t * (1 / y) ^ 2)) (dk 2 (t * (1 / y) ^ 2))) (Rat.divInt 5 q)) (1 / 4) = true := by decide +kernel
theorem k5_5_0 : (fun t : Rat => [1, 2, 3].all fun q => (fun y : Rat => goT (fun n a => chkS y t n a) (t * (1 / y) ^ 2) 21 1 (dk 1 (t * (1 / y) ^ 2)) (dk 2 (t * (1 / y) ^ 2))) (Rat.divInt 1 q)) (-1 / 2) = true := by decide +kernel
theorem k5_5_1 : (fun t : Rat => [1, 2, 3].all fun q => (fun y : Rat => goT (fun n a => chkS y t n a) (t * (1 / y) ^ 2) 21 1 (dk 1 (t * (1 / y) ^ 2)) (dk 2 (t * (1 / y) ^ 2))) (Rat.divInt (-1) q)) (-1 / 2) = true := by decide +kernel
theorem k5_5_2 : (fun t : Rat => [1, 2, 3].all fun q => (fun y : Rat => goT (fun n a => chkS y t n a) (t * (1 / y) ^ 2) 21 1 (dk 1 (t * (1 / y) ^ 2)) (dk 2 (t * (1 / y) ^ 2))) (Rat.divInt 2 q)) (-1 / 2) = true := by decide +kernel
theorem k5_5_3 : (fun t : Rat => [1, 2, 3].all fun q => (fun y : Rat => goT (fun n a => chkS y t n a) (t * (1 / y) ^ 2) 21 1 (dk 1 (t * (1 / y) ^ 2)) (dk 2 (t * (1 / y) ^ 2))) (Rat.divInt (-3) q)) (-1 / 2) = true := by decide +kernel
theorem k5_5_4 : (fun t : Rat => [1, 2, 3].all fun q => (fun y : Rat => goT (fun n a => chkS y t n a) (t * (1 / y) ^ 2) 21 1 (dk 1 (t * (1 / y) ^ 2)) (dk 2 (t * (1 / y) ^ 2))) (Rat.divInt 5 q)) (-1 / 2) = true := by decide +kernel
theorem k5_6_0 : (fun t : Rat => [1, 2, 3].all fun q => (fun y : Rat => goT (fun n a => chkS y t n a) (t * (1 / y) ^ 2) 21 1 (dk 1 (t * (1 / y) ^ 2)) (dk 2 (t * (1 / y) ^ 2))) (Rat.divInt 1 q)) 4 = true := by decide +kernel
theorem k5_6_1 : (fun t : Rat => [1, 2, 3].all fun q => (fun y : Rat => goT (fun n a => chkS y t n a) (t * (1 / y) ^ 2) 21 1 (dk 1 (t * (1 / y) ^ 2)) (dk 2 (t * (1 / y) ^ 2))) (Rat.divInt (-1) q)) 4 = true := by decide +kernel
theorem k5_6_2 : (fun t : Rat => [1, 2, 3].all fun q => (fun y : Rat => goT (fun n a => chkS y t n a) (t * (1 / y) ^ 2) 21 1 (dk 1 (t * (1 / y) ^ 2)) (dk 2 (t * (1 / y) ^ 2))) (Rat.divInt 2 q)) 4 = true := by decide +kernel
theorem k5_6_3 : (fun t : Rat => [1, 2, 3].all fun q => (fun y : Rat => goT (fun n a => chkS y t n a) (t * (1 / y) ^ 2) 21 1 (dk 1 (t * (1 / y) ^ 2)) (dk 2 (t * (1 / y) ^ 2))) (Rat.divInt (-3) q)) 4 = true := by decide +kernel
theorem k5_6_4 : (fun t : Rat => [1, 2, 3].all fun q => (fun y : Rat => goT (fun n a => chkS y t n a) (t * (1 / y) ^ 2) 21 1 (dk 1 (t * (1 / y) ^ 2)) (dk 2 (t * (1 / y) ^ 2))) (Rat.divInt 5 q)) 4 = true := by decide +kernel
theorem k5_7_0 : (fun t : Rat => [1, 2, 3].all fun q => (fun y : Rat => goT (fun n a => chkS y t n a) (t * (1 / y) ^ 2) 21 1 (dk 1 (t * (1 / y) ^ 2)) (dk 2 (t * (1 / y) ^ 2))) (Rat.divInt 1 q)) (3 / 2) = true := by decide +kernel
theorem k5_7_1 : (fun t : Rat => [1, 2, 3].all fun q => (fun y : Rat => goT (fun n a => chkS y t n a) (t * (1 / y) ^ 2) 21 1 (dk 1 (t * (1 / y) ^ 2)) (dk 2 (t * (1 / y) ^ 2))) (Rat.divInt (-1) q)) (3 / 2) = true := by decide +kernel
theorem k5_7_2 : (fun t : Rat => [1, 2, 3].all fun q => (fun y : Rat => goT (fun n a => chkS y t n a) (t * (1 / y) ^ 2) 21 1 (dk 1 (t * (1 / y) ^ 2)) (dk 2 (t * (1 / y) ^ 2))) (Rat.divInt 2 q)) (3 / 2) = true := by decide +kernel
theorem k5_7_3 : (fun t : Rat => [1, 2, 3].all fun q => (fun y : Rat => goT (fun n a => chkS y t n a) (t * (1 / y) ^ 2) 21 1 (dk 1 (t * (1 / y) ^ 2)) (dk 2 (t * (1 / y) ^ 2))) (Rat.divInt (-3) q)) (3 / 2) = true := by decide +kernel
theorem k5_7_4 : (fun t : Rat => [1, 2, 3].all fun q => (fun y : Rat => goT (fun n a => chkS y t n a) (t * (1 / y) ^ 2) 21 1 (dk 1 (t * (1 / y) ^ 2)) (dk 2 (t * (1 / y) ^ 2))) (Rat.divInt 5 q)) (3 / 2) = true := by decide +kernel
theorem Ys_by {P : Rat → Bool} (h0 : ([1, 2, 3].all fun q => P (Rat.divInt 1 q)) = true) (h1 : ([1, 2, 3].all fun q => P (Rat.divInt (-1) q)) = true) (h2 : ([1, 2, 3].all fun q => P (Rat.divInt 2 q)) = true) (h3 : ([1, 2, 3].all fun q => P (Rat.divInt (-3) q)) = true) (h4 : ([1, 2, 3].all fun q => P (Rat.divInt 5 q)) = true) : Ys.all P = true := by
  simp only [List.all_cons, List.all_nil, Bool.and_true, Bool.and_eq_true] at h0 h1 h2 h3 h4
  simp only [Ys, List.flatMap_cons, List.flatMap_nil, List.map_cons, List.map_nil, List.append_nil, List.all_append, List.all_cons, List.all_nil, h0, h1, h2, h3, h4, Bool.and_self]
theorem k5 : Ts.all (fun t => Ys.all fun y => goT (fun n a => chkS y t n a) (t * (1 / y) ^ 2) 21 1 (dk 1 (t * (1 / y) ^ 2)) (dk 2 (t * (1 / y) ^ 2))) = true := all8 (Ys_by k5_0_0 k5_0_1 k5_0_2 k5_0_3 k5_0_4) (Ys_by k5_1_0 k5_1_1 k5_1_2 k5_1_3 k5_1_4) (Ys_by k5_2_0 k5_2_1 k5_2_2 k5_2_3 k5_2_4) (Ys_by k5_3_0 k5_3_1 k5_3_2 k5_3_3 k5_3_4) (Ys_by k5_4_0 k5_4_1 k5_4_2 k5_4_3 k5_4_4) (Ys_by k5_5_0 k5_5_1 k5_5_2 k5_5_3 k5_5_4) (Ys_by k5_6_0 k5_6_1 k5_6_2 k5_6_3 k5_6_4) (Ys_by k5_7_0 k5_7_1 k5_7_2 k5_7_3 k5_7_4)
end Pf.Z

/-! What is drawn in the law of Dickson's numbers. -/
namespace Pf.Z
open PySem PySem.Spec PyProof.Rows L2
section
variable {cst : Str → Option D} {tb : Str → Option FD} {k : Nat} {S : Sto}
theorem eF_of {a : Rat} {p : Int} {q : Nat} (h : a.num = p ∧ a.den = q) : eF a = .tup [.int p, .int q] := by rw [eF, h.1, h.2]
theorem Ts_eF : Ts.map eF = [.tup [.int 0, .int 1], .tup [.int 1, .int 1], .tup [.int (-1), .int 1], .tup [.int 2, .int 1], .tup [.int 1, .int 4], .tup [.int (-1), .int 2], .tup [.int 4, .int 1], .tup [.int 3, .int 2]] := by
  have h1 : eF (1 / 4) = .tup [.int 1, .int 4] := eF_of (by decide +kernel)
  have h2 : eF (-1 / 2) = .tup [.int (-1), .int 2] := eF_of (by decide +kernel)
  have h3 : eF (3 / 2) = .tup [.int 3, .int 2] := eF_of (by decide +kernel)
  have h4 : eF 4 = .tup [.int 4, .int 1] := eF_of (by decide +kernel)
  have h5 : eF 2 = .tup [.int 2, .int 1] := eF_of (by decide +kernel)
  have h6 : eF (-1) = .tup [.int (-1), .int 1] := eF_of (by decide +kernel)
  have h7 : eF 1 = .tup [.int 1, .int 1] := eF_of (by decide +kernel)
  have h8 : eF 0 = .tup [.int 0, .int 1] := eF_of (by decide +kernel)
  simp only [Ts, List.map, h1, h2, h3, h4, h5, h6, h7, h8]
structure SrT (tb : Str → Option FD) : Prop where
  source : tb "_law_source" = some d__law_source
  pick : tb "_law_pick" = some d__law_pick
  of' : tb "_law_of" = some d__law_of
/-- one of a list that is made for it -/
theorem of_new (T : SrT tb) {n p : Nat} {xs : List D} (hS : SrcAt S n p) (hx : xs ≠ []) (hl : xs.length < 2 ^ 29) :
    ∃ (x : D) (S' : Sto), x ∈ xs ∧ runF cst tb (k + 2) "_law_of" [.loc n, .loc S.length] (S ++ [.lst xs]) = some (x, S') ∧ Frm n p S S' ∧ SrcAt S' n p := by
  obtain ⟨l1, l2⟩ := hS.lt
  obtain ⟨x, S', h1, h2, h3, h4⟩ := r_law_of (cst := cst) (tb := tb) (k := k) (S := S ++ [.lst xs]) T.pick T.of' (hS.app _) (getA0 ..) (by omega) (by omega) hx hl
  exact ⟨x, S', h1, h2, (Frm.app n p S _).trans h3, h4⟩
theorem r_told_t (T : SrT tb) (h : tb "_law_told_t" = some d__law_told_t) {n p : Nat} (hS : SrcAt S n p) :
    ∃ (t : Rat) (S' : Sto), t ∈ Ts ∧ runF cst tb (k + 3) "_law_told_t" [.loc n] S = some (eF t, S') ∧ Frm n p S S' ∧ SrcAt S' n p := by
  obtain ⟨x, S1, h1, h2, h3, h4⟩ := of_new (cst := cst) (tb := tb) (k := k) T (xs := Ts.map eF) hS (by simp [Ts]) (by simp [Ts])
  rw [List.mem_map] at h1
  obtain ⟨t, ht, rfl⟩ := h1
  have hl : ∀ S, lstK (some ([.tup [.int 0, .int 1], .tup [.int 1, .int 1], .tup [.int (-1), .int 1], .tup [.int 2, .int 1], .tup [.int 1, .int 4], .tup [.int (-1), .int 2], .tup [.int 4, .int 1], .tup [.int 3, .int 2]], S)) = some (.loc S.length, S ++ [.lst (Ts.map eF)]) := fun S => by
    rw [Ts_eF]; rfl
  obtain ⟨S', a1, a2, a3⟩ := run_src (cst := cst) (k := k + 2) (S := S) (S' := S1) (d := eF t) (ds := [.loc n]) h rfl (by
    simp only [d__law_told_t, List.map, List.replicate, Nat.sub_self, List.cons_append, List.nil_append, hl, h2, vK_some, e_var, e_lit, lit_non, lit_bl, lit_int, lit_str, e_glob, oneK_some, e_bin, bin1_some, bin2_some, d_add, d_sub, e_neg, negK_some, e_cmp, cmp1_some, cmp2_some, map_some2, c_lt, c_le, c_gt, c_ge, c_eqI, c_neI, c_eqS, c_neS, tK_some, notK_some, blK_some, e_not, e_and, e_or, t_not, t_and, t_or, t_cmp, t_call, t_blt, a_nil, a_cons, andK_t, andK_f, o_nil, o_cons, orK_t, orK_f, e_ite, iteK_t, iteK_f, s_nil, s_cons, es1_some, es2_some, e_tup, tupK0, tupK1, tupK2, tupK3, tupK4, tupK5, e_lst, lstK0, lstK1, e_call, calK_some, e_blt, bltK_some, b_gcd, b_abs, b_int, b_max, b_min, b_lenT, b_lenL, b_tupT, b_tupL, b_lstT, b_lstL, b_all, items_lst, items_ro, map_some3, e_idx, idx1_some, idx2_some, i_tup, i_loc, at_0, at_1, at_2, at_3, e_slice, slK_some, slK1_some, slK2_some, o_none, o_some, oK_some, sl_tup, sl_loc, e_rev, revK_some, rv_tup, rv_loc, e_pop, popK_some, e_comp, it_tup, it_loc, it_enumT, it_enumL, it_zipT, it_zipL, e_dict, B_nil, B_cons, seqK_nx, seqK_ret, seqK_brk, seqK_cont, S_asg, asgK_some, nxK_some, bd_nm, bd_tup, bd_nil, bd_cons, bdK_some, S_par, parK_some, sa_nil, sa_cons, S_setI, stK_some, stK1_some, stK2_some, nxS_some, S_app, appK2_some, S_popS, popSK_some, S_ret, retK_some, S_retN, S_pass, S_brk, S_cont, S_ite, ifK_t, ifK_f, forK_some, getA, getA0, setA, setA0, lenA, appA, catA, nilA, lenC, len0, g_0, t_0, g_1, t_1, g_2, t_2, g_3, t_3, g_4, t_4, g_5, t_5, g_6, t_6, g_7, t_7, g_8, t_8, g_9, t_9, g_10, t_10, g_11, t_11, g_12, t_12, g_13, t_13, bindS, S_whil, S_for, compK_some]) hS h3 h4
  exact ⟨t, S', ht, a1, a2, a3⟩
theorem eP_append (f g : List Rat) (h : f.length + g.length ≤ sizeLine) : binD .add (eP f) (eP g) S = some (eP (f ++ g), S) := by
  show (if (f.map eF).length + (g.map eF).length ≤ sizeLine then some (D.tup (f.map eF ++ g.map eF), S) else none) = _
  rw [List.length_map, List.length_map, if_pos h, ← List.map_append]
  rfl
theorem eP_rep (i : Nat) (hi : i ≤ 1000) : binD .mul (.tup [eF 0]) (.int (i : Int)) S = some (eP (List.replicate i 0), S) := by
  show (if [eF 0] ≠ [] ∧ (0 : Int) ≤ i ∧ (i : Int) ≤ 1000 ∧ [eF 0].length ≤ 1000 then some (D.tup (List.replicate (i : Int).toNat [eF 0]).flatten, S) else none) = _
  rw [if_pos ⟨by simp, by omega, by omega, by decide⟩, Int.toNat_natCast, zeros_map]
  rfl
theorem szd_take (y : Rat) : ∀ (f : List Rat) (i : Nat) (p c : Rat), f[i]? = some c → szd y (f.take (i + 1)) p = szd y (f.take i) p ++ [c * (p * y ^ i)]
  | b :: f, 0, p, c, h => by
    cases h
    show [b * p] = [b * (p * y ^ 0)]
    rw [Rat.pow_zero, Rat.mul_one]
  | b :: f, i + 1, p, c, h => by
    have := szd_take y f i (p * y) c h
    show b * p :: szd y (f.take (i + 1)) (p * y) = b * p :: (szd y (f.take i) (p * y) ++ _)
    rw [this, Rat.pow_succ, show p * y * y ^ i = p * (y ^ i * y) by grind]
theorem szd_len (y : Rat) : ∀ (f : List Rat) (p : Rat), (szd y f p).length = f.length
  | [], p => rfl
  | c :: f, p => congrArg (· + 1) (szd_len y f (p * y))
end
end Pf.Z

/-! Dickson's: the facts that are looked at, one by one. -/
namespace Pf.Z
theorem trim_of_last {f : List Rat} {n : Nat} (hl : f.length = n + 1) (h : co f n ≠ 0) : trim f = f := by
  have h1 : (trim f).length = n + 1 := len_of (by have := trim_len f; omega) (by rw [co_trim]; exact h)
  apply List.ext_getElem
  · omega
  · intro i a b
    have := co_trim f i
    have e1 := co_get a
    have e2 := co_get b
    rw [List.getElem?_eq_getElem a] at e1
    rw [List.getElem?_eq_getElem b] at e2
    rw [Option.some.inj e1, Option.some.inj e2, this]
theorem trim_nil_of {f : List Rat} (h : f.all (fun c => decide (c = 0)) = true) : trim f = [] := by
  rw [trim_eq_nil]
  intro i
  by_cases hi : i < f.length
  · have := List.all_eq_true.1 h _ (co_mem hi)
    exact of_decide_eq_true this
  · exact co_of_le (by omega)
structure DkF (n : Nat) (t : Rat) : Prop where
  eq : dk n t = ldk n t
  bd : Bd 39 (dk n t)
  len : (dk n t).length = n + 1
  top : co (dk n t) n = 1
  nrm : pnormal (dk n t) = lnorm (dk n t)
  wave : wrest (dk n t) t = []
  wave' : wrest (poften (-1) (dk n t)) t = []
theorem dkF {n : Nat} {t : Rat} (ht : t ∈ Ts) (h1 : 1 ≤ n) (h2 : n ≤ 21) : DkF n t := by
  have h := goT_all (n := 1) (List.all_eq_true.1 k1 t ht) (n - 1) (by omega)
  rw [show 1 + (n - 1) = n by omega] at h
  simp only [chkN, Bool.and_eq_true, decide_eq_true_iff] at h
  obtain ⟨⟨⟨⟨⟨⟨a1, a2⟩, a3⟩, a4⟩, a5⟩, a6⟩, a7⟩ := h
  exact ⟨a1, Bd.of a2, a3, a4, a5, by rw [wrest_q]; exact trim_nil_of a6, by rw [wrest_q]; exact trim_nil_of a7⟩
theorem dk0 (t : Rat) : Bd 39 (dk 0 t) ∧ (dk 0 t).length < 900 := ⟨show Bd 39 [2] from Bd.of (by decide), show 1 < 900 by decide⟩
theorem dkB {t : Rat} (ht : t ∈ Ts) : DkB 39 20 t := fun i hi => by
  by_cases h0 : i = 0
  · subst h0; exact dk0 t
  · have f := dkF ht (n := i) (by omega) (by omega)
    exact ⟨f.bd, by rw [f.len]; omega⟩
theorem DkF.ne {n : Nat} {t : Rat} (f : DkF n t) : dk n t ≠ [] := fun z => by
  have := f.len
  rw [z] at this
  cases this
theorem DkF.lead {n : Nat} {t : Rat} (f : DkF n t) : lead (dk n t) = 1 := by
  unfold Pf.Z.lead
  rw [f.len, Nat.add_sub_cancel, f.top]
theorem LdOk.of1 {f : List Rat} (h : lead f = 1) : LdOk f := .inl (by rw [h]; decide)
theorem ne0_of1 {f : List Rat} (h : lead f = 1) : lead f ≠ 0 := by rw [h]; decide
theorem Ts_sz {t : Rat} (ht : t ∈ Ts) : Sz 3 t := by
  have h : Ts.all (fun t => decide (t.num.natAbs < 2 ^ 3) && decide (t.den < 2 ^ 3)) = true := by decide +kernel
  have := List.all_eq_true.1 h t ht
  simp only [Bool.and_eq_true, decide_eq_true_iff] at this
  exact this
structure YF (y : Rat) : Prop where
  sz : Sz 3 y
  ne : y ≠ 0
theorem yF {y : Rat} (hy : y ∈ Ys) : YF y := by
  have h : Ys.all (fun t => decide (t.num.natAbs < 2 ^ 3) && decide (t.den < 2 ^ 3) && decide (t ≠ 0)) = true := by decide +kernel
  have := List.all_eq_true.1 h y hy
  simp only [Bool.and_eq_true, decide_eq_true_iff] at this
  exact ⟨this.1, this.2⟩
theorem yP {n : Nat} {t y : Rat} (ht : t ∈ Ts) (hy : y ∈ Ys) (h1 : 1 ≤ n) (h2 : n ≤ 20) : pat (y + t * (1 / y)) (dk n t) = y ^ n + (t * (1 / y)) ^ n ∧ lat (-y) (dk n t) 0 1 = ((1 - 2 * ((n % 2 : Nat) : Int) : Int) : Rat) * lat y (dk n t) 0 1 := by
  have h := goT_all (n := 1) (List.all_eq_true.1 k2 t ht) (n - 1) (by omega)
  rw [show 1 + (n - 1) = n by omega] at h
  have := List.all_eq_true.1 h y hy
  simp only [chkY, Bool.and_eq_true, decide_eq_true_iff] at this
  exact this
structure SmF (n : Nat) (t y : Rat) : Prop where
  bd : DkB 300 n (t * (1 / y) ^ 2)
  eq : poften (y ^ n) (dk n (t * (1 / y) ^ 2)) = szd y (dk n t) 1
theorem smF {n : Nat} {t y : Rat} (ht : t ∈ Ts) (hy : y ∈ Ys) (h1 : 1 ≤ n) (h2 : n ≤ 20) : SmF n t y := by
  have g : ∀ n, 1 ≤ n → n ≤ 21 → chkS y t n (dk n (t * (1 / y) ^ 2)) = true := fun n h1 h2 => by
    have h := goT_all (n := 1) (List.all_eq_true.1 (List.all_eq_true.1 k5 t ht) y hy) (n - 1) (by omega)
    rwa [show 1 + (n - 1) = n by omega] at h
  refine ⟨fun i hi => ?_, ?_⟩
  · by_cases h0 : i = 0
    · subst h0
      exact ⟨(dk0 _).1.mono (by decide), (dk0 _).2⟩
    · have h := g i (by omega) (by omega)
      simp only [chkS, Bool.and_eq_true, decide_eq_true_iff] at h
      exact ⟨Bd.of h.1.1.1, by omega⟩
  · have h := g n h1 (by omega)
    simp only [chkS, Bool.and_eq_true, decide_eq_true_iff] at h
    rw [(dkF ht h1 (by omega)).eq, poften, h.1.2]
    exact trim_of_last (n := n) (by rw [szd_len]; simp [ldk, ldkN, tab]) h.2
structure WF (t : Rat) (m k : Nat) : Prop where
  bd : DkB 39 m (t ^ k)
  ne : dk m (t ^ k) ≠ []
  eq : dk m (t ^ k) = ldk m (t ^ k)
  within : pwithin (dk k t) (dk m (t ^ k)) = ldk (m * k) t
  dg : DgOk (pnormal (dk k t)) (ldk (m * k) t)
  flat : allFlat (pdigits (pnormal (dk k t)) (ldk (m * k) t).length (ldk (m * k) t)) = true
  outer : pouter (ldk (m * k) t) (pnormal (dk k t)) = lwi (trim [co (dk k t) 0, 1]) (dk m (t ^ k)) [] [1]
  obd : Bd 39 (pouter (ldk (m * k) t) (pnormal (dk k t)))
  olen : (pouter (ldk (m * k) t) (pnormal (dk k t))).length ≤ 22
theorem rec_qit (f h : List Rat) : ∀ i, (Nat.rec f (fun _ g => pquo g h) i : List Rat) = qit f h i
  | 0 => rfl
  | i + 1 => congrArg (fun g => pquo g h) (rec_qit f h i)
theorem pquo_nil {h : List Rat} (hh : h ≠ []) : pquo [] h = [] := by
  have := List.length_pos_iff.2 hh
  unfold pquo
  rw [show ([] : List Rat).length + 1 - h.length = 0 by simp; omega]
  rfl
theorem qit_nil {f h : List Rat} (hh : h ≠ []) {n : Nat} (e : qit f h n = []) : ∀ i, qit f h (n + i) = []
  | 0 => e
  | i + 1 => by
    show pquo (qit f h (n + i)) h = []
    rw [qit_nil hh e i, pquo_nil hh]
theorem wF {t : Rat} {m k : Nat} (ht : t ∈ Ts) (hm : 1 ≤ m) (hm2 : m ≤ 4) (hk : 1 ≤ k) (hk2 : k ≤ 4) : WF t m k := by
  have mem : ∀ x : Nat, 1 ≤ x → x ≤ 4 → x ∈ [1, 2, 3, 4] := fun x a b => by
    match x, a, b with
    | 1, _, _ => simp
    | 2, _, _ => simp
    | 3, _, _ => simp
    | 4, _, _ => simp
  have h := List.all_eq_true.1 (List.all_eq_true.1 (List.all_eq_true.1 k4 t ht) m (mem m hm hm2)) k (mem k hk hk2)
  simp only [chkW, Bool.and_eq_true, decide_eq_true_iff] at h
  obtain ⟨⟨⟨⟨⟨⟨⟨⟨⟨⟨⟨⟨⟨⟨a1, a2⟩, a3⟩, a4⟩, a5⟩, a6⟩, a7⟩, a8⟩, a9⟩, a10⟩, a11⟩, a12⟩, a13⟩, a14⟩, a15⟩ := h
  have hne : pnormal (dk k t) ≠ [] := fun z => by rw [z] at a5; cases a5
  have fl : (ldk (m * k) t).length = m * k + 1 := by simp [ldk, ldkN, tab]
  have mk : m * k ≤ 16 := Nat.mul_le_mul hm2 hk2
  refine ⟨fun i hi => ?_, a14, a2, a3, ⟨hne, ne0_of1 a6, LdOk.of1 a6, (Bd.of a4).sz.mono (by decide), by omega, by omega, 39, 39, Bd.of a7, ?_, fun i => ?_⟩, a10, a11, Bd.of a12, a13⟩
  · have := List.all_eq_true.1 a1 i (List.mem_range.2 (by omega))
    simp only [Bool.and_eq_true, decide_eq_true_iff] at this
    exact ⟨Bd.of this.1, by omega⟩
  · rw [fl]
    omega
  · rw [rec_qit]
    by_cases hi : i < 17
    · exact Bd.of (List.all_eq_true.1 a8 i (List.mem_range.2 hi))
    · obtain ⟨j, rfl⟩ : ∃ j, i = 17 + j := ⟨i - 17, by omega⟩
      rw [qit_nil hne a9 j]
      exact (Bd.nil (B := 0)).mono (by decide)
theorem ldc_sz {n i : Nat} (hn : n ≤ 21) (hi : i ≤ n / 2) : (ldc n i).natAbs < 2 ^ 4000 := by
  have h : (List.range 22).all (fun n => (List.range 12).all fun i => decide ((ldc n i).natAbs < 2 ^ 60)) = true := by decide +kernel
  have := List.all_eq_true.1 (List.all_eq_true.1 h n (List.mem_range.2 (by omega))) i (List.mem_range.2 (by omega))
  exact Nat.lt_of_lt_of_le (of_decide_eq_true this) (Nat.pow_le_pow_right (by decide) (by decide))
end Pf.Z

/-! The law of Dickson's numbers, statement by statement (printed by mk41main.py). -/
namespace Pf.Z
open PySem PySem.Spec PyProof.Rows L2
def lb1 : Sx := .par [10, 11] [.bin .add (.lit (.int 1)) (.call "_law_pick" [.var 1, .idx (.lst [.lit (.int 4), .lit (.int 8), .lit (.int 12), .lit (.int 20)]) (.var 2)]), .call "_law_told_t" [.var 1]]
def lb2 : Sx := .asg (.nm 3) (.call "_law_dickson" [.var 10, .var 11])
def lb3 : Sx := .ite (.or [.cmp .ne (.blt "repr" [.call "dickson" [.var 10, .var 11]]) (.blt "repr" [.var 3]), .cmp .ne (.blt "repr" [.call "dickson_normal" [.var 10, .var 11]]) (.blt "repr" [.idx (.call "_law_normal_of" [.var 3]) (.lit (.int 2))])]) [.ret (.lit (.bl false))] []
def lb4 : Sx := .asg (.nm 4) (.call "_law_low" [.call "_law_of" [.var 1, .lst [.lit (.int 1), .neg (.lit (.int 1)), .lit (.int 2), .neg (.lit (.int 3)), .lit (.int 5)]], .bin .add (.lit (.int 1)) (.call "_law_pick" [.var 1, .lit (.int 3)])])
def lb5 : Sx := .asg (.nm 5) (.call "_law_by" [.var 11, .call "_law_low" [.idx (.var 4) (.lit (.int 1)), .idx (.var 4) (.lit (.int 0))]])
def lb6 : Sx := .ite (.cmp .ne (.call "poly_at" [.call "dickson" [.var 10, .var 11], .call "_law_plus" [.var 4, .var 5]]) (.call "_law_plus" [.call "_law_to" [.var 4, .var 10], .call "_law_to" [.var 5, .var 10]])) [.ret (.lit (.bl false))] []
def lb7 : Sx := .ite (.cmp .ne (.call "_law_at" [.var 3, .tup [.bin .sub (.lit (.int 0)) (.idx (.var 4) (.lit (.int 0))), .idx (.var 4) (.lit (.int 1))]]) (.call "_law_by" [.tup [.bin .sub (.lit (.int 1)) (.bin .mul (.lit (.int 2)) (.bin .mod (.blt "int" [.var 10]) (.lit (.int 2)))), .lit (.int 1)], .call "_law_at" [.var 3, .var 4]])) [.ret (.lit (.bl false))] []
def lb8 : Sx := .par [12, 13] [.bin .add (.lit (.int 1)) (.call "_law_pick" [.var 1, .lit (.int 4)]), .bin .add (.lit (.int 1)) (.call "_law_pick" [.var 1, .lit (.int 4)])]
def lb9 : Sx := .par [14, 15] [.call "dickson" [.var 12, .call "_law_to" [.var 11, .var 13]], .call "dickson" [.var 13, .var 11]]
def lb10 : Sx := .ite (.cmp .ne (.call "poly_within" [.var 14, .var 15]) (.call "_law_dickson" [.bin .mul (.var 12) (.var 13), .var 11])) [.ret (.lit (.bl false))] []
def lb11 : Sx := .ite (.cmp .ne (.blt "repr" [.call "outer_part" [.call "dickson" [.bin .mul (.var 12) (.var 13), .var 11], .call "dickson_normal" [.var 13, .var 11]]]) (.blt "repr" [.call "_law_within" [.var 14, .call "_law_poly" [.lst [.idx (.var 15) (.lit (.int 0)), .tup [.lit (.int 1), .lit (.int 1)]]]]])) [.ret (.lit (.bl false))] []
def lb12 : Sx := .asg (.tup [.nm 16, .nm 17]) (.call "exchanged_steps" [.var 12, .var 13, .var 11])
def lb13 : Sx := .asg (.nm 6) (.tup [.call "_law_dickson" [.var 12, .call "_law_to" [.var 11, .var 13]], .call "_law_dickson" [.var 13, .var 11]])
def lb14 : Sx := .asg (.nm 6) (.tup [.var 6, .tup [.call "_law_dickson" [.var 13, .call "_law_to" [.var 11, .var 12]], .call "_law_dickson" [.var 12, .var 11]]])
def lb15 : Sx := .ite (.or [.cmp .ne (.blt "repr" [.tup [.var 16, .var 17]]) (.blt "repr" [.var 6]), .cmp .ne (.call "poly_within" [.idx (.var 16) (.lit (.int 0)), .idx (.var 16) (.lit (.int 1))]) (.call "poly_within" [.idx (.var 17) (.lit (.int 0)), .idx (.var 17) (.lit (.int 1))])]) [.ret (.lit (.bl false))] []
def lb16 : Sx := .par [18, 19] [.lst [], .tup [.lit (.int 1), .lit (.int 1)]]
def lb17 : Sx := .forr .seq [.var 3] (.nm 7) [.app (.var 18) (.call "_law_by" [.var 7, .var 19]), .asg (.nm 19) (.call "_law_by" [.var 19, .var 4])]
def lb18 : Sx := .asg (.nm 8) (.call "_law_by" [.var 11, .call "_law_to" [.call "_law_low" [.idx (.var 4) (.lit (.int 1)), .idx (.var 4) (.lit (.int 0))], .lit (.int 2)]])
def lb19 : Sx := .ite (.cmp .ne (.call "_law_often" [.call "_law_to" [.var 4, .var 10], .call "dickson" [.var 10, .var 8]]) (.blt "tuple" [.var 18])) [.ret (.lit (.bl false))] []
def lb20 : Sx := .asg (.nm 9) (.call "_law_sum" [.var 3, .bin .add (.bin .mul (.tup [.tup [.lit (.int 0), .lit (.int 1)]]) (.call "_law_pick" [.var 1, .var 10])) (.tup [.call "_law_of" [.var 1, .lst [.tup [.lit (.int 1), .lit (.int 1)], .tup [.neg (.lit (.int 1)), .lit (.int 2)]]]])])
def lb21 : Sx := .ite (.or [.cmp .ne (.call "wave_rest" [.var 3, .var 11]) (.tup []), .cmp .ne (.call "wave_rest" [.call "_law_often" [.tup [.neg (.lit (.int 1)), .lit (.int 1)], .var 3], .var 11]) (.tup []), .cmp .eq (.call "wave_rest" [.var 9, .var 11]) (.tup [])]) [.ret (.lit (.bl false))] []
def lbody : List Sx := [lb1, lb2, lb3, lb4, lb5, lb6, lb7, lb8, lb9, lb10, lb11, lb12, lb13, lb14, lb15, lb16, lb17, lb18, lb19, lb20, lb21]
theorem d_law_eq : d_law = ⟨1, 20, [.asg (.nm 1) (.call "_law_source" [.var 0]), .forr .rng [.lit (.int 4)] (.nm 2) lbody, .ret (.and [.cmp .eq (.call "dickson" [.lit (.int 0), .tup [.lit (.int 5), .lit (.int 1)]]) (.tup [.tup [.lit (.int 2), .lit (.int 1)]]), .cmp .eq (.call "dickson" [.lit (.int 4), .tup [.lit (.int 1), .lit (.int 1)]]) (.tup [.tup [.lit (.int 2), .lit (.int 1)], .tup [.lit (.int 0), .lit (.int 1)], .tup [.neg (.lit (.int 4)), .lit (.int 1)], .tup [.lit (.int 0), .lit (.int 1)], .tup [.lit (.int 1), .lit (.int 1)]])])]⟩ := rfl
section
variable {cst : Str → Option D} {tb : Str → Option FD} {k : Nat} {S : Sto}
structure K41 (cst : Str → Option D) (tb : Str → Option FD) : Prop extends DnT cst tb, LwT tb, SrT tb where
  exch : tb "exchanged_steps" = some d_exchanged_steps
  wave : tb "wave_rest" = some d_wave_rest
  digits : tb "digits_of" = some d_digits_of
  isFlat : tb "is_flat" = some d_is_flat
  areF : tb "are_fraction_digits" = some d_are_fraction_digits
  outer : tb "outer_part" = some d_outer_part
  to' : tb "_law_to" = some d__law_to
  choose : tb "_law_choose" = some d__law_choose
  ldickson : tb "_law_dickson" = some d__law_dickson
  lat : tb "_law_at" = some d__law_at
  lnorm : tb "_law_normal_of" = some d__law_normal_of
  told : tb "_law_told_t" = some d__law_told_t
  law : tb "law" = some d_law
theorem K41.ex (T : K41 cst tb) : ExT cst tb := ⟨T.toDcT, T.exch⟩
theorem K41.wa (T : K41 cst tb) : WaT cst tb := ⟨T.toBaT, T.wave⟩
theorem K41.ou (T : K41 cst tb) : OuT cst tb := ⟨⟨T.toBaT.di, T.digits⟩, T.at', T.isFlat, T.areF, T.outer⟩
theorem K41.ld (T : K41 cst tb) : LdT tb := ⟨T.toLfT, T.to', T.choose, T.ldickson⟩
theorem g_14 {α : Type} (y0 y1 y2 y3 y4 y5 y6 y7 y8 y9 y10 y11 y12 y13 y14 : α) (r : List α) : (y0 :: y1 :: y2 :: y3 :: y4 :: y5 :: y6 :: y7 :: y8 :: y9 :: y10 :: y11 :: y12 :: y13 :: y14 :: r)[14]? = some y14 := rfl
theorem t_14 {α : Type} (y0 y1 y2 y3 y4 y5 y6 y7 y8 y9 y10 y11 y12 y13 y14 z : α) (r : List α) : (y0 :: y1 :: y2 :: y3 :: y4 :: y5 :: y6 :: y7 :: y8 :: y9 :: y10 :: y11 :: y12 :: y13 :: y14 :: r).set 14 z = y0 :: y1 :: y2 :: y3 :: y4 :: y5 :: y6 :: y7 :: y8 :: y9 :: y10 :: y11 :: y12 :: y13 :: z :: r := rfl
theorem g_15 {α : Type} (y0 y1 y2 y3 y4 y5 y6 y7 y8 y9 y10 y11 y12 y13 y14 y15 : α) (r : List α) : (y0 :: y1 :: y2 :: y3 :: y4 :: y5 :: y6 :: y7 :: y8 :: y9 :: y10 :: y11 :: y12 :: y13 :: y14 :: y15 :: r)[15]? = some y15 := rfl
theorem t_15 {α : Type} (y0 y1 y2 y3 y4 y5 y6 y7 y8 y9 y10 y11 y12 y13 y14 y15 z : α) (r : List α) : (y0 :: y1 :: y2 :: y3 :: y4 :: y5 :: y6 :: y7 :: y8 :: y9 :: y10 :: y11 :: y12 :: y13 :: y14 :: y15 :: r).set 15 z = y0 :: y1 :: y2 :: y3 :: y4 :: y5 :: y6 :: y7 :: y8 :: y9 :: y10 :: y11 :: y12 :: y13 :: y14 :: z :: r := rfl
theorem g_16 {α : Type} (y0 y1 y2 y3 y4 y5 y6 y7 y8 y9 y10 y11 y12 y13 y14 y15 y16 : α) (r : List α) : (y0 :: y1 :: y2 :: y3 :: y4 :: y5 :: y6 :: y7 :: y8 :: y9 :: y10 :: y11 :: y12 :: y13 :: y14 :: y15 :: y16 :: r)[16]? = some y16 := rfl
theorem t_16 {α : Type} (y0 y1 y2 y3 y4 y5 y6 y7 y8 y9 y10 y11 y12 y13 y14 y15 y16 z : α) (r : List α) : (y0 :: y1 :: y2 :: y3 :: y4 :: y5 :: y6 :: y7 :: y8 :: y9 :: y10 :: y11 :: y12 :: y13 :: y14 :: y15 :: y16 :: r).set 16 z = y0 :: y1 :: y2 :: y3 :: y4 :: y5 :: y6 :: y7 :: y8 :: y9 :: y10 :: y11 :: y12 :: y13 :: y14 :: y15 :: z :: r := rfl
theorem g_17 {α : Type} (y0 y1 y2 y3 y4 y5 y6 y7 y8 y9 y10 y11 y12 y13 y14 y15 y16 y17 : α) (r : List α) : (y0 :: y1 :: y2 :: y3 :: y4 :: y5 :: y6 :: y7 :: y8 :: y9 :: y10 :: y11 :: y12 :: y13 :: y14 :: y15 :: y16 :: y17 :: r)[17]? = some y17 := rfl
theorem t_17 {α : Type} (y0 y1 y2 y3 y4 y5 y6 y7 y8 y9 y10 y11 y12 y13 y14 y15 y16 y17 z : α) (r : List α) : (y0 :: y1 :: y2 :: y3 :: y4 :: y5 :: y6 :: y7 :: y8 :: y9 :: y10 :: y11 :: y12 :: y13 :: y14 :: y15 :: y16 :: y17 :: r).set 17 z = y0 :: y1 :: y2 :: y3 :: y4 :: y5 :: y6 :: y7 :: y8 :: y9 :: y10 :: y11 :: y12 :: y13 :: y14 :: y15 :: y16 :: z :: r := rfl
theorem g_18 {α : Type} (y0 y1 y2 y3 y4 y5 y6 y7 y8 y9 y10 y11 y12 y13 y14 y15 y16 y17 y18 : α) (r : List α) : (y0 :: y1 :: y2 :: y3 :: y4 :: y5 :: y6 :: y7 :: y8 :: y9 :: y10 :: y11 :: y12 :: y13 :: y14 :: y15 :: y16 :: y17 :: y18 :: r)[18]? = some y18 := rfl
theorem t_18 {α : Type} (y0 y1 y2 y3 y4 y5 y6 y7 y8 y9 y10 y11 y12 y13 y14 y15 y16 y17 y18 z : α) (r : List α) : (y0 :: y1 :: y2 :: y3 :: y4 :: y5 :: y6 :: y7 :: y8 :: y9 :: y10 :: y11 :: y12 :: y13 :: y14 :: y15 :: y16 :: y17 :: y18 :: r).set 18 z = y0 :: y1 :: y2 :: y3 :: y4 :: y5 :: y6 :: y7 :: y8 :: y9 :: y10 :: y11 :: y12 :: y13 :: y14 :: y15 :: y16 :: y17 :: z :: r := rfl
theorem g_19 {α : Type} (y0 y1 y2 y3 y4 y5 y6 y7 y8 y9 y10 y11 y12 y13 y14 y15 y16 y17 y18 y19 : α) (r : List α) : (y0 :: y1 :: y2 :: y3 :: y4 :: y5 :: y6 :: y7 :: y8 :: y9 :: y10 :: y11 :: y12 :: y13 :: y14 :: y15 :: y16 :: y17 :: y18 :: y19 :: r)[19]? = some y19 := rfl
theorem t_19 {α : Type} (y0 y1 y2 y3 y4 y5 y6 y7 y8 y9 y10 y11 y12 y13 y14 y15 y16 y17 y18 y19 z : α) (r : List α) : (y0 :: y1 :: y2 :: y3 :: y4 :: y5 :: y6 :: y7 :: y8 :: y9 :: y10 :: y11 :: y12 :: y13 :: y14 :: y15 :: y16 :: y17 :: y18 :: y19 :: r).set 19 z = y0 :: y1 :: y2 :: y3 :: y4 :: y5 :: y6 :: y7 :: y8 :: y9 :: y10 :: y11 :: y12 :: y13 :: y14 :: y15 :: y16 :: y17 :: y18 :: z :: r := rfl
theorem neR (x : Str) : (!decide (x = x)) = false := by simp
theorem neP' (f : List Rat) : (!decide (f = f)) = false := by simp
theorem neF' (f : Rat) : (!decide (f = f)) = false := by simp

theorem s1 (T : K41 cst tb) {i : Nat} (hi : i < 4) (hS : SrcAt S 1 3) : ∃ (n : Nat) (t : Rat) (S' : Sto), 1 ≤ n ∧ n ≤ 20 ∧ t ∈ Ts ∧ SrcAt S' 1 3 ∧
    ∀ {x0 x3 x4 x5 x6 x7 x8 x9 x10 x11 x12 x13 x14 x15 x16 x17 x18 x19 : Option D}, evS ⟨runF cst tb (k + 7), cst⟩ lb1 [x0, some (.loc 1), some (.int (i : Int)), x3, x4, x5, x6, x7, x8, x9, x10, x11, x12, x13, x14, x15, x16, x17, x18, x19] S = some (.nx [x0, some (.loc 1), some (.int (i : Int)), x3, x4, x5, x6, x7, x8, x9, some (.int (n : Int)), some (eF t), x12, x13, x14, x15, x16, x17, x18, x19], S') := by
  obtain ⟨w, hw1, hw2, hw⟩ : ∃ w : Nat, 1 ≤ w ∧ w ≤ 20 ∧ atI [D.int 4, .int 8, .int 12, .int 20] (i : Int) = some (.int (w : Int)) := by
    match i, hi with
    | 0, _ => exact ⟨4, by decide, by decide, rfl⟩
    | 1, _ => exact ⟨8, by decide, by decide, rfl⟩
    | 2, _ => exact ⟨12, by decide, by decide, rfl⟩
    | 3, _ => exact ⟨20, by decide, by decide, rfl⟩
  obtain ⟨v, S1, e1, hv, f1, s1⟩ := r_law_pick (cst := cst) (tb := tb) (k := k + 6) (S := S ++ [.lst [.int 4, .int 8, .int 12, .int 20]]) T.pick (hS.app _) (many := w) (by omega)
  obtain ⟨t, S2, ht, e2, f2, s2⟩ := r_told_t (cst := cst) (tb := tb) (k := k + 4) T.toSrT T.told s1
  refine ⟨1 + v, t, S2, by omega, by omega, ht, s2, ?_⟩
  have hl : ∀ S, lstK (some ([D.int 4, .int 8, .int 12, .int 20], S)) = some (.loc S.length, S ++ [.lst [.int 4, .int 8, .int 12, .int 20]]) := fun S => rfl
  have hn : (1 : Int) + (v : Int) = ((1 + v : Nat) : Int) := by omega
  intros
  simp only [lb1, hl, hw, e1, hn, e2, g_14, t_14, g_15, t_15, g_16, t_16, g_17, t_17, g_18, t_18, g_19, t_19, vK_some, e_var, e_lit, lit_non, lit_bl, lit_int, lit_str, e_glob, oneK_some, e_bin, bin1_some, bin2_some, d_add, d_sub, e_neg, negK_some, e_cmp, cmp1_some, cmp2_some, map_some2, c_lt, c_le, c_gt, c_ge, c_eqI, c_neI, c_eqS, c_neS, tK_some, notK_some, blK_some, e_not, e_and, e_or, t_not, t_and, t_or, t_cmp, t_call, t_blt, a_nil, a_cons, andK_t, andK_f, o_nil, o_cons, orK_t, orK_f, e_ite, iteK_t, iteK_f, s_nil, s_cons, es1_some, es2_some, e_tup, tupK0, tupK1, tupK2, tupK3, tupK4, tupK5, e_lst, lstK0, lstK1, e_call, calK_some, e_blt, bltK_some, b_gcd, b_abs, b_int, b_max, b_min, b_lenT, b_lenL, b_tupT, b_tupL, b_lstT, b_lstL, b_all, items_lst, items_ro, map_some3, e_idx, idx1_some, idx2_some, i_tup, i_loc, at_0, at_1, at_2, at_3, e_slice, slK_some, slK1_some, slK2_some, o_none, o_some, oK_some, sl_tup, sl_loc, e_rev, revK_some, rv_tup, rv_loc, e_pop, popK_some, e_comp, it_tup, it_loc, it_enumT, it_enumL, it_zipT, it_zipL, e_dict, B_nil, B_cons, seqK_nx, seqK_ret, seqK_brk, seqK_cont, S_asg, asgK_some, nxK_some, bd_nm, bd_tup, bd_nil, bd_cons, bdK_some, S_par, parK_some, sa_nil, sa_cons, S_setI, stK_some, stK1_some, stK2_some, nxS_some, S_app, appK2_some, S_popS, popSK_some, S_ret, retK_some, S_retN, S_pass, S_brk, S_cont, S_ite, ifK_t, ifK_f, forK_some, getA, getA0, setA, setA0, lenA, appA, catA, nilA, lenC, len0, g_0, t_0, g_1, t_1, g_2, t_2, g_3, t_3, g_4, t_4, g_5, t_5, g_6, t_6, g_7, t_7, g_8, t_8, g_9, t_9, g_10, t_10, g_11, t_11, g_12, t_12, g_13, t_13, bindS, S_whil, S_for, compK_some]
theorem s2 (T : K41 cst tb) {x0 x2 x3 x4 x5 x6 x7 x8 x9 x12 x13 x14 x15 x16 x17 x18 x19 : Option D} {n : Nat} {t : Rat} (hn : 1 ≤ n) (hn2 : n ≤ 20) (ht : t ∈ Ts) :
    evS ⟨runF cst tb (k + 7), cst⟩ lb2 [x0, some (.loc 1), x2, x3, x4, x5, x6, x7, x8, x9, some (.int (n : Int)), some (eF t), x12, x13, x14, x15, x16, x17, x18, x19] S = some (.nx [x0, some (.loc 1), x2, some (eP (dk n t)), x4, x5, x6, x7, x8, x9, some (.int (n : Int)), some (eF t), x12, x13, x14, x15, x16, x17, x18, x19], S) := by
  have r := fun k S => r_law_dickson (cst := cst) (tb := tb) (k := k) (S := S) T.ld (Ts_sz ht) hn (by omega) (by omega) fun i hi => ldc_sz (by omega) hi
  rw [← (dkF ht hn (by omega)).eq] at r
  simp only [lb2, r, g_14, t_14, g_15, t_15, g_16, t_16, g_17, t_17, g_18, t_18, g_19, t_19, vK_some, e_var, e_lit, lit_non, lit_bl, lit_int, lit_str, e_glob, oneK_some, e_bin, bin1_some, bin2_some, d_add, d_sub, e_neg, negK_some, e_cmp, cmp1_some, cmp2_some, map_some2, c_lt, c_le, c_gt, c_ge, c_eqI, c_neI, c_eqS, c_neS, tK_some, notK_some, blK_some, e_not, e_and, e_or, t_not, t_and, t_or, t_cmp, t_call, t_blt, a_nil, a_cons, andK_t, andK_f, o_nil, o_cons, orK_t, orK_f, e_ite, iteK_t, iteK_f, s_nil, s_cons, es1_some, es2_some, e_tup, tupK0, tupK1, tupK2, tupK3, tupK4, tupK5, e_lst, lstK0, lstK1, e_call, calK_some, e_blt, bltK_some, b_gcd, b_abs, b_int, b_max, b_min, b_lenT, b_lenL, b_tupT, b_tupL, b_lstT, b_lstL, b_all, items_lst, items_ro, map_some3, e_idx, idx1_some, idx2_some, i_tup, i_loc, at_0, at_1, at_2, at_3, e_slice, slK_some, slK1_some, slK2_some, o_none, o_some, oK_some, sl_tup, sl_loc, e_rev, revK_some, rv_tup, rv_loc, e_pop, popK_some, e_comp, it_tup, it_loc, it_enumT, it_enumL, it_zipT, it_zipL, e_dict, B_nil, B_cons, seqK_nx, seqK_ret, seqK_brk, seqK_cont, S_asg, asgK_some, nxK_some, bd_nm, bd_tup, bd_nil, bd_cons, bdK_some, S_par, parK_some, sa_nil, sa_cons, S_setI, stK_some, stK1_some, stK2_some, nxS_some, S_app, appK2_some, S_popS, popSK_some, S_ret, retK_some, S_retN, S_pass, S_brk, S_cont, S_ite, ifK_t, ifK_f, forK_some, getA, getA0, setA, setA0, lenA, appA, catA, nilA, lenC, len0, g_0, t_0, g_1, t_1, g_2, t_2, g_3, t_3, g_4, t_4, g_5, t_5, g_6, t_6, g_7, t_7, g_8, t_8, g_9, t_9, g_10, t_10, g_11, t_11, g_12, t_12, g_13, t_13, bindS, S_whil, S_for, compK_some]
theorem nrmBd {n : Nat} {t : Rat} (ht : t ∈ Ts) (hn : 1 ≤ n) (hn2 : n ≤ 20) : Bd 39 (pnormal (dk n t)) := by
  have h : Ts.all (fun t => goT (fun n a => bdB 39 (pnormal a)) t 20 1 (dk 1 t) (dk 2 t)) = true := by decide +kernel
  have h := goT_all (n := 1) (List.all_eq_true.1 h t ht) (n - 1) (by omega)
  rw [show 1 + (n - 1) = n by omega] at h
  exact Bd.of h
theorem s3 (T : K41 cst tb) {x0 x2 x4 x5 x6 x7 x8 x9 x12 x13 x14 x15 x16 x17 x18 x19 : Option D} {n : Nat} {t : Rat} (hn : 1 ≤ n) (hn2 : n ≤ 20) (ht : t ∈ Ts) :
    evS ⟨runF cst tb (k + 7), cst⟩ lb3 [x0, some (.loc 1), x2, some (eP (dk n t)), x4, x5, x6, x7, x8, x9, some (.int (n : Int)), some (eF t), x12, x13, x14, x15, x16, x17, x18, x19] S = some (.nx [x0, some (.loc 1), x2, some (eP (dk n t)), x4, x5, x6, x7, x8, x9, some (.int (n : Int)), some (eF t), x12, x13, x14, x15, x16, x17, x18, x19], S) := by
  have F := dkF ht hn (show n ≤ 21 by omega)
  have r1 := fun k S => r_dickson (cst := cst) (tb := tb) (k := k) (S := S) T.toDcT (Ts_sz ht) ((dkB ht).mono hn2) (by omega) (by omega)
  have r2 := fun k S => r_dickson_normal (cst := cst) (tb := tb) (k := k) (S := S) T.toDnT (Ts_sz ht) ((dkB ht).mono hn2) (by omega) (by omega) F.ne (ne0_of1 F.lead) (LdOk.of1 F.lead)
  have r3 := fun k S => r_law_normal_of (cst := cst) (tb := tb) (k := k) (S := S) T.toLpT T.lnorm F.bd (by omega) F.ne (ne0_of1 F.lead) (by rw [F.len]; omega)
  rw [← F.nrm] at r3
  have q1 := fun S => b_reprP (S := S) F.bd.sz (by decide) (by rw [F.len]; omega)
  have hb : Bd 39 (pnormal (dk n t)) := nrmBd ht hn hn2
  have hl : (pnormal (dk n t)).length ≤ 100 := by
    have h1 := poften_len (1 / lead (dk n t)) (pless (dk n t) (trim [co (dk n t) 0]))
    have h2 := pless_len (dk n t) (trim [co (dk n t) 0])
    have h3 := len1 (co (dk n t) 0)
    have h4 := F.len
    show (poften _ _).length ≤ 100
    omega
  have q2 := fun S => b_reprP (S := S) hb.sz (by decide) hl
  simp only [lb3, r1, q1, r2, q2, r3, i_tup, at_2, c_neS, decide_true, Bool.not_true, g_14, t_14, g_15, t_15, g_16, t_16, g_17, t_17, g_18, t_18, g_19, t_19, vK_some, e_var, e_lit, lit_non, lit_bl, lit_int, lit_str, e_glob, oneK_some, e_bin, bin1_some, bin2_some, d_add, d_sub, e_neg, negK_some, e_cmp, cmp1_some, cmp2_some, map_some2, c_lt, c_le, c_gt, c_ge, c_eqI, c_neI, c_eqS, c_neS, tK_some, notK_some, blK_some, e_not, e_and, e_or, t_not, t_and, t_or, t_cmp, t_call, t_blt, a_nil, a_cons, andK_t, andK_f, o_nil, o_cons, orK_t, orK_f, e_ite, iteK_t, iteK_f, s_nil, s_cons, es1_some, es2_some, e_tup, tupK0, tupK1, tupK2, tupK3, tupK4, tupK5, e_lst, lstK0, lstK1, e_call, calK_some, e_blt, bltK_some, b_gcd, b_abs, b_int, b_max, b_min, b_lenT, b_lenL, b_tupT, b_tupL, b_lstT, b_lstL, b_all, items_lst, items_ro, map_some3, e_idx, idx1_some, idx2_some, i_tup, i_loc, at_0, at_1, at_2, at_3, e_slice, slK_some, slK1_some, slK2_some, o_none, o_some, oK_some, sl_tup, sl_loc, e_rev, revK_some, rv_tup, rv_loc, e_pop, popK_some, e_comp, it_tup, it_loc, it_enumT, it_enumL, it_zipT, it_zipL, e_dict, B_nil, B_cons, seqK_nx, seqK_ret, seqK_brk, seqK_cont, S_asg, asgK_some, nxK_some, bd_nm, bd_tup, bd_nil, bd_cons, bdK_some, S_par, parK_some, sa_nil, sa_cons, S_setI, stK_some, stK1_some, stK2_some, nxS_some, S_app, appK2_some, S_popS, popSK_some, S_ret, retK_some, S_retN, S_pass, S_brk, S_cont, S_ite, ifK_t, ifK_f, forK_some, getA, getA0, setA, setA0, lenA, appA, catA, nilA, lenC, len0, g_0, t_0, g_1, t_1, g_2, t_2, g_3, t_3, g_4, t_4, g_5, t_5, g_6, t_6, g_7, t_7, g_8, t_8, g_9, t_9, g_10, t_10, g_11, t_11, g_12, t_12, g_13, t_13, bindS, S_whil, S_for, compK_some]
theorem Ys_mem {p : Int} {v : Nat} (hp : p ∈ ([1, -1, 2, -3, 5] : List Int)) (hv : v < 3) : Rat.divInt p (((1 + v : Nat) : Int)) ∈ Ys := by
  unfold Ys
  rw [List.mem_flatMap]
  refine ⟨p, hp, List.mem_map.2 ⟨((1 + v : Nat) : Int), ?_, rfl⟩⟩
  match v, hv with
  | 0, _ => decide
  | 1, _ => decide
  | 2, _ => decide
theorem s4 (T : K41 cst tb) {a b c : D} (hS : SrcAt S 1 3) : ∃ (y : Rat) (S' : Sto), y ∈ Ys ∧ SrcAt S' 1 3 ∧
    ∀ {x0 x2 x4 x5 x6 x7 x8 x9 x12 x13 x14 x15 x16 x17 x18 x19 : Option D}, evS ⟨runF cst tb (k + 7), cst⟩ lb4 [x0, some (.loc 1), x2, some (a), x4, x5, x6, x7, x8, x9, some (b), some (c), x12, x13, x14, x15, x16, x17, x18, x19] S = some (.nx [x0, some (.loc 1), x2, some (a), some (eF y), x5, x6, x7, x8, x9, some (b), some (c), x12, x13, x14, x15, x16, x17, x18, x19], S') := by
  obtain ⟨x, S1, hx, e1, f1, s1⟩ := of_new (cst := cst) (tb := tb) (k := k + 5) T.toSrT (xs := ([1, -1, 2, -3, 5] : List Int).map D.int) hS (by simp) (by simp)
  rw [List.mem_map] at hx
  obtain ⟨p, hp, rfl⟩ := hx
  obtain ⟨v, S2, e2, hv, f2, s2⟩ := r_law_pick (cst := cst) (tb := tb) (k := k + 6) T.pick s1 (many := 3) (by decide)
  have e2' : runF cst tb (k + 7) "_law_pick" [.loc 1, .int 3] S1 = some (.int (v : Int), S2) := e2
  have hv' : v < 3 := hv
  have hl : ∀ S, lstK (some ([D.int 1, .int (-1), .int 2, .int (-3), .int 5], S)) = some (.loc S.length, S ++ [.lst (([1, -1, 2, -3, 5] : List Int).map D.int)]) := fun S => rfl
  have hn : (1 : Int) + (v : Int) = ((1 + v : Nat) : Int) := by omega
  have r := fun k S => r_law_low (cst := cst) (tb := tb) (k := k) (S := S) T.low (LowOk.pos (p := p) (q := ((1 + v : Nat) : Int)) (B := 10) (by decide) (by omega) (by omega))
  refine ⟨_, S2, Ys_mem hp hv', s2, ?_⟩
  intros
  simp only [lb4, hl, e1, e2', hn, r, g_14, t_14, g_15, t_15, g_16, t_16, g_17, t_17, g_18, t_18, g_19, t_19, vK_some, e_var, e_lit, lit_non, lit_bl, lit_int, lit_str, e_glob, oneK_some, e_bin, bin1_some, bin2_some, d_add, d_sub, e_neg, negK_some, e_cmp, cmp1_some, cmp2_some, map_some2, c_lt, c_le, c_gt, c_ge, c_eqI, c_neI, c_eqS, c_neS, tK_some, notK_some, blK_some, e_not, e_and, e_or, t_not, t_and, t_or, t_cmp, t_call, t_blt, a_nil, a_cons, andK_t, andK_f, o_nil, o_cons, orK_t, orK_f, e_ite, iteK_t, iteK_f, s_nil, s_cons, es1_some, es2_some, e_tup, tupK0, tupK1, tupK2, tupK3, tupK4, tupK5, e_lst, lstK0, lstK1, e_call, calK_some, e_blt, bltK_some, b_gcd, b_abs, b_int, b_max, b_min, b_lenT, b_lenL, b_tupT, b_tupL, b_lstT, b_lstL, b_all, items_lst, items_ro, map_some3, e_idx, idx1_some, idx2_some, i_tup, i_loc, at_0, at_1, at_2, at_3, e_slice, slK_some, slK1_some, slK2_some, o_none, o_some, oK_some, sl_tup, sl_loc, e_rev, revK_some, rv_tup, rv_loc, e_pop, popK_some, e_comp, it_tup, it_loc, it_enumT, it_enumL, it_zipT, it_zipL, e_dict, B_nil, B_cons, seqK_nx, seqK_ret, seqK_brk, seqK_cont, S_asg, asgK_some, nxK_some, bd_nm, bd_tup, bd_nil, bd_cons, bdK_some, S_par, parK_some, sa_nil, sa_cons, S_setI, stK_some, stK1_some, stK2_some, nxS_some, S_app, appK2_some, S_popS, popSK_some, S_ret, retK_some, S_retN, S_pass, S_brk, S_cont, S_ite, ifK_t, ifK_f, forK_some, getA, getA0, setA, setA0, lenA, appA, catA, nilA, lenC, len0, g_0, t_0, g_1, t_1, g_2, t_2, g_3, t_3, g_4, t_4, g_5, t_5, g_6, t_6, g_7, t_7, g_8, t_8, g_9, t_9, g_10, t_10, g_11, t_11, g_12, t_12, g_13, t_13, bindS, S_whil, S_for, compK_some]
theorem s5 (T : K41 cst tb) {x0 x2 x5 x6 x7 x8 x9 x12 x13 x14 x15 x16 x17 x18 x19 : Option D} {a b : D} {t y : Rat} (ht : t ∈ Ts) (hy : y ∈ Ys) :
    evS ⟨runF cst tb (k + 7), cst⟩ lb5 [x0, some (.loc 1), x2, some (a), some (eF y), x5, x6, x7, x8, x9, some (b), some (eF t), x12, x13, x14, x15, x16, x17, x18, x19] S = some (.nx [x0, some (.loc 1), x2, some (a), some (eF y), some (eF (t * (1 / y))), x6, x7, x8, x9, some (b), some (eF t), x12, x13, x14, x15, x16, x17, x18, x19], S) := by
  have Y := yF hy
  have r1 := fun k S => r_law_low (cst := cst) (tb := tb) (k := k) (S := S) T.low (lowOk_inv Y.ne)
  rw [inv_divInt'] at r1
  have r2 := fun k S => r_law_by (cst := cst) (tb := tb) (k := k) (S := S) T.toLfT ((Ts_sz ht).mono (show 3 ≤ 4000 by decide)) ((Sz_inv1 Y.sz Y.ne).mono (show 3 ≤ 4000 by decide))
  simp only [lb5, i_F0, i_F1, r1, r2, g_14, t_14, g_15, t_15, g_16, t_16, g_17, t_17, g_18, t_18, g_19, t_19, vK_some, e_var, e_lit, lit_non, lit_bl, lit_int, lit_str, e_glob, oneK_some, e_bin, bin1_some, bin2_some, d_add, d_sub, e_neg, negK_some, e_cmp, cmp1_some, cmp2_some, map_some2, c_lt, c_le, c_gt, c_ge, c_eqI, c_neI, c_eqS, c_neS, tK_some, notK_some, blK_some, e_not, e_and, e_or, t_not, t_and, t_or, t_cmp, t_call, t_blt, a_nil, a_cons, andK_t, andK_f, o_nil, o_cons, orK_t, orK_f, e_ite, iteK_t, iteK_f, s_nil, s_cons, es1_some, es2_some, e_tup, tupK0, tupK1, tupK2, tupK3, tupK4, tupK5, e_lst, lstK0, lstK1, e_call, calK_some, e_blt, bltK_some, b_gcd, b_abs, b_int, b_max, b_min, b_lenT, b_lenL, b_tupT, b_tupL, b_lstT, b_lstL, b_all, items_lst, items_ro, map_some3, e_idx, idx1_some, idx2_some, i_tup, i_loc, at_0, at_1, at_2, at_3, e_slice, slK_some, slK1_some, slK2_some, o_none, o_some, oK_some, sl_tup, sl_loc, e_rev, revK_some, rv_tup, rv_loc, e_pop, popK_some, e_comp, it_tup, it_loc, it_enumT, it_enumL, it_zipT, it_zipL, e_dict, B_nil, B_cons, seqK_nx, seqK_ret, seqK_brk, seqK_cont, S_asg, asgK_some, nxK_some, bd_nm, bd_tup, bd_nil, bd_cons, bdK_some, S_par, parK_some, sa_nil, sa_cons, S_setI, stK_some, stK1_some, stK2_some, nxS_some, S_app, appK2_some, S_popS, popSK_some, S_ret, retK_some, S_retN, S_pass, S_brk, S_cont, S_ite, ifK_t, ifK_f, forK_some, getA, getA0, setA, setA0, lenA, appA, catA, nilA, lenC, len0, g_0, t_0, g_1, t_1, g_2, t_2, g_3, t_3, g_4, t_4, g_5, t_5, g_6, t_6, g_7, t_7, g_8, t_8, g_9, t_9, g_10, t_10, g_11, t_11, g_12, t_12, g_13, t_13, bindS, S_whil, S_for, compK_some]
theorem s6 (T : K41 cst tb) {x0 x2 x6 x7 x8 x9 x12 x13 x14 x15 x16 x17 x18 x19 : Option D} {n : Nat} {t y : Rat} (hn : 1 ≤ n) (hn2 : n ≤ 20) (ht : t ∈ Ts) (hy : y ∈ Ys) :
    evS ⟨runF cst tb (k + 7), cst⟩ lb6 [x0, some (.loc 1), x2, some (eP (dk n t)), some (eF y), some (eF (t * (1 / y))), x6, x7, x8, x9, some (.int (n : Int)), some (eF t), x12, x13, x14, x15, x16, x17, x18, x19] S = some (.nx [x0, some (.loc 1), x2, some (eP (dk n t)), some (eF y), some (eF (t * (1 / y))), x6, x7, x8, x9, some (.int (n : Int)), some (eF t), x12, x13, x14, x15, x16, x17, x18, x19], S) := by
  have F := dkF ht hn (show n ≤ 21 by omega)
  have Y := yF hy
  have sl : Sz 6 (t * (1 / y)) := Sz.mul (Ts_sz ht) (Sz_inv1 Y.sz Y.ne)
  have sy : Sz 10 (y + t * (1 / y)) := Sz.add Y.sz sl
  have hlen := F.len
  have m1 := Nat.mul_le_mul_right (39 + 10 + 1) (show (dk n t).length ≤ 21 by omega)
  have r1 := fun k S => r_dickson (cst := cst) (tb := tb) (k := k) (S := S) T.toDcT (Ts_sz ht) ((dkB ht).mono hn2) (by omega) (by omega)
  have r2 := fun k S => r_law_plus (cst := cst) (tb := tb) (k := k) (S := S) T.toLfT (Y.sz.mono (show 3 ≤ 4000 by decide)) (sl.mono (show 6 ≤ 4000 by decide))
  have r3 := fun k S => r_poly_at (cst := cst) (tb := tb) (k := k) (S := S) T.toPoT T.fsum T.ftimes T.pat F.bd.sz sy (by omega) (by omega)
  have r4 := fun k S => r_law_to (cst := cst) (tb := tb) (k := k) (S := S) T.toLfT T.to' (n := n) Y.sz (by omega) (by omega) (by omega)
  have r5 := fun k S => r_law_to (cst := cst) (tb := tb) (k := k) (S := S) T.toLfT T.to' (n := n) sl (by omega) (by omega) (by omega)
  have r6 := fun k S => r_law_plus (cst := cst) (tb := tb) (k := k) (S := S) T.toLfT ((Y.sz.pow n).mono (show _ ≤ 4000 by omega)) ((sl.pow n).mono (show _ ≤ 4000 by omega))
  rw [(yP ht hy hn hn2).1] at r3
  simp only [lb6, r1, r2, r3, r4, r5, r6, c_neF, decide_true, Bool.not_true, g_14, t_14, g_15, t_15, g_16, t_16, g_17, t_17, g_18, t_18, g_19, t_19, vK_some, e_var, e_lit, lit_non, lit_bl, lit_int, lit_str, e_glob, oneK_some, e_bin, bin1_some, bin2_some, d_add, d_sub, e_neg, negK_some, e_cmp, cmp1_some, cmp2_some, map_some2, c_lt, c_le, c_gt, c_ge, c_eqI, c_neI, c_eqS, c_neS, tK_some, notK_some, blK_some, e_not, e_and, e_or, t_not, t_and, t_or, t_cmp, t_call, t_blt, a_nil, a_cons, andK_t, andK_f, o_nil, o_cons, orK_t, orK_f, e_ite, iteK_t, iteK_f, s_nil, s_cons, es1_some, es2_some, e_tup, tupK0, tupK1, tupK2, tupK3, tupK4, tupK5, e_lst, lstK0, lstK1, e_call, calK_some, e_blt, bltK_some, b_gcd, b_abs, b_int, b_max, b_min, b_lenT, b_lenL, b_tupT, b_tupL, b_lstT, b_lstL, b_all, items_lst, items_ro, map_some3, e_idx, idx1_some, idx2_some, i_tup, i_loc, at_0, at_1, at_2, at_3, e_slice, slK_some, slK1_some, slK2_some, o_none, o_some, oK_some, sl_tup, sl_loc, e_rev, revK_some, rv_tup, rv_loc, e_pop, popK_some, e_comp, it_tup, it_loc, it_enumT, it_enumL, it_zipT, it_zipL, e_dict, B_nil, B_cons, seqK_nx, seqK_ret, seqK_brk, seqK_cont, S_asg, asgK_some, nxK_some, bd_nm, bd_tup, bd_nil, bd_cons, bdK_some, S_par, parK_some, sa_nil, sa_cons, S_setI, stK_some, stK1_some, stK2_some, nxS_some, S_app, appK2_some, S_popS, popSK_some, S_ret, retK_some, S_retN, S_pass, S_brk, S_cont, S_ite, ifK_t, ifK_f, forK_some, getA, getA0, setA, setA0, lenA, appA, catA, nilA, lenC, len0, g_0, t_0, g_1, t_1, g_2, t_2, g_3, t_3, g_4, t_4, g_5, t_5, g_6, t_6, g_7, t_7, g_8, t_8, g_9, t_9, g_10, t_10, g_11, t_11, g_12, t_12, g_13, t_13, bindS, S_whil, S_for, compK_some]
theorem s7 (T : K41 cst tb) {x0 x2 x6 x7 x8 x9 x12 x13 x14 x15 x16 x17 x18 x19 : Option D} {n : Nat} {t y : Rat} (hn : 1 ≤ n) (hn2 : n ≤ 20) (ht : t ∈ Ts) (hy : y ∈ Ys) :
    evS ⟨runF cst tb (k + 7), cst⟩ lb7 [x0, some (.loc 1), x2, some (eP (dk n t)), some (eF y), some (eF (t * (1 / y))), x6, x7, x8, x9, some (.int (n : Int)), some (eF t), x12, x13, x14, x15, x16, x17, x18, x19] S = some (.nx [x0, some (.loc 1), x2, some (eP (dk n t)), some (eF y), some (eF (t * (1 / y))), x6, x7, x8, x9, some (.int (n : Int)), some (eF t), x12, x13, x14, x15, x16, x17, x18, x19], S) := by
  have F := dkF ht hn (show n ≤ 21 by omega)
  have Y := yF hy
  have hlen := F.len
  have m0 := Nat.mul_le_mul_right 3 (show (dk n t).length ≤ 21 by omega)
  have m1 := Nat.mul_le_mul (show (dk n t).length ≤ 21 by omega) (show 39 + (dk n t).length * 3 + 2 ≤ 104 by omega)
  have r1 := fun k S => r_law_at (cst := cst) (tb := tb) (k := k) (S := S) T.toLfT T.lat F.bd.sz Y.sz (by omega) (by omega)
  have r2 := fun k S => r_law_at (cst := cst) (tb := tb) (k := k) (S := S) T.toLfT T.lat F.bd.sz Y.sz.neg' (by omega) (by omega)
  rw [(yP ht hy hn hn2).2] at r2
  have sl : Sz ((dk n t).length * (39 + (dk n t).length * 3 + 2) + 1) (lat y (dk n t) 0 1) := by
    have := Sz.lat Y.sz (F.bd.sz) (dk n t).length (Nat.le_refl _)
    rwa [List.take_length] at this
  have hs : Sz 3 ((((1 - 2 * ((n % 2 : Nat) : Int) : Int)) : Rat)) := by
    have h2 : n % 2 = 0 ∨ n % 2 = 1 := by omega
    rcases h2 with h2 | h2
    · rw [h2]; exact ⟨by decide, by decide⟩
    · rw [h2]; exact ⟨by decide, by decide⟩
  have r3 := fun k S => r_law_by (cst := cst) (tb := tb) (k := k) (S := S) T.toLfT (hs.mono (show 3 ≤ 4000 by decide)) (sl.mono (show _ ≤ 4000 by omega))
  have et : (.tup [.int ((0 : Int) - y.num), .int y.den] : D) = eF (-y) := by
    rw [show (0 : Int) - y.num = (-y).num by rw [Rat.neg_num]; omega]
    rfl
  have q1 := fun S => d_mod (S := S) (i := (n : Int)) (j := 2) (by decide)
  have hq : (n : Int).fmod 2 = ((n % 2 : Nat) : Int) := by
    rw [Int.fmod_eq_emod_of_nonneg _ (by decide)]
    rfl
  have q2 := fun S => d_mul (S := S) (i := 2) (j := ((n % 2 : Nat) : Int)) (mulOk_l (by decide))
  have eu : (.tup [.int (1 - 2 * ((n % 2 : Nat) : Int)), .int 1] : D) = eF ((((1 - 2 * ((n % 2 : Nat) : Int) : Int)) : Rat)) := rfl
  simp only [lb7, i_F0, i_F1, et, q1, hq, q2, eu, r1, r2, r3, c_neF, decide_true, Bool.not_true, g_14, t_14, g_15, t_15, g_16, t_16, g_17, t_17, g_18, t_18, g_19, t_19, vK_some, e_var, e_lit, lit_non, lit_bl, lit_int, lit_str, e_glob, oneK_some, e_bin, bin1_some, bin2_some, d_add, d_sub, e_neg, negK_some, e_cmp, cmp1_some, cmp2_some, map_some2, c_lt, c_le, c_gt, c_ge, c_eqI, c_neI, c_eqS, c_neS, tK_some, notK_some, blK_some, e_not, e_and, e_or, t_not, t_and, t_or, t_cmp, t_call, t_blt, a_nil, a_cons, andK_t, andK_f, o_nil, o_cons, orK_t, orK_f, e_ite, iteK_t, iteK_f, s_nil, s_cons, es1_some, es2_some, e_tup, tupK0, tupK1, tupK2, tupK3, tupK4, tupK5, e_lst, lstK0, lstK1, e_call, calK_some, e_blt, bltK_some, b_gcd, b_abs, b_int, b_max, b_min, b_lenT, b_lenL, b_tupT, b_tupL, b_lstT, b_lstL, b_all, items_lst, items_ro, map_some3, e_idx, idx1_some, idx2_some, i_tup, i_loc, at_0, at_1, at_2, at_3, e_slice, slK_some, slK1_some, slK2_some, o_none, o_some, oK_some, sl_tup, sl_loc, e_rev, revK_some, rv_tup, rv_loc, e_pop, popK_some, e_comp, it_tup, it_loc, it_enumT, it_enumL, it_zipT, it_zipL, e_dict, B_nil, B_cons, seqK_nx, seqK_ret, seqK_brk, seqK_cont, S_asg, asgK_some, nxK_some, bd_nm, bd_tup, bd_nil, bd_cons, bdK_some, S_par, parK_some, sa_nil, sa_cons, S_setI, stK_some, stK1_some, stK2_some, nxS_some, S_app, appK2_some, S_popS, popSK_some, S_ret, retK_some, S_retN, S_pass, S_brk, S_cont, S_ite, ifK_t, ifK_f, forK_some, getA, getA0, setA, setA0, lenA, appA, catA, nilA, lenC, len0, g_0, t_0, g_1, t_1, g_2, t_2, g_3, t_3, g_4, t_4, g_5, t_5, g_6, t_6, g_7, t_7, g_8, t_8, g_9, t_9, g_10, t_10, g_11, t_11, g_12, t_12, g_13, t_13, bindS, S_whil, S_for, compK_some]
theorem s8 (T : K41 cst tb) {a b c d e : D} (hS : SrcAt S 1 3) : ∃ (m l : Nat) (S' : Sto), 1 ≤ m ∧ m ≤ 4 ∧ 1 ≤ l ∧ l ≤ 4 ∧ SrcAt S' 1 3 ∧
    ∀ {x0 x2 x6 x7 x8 x9 x12 x13 x14 x15 x16 x17 x18 x19 : Option D}, evS ⟨runF cst tb (k + 7), cst⟩ lb8 [x0, some (.loc 1), x2, some (a), some (d), some (e), x6, x7, x8, x9, some (b), some (c), x12, x13, x14, x15, x16, x17, x18, x19] S = some (.nx [x0, some (.loc 1), x2, some (a), some (d), some (e), x6, x7, x8, x9, some (b), some (c), some (.int (m : Int)), some (.int (l : Int)), x14, x15, x16, x17, x18, x19], S') := by
  obtain ⟨v, S1, e1, hv, f1, s1⟩ := r_law_pick (cst := cst) (tb := tb) (k := k + 6) T.pick hS (many := 4) (by decide)
  obtain ⟨w, S2, e2, hw, f2, s2⟩ := r_law_pick (cst := cst) (tb := tb) (k := k + 6) T.pick s1 (many := 4) (by decide)
  have e1' : runF cst tb (k + 7) "_law_pick" [.loc 1, .int 4] S = some (.int (v : Int), S1) := e1
  have e2' : runF cst tb (k + 7) "_law_pick" [.loc 1, .int 4] S1 = some (.int (w : Int), S2) := e2
  have hv' : v < 4 := hv
  have hw' : w < 4 := hw
  have hn : (1 : Int) + (v : Int) = ((1 + v : Nat) : Int) := by omega
  have hn' : (1 : Int) + (w : Int) = ((1 + w : Nat) : Int) := by omega
  refine ⟨1 + v, 1 + w, S2, by omega, by omega, by omega, by omega, s2, ?_⟩
  intros
  simp only [lb8, e1', e2', hn, hn', g_14, t_14, g_15, t_15, g_16, t_16, g_17, t_17, g_18, t_18, g_19, t_19, vK_some, e_var, e_lit, lit_non, lit_bl, lit_int, lit_str, e_glob, oneK_some, e_bin, bin1_some, bin2_some, d_add, d_sub, e_neg, negK_some, e_cmp, cmp1_some, cmp2_some, map_some2, c_lt, c_le, c_gt, c_ge, c_eqI, c_neI, c_eqS, c_neS, tK_some, notK_some, blK_some, e_not, e_and, e_or, t_not, t_and, t_or, t_cmp, t_call, t_blt, a_nil, a_cons, andK_t, andK_f, o_nil, o_cons, orK_t, orK_f, e_ite, iteK_t, iteK_f, s_nil, s_cons, es1_some, es2_some, e_tup, tupK0, tupK1, tupK2, tupK3, tupK4, tupK5, e_lst, lstK0, lstK1, e_call, calK_some, e_blt, bltK_some, b_gcd, b_abs, b_int, b_max, b_min, b_lenT, b_lenL, b_tupT, b_tupL, b_lstT, b_lstL, b_all, items_lst, items_ro, map_some3, e_idx, idx1_some, idx2_some, i_tup, i_loc, at_0, at_1, at_2, at_3, e_slice, slK_some, slK1_some, slK2_some, o_none, o_some, oK_some, sl_tup, sl_loc, e_rev, revK_some, rv_tup, rv_loc, e_pop, popK_some, e_comp, it_tup, it_loc, it_enumT, it_enumL, it_zipT, it_zipL, e_dict, B_nil, B_cons, seqK_nx, seqK_ret, seqK_brk, seqK_cont, S_asg, asgK_some, nxK_some, bd_nm, bd_tup, bd_nil, bd_cons, bdK_some, S_par, parK_some, sa_nil, sa_cons, S_setI, stK_some, stK1_some, stK2_some, nxS_some, S_app, appK2_some, S_popS, popSK_some, S_ret, retK_some, S_retN, S_pass, S_brk, S_cont, S_ite, ifK_t, ifK_f, forK_some, getA, getA0, setA, setA0, lenA, appA, catA, nilA, lenC, len0, g_0, t_0, g_1, t_1, g_2, t_2, g_3, t_3, g_4, t_4, g_5, t_5, g_6, t_6, g_7, t_7, g_8, t_8, g_9, t_9, g_10, t_10, g_11, t_11, g_12, t_12, g_13, t_13, bindS, S_whil, S_for, compK_some]
theorem s9 (T : K41 cst tb) {x0 x2 x6 x7 x8 x9 x14 x15 x16 x17 x18 x19 : Option D} {a b d e : D} {m l : Nat} {t : Rat} (hm : 1 ≤ m) (hm2 : m ≤ 4) (hl : 1 ≤ l) (hl2 : l ≤ 4) (ht : t ∈ Ts) :
    evS ⟨runF cst tb (k + 7), cst⟩ lb9 [x0, some (.loc 1), x2, some (a), some (d), some (e), x6, x7, x8, x9, some (b), some (eF t), some (.int (m : Int)), some (.int (l : Int)), x14, x15, x16, x17, x18, x19] S = some (.nx [x0, some (.loc 1), x2, some (a), some (d), some (e), x6, x7, x8, x9, some (b), some (eF t), some (.int (m : Int)), some (.int (l : Int)), some (eP (dk m (t ^ l))), some (eP (dk l t)), x16, x17, x18, x19], S) := by
  have Q := wF ht hm hm2 hl hl2
  have r0 := fun k S => r_law_to (cst := cst) (tb := tb) (k := k) (S := S) T.toLfT T.to' (n := l) (Ts_sz ht) (by omega) (by omega) (by omega)
  have r1 := fun k S => r_dickson (cst := cst) (tb := tb) (k := k) (S := S) T.toDcT ((Ts_sz ht).pow l) Q.bd (by omega) (by omega)
  have r2 := fun k S => r_dickson (cst := cst) (tb := tb) (k := k) (S := S) T.toDcT (n := l) (Ts_sz ht) ((dkB ht).mono (by omega)) (by omega) (by omega)
  simp only [lb9, r0, r1, r2, g_14, t_14, g_15, t_15, g_16, t_16, g_17, t_17, g_18, t_18, g_19, t_19, vK_some, e_var, e_lit, lit_non, lit_bl, lit_int, lit_str, e_glob, oneK_some, e_bin, bin1_some, bin2_some, d_add, d_sub, e_neg, negK_some, e_cmp, cmp1_some, cmp2_some, map_some2, c_lt, c_le, c_gt, c_ge, c_eqI, c_neI, c_eqS, c_neS, tK_some, notK_some, blK_some, e_not, e_and, e_or, t_not, t_and, t_or, t_cmp, t_call, t_blt, a_nil, a_cons, andK_t, andK_f, o_nil, o_cons, orK_t, orK_f, e_ite, iteK_t, iteK_f, s_nil, s_cons, es1_some, es2_some, e_tup, tupK0, tupK1, tupK2, tupK3, tupK4, tupK5, e_lst, lstK0, lstK1, e_call, calK_some, e_blt, bltK_some, b_gcd, b_abs, b_int, b_max, b_min, b_lenT, b_lenL, b_tupT, b_tupL, b_lstT, b_lstL, b_all, items_lst, items_ro, map_some3, e_idx, idx1_some, idx2_some, i_tup, i_loc, at_0, at_1, at_2, at_3, e_slice, slK_some, slK1_some, slK2_some, o_none, o_some, oK_some, sl_tup, sl_loc, e_rev, revK_some, rv_tup, rv_loc, e_pop, popK_some, e_comp, it_tup, it_loc, it_enumT, it_enumL, it_zipT, it_zipL, e_dict, B_nil, B_cons, seqK_nx, seqK_ret, seqK_brk, seqK_cont, S_asg, asgK_some, nxK_some, bd_nm, bd_tup, bd_nil, bd_cons, bdK_some, S_par, parK_some, sa_nil, sa_cons, S_setI, stK_some, stK1_some, stK2_some, nxS_some, S_app, appK2_some, S_popS, popSK_some, S_ret, retK_some, S_retN, S_pass, S_brk, S_cont, S_ite, ifK_t, ifK_f, forK_some, getA, getA0, setA, setA0, lenA, appA, catA, nilA, lenC, len0, g_0, t_0, g_1, t_1, g_2, t_2, g_3, t_3, g_4, t_4, g_5, t_5, g_6, t_6, g_7, t_7, g_8, t_8, g_9, t_9, g_10, t_10, g_11, t_11, g_12, t_12, g_13, t_13, bindS, S_whil, S_for, compK_some]
theorem lk {m l : Nat} (hm2 : m ≤ 4) (hl2 : l ≤ 4) : m * l ≤ 16 := Nat.mul_le_mul hm2 hl2
theorem upLen {t : Rat} {m l : Nat} (Q : WF t m l) : (dk m (t ^ l)).length = m + 1 := by
  rw [Q.eq]; simp [ldk, ldkN, tab]
theorem s10 (T : K41 cst tb) {x0 x2 x6 x7 x8 x9 x16 x17 x18 x19 : Option D} {a b d e : D} {m l : Nat} {t : Rat} (hm : 1 ≤ m) (hm2 : m ≤ 4) (hl : 1 ≤ l) (hl2 : l ≤ 4) (ht : t ∈ Ts) :
    evS ⟨runF cst tb (k + 7), cst⟩ lb10 [x0, some (.loc 1), x2, some (a), some (d), some (e), x6, x7, x8, x9, some (b), some (eF t), some (.int (m : Int)), some (.int (l : Int)), some (eP (dk m (t ^ l))), some (eP (dk l t)), x16, x17, x18, x19] S = some (.nx [x0, some (.loc 1), x2, some (a), some (d), some (e), x6, x7, x8, x9, some (b), some (eF t), some (.int (m : Int)), some (.int (l : Int)), some (eP (dk m (t ^ l))), some (eP (dk l t)), x16, x17, x18, x19], S) := by
  have Q := wF ht hm hm2 hl hl2
  have h16 := lk hm2 hl2
  have h1 : 1 ≤ m * l := Nat.mul_pos hm hl
  have Fl := dkF ht hl (show l ≤ 21 by omega)
  have up := upLen Q
  have lo := Fl.len
  have m1 := Nat.mul_le_mul_right (39 + 39 + 1) (show (dk m (t ^ l)).length ≤ 5 by omega)
  have m2 := Nat.mul_le_mul (show (dk m (t ^ l)).length ≤ 5 by omega) (show (dk l t).length ≤ 5 by omega)
  have r1 := fun k S => r_poly_within (cst := cst) (tb := tb) (k := k) (S := S) T.toWiT T.pwithin (Q.bd m (by omega)).1.sz Fl.bd (by omega) (by omega) (by omega)
  rw [Q.within] at r1
  have r2 := fun k S => r_law_dickson (cst := cst) (tb := tb) (k := k) (S := S) T.ld (Ts_sz ht) h1 (by omega) (by omega) fun i hi => ldc_sz (show m * l ≤ 21 by omega) hi
  have q := fun S => d_mul (S := S) (i := (m : Int)) (j := (l : Int)) (mulOk_l (by omega))
  have hq : (m : Int) * (l : Int) = ((m * l : Nat) : Int) := by rw [Int.natCast_mul]
  simp only [lb10, r1, q, hq, r2, c_neP, decide_true, Bool.not_true, g_14, t_14, g_15, t_15, g_16, t_16, g_17, t_17, g_18, t_18, g_19, t_19, vK_some, e_var, e_lit, lit_non, lit_bl, lit_int, lit_str, e_glob, oneK_some, e_bin, bin1_some, bin2_some, d_add, d_sub, e_neg, negK_some, e_cmp, cmp1_some, cmp2_some, map_some2, c_lt, c_le, c_gt, c_ge, c_eqI, c_neI, c_eqS, c_neS, tK_some, notK_some, blK_some, e_not, e_and, e_or, t_not, t_and, t_or, t_cmp, t_call, t_blt, a_nil, a_cons, andK_t, andK_f, o_nil, o_cons, orK_t, orK_f, e_ite, iteK_t, iteK_f, s_nil, s_cons, es1_some, es2_some, e_tup, tupK0, tupK1, tupK2, tupK3, tupK4, tupK5, e_lst, lstK0, lstK1, e_call, calK_some, e_blt, bltK_some, b_gcd, b_abs, b_int, b_max, b_min, b_lenT, b_lenL, b_tupT, b_tupL, b_lstT, b_lstL, b_all, items_lst, items_ro, map_some3, e_idx, idx1_some, idx2_some, i_tup, i_loc, at_0, at_1, at_2, at_3, e_slice, slK_some, slK1_some, slK2_some, o_none, o_some, oK_some, sl_tup, sl_loc, e_rev, revK_some, rv_tup, rv_loc, e_pop, popK_some, e_comp, it_tup, it_loc, it_enumT, it_enumL, it_zipT, it_zipL, e_dict, B_nil, B_cons, seqK_nx, seqK_ret, seqK_brk, seqK_cont, S_asg, asgK_some, nxK_some, bd_nm, bd_tup, bd_nil, bd_cons, bdK_some, S_par, parK_some, sa_nil, sa_cons, S_setI, stK_some, stK1_some, stK2_some, nxS_some, S_app, appK2_some, S_popS, popSK_some, S_ret, retK_some, S_retN, S_pass, S_brk, S_cont, S_ite, ifK_t, ifK_f, forK_some, getA, getA0, setA, setA0, lenA, appA, catA, nilA, lenC, len0, g_0, t_0, g_1, t_1, g_2, t_2, g_3, t_3, g_4, t_4, g_5, t_5, g_6, t_6, g_7, t_7, g_8, t_8, g_9, t_9, g_10, t_10, g_11, t_11, g_12, t_12, g_13, t_13, bindS, S_whil, S_for, compK_some]
theorem s11 (T : K41 cst tb) {a b d e : D} {m l : Nat} {t : Rat} (hm : 1 ≤ m) (hm2 : m ≤ 4) (hl : 1 ≤ l) (hl2 : l ≤ 4) (ht : t ∈ Ts) (hS : SrcAt S 1 3) : ∃ S', SrcAt S' 1 3 ∧
    ∀ {x0 x2 x6 x7 x8 x9 x16 x17 x18 x19 : Option D}, evS ⟨runF cst tb (k + 7), cst⟩ lb11 [x0, some (.loc 1), x2, some (a), some (d), some (e), x6, x7, x8, x9, some (b), some (eF t), some (.int (m : Int)), some (.int (l : Int)), some (eP (dk m (t ^ l))), some (eP (dk l t)), x16, x17, x18, x19] S = some (.nx [x0, some (.loc 1), x2, some (a), some (d), some (e), x6, x7, x8, x9, some (b), some (eF t), some (.int (m : Int)), some (.int (l : Int)), some (eP (dk m (t ^ l))), some (eP (dk l t)), x16, x17, x18, x19], S') := by
  have Q := wF ht hm hm2 hl hl2
  have h16 := lk hm2 hl2
  have h1 : 1 ≤ m * l := Nat.mul_pos hm hl
  have Fl := dkF ht hl (show l ≤ 21 by omega)
  have Fk := dkF ht h1 (show m * l ≤ 21 by omega)
  have up := upLen Q
  have fl : (ldk (m * l) t).length = m * l + 1 := by rw [← Fk.eq]; exact Fk.len
  have m1 := Nat.mul_le_mul (show (dk m (t ^ l)).length ≤ 5 by omega) (show 39 + (dk m (t ^ l)).length * 43 + 2 ≤ 256 by omega)
  have q := fun S => d_mul (S := S) (i := (m : Int)) (j := (l : Int)) (mulOk_l (by omega))
  have hq : (m : Int) * (l : Int) = ((m * l : Nat) : Int) := by rw [Int.natCast_mul]
  have r1 := fun k S => r_dickson (cst := cst) (tb := tb) (k := k) (S := S) T.toDcT (n := m * l) (Ts_sz ht) ((dkB ht).mono (by omega)) (by omega) (by omega)
  rw [Fk.eq] at r1
  have r2 := fun k S => r_dickson_normal (cst := cst) (tb := tb) (k := k) (S := S) T.toDnT (Ts_sz ht) ((dkB ht).mono (show l ≤ 20 by omega)) (by omega) (by omega) Fl.ne (ne0_of1 Fl.lead) (LdOk.of1 Fl.lead)
  have r3 := fun k S => r_outer_part (cst := cst) (tb := tb) (k := k) (S := S) T.ou Q.dg (by omega)
  rw [if_pos Q.flat] at r3
  have q1 := fun S => b_reprP (S := S) Q.obd.sz (by decide) (by have := Q.olen; omega)
  have hb : Bd 43 (trim [co (dk l t) 0, 1]) := ((Bd.cons (Fl.bd.szc 0) (Bd.cons (Sz_one (B := 0)) (Bd.nil (B := 0)))).trimmed).mono (by decide)
  have ht2 := trim_len [co (dk l t) 0, 1]
  simp only [List.length_cons, List.length_nil] at ht2
  have m3 := Nat.mul_le_mul (show (dk m (t ^ l)).length ≤ 5 by omega) ht2
  have r4 := fun k S => r_law_within (cst := cst) (tb := tb) (k := k) (S := S) T.toLwT (Q.bd m (by omega)).1.sz hb (by omega) (by omega)
  rw [← Q.outer] at r4
  have hlst : ∀ S, lstK (some ([eF (co (dk l t) 0), eF 1], S)) = some (.loc S.length, S ++ [.lst ([co (dk l t) 0, 1].map eF)]) := fun S => rfl
  have h0 := fun S => i_P0 (S := S) Fl.ne
  have r5 := fun k => r_law_poly (cst := cst) (tb := tb) (k := k) (S := S ++ [.lst ([co (dk l t) 0, 1].map eF)]) T.poly (d := .loc S.length) (f := [co (dk l t) 0, 1]) (by rw [b_lstL, getA0]; rfl)
  refine ⟨S ++ [.lst ([co (dk l t) 0, 1].map eF)], hS.app _, ?_⟩
  intros
  simp only [lb11, q, hq, r1, r2, r3, q1, h0, eF_one, hlst, r5, r4, c_neP, c_neS, c_neF, c_eqP, decide_true, Bool.not_true, Bool.not_false, g_14, t_14, g_15, t_15, g_16, t_16, g_17, t_17, g_18, t_18, g_19, t_19, vK_some, e_var, e_lit, lit_non, lit_bl, lit_int, lit_str, e_glob, oneK_some, e_bin, bin1_some, bin2_some, d_add, d_sub, e_neg, negK_some, e_cmp, cmp1_some, cmp2_some, map_some2, c_lt, c_le, c_gt, c_ge, c_eqI, c_neI, c_eqS, c_neS, tK_some, notK_some, blK_some, e_not, e_and, e_or, t_not, t_and, t_or, t_cmp, t_call, t_blt, a_nil, a_cons, andK_t, andK_f, o_nil, o_cons, orK_t, orK_f, e_ite, iteK_t, iteK_f, s_nil, s_cons, es1_some, es2_some, e_tup, tupK0, tupK1, tupK2, tupK3, tupK4, tupK5, e_lst, lstK0, lstK1, e_call, calK_some, e_blt, bltK_some, b_gcd, b_abs, b_int, b_max, b_min, b_lenT, b_lenL, b_tupT, b_tupL, b_lstT, b_lstL, b_all, items_lst, items_ro, map_some3, e_idx, idx1_some, idx2_some, i_tup, i_loc, at_0, at_1, at_2, at_3, e_slice, slK_some, slK1_some, slK2_some, o_none, o_some, oK_some, sl_tup, sl_loc, e_rev, revK_some, rv_tup, rv_loc, e_pop, popK_some, e_comp, it_tup, it_loc, it_enumT, it_enumL, it_zipT, it_zipL, e_dict, B_nil, B_cons, seqK_nx, seqK_ret, seqK_brk, seqK_cont, S_asg, asgK_some, nxK_some, bd_nm, bd_tup, bd_nil, bd_cons, bdK_some, S_par, parK_some, sa_nil, sa_cons, S_setI, stK_some, stK1_some, stK2_some, nxS_some, S_app, appK2_some, S_popS, popSK_some, S_ret, retK_some, S_retN, S_pass, S_brk, S_cont, S_ite, ifK_t, ifK_f, forK_some, getA, getA0, setA, setA0, lenA, appA, catA, nilA, lenC, len0, g_0, t_0, g_1, t_1, g_2, t_2, g_3, t_3, g_4, t_4, g_5, t_5, g_6, t_6, g_7, t_7, g_8, t_8, g_9, t_9, g_10, t_10, g_11, t_11, g_12, t_12, g_13, t_13, bindS, S_whil, S_for, compK_some]
theorem s12 (T : K41 cst tb) {x0 x2 x6 x7 x8 x9 x16 x17 x18 x19 : Option D} {a b d e : D} {m l : Nat} {t : Rat} (hm : 1 ≤ m) (hm2 : m ≤ 4) (hl : 1 ≤ l) (hl2 : l ≤ 4) (ht : t ∈ Ts) :
    evS ⟨runF cst tb (k + 7), cst⟩ lb12 [x0, some (.loc 1), x2, some (a), some (d), some (e), x6, x7, x8, x9, some (b), some (eF t), some (.int (m : Int)), some (.int (l : Int)), some (eP (dk m (t ^ l))), some (eP (dk l t)), x16, x17, x18, x19] S = some (.nx [x0, some (.loc 1), x2, some (a), some (d), some (e), x6, x7, x8, x9, some (b), some (eF t), some (.int (m : Int)), some (.int (l : Int)), some (eP (dk m (t ^ l))), some (eP (dk l t)), some (.tup [eP (dk m (t ^ l)), eP (dk l t)]), some (.tup [eP (dk l (t ^ m)), eP (dk m t)]), x18, x19], S) := by
  have r := fun k S => r_exchanged_steps (cst := cst) (tb := tb) (k := k) (S := S) T.ex (a := m) (b := l) (Ts_sz ht) (wF ht hm hm2 hl hl2).bd ((dkB ht).mono (by omega)) (wF ht hl hl2 hm hm2).bd ((dkB ht).mono (by omega)) (by omega) (by omega) (by omega)
  simp only [lb12, r, g_14, t_14, g_15, t_15, g_16, t_16, g_17, t_17, g_18, t_18, g_19, t_19, vK_some, e_var, e_lit, lit_non, lit_bl, lit_int, lit_str, e_glob, oneK_some, e_bin, bin1_some, bin2_some, d_add, d_sub, e_neg, negK_some, e_cmp, cmp1_some, cmp2_some, map_some2, c_lt, c_le, c_gt, c_ge, c_eqI, c_neI, c_eqS, c_neS, tK_some, notK_some, blK_some, e_not, e_and, e_or, t_not, t_and, t_or, t_cmp, t_call, t_blt, a_nil, a_cons, andK_t, andK_f, o_nil, o_cons, orK_t, orK_f, e_ite, iteK_t, iteK_f, s_nil, s_cons, es1_some, es2_some, e_tup, tupK0, tupK1, tupK2, tupK3, tupK4, tupK5, e_lst, lstK0, lstK1, e_call, calK_some, e_blt, bltK_some, b_gcd, b_abs, b_int, b_max, b_min, b_lenT, b_lenL, b_tupT, b_tupL, b_lstT, b_lstL, b_all, items_lst, items_ro, map_some3, e_idx, idx1_some, idx2_some, i_tup, i_loc, at_0, at_1, at_2, at_3, e_slice, slK_some, slK1_some, slK2_some, o_none, o_some, oK_some, sl_tup, sl_loc, e_rev, revK_some, rv_tup, rv_loc, e_pop, popK_some, e_comp, it_tup, it_loc, it_enumT, it_enumL, it_zipT, it_zipL, e_dict, B_nil, B_cons, seqK_nx, seqK_ret, seqK_brk, seqK_cont, S_asg, asgK_some, nxK_some, bd_nm, bd_tup, bd_nil, bd_cons, bdK_some, S_par, parK_some, sa_nil, sa_cons, S_setI, stK_some, stK1_some, stK2_some, nxS_some, S_app, appK2_some, S_popS, popSK_some, S_ret, retK_some, S_retN, S_pass, S_brk, S_cont, S_ite, ifK_t, ifK_f, forK_some, getA, getA0, setA, setA0, lenA, appA, catA, nilA, lenC, len0, g_0, t_0, g_1, t_1, g_2, t_2, g_3, t_3, g_4, t_4, g_5, t_5, g_6, t_6, g_7, t_7, g_8, t_8, g_9, t_9, g_10, t_10, g_11, t_11, g_12, t_12, g_13, t_13, bindS, S_whil, S_for, compK_some]
theorem ldk_t (T : K41 cst tb) {m : Nat} {t : Rat} (ht : t ∈ Ts) (hm : 1 ≤ m) (hm2 : m ≤ 4) (k : Nat) (S : Sto) : runF cst tb (k + 4) "_law_dickson" [.int (m : Int), eF t] S = some (eP (dk m t), S) := by
  have r := r_law_dickson (cst := cst) (tb := tb) (k := k) (S := S) T.ld (Ts_sz ht) hm (by omega) (by omega) fun i hi => ldc_sz (by omega) hi
  rwa [← (dkF ht hm (by omega)).eq] at r
theorem ldk_p (T : K41 cst tb) {m l : Nat} {t : Rat} (ht : t ∈ Ts) (hm : 1 ≤ m) (hm2 : m ≤ 4) (hl : 1 ≤ l) (hl2 : l ≤ 4) (k : Nat) (S : Sto) : runF cst tb (k + 4) "_law_dickson" [.int (m : Int), eF (t ^ l)] S = some (eP (dk m (t ^ l)), S) := by
  have m1 := Nat.mul_le_mul hm2 (show l * 3 + 1 ≤ 13 by omega)
  have r := r_law_dickson (cst := cst) (tb := tb) (k := k) (S := S) T.ld ((Ts_sz ht).pow l) hm (by omega) (by omega) fun i hi => ldc_sz (by omega) hi
  rwa [← (wF ht hm hm2 hl hl2).eq] at r
theorem s13 (T : K41 cst tb) {x0 x2 x6 x7 x8 x9 x18 x19 : Option D} {a b d e : D} {m l : Nat} {t : Rat} (hm : 1 ≤ m) (hm2 : m ≤ 4) (hl : 1 ≤ l) (hl2 : l ≤ 4) (ht : t ∈ Ts) :
    evS ⟨runF cst tb (k + 7), cst⟩ lb13 [x0, some (.loc 1), x2, some (a), some (d), some (e), x6, x7, x8, x9, some (b), some (eF t), some (.int (m : Int)), some (.int (l : Int)), some (eP (dk m (t ^ l))), some (eP (dk l t)), some (.tup [eP (dk m (t ^ l)), eP (dk l t)]), some (.tup [eP (dk l (t ^ m)), eP (dk m t)]), x18, x19] S = some (.nx [x0, some (.loc 1), x2, some (a), some (d), some (e), some (.tup [eP (dk m (t ^ l)), eP (dk l t)]), x7, x8, x9, some (b), some (eF t), some (.int (m : Int)), some (.int (l : Int)), some (eP (dk m (t ^ l))), some (eP (dk l t)), some (.tup [eP (dk m (t ^ l)), eP (dk l t)]), some (.tup [eP (dk l (t ^ m)), eP (dk m t)]), x18, x19], S) := by
  have r0 := fun k S => r_law_to (cst := cst) (tb := tb) (k := k) (S := S) T.toLfT T.to' (n := l) (Ts_sz ht) (by omega) (by omega) (by omega)
  simp only [lb13, r0, ldk_t T ht hl hl2, ldk_p T ht hm hm2 hl hl2, g_14, t_14, g_15, t_15, g_16, t_16, g_17, t_17, g_18, t_18, g_19, t_19, vK_some, e_var, e_lit, lit_non, lit_bl, lit_int, lit_str, e_glob, oneK_some, e_bin, bin1_some, bin2_some, d_add, d_sub, e_neg, negK_some, e_cmp, cmp1_some, cmp2_some, map_some2, c_lt, c_le, c_gt, c_ge, c_eqI, c_neI, c_eqS, c_neS, tK_some, notK_some, blK_some, e_not, e_and, e_or, t_not, t_and, t_or, t_cmp, t_call, t_blt, a_nil, a_cons, andK_t, andK_f, o_nil, o_cons, orK_t, orK_f, e_ite, iteK_t, iteK_f, s_nil, s_cons, es1_some, es2_some, e_tup, tupK0, tupK1, tupK2, tupK3, tupK4, tupK5, e_lst, lstK0, lstK1, e_call, calK_some, e_blt, bltK_some, b_gcd, b_abs, b_int, b_max, b_min, b_lenT, b_lenL, b_tupT, b_tupL, b_lstT, b_lstL, b_all, items_lst, items_ro, map_some3, e_idx, idx1_some, idx2_some, i_tup, i_loc, at_0, at_1, at_2, at_3, e_slice, slK_some, slK1_some, slK2_some, o_none, o_some, oK_some, sl_tup, sl_loc, e_rev, revK_some, rv_tup, rv_loc, e_pop, popK_some, e_comp, it_tup, it_loc, it_enumT, it_enumL, it_zipT, it_zipL, e_dict, B_nil, B_cons, seqK_nx, seqK_ret, seqK_brk, seqK_cont, S_asg, asgK_some, nxK_some, bd_nm, bd_tup, bd_nil, bd_cons, bdK_some, S_par, parK_some, sa_nil, sa_cons, S_setI, stK_some, stK1_some, stK2_some, nxS_some, S_app, appK2_some, S_popS, popSK_some, S_ret, retK_some, S_retN, S_pass, S_brk, S_cont, S_ite, ifK_t, ifK_f, forK_some, getA, getA0, setA, setA0, lenA, appA, catA, nilA, lenC, len0, g_0, t_0, g_1, t_1, g_2, t_2, g_3, t_3, g_4, t_4, g_5, t_5, g_6, t_6, g_7, t_7, g_8, t_8, g_9, t_9, g_10, t_10, g_11, t_11, g_12, t_12, g_13, t_13, bindS, S_whil, S_for, compK_some]
theorem s14 (T : K41 cst tb) {x0 x2 x7 x8 x9 x18 x19 : Option D} {a b d e : D} {m l : Nat} {t : Rat} (hm : 1 ≤ m) (hm2 : m ≤ 4) (hl : 1 ≤ l) (hl2 : l ≤ 4) (ht : t ∈ Ts) :
    evS ⟨runF cst tb (k + 7), cst⟩ lb14 [x0, some (.loc 1), x2, some (a), some (d), some (e), some (.tup [eP (dk m (t ^ l)), eP (dk l t)]), x7, x8, x9, some (b), some (eF t), some (.int (m : Int)), some (.int (l : Int)), some (eP (dk m (t ^ l))), some (eP (dk l t)), some (.tup [eP (dk m (t ^ l)), eP (dk l t)]), some (.tup [eP (dk l (t ^ m)), eP (dk m t)]), x18, x19] S = some (.nx [x0, some (.loc 1), x2, some (a), some (d), some (e), some (.tup [.tup [eP (dk m (t ^ l)), eP (dk l t)], .tup [eP (dk l (t ^ m)), eP (dk m t)]]), x7, x8, x9, some (b), some (eF t), some (.int (m : Int)), some (.int (l : Int)), some (eP (dk m (t ^ l))), some (eP (dk l t)), some (.tup [eP (dk m (t ^ l)), eP (dk l t)]), some (.tup [eP (dk l (t ^ m)), eP (dk m t)]), x18, x19], S) := by
  have r0 := fun k S => r_law_to (cst := cst) (tb := tb) (k := k) (S := S) T.toLfT T.to' (n := m) (Ts_sz ht) (by omega) (by omega) (by omega)
  simp only [lb14, r0, ldk_t T ht hm hm2, ldk_p T ht hl hl2 hm hm2, g_14, t_14, g_15, t_15, g_16, t_16, g_17, t_17, g_18, t_18, g_19, t_19, vK_some, e_var, e_lit, lit_non, lit_bl, lit_int, lit_str, e_glob, oneK_some, e_bin, bin1_some, bin2_some, d_add, d_sub, e_neg, negK_some, e_cmp, cmp1_some, cmp2_some, map_some2, c_lt, c_le, c_gt, c_ge, c_eqI, c_neI, c_eqS, c_neS, tK_some, notK_some, blK_some, e_not, e_and, e_or, t_not, t_and, t_or, t_cmp, t_call, t_blt, a_nil, a_cons, andK_t, andK_f, o_nil, o_cons, orK_t, orK_f, e_ite, iteK_t, iteK_f, s_nil, s_cons, es1_some, es2_some, e_tup, tupK0, tupK1, tupK2, tupK3, tupK4, tupK5, e_lst, lstK0, lstK1, e_call, calK_some, e_blt, bltK_some, b_gcd, b_abs, b_int, b_max, b_min, b_lenT, b_lenL, b_tupT, b_tupL, b_lstT, b_lstL, b_all, items_lst, items_ro, map_some3, e_idx, idx1_some, idx2_some, i_tup, i_loc, at_0, at_1, at_2, at_3, e_slice, slK_some, slK1_some, slK2_some, o_none, o_some, oK_some, sl_tup, sl_loc, e_rev, revK_some, rv_tup, rv_loc, e_pop, popK_some, e_comp, it_tup, it_loc, it_enumT, it_enumL, it_zipT, it_zipL, e_dict, B_nil, B_cons, seqK_nx, seqK_ret, seqK_brk, seqK_cont, S_asg, asgK_some, nxK_some, bd_nm, bd_tup, bd_nil, bd_cons, bdK_some, S_par, parK_some, sa_nil, sa_cons, S_setI, stK_some, stK1_some, stK2_some, nxS_some, S_app, appK2_some, S_popS, popSK_some, S_ret, retK_some, S_retN, S_pass, S_brk, S_cont, S_ite, ifK_t, ifK_f, forK_some, getA, getA0, setA, setA0, lenA, appA, catA, nilA, lenC, len0, g_0, t_0, g_1, t_1, g_2, t_2, g_3, t_3, g_4, t_4, g_5, t_5, g_6, t_6, g_7, t_7, g_8, t_8, g_9, t_9, g_10, t_10, g_11, t_11, g_12, t_12, g_13, t_13, bindS, S_whil, S_for, compK_some]
theorem s15 (T : K41 cst tb) {x0 x2 x7 x8 x9 x18 x19 : Option D} {a b d e : D} {m l : Nat} {t : Rat} (hm : 1 ≤ m) (hm2 : m ≤ 4) (hl : 1 ≤ l) (hl2 : l ≤ 4) (ht : t ∈ Ts) :
    evS ⟨runF cst tb (k + 7), cst⟩ lb15 [x0, some (.loc 1), x2, some (a), some (d), some (e), some (.tup [.tup [eP (dk m (t ^ l)), eP (dk l t)], .tup [eP (dk l (t ^ m)), eP (dk m t)]]), x7, x8, x9, some (b), some (eF t), some (.int (m : Int)), some (.int (l : Int)), some (eP (dk m (t ^ l))), some (eP (dk l t)), some (.tup [eP (dk m (t ^ l)), eP (dk l t)]), some (.tup [eP (dk l (t ^ m)), eP (dk m t)]), x18, x19] S = some (.nx [x0, some (.loc 1), x2, some (a), some (d), some (e), some (.tup [.tup [eP (dk m (t ^ l)), eP (dk l t)], .tup [eP (dk l (t ^ m)), eP (dk m t)]]), x7, x8, x9, some (b), some (eF t), some (.int (m : Int)), some (.int (l : Int)), some (eP (dk m (t ^ l))), some (eP (dk l t)), some (.tup [eP (dk m (t ^ l)), eP (dk l t)]), some (.tup [eP (dk l (t ^ m)), eP (dk m t)]), x18, x19], S) := by
  have Q := wF ht hm hm2 hl hl2
  have Q' := wF ht hl hl2 hm hm2
  have Fl := dkF ht hl (show l ≤ 21 by omega)
  have Fm := dkF ht hm (show m ≤ 21 by omega)
  have up := upLen Q
  have up' := upLen Q'
  have lo := Fl.len
  have lo' := Fm.len
  have m1 := Nat.mul_le_mul_right (39 + 39 + 1) (show (dk m (t ^ l)).length ≤ 5 by omega)
  have m2 := Nat.mul_le_mul (show (dk m (t ^ l)).length ≤ 5 by omega) (show (dk l t).length ≤ 5 by omega)
  have m3 := Nat.mul_le_mul_right (39 + 39 + 1) (show (dk l (t ^ m)).length ≤ 5 by omega)
  have m4 := Nat.mul_le_mul (show (dk l (t ^ m)).length ≤ 5 by omega) (show (dk m t).length ≤ 5 by omega)
  have r1 := fun k S => r_poly_within (cst := cst) (tb := tb) (k := k) (S := S) T.toWiT T.pwithin (Q.bd m (by omega)).1.sz Fl.bd (by omega) (by omega) (by omega)
  have r2 := fun k S => r_poly_within (cst := cst) (tb := tb) (k := k) (S := S) T.toWiT T.pwithin (Q'.bd l (by omega)).1.sz Fm.bd (by omega) (by omega) (by omega)
  rw [Q.within] at r1
  rw [Q'.within, Nat.mul_comm l m] at r2
  have q1 := fun S => b_repr22 (S := S) (Q.bd m (by omega)).1.sz Fl.bd.sz (Q'.bd l (by omega)).1.sz Fm.bd.sz (by decide) (by omega) (by omega) (by omega) (by omega)
  simp only [lb15, q1, i_tup, r1, r2, c_neP, c_neS, c_neF, c_eqP, decide_true, Bool.not_true, Bool.not_false, g_14, t_14, g_15, t_15, g_16, t_16, g_17, t_17, g_18, t_18, g_19, t_19, vK_some, e_var, e_lit, lit_non, lit_bl, lit_int, lit_str, e_glob, oneK_some, e_bin, bin1_some, bin2_some, d_add, d_sub, e_neg, negK_some, e_cmp, cmp1_some, cmp2_some, map_some2, c_lt, c_le, c_gt, c_ge, c_eqI, c_neI, c_eqS, c_neS, tK_some, notK_some, blK_some, e_not, e_and, e_or, t_not, t_and, t_or, t_cmp, t_call, t_blt, a_nil, a_cons, andK_t, andK_f, o_nil, o_cons, orK_t, orK_f, e_ite, iteK_t, iteK_f, s_nil, s_cons, es1_some, es2_some, e_tup, tupK0, tupK1, tupK2, tupK3, tupK4, tupK5, e_lst, lstK0, lstK1, e_call, calK_some, e_blt, bltK_some, b_gcd, b_abs, b_int, b_max, b_min, b_lenT, b_lenL, b_tupT, b_tupL, b_lstT, b_lstL, b_all, items_lst, items_ro, map_some3, e_idx, idx1_some, idx2_some, i_tup, i_loc, at_0, at_1, at_2, at_3, e_slice, slK_some, slK1_some, slK2_some, o_none, o_some, oK_some, sl_tup, sl_loc, e_rev, revK_some, rv_tup, rv_loc, e_pop, popK_some, e_comp, it_tup, it_loc, it_enumT, it_enumL, it_zipT, it_zipL, e_dict, B_nil, B_cons, seqK_nx, seqK_ret, seqK_brk, seqK_cont, S_asg, asgK_some, nxK_some, bd_nm, bd_tup, bd_nil, bd_cons, bdK_some, S_par, parK_some, sa_nil, sa_cons, S_setI, stK_some, stK1_some, stK2_some, nxS_some, S_app, appK2_some, S_popS, popSK_some, S_ret, retK_some, S_retN, S_pass, S_brk, S_cont, S_ite, ifK_t, ifK_f, forK_some, getA, getA0, setA, setA0, lenA, appA, catA, nilA, lenC, len0, g_0, t_0, g_1, t_1, g_2, t_2, g_3, t_3, g_4, t_4, g_5, t_5, g_6, t_6, g_7, t_7, g_8, t_8, g_9, t_9, g_10, t_10, g_11, t_11, g_12, t_12, g_13, t_13, bindS, S_whil, S_for, compK_some]
theorem s16 (T : K41 cst tb) {x0 x2 x3 x4 x5 x6 x7 x8 x9 x10 x11 x12 x13 x14 x15 x16 x17 x18 x19 : Option D} : evS ⟨runF cst tb (k + 7), cst⟩ lb16 [x0, some (.loc 1), x2, x3, x4, x5, x6, x7, x8, x9, x10, x11, x12, x13, x14, x15, x16, x17, x18, x19] S = some (.nx [x0, some (.loc 1), x2, x3, x4, x5, x6, x7, x8, x9, x10, x11, x12, x13, x14, x15, x16, x17, some (.loc S.length), some (eF 1)], S ++ [.lst []]) := by
  simp only [lb16, eF_one, lstK0, g_14, t_14, g_15, t_15, g_16, t_16, g_17, t_17, g_18, t_18, g_19, t_19, vK_some, e_var, e_lit, lit_non, lit_bl, lit_int, lit_str, e_glob, oneK_some, e_bin, bin1_some, bin2_some, d_add, d_sub, e_neg, negK_some, e_cmp, cmp1_some, cmp2_some, map_some2, c_lt, c_le, c_gt, c_ge, c_eqI, c_neI, c_eqS, c_neS, tK_some, notK_some, blK_some, e_not, e_and, e_or, t_not, t_and, t_or, t_cmp, t_call, t_blt, a_nil, a_cons, andK_t, andK_f, o_nil, o_cons, orK_t, orK_f, e_ite, iteK_t, iteK_f, s_nil, s_cons, es1_some, es2_some, e_tup, tupK0, tupK1, tupK2, tupK3, tupK4, tupK5, e_lst, lstK0, lstK1, e_call, calK_some, e_blt, bltK_some, b_gcd, b_abs, b_int, b_max, b_min, b_lenT, b_lenL, b_tupT, b_tupL, b_lstT, b_lstL, b_all, items_lst, items_ro, map_some3, e_idx, idx1_some, idx2_some, i_tup, i_loc, at_0, at_1, at_2, at_3, e_slice, slK_some, slK1_some, slK2_some, o_none, o_some, oK_some, sl_tup, sl_loc, e_rev, revK_some, rv_tup, rv_loc, e_pop, popK_some, e_comp, it_tup, it_loc, it_enumT, it_enumL, it_zipT, it_zipL, e_dict, B_nil, B_cons, seqK_nx, seqK_ret, seqK_brk, seqK_cont, S_asg, asgK_some, nxK_some, bd_nm, bd_tup, bd_nil, bd_cons, bdK_some, S_par, parK_some, sa_nil, sa_cons, S_setI, stK_some, stK1_some, stK2_some, nxS_some, S_app, appK2_some, S_popS, popSK_some, S_ret, retK_some, S_retN, S_pass, S_brk, S_cont, S_ite, ifK_t, ifK_f, forK_some, getA, getA0, setA, setA0, lenA, appA, catA, nilA, lenC, len0, g_0, t_0, g_1, t_1, g_2, t_2, g_3, t_3, g_4, t_4, g_5, t_5, g_6, t_6, g_7, t_7, g_8, t_8, g_9, t_9, g_10, t_10, g_11, t_11, g_12, t_12, g_13, t_13, bindS, S_whil, S_for, compK_some]
theorem s17 (T : K41 cst tb) {x0 x2 x5 x6 x7 x8 x9 x10 x11 x12 x13 x14 x15 x16 x17 : Option D} {f : List Rat} {y : Rat} (hf : Bd 39 f) (hl : f.length ≤ 21) (hy : y ∈ Ys) : ∃ z w, 
    evS ⟨runF cst tb (k + 7), cst⟩ lb17 [x0, some (.loc 1), x2, some (eP f), some (eF y), x5, x6, x7, x8, x9, x10, x11, x12, x13, x14, x15, x16, x17, some (.loc S.length), some (eF 1)] (S ++ [.lst []]) = some (.nx [x0, some (.loc 1), x2, some (eP f), some (eF y), x5, x6, z, x8, x9, x10, x11, x12, x13, x14, x15, x16, x17, some (.loc S.length), some (w)], S ++ [.lst ((szd y f 1).map eF)]) := by
  have Y := yF hy
  obtain ⟨ρ', S', e1, hI⟩ := for_inv (L := []) (S0 := S ++ [.lst []]) (step := forStep ⟨runF cst tb (k + 7), cst⟩ (.nm 7) [.app (.var 18) (.call "_law_by" [.var 7, .var 19]), .asg (.nm 19) (.call "_law_by" [.var 19, .var 4])])
    (fun i ρ S' => S' = S ++ [.lst ((szd y (f.take i) 1).map eF)] ∧ ∃ z, ρ = [x0, some (.loc 1), x2, some (eP f), some (eF y), x5, x6, z, x8, x9, x10, x11, x12, x13, x14, x15, x16, x17, some (.loc S.length), some (eF (y ^ i))]) (xs := f.map eF) (S := S ++ [.lst []]) (ρ := [x0, some (.loc 1), x2, some (eP f), some (eF y), x5, x6, x7, x8, x9, x10, x11, x12, x13, x14, x15, x16, x17, some (.loc S.length), some (eF 1)]) ⟨rfl, _, by rw [Rat.pow_zero]⟩ (fun i w ρ S' e q => by
      obtain ⟨rfl, z, rfl⟩ := q
      obtain ⟨c, hc, rfl, hi⟩ := map_get e
      have r1 := fun k S => r_law_by (cst := cst) (tb := tb) (k := k) (S := S) T.toLfT ((hf.sz c (List.mem_of_getElem? hc)).mono (show 39 ≤ 4000 by decide)) ((Y.sz.pow i).mono (show _ ≤ 4000 by omega))
      have r2 := fun k S => r_law_by (cst := cst) (tb := tb) (k := k) (S := S) T.toLfT ((Y.sz.pow i).mono (show _ ≤ 4000 by omega)) (Y.sz.mono (show 3 ≤ 4000 by decide))
      have hlen : (szd y (f.take i) 1).length ≤ 21 := by rw [szd_len, List.length_take]; omega
      have ha := fun v => app_lst (S := S ++ [.lst ((szd y (f.take i) 1).map eF)]) (n := S.length) (xs := (szd y (f.take i) 1).map eF) (v := v) (getA0 ..) (by rw [List.length_map]; simp only [sizeLine]; omega)
      have hk := fun e ρ => appK_some (C := ⟨runF cst tb (k + 7), cst⟩) (ρ := ρ) (S := S ++ [.lst ((szd y (f.take i) 1).map eF)]) (n := S.length) (xs := (szd y (f.take i) 1).map eF) e (getA0 ..)
      refine ⟨[x0, some (.loc 1), x2, some (eP f), some (eF y), x5, x6, some (eF c), x8, x9, x10, x11, x12, x13, x14, x15, x16, x17, some (.loc S.length), some (eF (y ^ (i + 1)))], S ++ [.lst ((szd y (f.take (i + 1)) 1).map eF)], ?_, by simp, rfl, _, rfl⟩
      rw [szd_take y f i 1 c hc, Rat.one_mul, Rat.pow_succ, List.map_append]
      simp only [forStep, hk, r1, ha, r2, List.map_cons, List.map_nil, g_14, t_14, g_15, t_15, g_16, t_16, g_17, t_17, g_18, t_18, g_19, t_19, vK_some, e_var, e_lit, lit_non, lit_bl, lit_int, lit_str, e_glob, oneK_some, e_bin, bin1_some, bin2_some, d_add, d_sub, e_neg, negK_some, e_cmp, cmp1_some, cmp2_some, map_some2, c_lt, c_le, c_gt, c_ge, c_eqI, c_neI, c_eqS, c_neS, tK_some, notK_some, blK_some, e_not, e_and, e_or, t_not, t_and, t_or, t_cmp, t_call, t_blt, a_nil, a_cons, andK_t, andK_f, o_nil, o_cons, orK_t, orK_f, e_ite, iteK_t, iteK_f, s_nil, s_cons, es1_some, es2_some, e_tup, tupK0, tupK1, tupK2, tupK3, tupK4, tupK5, e_lst, lstK0, lstK1, e_call, calK_some, e_blt, bltK_some, b_gcd, b_abs, b_int, b_max, b_min, b_lenT, b_lenL, b_tupT, b_tupL, b_lstT, b_lstL, b_all, items_lst, items_ro, map_some3, e_idx, idx1_some, idx2_some, i_tup, i_loc, at_0, at_1, at_2, at_3, e_slice, slK_some, slK1_some, slK2_some, o_none, o_some, oK_some, sl_tup, sl_loc, e_rev, revK_some, rv_tup, rv_loc, e_pop, popK_some, e_comp, it_tup, it_loc, it_enumT, it_enumL, it_zipT, it_zipL, e_dict, B_nil, B_cons, seqK_nx, seqK_ret, seqK_brk, seqK_cont, S_asg, asgK_some, nxK_some, bd_nm, bd_tup, bd_nil, bd_cons, bdK_some, S_par, parK_some, sa_nil, sa_cons, S_setI, stK_some, stK1_some, stK2_some, nxS_some, S_app, appK2_some, S_popS, popSK_some, S_ret, retK_some, S_retN, S_pass, S_brk, S_cont, S_ite, ifK_t, ifK_f, forK_some, getA, getA0, setA, setA0, lenA, appA, catA, nilA, lenC, len0, g_0, t_0, g_1, t_1, g_2, t_2, g_3, t_3, g_4, t_4, g_5, t_5, g_6, t_6, g_7, t_7, g_8, t_8, g_9, t_9, g_10, t_10, g_11, t_11, g_12, t_12, g_13, t_13, bindS, S_whil, S_for, compK_some])
  obtain ⟨rfl, z, rfl⟩ := hI
  rw [List.length_map, List.take_length] at e1
  refine ⟨z, eF (y ^ f.length), ?_⟩
  simp only [lb17, it_P, forI_some, e1, g_14, t_14, g_15, t_15, g_16, t_16, g_17, t_17, g_18, t_18, g_19, t_19, vK_some, e_var, e_lit, lit_non, lit_bl, lit_int, lit_str, e_glob, oneK_some, e_bin, bin1_some, bin2_some, d_add, d_sub, e_neg, negK_some, e_cmp, cmp1_some, cmp2_some, map_some2, c_lt, c_le, c_gt, c_ge, c_eqI, c_neI, c_eqS, c_neS, tK_some, notK_some, blK_some, e_not, e_and, e_or, t_not, t_and, t_or, t_cmp, t_call, t_blt, a_nil, a_cons, andK_t, andK_f, o_nil, o_cons, orK_t, orK_f, e_ite, iteK_t, iteK_f, s_nil, s_cons, es1_some, es2_some, e_tup, tupK0, tupK1, tupK2, tupK3, tupK4, tupK5, e_lst, lstK0, lstK1, e_call, calK_some, e_blt, bltK_some, b_gcd, b_abs, b_int, b_max, b_min, b_lenT, b_lenL, b_tupT, b_tupL, b_lstT, b_lstL, b_all, items_lst, items_ro, map_some3, e_idx, idx1_some, idx2_some, i_tup, i_loc, at_0, at_1, at_2, at_3, e_slice, slK_some, slK1_some, slK2_some, o_none, o_some, oK_some, sl_tup, sl_loc, e_rev, revK_some, rv_tup, rv_loc, e_pop, popK_some, e_comp, it_tup, it_loc, it_enumT, it_enumL, it_zipT, it_zipL, e_dict, B_nil, B_cons, seqK_nx, seqK_ret, seqK_brk, seqK_cont, S_asg, asgK_some, nxK_some, bd_nm, bd_tup, bd_nil, bd_cons, bdK_some, S_par, parK_some, sa_nil, sa_cons, S_setI, stK_some, stK1_some, stK2_some, nxS_some, S_app, appK2_some, S_popS, popSK_some, S_ret, retK_some, S_retN, S_pass, S_brk, S_cont, S_ite, ifK_t, ifK_f, forK_some, getA, getA0, setA, setA0, lenA, appA, catA, nilA, lenC, len0, g_0, t_0, g_1, t_1, g_2, t_2, g_3, t_3, g_4, t_4, g_5, t_5, g_6, t_6, g_7, t_7, g_8, t_8, g_9, t_9, g_10, t_10, g_11, t_11, g_12, t_12, g_13, t_13, bindS, S_whil, S_for, compK_some]
theorem s18 (T : K41 cst tb) {x0 x2 x5 x6 x7 x8 x9 x12 x13 x14 x15 x16 x17 x18 x19 : Option D} {n : Nat} {t y : Rat} (hn : 1 ≤ n) (hn2 : n ≤ 20) (ht : t ∈ Ts) (hy : y ∈ Ys) :
    evS ⟨runF cst tb (k + 7), cst⟩ lb18 [x0, some (.loc 1), x2, some (eP (dk n t)), some (eF y), x5, x6, x7, x8, x9, some (.int (n : Int)), some (eF t), x12, x13, x14, x15, x16, x17, x18, x19] S = some (.nx [x0, some (.loc 1), x2, some (eP (dk n t)), some (eF y), x5, x6, x7, some (eF (t * (1 / y) ^ 2)), x9, some (.int (n : Int)), some (eF t), x12, x13, x14, x15, x16, x17, x18, x19], S) := by
  have Y := yF hy
  have r1 := fun k S => r_law_low (cst := cst) (tb := tb) (k := k) (S := S) T.low (lowOk_inv Y.ne)
  rw [inv_divInt'] at r1
  have si := Sz_inv1 Y.sz Y.ne
  have r2 : ∀ (k : Nat) (S : Sto), runF cst tb (k + 3) "_law_to" [eF (1 / y), .int 2] S = some (eF ((1 / y) ^ 2), S) := fun k S => r_law_to (cst := cst) (tb := tb) (k := k) (S := S) T.toLfT T.to' (n := 2) si (by decide) (by decide) (by decide)
  have r3 := fun k S => r_law_by (cst := cst) (tb := tb) (k := k) (S := S) T.toLfT ((Ts_sz ht).mono (show 3 ≤ 4000 by decide)) ((si.pow 2).mono (show _ ≤ 4000 by decide))
  simp only [lb18, i_F0, i_F1, r1, r2, r3, g_14, t_14, g_15, t_15, g_16, t_16, g_17, t_17, g_18, t_18, g_19, t_19, vK_some, e_var, e_lit, lit_non, lit_bl, lit_int, lit_str, e_glob, oneK_some, e_bin, bin1_some, bin2_some, d_add, d_sub, e_neg, negK_some, e_cmp, cmp1_some, cmp2_some, map_some2, c_lt, c_le, c_gt, c_ge, c_eqI, c_neI, c_eqS, c_neS, tK_some, notK_some, blK_some, e_not, e_and, e_or, t_not, t_and, t_or, t_cmp, t_call, t_blt, a_nil, a_cons, andK_t, andK_f, o_nil, o_cons, orK_t, orK_f, e_ite, iteK_t, iteK_f, s_nil, s_cons, es1_some, es2_some, e_tup, tupK0, tupK1, tupK2, tupK3, tupK4, tupK5, e_lst, lstK0, lstK1, e_call, calK_some, e_blt, bltK_some, b_gcd, b_abs, b_int, b_max, b_min, b_lenT, b_lenL, b_tupT, b_tupL, b_lstT, b_lstL, b_all, items_lst, items_ro, map_some3, e_idx, idx1_some, idx2_some, i_tup, i_loc, at_0, at_1, at_2, at_3, e_slice, slK_some, slK1_some, slK2_some, o_none, o_some, oK_some, sl_tup, sl_loc, e_rev, revK_some, rv_tup, rv_loc, e_pop, popK_some, e_comp, it_tup, it_loc, it_enumT, it_enumL, it_zipT, it_zipL, e_dict, B_nil, B_cons, seqK_nx, seqK_ret, seqK_brk, seqK_cont, S_asg, asgK_some, nxK_some, bd_nm, bd_tup, bd_nil, bd_cons, bdK_some, S_par, parK_some, sa_nil, sa_cons, S_setI, stK_some, stK1_some, stK2_some, nxS_some, S_app, appK2_some, S_popS, popSK_some, S_ret, retK_some, S_retN, S_pass, S_brk, S_cont, S_ite, ifK_t, ifK_f, forK_some, getA, getA0, setA, setA0, lenA, appA, catA, nilA, lenC, len0, g_0, t_0, g_1, t_1, g_2, t_2, g_3, t_3, g_4, t_4, g_5, t_5, g_6, t_6, g_7, t_7, g_8, t_8, g_9, t_9, g_10, t_10, g_11, t_11, g_12, t_12, g_13, t_13, bindS, S_whil, S_for, compK_some]
theorem s19 (T : K41 cst tb) {x0 x2 x5 x6 x7 x9 x12 x13 x14 x15 x16 x17 x19 : Option D} {p : Nat} {n : Nat} {t y : Rat} (hn : 1 ≤ n) (hn2 : n ≤ 20) (ht : t ∈ Ts) (hy : y ∈ Ys) (hp : S[p]? = some (.lst ((szd y (dk n t) 1).map eF))) :
    evS ⟨runF cst tb (k + 7), cst⟩ lb19 [x0, some (.loc 1), x2, some (eP (dk n t)), some (eF y), x5, x6, x7, some (eF (t * (1 / y) ^ 2)), x9, some (.int (n : Int)), some (eF t), x12, x13, x14, x15, x16, x17, some (.loc p), x19] S = some (.nx [x0, some (.loc 1), x2, some (eP (dk n t)), some (eF y), x5, x6, x7, some (eF (t * (1 / y) ^ 2)), x9, some (.int (n : Int)), some (eF t), x12, x13, x14, x15, x16, x17, some (.loc p), x19], S) := by
  have Y := yF hy
  have F := dkF ht hn (show n ≤ 21 by omega)
  have G := smF ht hy hn hn2
  have si := Sz_inv1 Y.sz Y.ne
  have ss : Sz 10 (t * (1 / y) ^ 2) := Sz.mul (Ts_sz ht) (si.pow 2)
  have r1 := fun k S => r_law_to (cst := cst) (tb := tb) (k := k) (S := S) T.toLfT T.to' (n := n) Y.sz (by omega) (by omega) (by omega)
  have r2 := fun k S => r_dickson (cst := cst) (tb := tb) (k := k) (S := S) T.toDcT (n := n) ss G.bd (by omega) (by omega)
  obtain ⟨b1, b2⟩ := G.bd n (by omega)
  have r3 := fun k S => r_law_often (cst := cst) (tb := tb) (k := k) (S := S) T.toLfT T.poly T.often ((Y.sz.pow n).mono (show _ ≤ 4000 by omega)) (b1.sz.mono (show 300 ≤ 4000 by decide)) (by omega)
  rw [G.eq] at r3
  have htup : bltD "tuple" [.loc p] S = some (eP (szd y (dk n t) 1), S) := by
    rw [b_tupL, hp]
    rfl
  simp only [lb19, r1, r2, r3, htup, c_neP, c_neS, c_neF, c_eqP, decide_true, Bool.not_true, Bool.not_false, g_14, t_14, g_15, t_15, g_16, t_16, g_17, t_17, g_18, t_18, g_19, t_19, vK_some, e_var, e_lit, lit_non, lit_bl, lit_int, lit_str, e_glob, oneK_some, e_bin, bin1_some, bin2_some, d_add, d_sub, e_neg, negK_some, e_cmp, cmp1_some, cmp2_some, map_some2, c_lt, c_le, c_gt, c_ge, c_eqI, c_neI, c_eqS, c_neS, tK_some, notK_some, blK_some, e_not, e_and, e_or, t_not, t_and, t_or, t_cmp, t_call, t_blt, a_nil, a_cons, andK_t, andK_f, o_nil, o_cons, orK_t, orK_f, e_ite, iteK_t, iteK_f, s_nil, s_cons, es1_some, es2_some, e_tup, tupK0, tupK1, tupK2, tupK3, tupK4, tupK5, e_lst, lstK0, lstK1, e_call, calK_some, e_blt, bltK_some, b_gcd, b_abs, b_int, b_max, b_min, b_lenT, b_lenL, b_tupT, b_tupL, b_lstT, b_lstL, b_all, items_lst, items_ro, map_some3, e_idx, idx1_some, idx2_some, i_tup, i_loc, at_0, at_1, at_2, at_3, e_slice, slK_some, slK1_some, slK2_some, o_none, o_some, oK_some, sl_tup, sl_loc, e_rev, revK_some, rv_tup, rv_loc, e_pop, popK_some, e_comp, it_tup, it_loc, it_enumT, it_enumL, it_zipT, it_zipL, e_dict, B_nil, B_cons, seqK_nx, seqK_ret, seqK_brk, seqK_cont, S_asg, asgK_some, nxK_some, bd_nm, bd_tup, bd_nil, bd_cons, bdK_some, S_par, parK_some, sa_nil, sa_cons, S_setI, stK_some, stK1_some, stK2_some, nxS_some, S_app, appK2_some, S_popS, popSK_some, S_ret, retK_some, S_retN, S_pass, S_brk, S_cont, S_ite, ifK_t, ifK_f, forK_some, getA, getA0, setA, setA0, lenA, appA, catA, nilA, lenC, len0, g_0, t_0, g_1, t_1, g_2, t_2, g_3, t_3, g_4, t_4, g_5, t_5, g_6, t_6, g_7, t_7, g_8, t_8, g_9, t_9, g_10, t_10, g_11, t_11, g_12, t_12, g_13, t_13, bindS, S_whil, S_for, compK_some]
theorem eP_sing (c : Rat) : (.tup [eF c] : D) = eP [c] := rfl
theorem s20 (T : K41 cst tb) {n : Nat} {t : Rat} (hn : 1 ≤ n) (hn2 : n ≤ 20) (ht : t ∈ Ts) (hS : SrcAt S 1 3) : ∃ (i : Nat) (c : Rat) (S' : Sto), i < n ∧ c ∈ ([1, -1 / 2] : List Rat) ∧ SrcAt S' 1 3 ∧
    ∀ {x0 x2 x4 x5 x6 x7 x8 x9 x12 x13 x14 x15 x16 x17 x18 x19 : Option D}, evS ⟨runF cst tb (k + 7), cst⟩ lb20 [x0, some (.loc 1), x2, some (eP (dk n t)), x4, x5, x6, x7, x8, x9, some (.int (n : Int)), some (eF t), x12, x13, x14, x15, x16, x17, x18, x19] S = some (.nx [x0, some (.loc 1), x2, some (eP (dk n t)), x4, x5, x6, x7, x8, some (eP (padd (dk n t) (unit i c))), some (.int (n : Int)), some (eF t), x12, x13, x14, x15, x16, x17, x18, x19], S') := by
  have F := dkF ht hn (show n ≤ 21 by omega)
  obtain ⟨i, S1, e1, hi, f1, s1⟩ := r_law_pick (cst := cst) (tb := tb) (k := k + 6) T.pick hS (many := n) (by omega)
  obtain ⟨x, S2, hx, e2, f2, s2⟩ := of_new (cst := cst) (tb := tb) (k := k + 5) T.toSrT (xs := ([1, -1 / 2] : List Rat).map eF) s1 (by simp) (by simp)
  rw [List.mem_map] at hx
  obtain ⟨c, hc, rfl⟩ := hx
  have hi' : i < n := by omega
  have h1 : eF (1 : Rat) = .tup [.int 1, .int 1] := rfl
  have h2 : eF (-1 / 2 : Rat) = .tup [.int (-1), .int 2] := eF_of (by decide +kernel)
  have hl : ∀ S, lstK (some ([.tup [.int 1, .int 1], .tup [.int (-1), .int 2]], S)) = some (.loc S.length, S ++ [.lst (([1, -1 / 2] : List Rat).map eF)]) := fun S => by
    simp only [List.map, h1, h2]
    rfl
  have sc : Sz 3 c := by
    have h : ([1, -1 / 2] : List Rat).all (fun t => decide (t.num.natAbs < 2 ^ 3) && decide (t.den < 2 ^ 3)) = true := by decide +kernel
    have := List.all_eq_true.1 h c hc
    simp only [Bool.and_eq_true, decide_eq_true_iff] at this
    exact this
  have su : SzP 4000 (unit i c) := fun a ha => by
    unfold unit at ha
    rw [List.mem_append, List.mem_replicate, List.mem_singleton] at ha
    rcases ha with ha | ha
    · rw [ha.2]; exact Sz0 3999
    · rw [ha]; exact sc.mono (by decide)
  have hlen := F.len
  have lu : (unit i c).length = i + 1 := by simp [unit]
  have r1 : ∀ S, binD .mul (eP [0]) (.int (i : Int)) S = some (eP (List.replicate i 0), S) := fun S => eP_rep (S := S) i (by omega)
  have r2 : ∀ S, binD .add (eP (List.replicate i 0)) (eP [c]) S = some (eP (unit i c), S) := fun S => eP_append _ _ (by simp [sizeLine]; omega)
  have r3 := fun k S => r_law_sum (cst := cst) (tb := tb) (k := k) (S := S) T.toLpT (F.bd.sz.mono (show 39 ≤ 4000 by decide)) su (by omega) (by omega)
  refine ⟨i, c, S2, hi', hc, s2, ?_⟩
  intros
  simp only [lb20, eF_zero, e1, r1, hl, e2, eP_sing, r2, r3, g_14, t_14, g_15, t_15, g_16, t_16, g_17, t_17, g_18, t_18, g_19, t_19, vK_some, e_var, e_lit, lit_non, lit_bl, lit_int, lit_str, e_glob, oneK_some, e_bin, bin1_some, bin2_some, d_add, d_sub, e_neg, negK_some, e_cmp, cmp1_some, cmp2_some, map_some2, c_lt, c_le, c_gt, c_ge, c_eqI, c_neI, c_eqS, c_neS, tK_some, notK_some, blK_some, e_not, e_and, e_or, t_not, t_and, t_or, t_cmp, t_call, t_blt, a_nil, a_cons, andK_t, andK_f, o_nil, o_cons, orK_t, orK_f, e_ite, iteK_t, iteK_f, s_nil, s_cons, es1_some, es2_some, e_tup, tupK0, tupK1, tupK2, tupK3, tupK4, tupK5, e_lst, lstK0, lstK1, e_call, calK_some, e_blt, bltK_some, b_gcd, b_abs, b_int, b_max, b_min, b_lenT, b_lenL, b_tupT, b_tupL, b_lstT, b_lstL, b_all, items_lst, items_ro, map_some3, e_idx, idx1_some, idx2_some, i_tup, i_loc, at_0, at_1, at_2, at_3, e_slice, slK_some, slK1_some, slK2_some, o_none, o_some, oK_some, sl_tup, sl_loc, e_rev, revK_some, rv_tup, rv_loc, e_pop, popK_some, e_comp, it_tup, it_loc, it_enumT, it_enumL, it_zipT, it_zipL, e_dict, B_nil, B_cons, seqK_nx, seqK_ret, seqK_brk, seqK_cont, S_asg, asgK_some, nxK_some, bd_nm, bd_tup, bd_nil, bd_cons, bdK_some, S_par, parK_some, sa_nil, sa_cons, S_setI, stK_some, stK1_some, stK2_some, nxS_some, S_app, appK2_some, S_popS, popSK_some, S_ret, retK_some, S_retN, S_pass, S_brk, S_cont, S_ite, ifK_t, ifK_f, forK_some, getA, getA0, setA, setA0, lenA, appA, catA, nilA, lenC, len0, g_0, t_0, g_1, t_1, g_2, t_2, g_3, t_3, g_4, t_4, g_5, t_5, g_6, t_6, g_7, t_7, g_8, t_8, g_9, t_9, g_10, t_10, g_11, t_11, g_12, t_12, g_13, t_13, bindS, S_whil, S_for, compK_some]
theorem unitBd {i : Nat} {c : Rat} (hi : i < 20) (hc : c ∈ ([1, -1 / 2] : List Rat)) : Bd 3 (unit i c) := by
  have h : ([1, -1 / 2] : List Rat).all (fun c => (List.range 20).all fun i => bdB 3 (unit i c)) = true := by decide +kernel
  exact Bd.of (List.all_eq_true.1 (List.all_eq_true.1 h c hc) i (List.mem_range.2 hi))
theorem s21 (T : K41 cst tb) {x0 x2 x4 x5 x6 x7 x8 x12 x13 x14 x15 x16 x17 x18 x19 : Option D} {n i : Nat} {t c : Rat} (hn : 1 ≤ n) (hn2 : n ≤ 20) (ht : t ∈ Ts) (hi : i < n) (hc : c ∈ ([1, -1 / 2] : List Rat)) :
    evS ⟨runF cst tb (k + 7), cst⟩ lb21 [x0, some (.loc 1), x2, some (eP (dk n t)), x4, x5, x6, x7, x8, some (eP (padd (dk n t) (unit i c))), some (.int (n : Int)), some (eF t), x12, x13, x14, x15, x16, x17, x18, x19] S = some (.nx [x0, some (.loc 1), x2, some (eP (dk n t)), x4, x5, x6, x7, x8, some (eP (padd (dk n t) (unit i c))), some (.int (n : Int)), some (eF t), x12, x13, x14, x15, x16, x17, x18, x19], S) := by
  have F := dkF ht hn (show n ≤ 21 by omega)
  have hlen := F.len
  have c0 : c ≠ 0 := by
    have h : ([1, -1 / 2] : List Rat).all (fun t => decide (t ≠ 0)) = true := by decide +kernel
    exact of_decide_eq_true (List.all_eq_true.1 h c hc)
  have bl := bent_len (c := c) F.len F.top hi
  have bw := bent_wave F.len F.top hi c0 F.wave
  have bb := Bd.add F.bd (unitBd (show i < 20 by omega) hc)
  have r1 := fun k S => r_wave_rest (cst := cst) (tb := tb) (k := k) (S := S) T.wa (Ts_sz ht) F.bd F.ne (by omega) (by omega)
  rw [F.wave] at r1
  have hneg : poften (-1) (dk n t) ≠ [] := fun z => by
    have := co_poften (-1) (dk n t) n
    rw [z, co_nil, F.top] at this
    exact absurd this (by decide +kernel)
  have ln := poften_len (-1) (dk n t)
  have r2 := fun k S => r_wave_rest (cst := cst) (tb := tb) (k := k) (S := S) T.wa (Ts_sz ht) F.bd.neg hneg (by omega) (by omega)
  rw [F.wave'] at r2
  have hbn : padd (dk n t) (unit i c) ≠ [] := fun z => by rw [z] at bl; cases bl
  have r3 := fun k S => r_wave_rest (cst := cst) (tb := tb) (k := k) (S := S) T.wa (Ts_sz ht) bb hbn (by omega) (by omega)
  have r4 := fun k S => r_law_often (cst := cst) (tb := tb) (k := k) (S := S) T.toLfT T.poly T.often (Sz_neg1.mono (show 1 ≤ 4000 by decide)) (F.bd.sz.mono (show 39 ≤ 4000 by decide)) (by omega)
  generalize hw : wrest (padd (dk n t) (unit i c)) t = w at r3 bw
  have hd : decide (w = []) = false := decide_eq_false bw
  simp only [lb21, eP_nil, eF_neg1, r1, r4, r2, r3, hd, c_neP, c_neS, c_neF, c_eqP, decide_true, Bool.not_true, Bool.not_false, g_14, t_14, g_15, t_15, g_16, t_16, g_17, t_17, g_18, t_18, g_19, t_19, vK_some, e_var, e_lit, lit_non, lit_bl, lit_int, lit_str, e_glob, oneK_some, e_bin, bin1_some, bin2_some, d_add, d_sub, e_neg, negK_some, e_cmp, cmp1_some, cmp2_some, map_some2, c_lt, c_le, c_gt, c_ge, c_eqI, c_neI, c_eqS, c_neS, tK_some, notK_some, blK_some, e_not, e_and, e_or, t_not, t_and, t_or, t_cmp, t_call, t_blt, a_nil, a_cons, andK_t, andK_f, o_nil, o_cons, orK_t, orK_f, e_ite, iteK_t, iteK_f, s_nil, s_cons, es1_some, es2_some, e_tup, tupK0, tupK1, tupK2, tupK3, tupK4, tupK5, e_lst, lstK0, lstK1, e_call, calK_some, e_blt, bltK_some, b_gcd, b_abs, b_int, b_max, b_min, b_lenT, b_lenL, b_tupT, b_tupL, b_lstT, b_lstL, b_all, items_lst, items_ro, map_some3, e_idx, idx1_some, idx2_some, i_tup, i_loc, at_0, at_1, at_2, at_3, e_slice, slK_some, slK1_some, slK2_some, o_none, o_some, oK_some, sl_tup, sl_loc, e_rev, revK_some, rv_tup, rv_loc, e_pop, popK_some, e_comp, it_tup, it_loc, it_enumT, it_enumL, it_zipT, it_zipL, e_dict, B_nil, B_cons, seqK_nx, seqK_ret, seqK_brk, seqK_cont, S_asg, asgK_some, nxK_some, bd_nm, bd_tup, bd_nil, bd_cons, bdK_some, S_par, parK_some, sa_nil, sa_cons, S_setI, stK_some, stK1_some, stK2_some, nxS_some, S_app, appK2_some, S_popS, popSK_some, S_ret, retK_some, S_retN, S_pass, S_brk, S_cont, S_ite, ifK_t, ifK_f, forK_some, getA, getA0, setA, setA0, lenA, appA, catA, nilA, lenC, len0, g_0, t_0, g_1, t_1, g_2, t_2, g_3, t_3, g_4, t_4, g_5, t_5, g_6, t_6, g_7, t_7, g_8, t_8, g_9, t_9, g_10, t_10, g_11, t_11, g_12, t_12, g_13, t_13, bindS, S_whil, S_for, compK_some]
theorem b_step {C : Cfg} {s : Sx} {r : List Sx} {ρ ρ' : En} {S S' : Sto} {z : Option (Out × Sto)} (h : evS C s ρ S = some (.nx ρ', S')) (h2 : evB C r ρ' S' = z) : evB C (s :: r) ρ S = z := by
  rw [B_cons, h]
  exact h2
/-- one turn of the law -/
theorem lap (T : K41 cst tb) {i : Nat} (hi : i < 4) (hS : SrcAt S 1 3) {ρ : En} (hρ : ∃ x0 x2 x3 x4 x5 x6 x7 x8 x9 x10 x11 x12 x13 x14 x15 x16 x17 x18 x19, ρ = [x0, some (.loc 1), x2, x3, x4, x5, x6, x7, x8, x9, x10, x11, x12, x13, x14, x15, x16, x17, x18, x19]) :
    ∃ ρ' S', forStep ⟨runF cst tb (k + 7), cst⟩ (.nm 2) lbody (.int (i : Int)) ρ S = some (.nx ρ', S') ∧ (∃ x0 x2 x3 x4 x5 x6 x7 x8 x9 x10 x11 x12 x13 x14 x15 x16 x17 x18 x19, ρ' = [x0, some (.loc 1), x2, x3, x4, x5, x6, x7, x8, x9, x10, x11, x12, x13, x14, x15, x16, x17, x18, x19]) ∧ SrcAt S' 1 3 := by
  obtain ⟨x0, x2, x3, x4, x5, x6, x7, x8, x9, x10, x11, x12, x13, x14, x15, x16, x17, x18, x19, rfl⟩ := hρ
  obtain ⟨n, t, S1, hn, hn2, ht, h1, e1⟩ := s1 (k := k) T (S := S) hi hS
  obtain ⟨y, S2, hy, h2, e2⟩ := s4 (k := k) T (S := S1) h1
  obtain ⟨m, l, S3, hm, hm2, hl, hl2, h3, e3⟩ := s8 (k := k) T (S := S2) h2
  obtain ⟨S4, h4, e4⟩ := s11 (k := k) T (S := S3) hm hm2 hl hl2 ht h3
  have F := dkF ht hn (show n ≤ 21 by omega)
  obtain ⟨z, w, e5⟩ := s17 (k := k) T (S := S4) (f := dk n t) (y := y) F.bd (by rw [F.len]; omega) hy (x0 := x0) (x2 := some (.int (i : Int))) (x5 := some (eF (t * (1 / y)))) (x6 := some (.tup [.tup [eP (dk m (t ^ l)), eP (dk l t)], .tup [eP (dk l (t ^ m)), eP (dk m t)]])) (x7 := x7) (x8 := x8) (x9 := x9) (x10 := some (.int (n : Int))) (x11 := some (eF t)) (x12 := some (.int (m : Int))) (x13 := some (.int (l : Int))) (x14 := some (eP (dk m (t ^ l)))) (x15 := some (eP (dk l t))) (x16 := some (.tup [eP (dk m (t ^ l)), eP (dk l t)])) (x17 := some (.tup [eP (dk l (t ^ m)), eP (dk m t)]))
  obtain ⟨j, c, S5, hj, hc, h5, e6⟩ := s20 (k := k) T (S := S4 ++ [.lst ((szd y (dk n t) 1).map eF)]) hn hn2 ht (h4.app _)
  have hb : bind1 (.nm 2) (.int (i : Int)) [x0, some (.loc 1), x2, x3, x4, x5, x6, x7, x8, x9, x10, x11, x12, x13, x14, x15, x16, x17, x18, x19] = some [x0, some (.loc 1), some (.int (i : Int)), x3, x4, x5, x6, x7, x8, x9, x10, x11, x12, x13, x14, x15, x16, x17, x18, x19] := by simp only [g_14, t_14, g_15, t_15, g_16, t_16, g_17, t_17, g_18, t_18, g_19, t_19, vK_some, e_var, e_lit, lit_non, lit_bl, lit_int, lit_str, e_glob, oneK_some, e_bin, bin1_some, bin2_some, d_add, d_sub, e_neg, negK_some, e_cmp, cmp1_some, cmp2_some, map_some2, c_lt, c_le, c_gt, c_ge, c_eqI, c_neI, c_eqS, c_neS, tK_some, notK_some, blK_some, e_not, e_and, e_or, t_not, t_and, t_or, t_cmp, t_call, t_blt, a_nil, a_cons, andK_t, andK_f, o_nil, o_cons, orK_t, orK_f, e_ite, iteK_t, iteK_f, s_nil, s_cons, es1_some, es2_some, e_tup, tupK0, tupK1, tupK2, tupK3, tupK4, tupK5, e_lst, lstK0, lstK1, e_call, calK_some, e_blt, bltK_some, b_gcd, b_abs, b_int, b_max, b_min, b_lenT, b_lenL, b_tupT, b_tupL, b_lstT, b_lstL, b_all, items_lst, items_ro, map_some3, e_idx, idx1_some, idx2_some, i_tup, i_loc, at_0, at_1, at_2, at_3, e_slice, slK_some, slK1_some, slK2_some, o_none, o_some, oK_some, sl_tup, sl_loc, e_rev, revK_some, rv_tup, rv_loc, e_pop, popK_some, e_comp, it_tup, it_loc, it_enumT, it_enumL, it_zipT, it_zipL, e_dict, B_nil, B_cons, seqK_nx, seqK_ret, seqK_brk, seqK_cont, S_asg, asgK_some, nxK_some, bd_nm, bd_tup, bd_nil, bd_cons, bdK_some, S_par, parK_some, sa_nil, sa_cons, S_setI, stK_some, stK1_some, stK2_some, nxS_some, S_app, appK2_some, S_popS, popSK_some, S_ret, retK_some, S_retN, S_pass, S_brk, S_cont, S_ite, ifK_t, ifK_f, forK_some, getA, getA0, setA, setA0, lenA, appA, catA, nilA, lenC, len0, g_0, t_0, g_1, t_1, g_2, t_2, g_3, t_3, g_4, t_4, g_5, t_5, g_6, t_6, g_7, t_7, g_8, t_8, g_9, t_9, g_10, t_10, g_11, t_11, g_12, t_12, g_13, t_13, bindS, S_whil, S_for, compK_some]
  obtain ⟨ρ', hh, hsh⟩ : ∃ ρ', evB ⟨runF cst tb (k + 7), cst⟩ lbody [x0, some (.loc 1), some (.int (i : Int)), x3, x4, x5, x6, x7, x8, x9, x10, x11, x12, x13, x14, x15, x16, x17, x18, x19] S = some (.nx ρ', S5) ∧ ∃ x0 x2 x3 x4 x5 x6 x7 x8 x9 x10 x11 x12 x13 x14 x15 x16 x17 x18 x19, ρ' = [x0, some (.loc 1), x2, x3, x4, x5, x6, x7, x8, x9, x10, x11, x12, x13, x14, x15, x16, x17, x18, x19] :=
    ⟨_, b_step e1 (b_step (s2 T hn hn2 ht) (b_step (s3 T hn hn2 ht) (b_step e2 (b_step (s5 T ht hy) (b_step (s6 T hn hn2 ht hy) (b_step (s7 T hn hn2 ht hy) (b_step e3 (b_step (s9 T hm hm2 hl hl2 ht) (b_step (s10 T hm hm2 hl hl2 ht) (b_step e4 (b_step (s12 T hm hm2 hl hl2 ht) (b_step (s13 T hm hm2 hl hl2 ht) (b_step (s14 T hm hm2 hl hl2 ht) (b_step (s15 T hm hm2 hl hl2 ht) (b_step (s16 T) (b_step e5 (b_step (s18 T hn hn2 ht hy) (b_step (s19 T hn hn2 ht hy (getA0 ..)) (b_step e6 (b_step (s21 T hn hn2 ht hj hc) B_nil)))))))))))))))))))), _, _, _, _, _, _, _, _, _, _, _, _, _, _, _, _, _, _, _, rfl⟩
  refine ⟨ρ', S5, ?_, hsh, h5⟩
  unfold forStep
  rw [hb, Option.bind_some]
  exact hh
/-- the law holds at every script -/
theorem law41 (T : K41 cst tb) (ns : List Int) (hns : ns.length < 1000000) : ∃ S', runF cst tb (k + 8) "law" [.loc 0] [.ro (ns.map D.int)] = some (.bl true, S') := by
  obtain ⟨S1, e1, h1, _, _⟩ := r_law_source (cst := cst) (tb := tb) (k := k + 6) (S := [.ro (ns.map D.int)]) (n := 0) (ns := ns) T.source rfl hns
  have e1' : runF cst tb (k + 7) "_law_source" [.loc 0] [.ro (ns.map D.int)] = some (.loc 1, S1) := e1
  have h1' : SrcAt S1 1 3 := h1
  obtain ⟨ρ', S2, e2, hI⟩ := for_inv (L := []) (S0 := S1) (step := forStep ⟨runF cst tb (k + 7), cst⟩ (.nm 2) lbody) (fun i ρ S => (∃ x0 x2 x3 x4 x5 x6 x7 x8 x9 x10 x11 x12 x13 x14 x15 x16 x17 x18 x19, ρ = [x0, some (.loc 1), x2, x3, x4, x5, x6, x7, x8, x9, x10, x11, x12, x13, x14, x15, x16, x17, x18, x19]) ∧ SrcAt S 1 3) (xs := (List.range 4).map fun i => D.int (i : Nat)) (S := S1) (ρ := [some (.loc 0), some (.loc 1), none, none, none, none, none, none, none, none, none, none, none, none, none, none, none, none, none, none]) ⟨⟨_, _, _, _, _, _, _, _, _, _, _, _, _, _, _, _, _, _, _, rfl⟩, h1'⟩ (fun i x ρ S e q => by
    obtain ⟨hi, rfl⟩ := rng_get e
    obtain ⟨ρ', S', a1, a2, a3⟩ := lap (k := k) T hi q.2 q.1
    exact ⟨ρ', S', a1, by simp, a2, a3⟩)
  obtain ⟨⟨x0, x2, x3, x4, x5, x6, x7, x8, x9, x10, x11, x12, x13, x14, x15, x16, x17, x18, x19, rfl⟩, h2⟩ := hI
  have d0 : DkB 39 0 5 := fun i hi => by
    match i, hi with
    | 0, _ => exact dk0 _
    | 1, _ => exact ⟨show Bd 39 [0, 1] from Bd_X.mono (by decide), show 2 < 900 by decide⟩
  have r0 : ∀ (k : Nat) (S : Sto), runF cst tb (k + 6) "dickson" [.int 0, eF 5] S = some (eP [2], S) := fun k S => r_dickson (cst := cst) (tb := tb) (k := k) (S := S) T.toDcT (n := 0) (t := 5) (C := 3) ⟨by decide, by decide⟩ d0 (by decide) (by decide)
  have h1m : (1 : Rat) ∈ Ts := by simp [Ts]
  have e4 : dk 4 1 = [2, 0, -4, 0, 1] := by decide +kernel
  have r4 : ∀ (k : Nat) (S : Sto), runF cst tb (k + 6) "dickson" [.int 4, eF 1] S = some (eP [2, 0, -4, 0, 1], S) := fun k S => by
    rw [← e4]
    exact r_dickson (cst := cst) (tb := tb) (k := k) (S := S) T.toDcT (n := 4) (t := 1) (C := 3) (Ts_sz h1m) ((dkB h1m).mono (by decide)) (by decide) (by decide)
  have f5 : (.tup [.int 5, .int 1] : D) = eF 5 := rfl
  have p2 : (.tup [.tup [.int 2, .int 1]] : D) = eP [2] := rfl
  have p4 : (.tup [.tup [.int 2, .int 1], eF 0, .tup [.int (-4), .int 1], eF 0, eF 1] : D) = eP [2, 0, -4, 0, 1] := rfl
  have hr : iterD .rng [.int 4] S1 = some ((List.range 4).map fun i => D.int (i : Nat), []) := it_rng 4 (by decide)
  have hfin : evB ⟨runF cst tb (k + 7), cst⟩ d_law.body ([.loc 0].map some ++ List.replicate (d_law.nl - d_law.np) none) [.ro (ns.map D.int)] = some (.ret (.bl true), S2) := by
    rw [d_law_eq]
    simp only [List.map, List.replicate, Nat.reduceSub, List.cons_append, List.nil_append, e1', hr, forI_some, e2, eF_one, eF_zero, f5, r0, r4, p2, p4, c_neP, c_neS, c_neF, c_eqP, decide_true, Bool.not_true, Bool.not_false, g_14, t_14, g_15, t_15, g_16, t_16, g_17, t_17, g_18, t_18, g_19, t_19, vK_some, e_var, e_lit, lit_non, lit_bl, lit_int, lit_str, e_glob, oneK_some, e_bin, bin1_some, bin2_some, d_add, d_sub, e_neg, negK_some, e_cmp, cmp1_some, cmp2_some, map_some2, c_lt, c_le, c_gt, c_ge, c_eqI, c_neI, c_eqS, c_neS, tK_some, notK_some, blK_some, e_not, e_and, e_or, t_not, t_and, t_or, t_cmp, t_call, t_blt, a_nil, a_cons, andK_t, andK_f, o_nil, o_cons, orK_t, orK_f, e_ite, iteK_t, iteK_f, s_nil, s_cons, es1_some, es2_some, e_tup, tupK0, tupK1, tupK2, tupK3, tupK4, tupK5, e_lst, lstK0, lstK1, e_call, calK_some, e_blt, bltK_some, b_gcd, b_abs, b_int, b_max, b_min, b_lenT, b_lenL, b_tupT, b_tupL, b_lstT, b_lstL, b_all, items_lst, items_ro, map_some3, e_idx, idx1_some, idx2_some, i_tup, i_loc, at_0, at_1, at_2, at_3, e_slice, slK_some, slK1_some, slK2_some, o_none, o_some, oK_some, sl_tup, sl_loc, e_rev, revK_some, rv_tup, rv_loc, e_pop, popK_some, e_comp, it_tup, it_loc, it_enumT, it_enumL, it_zipT, it_zipL, e_dict, B_nil, B_cons, seqK_nx, seqK_ret, seqK_brk, seqK_cont, S_asg, asgK_some, nxK_some, bd_nm, bd_tup, bd_nil, bd_cons, bdK_some, S_par, parK_some, sa_nil, sa_cons, S_setI, stK_some, stK1_some, stK2_some, nxS_some, S_app, appK2_some, S_popS, popSK_some, S_ret, retK_some, S_retN, S_pass, S_brk, S_cont, S_ite, ifK_t, ifK_f, forK_some, getA, getA0, setA, setA0, lenA, appA, catA, nilA, lenC, len0, g_0, t_0, g_1, t_1, g_2, t_2, g_3, t_3, g_4, t_4, g_5, t_5, g_6, t_6, g_7, t_7, g_8, t_8, g_9, t_9, g_10, t_10, g_11, t_11, g_12, t_12, g_13, t_13, bindS, S_whil, S_for, compK_some]
  rw [runF, T.law, Option.bind_some, if_pos (show [D.loc 0].length = d_law.np from rfl), hfin, Option.bind_some]
  simp only [retD]
  split
  · exact ⟨_, rfl⟩
  · exact ⟨_, rfl⟩
end
end Pf.Z

namespace F41
open PySem PySem.Spec PyProof.Rows L2 Pf Pf.Z
def topS (i : Nat) : Stmt := PySem.Challenge.pw_putwithin_k41_whole_dicksons_numbers.main.body.getD i (.Pass ⟨0, 0, 0, 0⟩)
def tl : List (Str × FD) := ("common_divisor", d_common_divisor) :: ("fraction_of", d_fraction_of) :: ("fraction_sum", d_fraction_sum) :: ("fraction_times", d_fraction_times) :: ("fraction_by", d_fraction_by) :: ("fraction_power", d_fraction_power) :: ("poly_of", d_poly_of) :: ("flat_of", d_flat_of) :: ("number_at", d_number_at) :: ("poly_sum", d_poly_sum) :: ("poly_often", d_poly_often) :: ("poly_less", d_poly_less) :: ("whole_numbers", d_whole_numbers) :: ("poly_times", d_poly_times) :: ("poly_power", d_poly_power) :: ("poly_within", d_poly_within) :: ("poly_divided", d_poly_divided) :: ("poly_at", d_poly_at) :: ("slope_of", d_slope_of) :: ("normal_of", d_normal_of) :: ("dickson", d_dickson) :: ("dickson_normal", d_dickson_normal) :: ("exchanged_steps", d_exchanged_steps) :: ("digits_of", d_digits_of) :: ("is_flat", d_is_flat) :: ("are_fraction_digits", d_are_fraction_digits) :: ("outer_part", d_outer_part) :: ("wave_rest", d_wave_rest) :: ("_law_source", d__law_source) :: ("_law_pick", d__law_pick) :: ("_law_of", d__law_of) :: ("_law_low", d__law_low) :: ("_law_plus", d__law_plus) :: ("_law_by", d__law_by) :: ("_law_poly", d__law_poly) :: ("_law_sum", d__law_sum) :: ("_law_often", d__law_often) :: ("_law_product", d__law_product) :: ("_law_within", d__law_within) :: ("_law_normal_of", d__law_normal_of) :: ("_law_to", d__law_to) :: ("_law_choose", d__law_choose) :: ("_law_dickson", d__law_dickson) :: ("_law_told_t", d__law_told_t) :: ("_law_at", d__law_at) :: ("law", d_law) :: []
def cs : List (Str × D) := [("X", .tup [.tup [.int 0, .int 1], .tup [.int 1, .int 1]]), ("NONE", .tup [.int 0, .int 1]), ("ONE", .tup [.int 1, .int 1])]
def gi : GI := ⟨"common_divisor" :: "fraction_of" :: "fraction_sum" :: "fraction_times" :: "fraction_by" :: "fraction_power" :: "poly_of" :: "flat_of" :: "number_at" :: "poly_sum" :: "poly_often" :: "poly_less" :: "whole_numbers" :: "poly_times" :: "poly_power" :: "poly_within" :: "poly_divided" :: "poly_at" :: "slope_of" :: "normal_of" :: "dickson" :: "dickson_normal" :: "exchanged_steps" :: "digits_of" :: "is_flat" :: "are_fraction_digits" :: "outer_part" :: "wave_rest" :: "_law_source" :: "_law_pick" :: "_law_of" :: "_law_low" :: "_law_plus" :: "_law_by" :: "_law_poly" :: "_law_sum" :: "_law_often" :: "_law_product" :: "_law_within" :: "_law_normal_of" :: "_law_to" :: "_law_choose" :: "_law_dickson" :: "_law_told_t" :: "_law_at" :: "law" :: [], ["X", "NONE", "ONE"], ["range", "repr", "tuple", "int", "max", "len", "list", "zip", "abs", "gcd", "enumerate", "all"]⟩
def cst : Str → Option D := fun x => cs.lookup x
def tb : Str → Option FD := fun x => tl.lookup x
theorem tx_common_divisor : TxOk gi "common_divisor" d_common_divisor (topS 2) ["one", "other"] ["one", "other"] := ⟨⟨rfl, rfl, rfl, by decide +kernel, rfl, by decide +kernel, by decide +kernel⟩, rfl, rfl, fun _ _ _ _ _ _ us hl => match us, hl with | [_, _], _ => rfl, ⟨300, by kernel_rfl⟩⟩
theorem tx_fraction_of : TxOk gi "fraction_of" d_fraction_of (topS 3) ["p", "q", "by"] ["p", "q"] := ⟨⟨rfl, rfl, rfl, by decide +kernel, rfl, by decide +kernel, by decide +kernel⟩, rfl, rfl, fun _ _ _ _ _ _ us hl => match us, hl with | [_, _], _ => rfl, ⟨300, by kernel_rfl⟩⟩
theorem tx_fraction_sum : TxOk gi "fraction_sum" d_fraction_sum (topS 4) ["one", "other"] ["one", "other"] := ⟨⟨rfl, rfl, rfl, by decide +kernel, rfl, by decide +kernel, by decide +kernel⟩, rfl, rfl, fun _ _ _ _ _ _ us hl => match us, hl with | [_, _], _ => rfl, ⟨300, by kernel_rfl⟩⟩
theorem tx_fraction_times : TxOk gi "fraction_times" d_fraction_times (topS 5) ["one", "other"] ["one", "other"] := ⟨⟨rfl, rfl, rfl, by decide +kernel, rfl, by decide +kernel, by decide +kernel⟩, rfl, rfl, fun _ _ _ _ _ _ us hl => match us, hl with | [_, _], _ => rfl, ⟨300, by kernel_rfl⟩⟩
theorem tx_fraction_by : TxOk gi "fraction_by" d_fraction_by (topS 6) ["one", "other"] ["one", "other"] := ⟨⟨rfl, rfl, rfl, by decide +kernel, rfl, by decide +kernel, by decide +kernel⟩, rfl, rfl, fun _ _ _ _ _ _ us hl => match us, hl with | [_, _], _ => rfl, ⟨300, by kernel_rfl⟩⟩
theorem tx_fraction_power : TxOk gi "fraction_power" d_fraction_power (topS 7) ["one", "k", "found", "turn"] ["one", "k"] := ⟨⟨rfl, rfl, rfl, by decide +kernel, rfl, by decide +kernel, by decide +kernel⟩, rfl, rfl, fun _ _ _ _ _ _ us hl => match us, hl with | [_, _], _ => rfl, ⟨300, by kernel_rfl⟩⟩
theorem tx_poly_of : TxOk gi "poly_of" d_poly_of (topS 12) ["numbers", "found"] ["numbers"] := ⟨⟨rfl, rfl, rfl, by decide +kernel, rfl, by decide +kernel, by decide +kernel⟩, rfl, rfl, fun _ _ _ _ _ _ us hl => match us, hl with | [_], _ => rfl, ⟨300, by kernel_rfl⟩⟩
theorem tx_flat_of : TxOk gi "flat_of" d_flat_of (topS 13) ["c"] ["c"] := ⟨⟨rfl, rfl, rfl, by decide +kernel, rfl, by decide +kernel, by decide +kernel⟩, rfl, rfl, fun _ _ _ _ _ _ us hl => match us, hl with | [_], _ => rfl, ⟨300, by kernel_rfl⟩⟩
theorem tx_number_at : TxOk gi "number_at" d_number_at (topS 14) ["f", "i"] ["f", "i"] := ⟨⟨rfl, rfl, rfl, by decide +kernel, rfl, by decide +kernel, by decide +kernel⟩, rfl, rfl, fun _ _ _ _ _ _ us hl => match us, hl with | [_, _], _ => rfl, ⟨300, by kernel_rfl⟩⟩
theorem tx_poly_sum : TxOk gi "poly_sum" d_poly_sum (topS 15) ["f", "g", "i"] ["f", "g"] := ⟨⟨rfl, rfl, rfl, by decide +kernel, rfl, by decide +kernel, by decide +kernel⟩, rfl, rfl, fun _ _ _ _ _ _ us hl => match us, hl with | [_, _], _ => rfl, ⟨300, by kernel_rfl⟩⟩
theorem tx_poly_often : TxOk gi "poly_often" d_poly_often (topS 16) ["c", "f", "a"] ["c", "f"] := ⟨⟨rfl, rfl, rfl, by decide +kernel, rfl, by decide +kernel, by decide +kernel⟩, rfl, rfl, fun _ _ _ _ _ _ us hl => match us, hl with | [_, _], _ => rfl, ⟨300, by kernel_rfl⟩⟩
theorem tx_poly_less : TxOk gi "poly_less" d_poly_less (topS 17) ["f", "g"] ["f", "g"] := ⟨⟨rfl, rfl, rfl, by decide +kernel, rfl, by decide +kernel, by decide +kernel⟩, rfl, rfl, fun _ _ _ _ _ _ us hl => match us, hl with | [_, _], _ => rfl, ⟨300, by kernel_rfl⟩⟩
theorem tx_whole_numbers : TxOk gi "whole_numbers" d_whole_numbers (topS 18) ["f", "bottom", "p", "q"] ["f"] := ⟨⟨rfl, rfl, rfl, by decide +kernel, rfl, by decide +kernel, by decide +kernel⟩, rfl, rfl, fun _ _ _ _ _ _ us hl => match us, hl with | [_], _ => rfl, ⟨300, by kernel_rfl⟩⟩
theorem tx_poly_times : TxOk gi "poly_times" d_poly_times (topS 19) ["f", "g", "found", "i", "a", "one", "some", "other", "late", "j", "b"] ["f", "g"] := ⟨⟨rfl, rfl, rfl, by decide +kernel, rfl, by decide +kernel, by decide +kernel⟩, rfl, rfl, fun _ _ _ _ _ _ us hl => match us, hl with | [_, _], _ => rfl, ⟨300, by kernel_rfl⟩⟩
theorem tx_poly_power : TxOk gi "poly_power" d_poly_power (topS 20) ["f", "k", "found", "turn"] ["f", "k"] := ⟨⟨rfl, rfl, rfl, by decide +kernel, rfl, by decide +kernel, by decide +kernel⟩, rfl, rfl, fun _ _ _ _ _ _ us hl => match us, hl with | [_, _], _ => rfl, ⟨300, by kernel_rfl⟩⟩
theorem tx_poly_within : TxOk gi "poly_within" d_poly_within (topS 21) ["g", "h", "found", "c"] ["g", "h"] := ⟨⟨rfl, rfl, rfl, by decide +kernel, rfl, by decide +kernel, by decide +kernel⟩, rfl, rfl, fun _ _ _ _ _ _ us hl => match us, hl with | [_, _], _ => rfl, ⟨300, by kernel_rfl⟩⟩
theorem tx_poly_divided : TxOk gi "poly_divided" d_poly_divided (topS 22) ["f", "h", "k", "rest", "found", "often", "i", "a"] ["f", "h"] := ⟨⟨rfl, rfl, rfl, by decide +kernel, rfl, by decide +kernel, by decide +kernel⟩, rfl, rfl, fun _ _ _ _ _ _ us hl => match us, hl with | [_, _], _ => rfl, ⟨300, by kernel_rfl⟩⟩
theorem tx_poly_at : TxOk gi "poly_at" d_poly_at (topS 23) ["f", "c", "found", "a"] ["f", "c"] := ⟨⟨rfl, rfl, rfl, by decide +kernel, rfl, by decide +kernel, by decide +kernel⟩, rfl, rfl, fun _ _ _ _ _ _ us hl => match us, hl with | [_, _], _ => rfl, ⟨300, by kernel_rfl⟩⟩
theorem tx_slope_of : TxOk gi "slope_of" d_slope_of (topS 24) ["f", "i"] ["f"] := ⟨⟨rfl, rfl, rfl, by decide +kernel, rfl, by decide +kernel, by decide +kernel⟩, rfl, rfl, fun _ _ _ _ _ _ us hl => match us, hl with | [_], _ => rfl, ⟨300, by kernel_rfl⟩⟩
theorem tx_normal_of : TxOk gi "normal_of" d_normal_of (topS 26) ["f", "c", "b"] ["f"] := ⟨⟨rfl, rfl, rfl, by decide +kernel, rfl, by decide +kernel, by decide +kernel⟩, rfl, rfl, fun _ _ _ _ _ _ us hl => match us, hl with | [_], _ => rfl, ⟨300, by kernel_rfl⟩⟩
theorem tx_dickson : TxOk gi "dickson" d_dickson (topS 28) ["n", "t", "turn", "here", "late"] ["n", "t"] := ⟨⟨rfl, rfl, rfl, by decide +kernel, rfl, by decide +kernel, by decide +kernel⟩, rfl, rfl, fun _ _ _ _ _ _ us hl => match us, hl with | [_, _], _ => rfl, ⟨300, by kernel_rfl⟩⟩
theorem tx_dickson_normal : TxOk gi "dickson_normal" d_dickson_normal (topS 29) ["n", "t"] ["n", "t"] := ⟨⟨rfl, rfl, rfl, by decide +kernel, rfl, by decide +kernel, by decide +kernel⟩, rfl, rfl, fun _ _ _ _ _ _ us hl => match us, hl with | [_, _], _ => rfl, ⟨300, by kernel_rfl⟩⟩
theorem tx_exchanged_steps : TxOk gi "exchanged_steps" d_exchanged_steps (topS 30) ["a", "b", "t", "one"] ["a", "b", "t"] := ⟨⟨rfl, rfl, rfl, by decide +kernel, rfl, by decide +kernel, by decide +kernel⟩, rfl, rfl, fun _ _ _ _ _ _ us hl => match us, hl with | [_, _, _], _ => rfl, ⟨300, by kernel_rfl⟩⟩
theorem tx_digits_of : TxOk gi "digits_of" d_digits_of (topS 32) ["f", "h", "found", "rest"] ["f", "h"] := ⟨⟨rfl, rfl, rfl, by decide +kernel, rfl, by decide +kernel, by decide +kernel⟩, rfl, rfl, fun _ _ _ _ _ _ us hl => match us, hl with | [_, _], _ => rfl, ⟨300, by kernel_rfl⟩⟩
theorem tx_is_flat : TxOk gi "is_flat" d_is_flat (topS 33) ["f"] ["f"] := ⟨⟨rfl, rfl, rfl, by decide +kernel, rfl, by decide +kernel, by decide +kernel⟩, rfl, rfl, fun _ _ _ _ _ _ us hl => match us, hl with | [_], _ => rfl, ⟨300, by kernel_rfl⟩⟩
theorem tx_are_fraction_digits : TxOk gi "are_fraction_digits" d_are_fraction_digits (topS 34) ["digits", "digit"] ["digits"] := ⟨⟨rfl, rfl, rfl, by decide +kernel, rfl, by decide +kernel, by decide +kernel⟩, rfl, rfl, fun _ _ _ _ _ _ us hl => match us, hl with | [_], _ => rfl, ⟨300, by kernel_rfl⟩⟩
theorem tx_outer_part : TxOk gi "outer_part" d_outer_part (topS 35) ["f", "h", "digits", "digit"] ["f", "h"] := ⟨⟨rfl, rfl, rfl, by decide +kernel, rfl, by decide +kernel, by decide +kernel⟩, rfl, rfl, fun _ _ _ _ _ _ us hl => match us, hl with | [_, _], _ => rfl, ⟨300, by kernel_rfl⟩⟩
theorem tx_wave_rest : TxOk gi "wave_rest" d_wave_rest (topS 37) ["f", "t", "round_one", "far", "late", "n", "slope"] ["f", "t"] := ⟨⟨rfl, rfl, rfl, by decide +kernel, rfl, by decide +kernel, by decide +kernel⟩, rfl, rfl, fun _ _ _ _ _ _ us hl => match us, hl with | [_, _], _ => rfl, ⟨300, by kernel_rfl⟩⟩
theorem tx__law_source : TxOk gi "_law_source" d__law_source (topS 39) ["script", "mixed", "cell"] ["script"] := ⟨⟨rfl, rfl, rfl, by decide +kernel, rfl, by decide +kernel, by decide +kernel⟩, rfl, rfl, fun _ _ _ _ _ _ us hl => match us, hl with | [_], _ => rfl, ⟨300, by kernel_rfl⟩⟩
theorem tx__law_pick : TxOk gi "_law_pick" d__law_pick (topS 40) ["source", "many", "left", "mixed"] ["source", "many"] := ⟨⟨rfl, rfl, rfl, by decide +kernel, rfl, by decide +kernel, by decide +kernel⟩, rfl, rfl, fun _ _ _ _ _ _ us hl => match us, hl with | [_, _], _ => rfl, ⟨300, by kernel_rfl⟩⟩
theorem tx__law_of : TxOk gi "_law_of" d__law_of (topS 41) ["source", "some"] ["source", "some"] := ⟨⟨rfl, rfl, rfl, by decide +kernel, rfl, by decide +kernel, by decide +kernel⟩, rfl, rfl, fun _ _ _ _ _ _ us hl => match us, hl with | [_, _], _ => rfl, ⟨300, by kernel_rfl⟩⟩
theorem tx__law_low : TxOk gi "_law_low" d__law_low (topS 42) ["p", "q", "a", "b"] ["p", "q"] := ⟨⟨rfl, rfl, rfl, by decide +kernel, rfl, by decide +kernel, by decide +kernel⟩, rfl, rfl, fun _ _ _ _ _ _ us hl => match us, hl with | [_, _], _ => rfl, ⟨300, by kernel_rfl⟩⟩
theorem tx__law_plus : TxOk gi "_law_plus" d__law_plus (topS 43) ["one", "other"] ["one", "other"] := ⟨⟨rfl, rfl, rfl, by decide +kernel, rfl, by decide +kernel, by decide +kernel⟩, rfl, rfl, fun _ _ _ _ _ _ us hl => match us, hl with | [_, _], _ => rfl, ⟨300, by kernel_rfl⟩⟩
theorem tx__law_by : TxOk gi "_law_by" d__law_by (topS 44) ["one", "other"] ["one", "other"] := ⟨⟨rfl, rfl, rfl, by decide +kernel, rfl, by decide +kernel, by decide +kernel⟩, rfl, rfl, fun _ _ _ _ _ _ us hl => match us, hl with | [_, _], _ => rfl, ⟨300, by kernel_rfl⟩⟩
theorem tx__law_poly : TxOk gi "_law_poly" d__law_poly (topS 45) ["numbers", "found"] ["numbers"] := ⟨⟨rfl, rfl, rfl, by decide +kernel, rfl, by decide +kernel, by decide +kernel⟩, rfl, rfl, fun _ _ _ _ _ _ us hl => match us, hl with | [_], _ => rfl, ⟨300, by kernel_rfl⟩⟩
theorem tx__law_sum : TxOk gi "_law_sum" d__law_sum (topS 46) ["f", "g", "many", "one", "other", "a", "b"] ["f", "g"] := ⟨⟨rfl, rfl, rfl, by decide +kernel, rfl, by decide +kernel, by decide +kernel⟩, rfl, rfl, fun _ _ _ _ _ _ us hl => match us, hl with | [_, _], _ => rfl, ⟨300, by kernel_rfl⟩⟩
theorem tx__law_often : TxOk gi "_law_often" d__law_often (topS 47) ["c", "f", "a"] ["c", "f"] := ⟨⟨rfl, rfl, rfl, by decide +kernel, rfl, by decide +kernel, by decide +kernel⟩, rfl, rfl, fun _ _ _ _ _ _ us hl => match us, hl with | [_, _], _ => rfl, ⟨300, by kernel_rfl⟩⟩
theorem tx__law_product : TxOk gi "_law_product" d__law_product (topS 48) ["f", "g", "found", "i", "a", "j", "b"] ["f", "g"] := ⟨⟨rfl, rfl, rfl, by decide +kernel, rfl, by decide +kernel, by decide +kernel⟩, rfl, rfl, fun _ _ _ _ _ _ us hl => match us, hl with | [_, _], _ => rfl, ⟨300, by kernel_rfl⟩⟩
theorem tx__law_within : TxOk gi "_law_within" d__law_within (topS 49) ["g", "h", "c", "found", "power"] ["g", "h"] := ⟨⟨rfl, rfl, rfl, by decide +kernel, rfl, by decide +kernel, by decide +kernel⟩, rfl, rfl, fun _ _ _ _ _ _ us hl => match us, hl with | [_, _], _ => rfl, ⟨300, by kernel_rfl⟩⟩
theorem tx__law_normal_of : TxOk gi "_law_normal_of" d__law_normal_of (topS 50) ["f", "low", "c", "b"] ["f"] := ⟨⟨rfl, rfl, rfl, by decide +kernel, rfl, by decide +kernel, by decide +kernel⟩, rfl, rfl, fun _ _ _ _ _ _ us hl => match us, hl with | [_], _ => rfl, ⟨300, by kernel_rfl⟩⟩
theorem tx__law_to : TxOk gi "_law_to" d__law_to (topS 51) ["c", "k", "found", "turn"] ["c", "k"] := ⟨⟨rfl, rfl, rfl, by decide +kernel, rfl, by decide +kernel, by decide +kernel⟩, rfl, rfl, fun _ _ _ _ _ _ us hl => match us, hl with | [_, _], _ => rfl, ⟨300, by kernel_rfl⟩⟩
theorem tx__law_choose : TxOk gi "_law_choose" d__law_choose (topS 52) ["n", "k", "found", "i"] ["n", "k"] := ⟨⟨rfl, rfl, rfl, by decide +kernel, rfl, by decide +kernel, by decide +kernel⟩, rfl, rfl, fun _ _ _ _ _ _ us hl => match us, hl with | [_, _], _ => rfl, ⟨300, by kernel_rfl⟩⟩
theorem tx__law_dickson : TxOk gi "_law_dickson" d__law_dickson (topS 53) ["n", "t", "i", "found", "low"] ["n", "t"] := ⟨⟨rfl, rfl, rfl, by decide +kernel, rfl, by decide +kernel, by decide +kernel⟩, rfl, rfl, fun _ _ _ _ _ _ us hl => match us, hl with | [_, _], _ => rfl, ⟨300, by kernel_rfl⟩⟩
theorem tx__law_told_t : TxOk gi "_law_told_t" d__law_told_t (topS 54) ["source"] ["source"] := ⟨⟨rfl, rfl, rfl, by decide +kernel, rfl, by decide +kernel, by decide +kernel⟩, rfl, rfl, fun _ _ _ _ _ _ us hl => match us, hl with | [_], _ => rfl, ⟨300, by kernel_rfl⟩⟩
theorem tx__law_at : TxOk gi "_law_at" d__law_at (topS 55) ["f", "x", "c", "found", "power"] ["f", "x"] := ⟨⟨rfl, rfl, rfl, by decide +kernel, rfl, by decide +kernel, by decide +kernel⟩, rfl, rfl, fun _ _ _ _ _ _ us hl => match us, hl with | [_, _], _ => rfl, ⟨300, by kernel_rfl⟩⟩
theorem tx_law : TxOk gi "law" d_law (topS 56) ["script", "source", "lap", "f", "y", "late", "due", "c", "small", "bent", "n", "t", "m", "k", "upper", "lower", "one", "other", "sized", "power"] ["script"] := ⟨⟨rfl, rfl, rfl, by decide +kernel, rfl, by decide +kernel, by decide +kernel⟩, rfl, rfl, fun _ _ _ _ _ _ us hl => match us, hl with | [_], _ => rfl, ⟨300, by kernel_rfl⟩⟩
section
variable {K : PySem.W.Frag} {mg : Str → Option Value} {h : Heap}
theorem mk (X : K.In h) (G : h.Ns mainGlobals mg) (d0 : DefOk K mg gi "common_divisor" d_common_divisor) (d1 : DefOk K mg gi "fraction_of" d_fraction_of) (d2 : DefOk K mg gi "fraction_sum" d_fraction_sum) (d3 : DefOk K mg gi "fraction_times" d_fraction_times) (d4 : DefOk K mg gi "fraction_by" d_fraction_by) (d5 : DefOk K mg gi "fraction_power" d_fraction_power) (d6 : DefOk K mg gi "poly_of" d_poly_of) (d7 : DefOk K mg gi "flat_of" d_flat_of) (d8 : DefOk K mg gi "number_at" d_number_at) (d9 : DefOk K mg gi "poly_sum" d_poly_sum) (d10 : DefOk K mg gi "poly_often" d_poly_often) (d11 : DefOk K mg gi "poly_less" d_poly_less) (d12 : DefOk K mg gi "whole_numbers" d_whole_numbers) (d13 : DefOk K mg gi "poly_times" d_poly_times) (d14 : DefOk K mg gi "poly_power" d_poly_power) (d15 : DefOk K mg gi "poly_within" d_poly_within) (d16 : DefOk K mg gi "poly_divided" d_poly_divided) (d17 : DefOk K mg gi "poly_at" d_poly_at) (d18 : DefOk K mg gi "slope_of" d_slope_of) (d19 : DefOk K mg gi "normal_of" d_normal_of) (d20 : DefOk K mg gi "dickson" d_dickson) (d21 : DefOk K mg gi "dickson_normal" d_dickson_normal) (d22 : DefOk K mg gi "exchanged_steps" d_exchanged_steps) (d23 : DefOk K mg gi "digits_of" d_digits_of) (d24 : DefOk K mg gi "is_flat" d_is_flat) (d25 : DefOk K mg gi "are_fraction_digits" d_are_fraction_digits) (d26 : DefOk K mg gi "outer_part" d_outer_part) (d27 : DefOk K mg gi "wave_rest" d_wave_rest) (d28 : DefOk K mg gi "_law_source" d__law_source) (d29 : DefOk K mg gi "_law_pick" d__law_pick) (d30 : DefOk K mg gi "_law_of" d__law_of) (d31 : DefOk K mg gi "_law_low" d__law_low) (d32 : DefOk K mg gi "_law_plus" d__law_plus) (d33 : DefOk K mg gi "_law_by" d__law_by) (d34 : DefOk K mg gi "_law_poly" d__law_poly) (d35 : DefOk K mg gi "_law_sum" d__law_sum) (d36 : DefOk K mg gi "_law_often" d__law_often) (d37 : DefOk K mg gi "_law_product" d__law_product) (d38 : DefOk K mg gi "_law_within" d__law_within) (d39 : DefOk K mg gi "_law_normal_of" d__law_normal_of) (d40 : DefOk K mg gi "_law_to" d__law_to) (d41 : DefOk K mg gi "_law_choose" d__law_choose) (d42 : DefOk K mg gi "_law_dickson" d__law_dickson) (d43 : DefOk K mg gi "_law_told_t" d__law_told_t) (d44 : DefOk K mg gi "_law_at" d__law_at) (d45 : DefOk K mg gi "law" d_law) (c0 : ∃ u, PySem.W.nsIn K mainGlobals "X" = some (some u) ∧ KD K (.tup [.tup [.int 0, .int 1], .tup [.int 1, .int 1]]) u) (c1 : ∃ u, PySem.W.nsIn K mainGlobals "NONE" = some (some u) ∧ KD K (.tup [.int 0, .int 1]) u) (c2 : ∃ u, PySem.W.nsIn K mainGlobals "ONE" = some (some u) ∧ KD K (.tup [.int 1, .int 1]) u) (b0 : PySem.W.nsIn K mainGlobals "range" = some none) (b1 : PySem.W.nsIn K mainGlobals "repr" = some none) (b2 : PySem.W.nsIn K mainGlobals "tuple" = some none) (b3 : PySem.W.nsIn K mainGlobals "int" = some none) (b4 : PySem.W.nsIn K mainGlobals "max" = some none) (b5 : PySem.W.nsIn K mainGlobals "len" = some none) (b6 : PySem.W.nsIn K mainGlobals "list" = some none) (b7 : PySem.W.nsIn K mainGlobals "zip" = some none) (b8 : PySem.W.nsIn K mainGlobals "abs" = some none) (b9 : PySem.W.nsIn K mainGlobals "gcd" = some (some (.builtin "math.gcd"))) (b10 : PySem.W.nsIn K mainGlobals "enumerate" = some none) (b11 : PySem.W.nsIn K mainGlobals "all" = some none) : GlobOk K mg gi cst tb := by
  refine glob_mk (cs := cs) (tl := tl) rfl X G ?_ ?_ ?_
  · exact List.forall_mem_cons.mpr ⟨d0, List.forall_mem_cons.mpr ⟨d1, List.forall_mem_cons.mpr ⟨d2, List.forall_mem_cons.mpr ⟨d3, List.forall_mem_cons.mpr ⟨d4, List.forall_mem_cons.mpr ⟨d5, List.forall_mem_cons.mpr ⟨d6, List.forall_mem_cons.mpr ⟨d7, List.forall_mem_cons.mpr ⟨d8, List.forall_mem_cons.mpr ⟨d9, List.forall_mem_cons.mpr ⟨d10, List.forall_mem_cons.mpr ⟨d11, List.forall_mem_cons.mpr ⟨d12, List.forall_mem_cons.mpr ⟨d13, List.forall_mem_cons.mpr ⟨d14, List.forall_mem_cons.mpr ⟨d15, List.forall_mem_cons.mpr ⟨d16, List.forall_mem_cons.mpr ⟨d17, List.forall_mem_cons.mpr ⟨d18, List.forall_mem_cons.mpr ⟨d19, List.forall_mem_cons.mpr ⟨d20, List.forall_mem_cons.mpr ⟨d21, List.forall_mem_cons.mpr ⟨d22, List.forall_mem_cons.mpr ⟨d23, List.forall_mem_cons.mpr ⟨d24, List.forall_mem_cons.mpr ⟨d25, List.forall_mem_cons.mpr ⟨d26, List.forall_mem_cons.mpr ⟨d27, List.forall_mem_cons.mpr ⟨d28, List.forall_mem_cons.mpr ⟨d29, List.forall_mem_cons.mpr ⟨d30, List.forall_mem_cons.mpr ⟨d31, List.forall_mem_cons.mpr ⟨d32, List.forall_mem_cons.mpr ⟨d33, List.forall_mem_cons.mpr ⟨d34, List.forall_mem_cons.mpr ⟨d35, List.forall_mem_cons.mpr ⟨d36, List.forall_mem_cons.mpr ⟨d37, List.forall_mem_cons.mpr ⟨d38, List.forall_mem_cons.mpr ⟨d39, List.forall_mem_cons.mpr ⟨d40, List.forall_mem_cons.mpr ⟨d41, List.forall_mem_cons.mpr ⟨d42, List.forall_mem_cons.mpr ⟨d43, List.forall_mem_cons.mpr ⟨d44, List.forall_mem_cons.mpr ⟨d45, (fun _ q => nomatch q)⟩⟩⟩⟩⟩⟩⟩⟩⟩⟩⟩⟩⟩⟩⟩⟩⟩⟩⟩⟩⟩⟩⟩⟩⟩⟩⟩⟩⟩⟩⟩⟩⟩⟩⟩⟩⟩⟩⟩⟩⟩⟩⟩⟩⟩⟩
  · exact List.forall_mem_cons.mpr ⟨c0, List.forall_mem_cons.mpr ⟨c1, List.forall_mem_cons.mpr ⟨c2, (fun _ q => nomatch q)⟩⟩⟩
  · exact List.forall_mem_cons.mpr ⟨(by first | (rw [if_pos rfl]; exact PySem.W.mg_of X G b0) | (rw [if_neg (by decide)]; exact PySem.W.mg_none_of X G b0)), List.forall_mem_cons.mpr ⟨(by first | (rw [if_pos rfl]; exact PySem.W.mg_of X G b1) | (rw [if_neg (by decide)]; exact PySem.W.mg_none_of X G b1)), List.forall_mem_cons.mpr ⟨(by first | (rw [if_pos rfl]; exact PySem.W.mg_of X G b2) | (rw [if_neg (by decide)]; exact PySem.W.mg_none_of X G b2)), List.forall_mem_cons.mpr ⟨(by first | (rw [if_pos rfl]; exact PySem.W.mg_of X G b3) | (rw [if_neg (by decide)]; exact PySem.W.mg_none_of X G b3)), List.forall_mem_cons.mpr ⟨(by first | (rw [if_pos rfl]; exact PySem.W.mg_of X G b4) | (rw [if_neg (by decide)]; exact PySem.W.mg_none_of X G b4)), List.forall_mem_cons.mpr ⟨(by first | (rw [if_pos rfl]; exact PySem.W.mg_of X G b5) | (rw [if_neg (by decide)]; exact PySem.W.mg_none_of X G b5)), List.forall_mem_cons.mpr ⟨(by first | (rw [if_pos rfl]; exact PySem.W.mg_of X G b6) | (rw [if_neg (by decide)]; exact PySem.W.mg_none_of X G b6)), List.forall_mem_cons.mpr ⟨(by first | (rw [if_pos rfl]; exact PySem.W.mg_of X G b7) | (rw [if_neg (by decide)]; exact PySem.W.mg_none_of X G b7)), List.forall_mem_cons.mpr ⟨(by first | (rw [if_pos rfl]; exact PySem.W.mg_of X G b8) | (rw [if_neg (by decide)]; exact PySem.W.mg_none_of X G b8)), List.forall_mem_cons.mpr ⟨(by first | (rw [if_pos rfl]; exact PySem.W.mg_of X G b9) | (rw [if_neg (by decide)]; exact PySem.W.mg_none_of X G b9)), List.forall_mem_cons.mpr ⟨(by first | (rw [if_pos rfl]; exact PySem.W.mg_of X G b10) | (rw [if_neg (by decide)]; exact PySem.W.mg_none_of X G b10)), List.forall_mem_cons.mpr ⟨(by first | (rw [if_pos rfl]; exact PySem.W.mg_of X G b11) | (rw [if_neg (by decide)]; exact PySem.W.mg_none_of X G b11)), (fun _ q => nomatch q)⟩⟩⟩⟩⟩⟩⟩⟩⟩⟩⟩⟩
end
theorem kFr : FrT tb := ⟨rfl, rfl⟩
theorem kCs : CsT cst := ⟨rfl, rfl, rfl⟩
theorem kPo : PoT cst tb := ⟨kFr, kCs, rfl⟩
theorem kSu : SuT cst tb := ⟨kPo, rfl, rfl, rfl, rfl, rfl⟩
theorem kWi : WiT cst tb := ⟨kSu, rfl, rfl, rfl⟩
theorem kBa : BaT cst tb := ⟨kWi, rfl, rfl, rfl, rfl, rfl, rfl, rfl, rfl⟩
theorem kDn : DnT cst tb := ⟨⟨kBa, rfl⟩, rfl, rfl⟩
theorem kLw : LwT tb := ⟨⟨⟨rfl, rfl, rfl⟩, rfl, rfl, rfl, rfl⟩, rfl⟩
theorem kSr : SrT tb := ⟨rfl, rfl, rfl⟩
theorem kT : K41 cst tb := ⟨kDn, kLw, kSr, rfl, rfl, rfl, rfl, rfl, rfl, rfl, rfl, rfl, rfl, rfl, rfl, rfl⟩
end F41
open PySem PySem.W PyProof.Rows
set_option maxHeartbeats 0 in
theorem PySem.Challenge.cw_putwithin_k41_whole_dicksons_numbers_holds : PySem.Challenge.rw_putwithin_k41_whole_dicksons_numbers.Holds := by
  w_on; o_law; k_head; (case hw => w_witness2)
  k_fill
  refine Pf.walk_D (l := PySem.Challenge.rw_putwithin_k41_whole_dicksons_numbers) (n := 63) (k := 8) (gi := F41.gi) (cst := F41.cst) (tb := F41.tb) (fdl := Pf.d_law) rfl (by decide) rfl ⟨rfl, by decide, by decide⟩ (fun w h Y => PySem.W.kIn_of Y) rfl rfl ?F (fun ns hl => Pf.Z.law41 (k := 0) F41.kT ns (by omega))
  case F =>
    intro w mg fa h KX G hmg
    refine' F41.mk KX G ?d0 ?d1 ?d2 ?d3 ?d4 ?d5 ?d6 ?d7 ?d8 ?d9 ?d10 ?d11 ?d12 ?d13 ?d14 ?d15 ?d16 ?d17 ?d18 ?d19 ?d20 ?d21 ?d22 ?d23 ?d24 ?d25 ?d26 ?d27 ?d28 ?d29 ?d30 ?d31 ?d32 ?d33 ?d34 ?d35 ?d36 ?d37 ?d38 ?d39 ?d40 ?d41 ?d42 ?d43 ?d44 ?d45 ?c0 ?c1 ?c2 ?b0 ?b1 ?b2 ?b3 ?b4 ?b5 ?b6 ?b7 ?b8 ?b9 ?b10 ?b11
    (case d0 => refine' Pf.def_mk F41.tx_common_divisor KX G ?a ?l ?c ?k; (case a => k_is); (case l => k_is); (case c => k_is); (case k => k_is))
    (case d1 => refine' Pf.def_mk F41.tx_fraction_of KX G ?a ?l ?c ?k; (case a => k_is); (case l => k_is); (case c => k_is); (case k => k_is))
    (case d2 => refine' Pf.def_mk F41.tx_fraction_sum KX G ?a ?l ?c ?k; (case a => k_is); (case l => k_is); (case c => k_is); (case k => k_is))
    (case d3 => refine' Pf.def_mk F41.tx_fraction_times KX G ?a ?l ?c ?k; (case a => k_is); (case l => k_is); (case c => k_is); (case k => k_is))
    (case d4 => refine' Pf.def_mk F41.tx_fraction_by KX G ?a ?l ?c ?k; (case a => k_is); (case l => k_is); (case c => k_is); (case k => k_is))
    (case d5 => refine' Pf.def_mk F41.tx_fraction_power KX G ?a ?l ?c ?k; (case a => k_is); (case l => k_is); (case c => k_is); (case k => k_is))
    (case d6 => refine' Pf.def_mk F41.tx_poly_of KX G ?a ?l ?c ?k; (case a => k_is); (case l => k_is); (case c => k_is); (case k => k_is))
    (case d7 => refine' Pf.def_mk F41.tx_flat_of KX G ?a ?l ?c ?k; (case a => k_is); (case l => k_is); (case c => k_is); (case k => k_is))
    (case d8 => refine' Pf.def_mk F41.tx_number_at KX G ?a ?l ?c ?k; (case a => k_is); (case l => k_is); (case c => k_is); (case k => k_is))
    (case d9 => refine' Pf.def_mk F41.tx_poly_sum KX G ?a ?l ?c ?k; (case a => k_is); (case l => k_is); (case c => k_is); (case k => k_is))
    (case d10 => refine' Pf.def_mk F41.tx_poly_often KX G ?a ?l ?c ?k; (case a => k_is); (case l => k_is); (case c => k_is); (case k => k_is))
    (case d11 => refine' Pf.def_mk F41.tx_poly_less KX G ?a ?l ?c ?k; (case a => k_is); (case l => k_is); (case c => k_is); (case k => k_is))
    (case d12 => refine' Pf.def_mk F41.tx_whole_numbers KX G ?a ?l ?c ?k; (case a => k_is); (case l => k_is); (case c => k_is); (case k => k_is))
    (case d13 => refine' Pf.def_mk F41.tx_poly_times KX G ?a ?l ?c ?k; (case a => k_is); (case l => k_is); (case c => k_is); (case k => k_is))
    (case d14 => refine' Pf.def_mk F41.tx_poly_power KX G ?a ?l ?c ?k; (case a => k_is); (case l => k_is); (case c => k_is); (case k => k_is))
    (case d15 => refine' Pf.def_mk F41.tx_poly_within KX G ?a ?l ?c ?k; (case a => k_is); (case l => k_is); (case c => k_is); (case k => k_is))
    (case d16 => refine' Pf.def_mk F41.tx_poly_divided KX G ?a ?l ?c ?k; (case a => k_is); (case l => k_is); (case c => k_is); (case k => k_is))
    (case d17 => refine' Pf.def_mk F41.tx_poly_at KX G ?a ?l ?c ?k; (case a => k_is); (case l => k_is); (case c => k_is); (case k => k_is))
    (case d18 => refine' Pf.def_mk F41.tx_slope_of KX G ?a ?l ?c ?k; (case a => k_is); (case l => k_is); (case c => k_is); (case k => k_is))
    (case d19 => refine' Pf.def_mk F41.tx_normal_of KX G ?a ?l ?c ?k; (case a => k_is); (case l => k_is); (case c => k_is); (case k => k_is))
    (case d20 => refine' Pf.def_mk F41.tx_dickson KX G ?a ?l ?c ?k; (case a => k_is); (case l => k_is); (case c => k_is); (case k => k_is))
    (case d21 => refine' Pf.def_mk F41.tx_dickson_normal KX G ?a ?l ?c ?k; (case a => k_is); (case l => k_is); (case c => k_is); (case k => k_is))
    (case d22 => refine' Pf.def_mk F41.tx_exchanged_steps KX G ?a ?l ?c ?k; (case a => k_is); (case l => k_is); (case c => k_is); (case k => k_is))
    (case d23 => refine' Pf.def_mk F41.tx_digits_of KX G ?a ?l ?c ?k; (case a => k_is); (case l => k_is); (case c => k_is); (case k => k_is))
    (case d24 => refine' Pf.def_mk F41.tx_is_flat KX G ?a ?l ?c ?k; (case a => k_is); (case l => k_is); (case c => k_is); (case k => k_is))
    (case d25 => refine' Pf.def_mk F41.tx_are_fraction_digits KX G ?a ?l ?c ?k; (case a => k_is); (case l => k_is); (case c => k_is); (case k => k_is))
    (case d26 => refine' Pf.def_mk F41.tx_outer_part KX G ?a ?l ?c ?k; (case a => k_is); (case l => k_is); (case c => k_is); (case k => k_is))
    (case d27 => refine' Pf.def_mk F41.tx_wave_rest KX G ?a ?l ?c ?k; (case a => k_is); (case l => k_is); (case c => k_is); (case k => k_is))
    (case d28 => refine' Pf.def_mk F41.tx__law_source KX G ?a ?l ?c ?k; (case a => k_is); (case l => k_is); (case c => k_is); (case k => k_is))
    (case d29 => refine' Pf.def_mk F41.tx__law_pick KX G ?a ?l ?c ?k; (case a => k_is); (case l => k_is); (case c => k_is); (case k => k_is))
    (case d30 => refine' Pf.def_mk F41.tx__law_of KX G ?a ?l ?c ?k; (case a => k_is); (case l => k_is); (case c => k_is); (case k => k_is))
    (case d31 => refine' Pf.def_mk F41.tx__law_low KX G ?a ?l ?c ?k; (case a => k_is); (case l => k_is); (case c => k_is); (case k => k_is))
    (case d32 => refine' Pf.def_mk F41.tx__law_plus KX G ?a ?l ?c ?k; (case a => k_is); (case l => k_is); (case c => k_is); (case k => k_is))
    (case d33 => refine' Pf.def_mk F41.tx__law_by KX G ?a ?l ?c ?k; (case a => k_is); (case l => k_is); (case c => k_is); (case k => k_is))
    (case d34 => refine' Pf.def_mk F41.tx__law_poly KX G ?a ?l ?c ?k; (case a => k_is); (case l => k_is); (case c => k_is); (case k => k_is))
    (case d35 => refine' Pf.def_mk F41.tx__law_sum KX G ?a ?l ?c ?k; (case a => k_is); (case l => k_is); (case c => k_is); (case k => k_is))
    (case d36 => refine' Pf.def_mk F41.tx__law_often KX G ?a ?l ?c ?k; (case a => k_is); (case l => k_is); (case c => k_is); (case k => k_is))
    (case d37 => refine' Pf.def_mk F41.tx__law_product KX G ?a ?l ?c ?k; (case a => k_is); (case l => k_is); (case c => k_is); (case k => k_is))
    (case d38 => refine' Pf.def_mk F41.tx__law_within KX G ?a ?l ?c ?k; (case a => k_is); (case l => k_is); (case c => k_is); (case k => k_is))
    (case d39 => refine' Pf.def_mk F41.tx__law_normal_of KX G ?a ?l ?c ?k; (case a => k_is); (case l => k_is); (case c => k_is); (case k => k_is))
    (case d40 => refine' Pf.def_mk F41.tx__law_to KX G ?a ?l ?c ?k; (case a => k_is); (case l => k_is); (case c => k_is); (case k => k_is))
    (case d41 => refine' Pf.def_mk F41.tx__law_choose KX G ?a ?l ?c ?k; (case a => k_is); (case l => k_is); (case c => k_is); (case k => k_is))
    (case d42 => refine' Pf.def_mk F41.tx__law_dickson KX G ?a ?l ?c ?k; (case a => k_is); (case l => k_is); (case c => k_is); (case k => k_is))
    (case d43 => refine' Pf.def_mk F41.tx__law_told_t KX G ?a ?l ?c ?k; (case a => k_is); (case l => k_is); (case c => k_is); (case k => k_is))
    (case d44 => refine' Pf.def_mk F41.tx__law_at KX G ?a ?l ?c ?k; (case a => k_is); (case l => k_is); (case c => k_is); (case k => k_is))
    (case d45 => refine' Pf.def_mk F41.tx_law KX G ?a ?l ?c ?k; (case a => k_is); (case l => k_is); (case c => k_is); (case k => k_is))
    (case c0 => refine' Pf.const_mk ?ca ?cb; (case ca => k_is); (case cb => (refine' Pf.KD.tup ?l9 ?h9 ?r9; (case l9 => k_is); (case h9 => decide); (case r9 => (refine' .cons ?x5 ?y5; (case x5 => (refine' Pf.KD.tup ?l8 ?h8 ?r8; (case l8 => k_is); (case h8 => decide); (case r8 => (refine' .cons ?x7 ?y7; (case x7 => exact .int _ _); (case y7 => (refine' .cons ?x6 ?y6; (case x6 => exact .int _ _); (case y6 => exact .nil))))))); (case y5 => (refine' .cons ?x1 ?y1; (case x1 => (refine' Pf.KD.tup ?l4 ?h4 ?r4; (case l4 => k_is); (case h4 => decide); (case r4 => (refine' .cons ?x3 ?y3; (case x3 => exact .int _ _); (case y3 => (refine' .cons ?x2 ?y2; (case x2 => exact .int _ _); (case y2 => exact .nil))))))); (case y1 => exact .nil))))))))
    (case c1 => refine' Pf.const_mk ?ca ?cb; (case ca => k_is); (case cb => (refine' Pf.KD.tup ?l12 ?h12 ?r12; (case l12 => k_is); (case h12 => decide); (case r12 => (refine' .cons ?x11 ?y11; (case x11 => exact .int _ _); (case y11 => (refine' .cons ?x10 ?y10; (case x10 => exact .int _ _); (case y10 => exact .nil))))))))
    (case c2 => refine' Pf.const_mk ?ca ?cb; (case ca => k_is); (case cb => (refine' Pf.KD.tup ?l15 ?h15 ?r15; (case l15 => k_is); (case h15 => decide); (case r15 => (refine' .cons ?x14 ?y14; (case x14 => exact .int _ _); (case y14 => (refine' .cons ?x13 ?y13; (case x13 => exact .int _ _); (case y13 => exact .nil))))))))
    (case b0 => k_is)
    (case b1 => k_is)
    (case b2 => k_is)
    (case b3 => k_is)
    (case b4 => k_is)
    (case b5 => k_is)
    (case b6 => k_is)
    (case b7 => k_is)
    (case b8 => k_is)
    (case b9 => k_is)
    (case b10 => k_is)
    (case b11 => k_is)
