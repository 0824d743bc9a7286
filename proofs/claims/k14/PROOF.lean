import PyProof.Rows.All
import Wide.All
import OpenK.AllK
import Wide.FinOn
import HandS.ForMost
import HandS.Exc
import HandS.WordsExc
import HandS.IsInst
import HandS.Wide
import HandS.TupMul
import HandS.TupAny
import HandS.Style
import HandS.Deep
import PyProof.ReprRoads
import HandS.Words
import HandS.Ends
import PySem.Challenge.RW_surenext_k14_words_accepted
set_option Elab.async false
set_option linter.all false
set_option maxRecDepth 100000
set_option maxHeartbeats 4000001
/-! MP: plain data over the hand layer: values, cells, how they lie in the abstract heap -/
namespace MP
open PySem PySem.Spec PyProof.Rows L2

/-- a value without addresses: tuples are trees, mutable objects are numbers of cells -/
inductive D where
  | non | bl (b : Bool) | int (i : Int) | str (x : Str) | tup (xs : List D) | ref (n : Nat)
  /-- a list that is only read: the script -/
  | ro (xs : List D)

def kD : Key → D
  | .inl i => .int i
  | .inr x => .str x

inductive Cell where
  | lst (xs : List D)
  | dct (kvs : List (Key × D)) (lk : Bool)
  | ins (c : Nat) (fs : List (Str × D))

abbrev Store := List Cell

/-- a list that is only read: the script -/
def RoL (K : PySem.W.Frag) (H : Hp) (a : Addr) (vs : List V) : Prop :=
  (∃ o, H a = some (.frz o (.lst vs))) ∨
    ∃ (o : Obj) (its : Array Value) (n : Nat), K.lookup a = some o ∧ o.cls = .type "list" ∧ o.dict = none ∧ o.data = .seq its n ∧ its.size ≤ sizeLine ∧ Vals vs its.toList
theorem RoL.sq {K : PySem.W.Frag} {H : Hp} {a : Addr} {vs : List V} (h : RoL K H a vs) : SqL K H a vs := by
  rcases h with ⟨o, h⟩ | h
  · exact .inl (.inr ⟨o, h⟩)
  · exact .inr h

mutual
def IsD (K : PySem.W.Frag) (H : Hp) (be : List Addr) : D → V → Prop
  | .non, v => v = .non
  | .bl b, v => v = .bl b
  | .int i, v => v = .int i
  | .str x, v => v = .str x
  | .tup xs, v => ∃ a vs, v = .ref a ∧ SqT K H a vs ∧ IsDs K H be xs vs
  | .ref n, v => ∃ a, be[n]? = some a ∧ v = .ref a
  | .ro xs, v => ∃ a vs, v = .ref a ∧ RoL K H a vs ∧ IsDs K H be xs vs
def IsDs (K : PySem.W.Frag) (H : Hp) (be : List Addr) : List D → List V → Prop
  | [], vs => vs = []
  | x :: r, vs => ∃ v w, vs = v :: w ∧ IsD K H be x v ∧ IsDs K H be r w
end

mutual
/-- all cells that it names are below n -/
def D.cl (n : Nat) : D → Prop
  | .tup xs => D.cls n xs
  | .ref m => m < n
  | .ro xs => D.cls n xs
  | _ => True
def D.cls (n : Nat) : List D → Prop
  | [] => True
  | x :: r => D.cl n x ∧ D.cls n r
end

def Cell.cl (n : Nat) : Cell → Prop
  | .lst xs => D.cls n xs
  | .dct kvs _ => D.cls n (kvs.map (·.2))
  | .ins _ fs => D.cls n (fs.map (·.2))
/-- no cell names a cell that is not there -/
def WF (mu : Store) : Prop := ∀ (n : Nat) (c : Cell), mu[n]? = some c → c.cl mu.length

section
variable {K : PySem.W.Frag} {H H' : Hp} {be be' : List Addr}

theorem IsDs.len : ∀ {xs : List D} {vs : List V}, IsDs K H be xs vs → xs.length = vs.length
  | [], vs, h => by simp only [IsDs] at h; subst h; rfl
  | x :: r, vs, h => by
    simp only [IsDs] at h
    obtain ⟨v, w, rfl, _, h2⟩ := h
    simp [IsDs.len h2]
theorem IsDs.get : ∀ {xs : List D} {vs : List V} {i : Nat} {x : D}, IsDs K H be xs vs → xs[i]? = some x → ∃ v, vs[i]? = some v ∧ IsD K H be x v
  | [], _, _, _, _, e => by simp at e
  | x :: r, vs, 0, y, h, e => by
    simp only [IsDs] at h
    obtain ⟨v, w, rfl, h1, _⟩ := h
    simp at e; subst e
    exact ⟨v, rfl, h1⟩
  | x :: r, vs, i + 1, y, h, e => by
    simp only [IsDs] at h
    obtain ⟨v, w, rfl, _, h2⟩ := h
    obtain ⟨u, q1, q2⟩ := IsDs.get (i := i) (x := y) h2 (by simpa using e)
    exact ⟨u, by simpa using q1, q2⟩
theorem IsDs.get' {xs : List D} {vs : List V} {i : Nat} {v : V} (h : IsDs K H be xs vs) (e : vs[i]? = some v) : ∃ x, xs[i]? = some x ∧ IsD K H be x v := by
  have hl := h.len
  have hi : i < xs.length := by
    have := (List.getElem?_eq_some_iff.mp e).1
    omega
  obtain ⟨u, q1, q2⟩ := h.get (List.getElem?_eq_getElem hi)
  rw [e] at q1; cases q1
  exact ⟨_, List.getElem?_eq_getElem hi, q2⟩
theorem IsDs.append : ∀ {xs ys : List D} {vs ws : List V}, IsDs K H be xs vs → IsDs K H be ys ws → IsDs K H be (xs ++ ys) (vs ++ ws)
  | [], _, vs, _, h, h2 => by simp only [IsDs] at h; subst h; exact h2
  | x :: r, _, vs, _, h, h2 => by
    simp only [IsDs] at h
    obtain ⟨v, w, rfl, h1, h3⟩ := h
    show IsDs K H be (x :: (r ++ _)) (v :: (w ++ _))
    simp only [IsDs]
    exact ⟨v, _, rfl, h1, IsDs.append h3 h2⟩
theorem IsDs.nil : IsDs K H be [] [] := by simp only [IsDs]
theorem IsDs.cons {x : D} {r : List D} {v : V} {w : List V} (h : IsD K H be x v) (h2 : IsDs K H be r w) : IsDs K H be (x :: r) (v :: w) := by
  simp only [IsDs]
  exact ⟨v, w, rfl, h, h2⟩
theorem IsDs.one {x : D} {v : V} (h : IsD K H be x v) : IsDs K H be [x] [v] := .cons h .nil
theorem IsDs.take : ∀ (n : Nat) {xs : List D} {vs : List V}, IsDs K H be xs vs → IsDs K H be (xs.take n) (vs.take n)
  | 0, _, _, _ => by simpa using IsDs.nil
  | _ + 1, [], vs, h => by simp only [IsDs] at h; subst h; simpa using IsDs.nil
  | n + 1, x :: r, vs, h => by
    simp only [IsDs] at h
    obtain ⟨v, w, rfl, h1, h3⟩ := h
    exact .cons h1 (IsDs.take n h3)
theorem IsDs.drop : ∀ (n : Nat) {xs : List D} {vs : List V}, IsDs K H be xs vs → IsDs K H be (xs.drop n) (vs.drop n)
  | 0, _, _, h => by simpa using h
  | _ + 1, [], vs, h => by simp only [IsDs] at h; subst h; simpa using IsDs.nil
  | n + 1, x :: r, vs, h => by
    simp only [IsDs] at h
    obtain ⟨v, w, rfl, h1, h3⟩ := h
    exact IsDs.drop n h3
theorem IsDs.set : ∀ (i : Nat) {xs : List D} {vs : List V} {x : D} {v : V}, IsDs K H be xs vs → IsD K H be x v → IsDs K H be (xs.set i x) (vs.set i v)
  | _, [], vs, _, _, h, _ => by simp only [IsDs] at h; subst h; simpa using IsDs.nil
  | 0, x :: r, vs, _, _, h, q => by
    simp only [IsDs] at h
    obtain ⟨v, w, rfl, h1, h3⟩ := h
    exact .cons q h3
  | i + 1, x :: r, vs, _, _, h, q => by
    simp only [IsDs] at h
    obtain ⟨v, w, rfl, h1, h3⟩ := h
    exact .cons h1 (IsDs.set i h3 q)
theorem IsDs.rev {xs : List D} {vs : List V} (h : IsDs K H be xs vs) : IsDs K H be xs.reverse vs.reverse := by
  induction xs generalizing vs with
  | nil => simp only [IsDs] at h; subst h; simpa using IsDs.nil
  | cons x r ih =>
    simp only [IsDs] at h
    obtain ⟨v, w, rfl, h1, h3⟩ := h
    rw [List.reverse_cons, List.reverse_cons]
    exact (ih h3).append (.one h1)
theorem IsDs.erase : ∀ (i : Nat) {xs : List D} {vs : List V}, IsDs K H be xs vs → IsDs K H be (xs.eraseIdx i) (vs.eraseIdx i)
  | _, [], vs, h => by simp only [IsDs] at h; subst h; simpa using IsDs.nil
  | 0, x :: r, vs, h => by
    simp only [IsDs] at h
    obtain ⟨v, w, rfl, h1, h3⟩ := h
    exact h3
  | i + 1, x :: r, vs, h => by
    simp only [IsDs] at h
    obtain ⟨v, w, rfl, h1, h3⟩ := h
    exact .cons h1 (IsDs.erase i h3)

mutual
theorem IsD.cl : ∀ {d : D} {v : V}, IsD K H be d v → d.cl be.length
  | .non, _, _ => trivial
  | .bl _, _, _ => trivial
  | .int _, _, _ => trivial
  | .str _, _, _ => trivial
  | .tup xs, v, h => by
    simp only [IsD] at h
    obtain ⟨a, vs, _, _, h⟩ := h
    simp only [D.cl]
    exact IsDs.cl h
  | .ref n, v, h => by
    simp only [IsD] at h
    obtain ⟨a, h, _⟩ := h
    simp only [D.cl]
    exact (List.getElem?_eq_some_iff.mp h).1
  | .ro xs, v, h => by
    simp only [IsD] at h
    obtain ⟨a, vs, _, _, h⟩ := h
    simp only [D.cl]
    exact IsDs.cl h
theorem IsDs.cl : ∀ {xs : List D} {vs : List V}, IsDs K H be xs vs → D.cls be.length xs
  | [], _, _ => trivial
  | x :: r, vs, h => by
    simp only [IsDs] at h
    obtain ⟨v, w, rfl, h1, h2⟩ := h
    simp only [D.cls]
    exact ⟨IsD.cl h1, IsDs.cl h2⟩
end

mutual
/-- carried to another heap and more cells -/
theorem IsD.on (ht : ∀ a xs, SqT K H a xs → SqT K H' a xs) (hr : ∀ a xs, RoL K H a xs → RoL K H' a xs) : ∀ {d : D} {v : V}, (∀ n a, n < be.length → be[n]? = some a → be'[n]? = some a) → IsD K H be d v → IsD K H' be' d v
  | .non, _, _, h => by simpa only [IsD] using h
  | .bl _, _, _, h => by simpa only [IsD] using h
  | .int _, _, _, h => by simpa only [IsD] using h
  | .str _, _, _, h => by simpa only [IsD] using h
  | .tup xs, v, hb, h => by
    simp only [IsD] at h ⊢
    obtain ⟨a, vs, e, q, h⟩ := h
    exact ⟨a, vs, e, ht a vs q, IsDs.on ht hr hb h⟩
  | .ref n, v, hb, h => by
    simp only [IsD] at h ⊢
    obtain ⟨a, h, e⟩ := h
    exact ⟨a, hb n a (List.getElem?_eq_some_iff.mp h).1 h, e⟩
  | .ro xs, v, hb, h => by
    simp only [IsD] at h ⊢
    obtain ⟨a, vs, e, q, h⟩ := h
    exact ⟨a, vs, e, hr a vs q, IsDs.on ht hr hb h⟩
theorem IsDs.on (ht : ∀ a xs, SqT K H a xs → SqT K H' a xs) (hr : ∀ a xs, RoL K H a xs → RoL K H' a xs) : ∀ {xs : List D} {vs : List V}, (∀ n a, n < be.length → be[n]? = some a → be'[n]? = some a) → IsDs K H be xs vs → IsDs K H' be' xs vs
  | [], _, _, h => by simpa only [IsDs] using h
  | x :: r, vs, hb, h => by
    simp only [IsDs] at h ⊢
    obtain ⟨v, w, e, h1, h2⟩ := h
    exact ⟨v, w, e, IsD.on ht hr hb h1, IsDs.on ht hr hb h2⟩
end
mutual
/-- fewer cells, where it names none of the others -/
theorem IsD.less {n : Nat} : ∀ {d : D} {v : V}, d.cl n → IsD K H be d v → IsD K H (be.take n) d v
  | .non, _, _, h => by simpa only [IsD] using h
  | .bl _, _, _, h => by simpa only [IsD] using h
  | .int _, _, _, h => by simpa only [IsD] using h
  | .str _, _, _, h => by simpa only [IsD] using h
  | .tup xs, v, c, h => by
    simp only [IsD] at h ⊢
    simp only [D.cl] at c
    obtain ⟨a, vs, e, q, h⟩ := h
    exact ⟨a, vs, e, q, IsDs.less c h⟩
  | .ref m, v, c, h => by
    simp only [IsD] at h ⊢
    simp only [D.cl] at c
    obtain ⟨a, h, e⟩ := h
    exact ⟨a, by rw [List.getElem?_take_of_lt c]; exact h, e⟩
  | .ro xs, v, c, h => by
    simp only [IsD] at h ⊢
    simp only [D.cl] at c
    obtain ⟨a, vs, e, q, h⟩ := h
    exact ⟨a, vs, e, q, IsDs.less c h⟩
theorem IsDs.less {n : Nat} : ∀ {xs : List D} {vs : List V}, D.cls n xs → IsDs K H be xs vs → IsDs K H (be.take n) xs vs
  | [], _, _, h => by simpa only [IsDs] using h
  | x :: r, vs, c, h => by
    simp only [IsDs] at h ⊢
    simp only [D.cls] at c
    obtain ⟨v, w, e, h1, h2⟩ := h
    exact ⟨v, w, e, IsD.less c.1 h1, IsDs.less c.2 h2⟩
end
end

/-! ### cells in the heap -/
def IsFs (K : PySem.W.Frag) (H : Hp) (be : List Addr) (fs : List (Str × D)) (gs : List (Str × V)) : Prop :=
  fs.map (·.1) = gs.map (·.1) ∧ IsDs K H be (fs.map (·.2)) (gs.map (·.2))
def IsKs (K : PySem.W.Frag) (H : Hp) (be : List Addr) (fs : List (Key × D)) (gs : List (Key × V)) : Prop :=
  fs.map (·.1) = gs.map (·.1) ∧ IsDs K H be (fs.map (·.2)) (gs.map (·.2))

/-- the cell stands at a; CT: where the classes stand -/
def IsC (K : PySem.W.Frag) (CT : Nat → Addr) (H : Hp) (be : List Addr) : Cell → Addr → Prop
  | .lst xs, a => ∃ vs, H a = some (.lst vs) ∧ IsDs K H be xs vs
  | .dct kvs false, a => ∃ gs, H a = some (.dK gs) ∧ IsKs K H be kvs gs
  | .dct kvs true, a => ∃ gs o, H a = some (.frz o (.dK gs)) ∧ IsKs K H be kvs gs
  | .ins c fs, a => ∃ dx gs, H a = some (.ins (CT c) dx gs) ∧ IsFs K H be fs gs

structure RepS (K : PySem.W.Frag) (CT : Nat → Addr) (H : Hp) (be : List Addr) (mu : Store) : Prop where
  len : be.length = mu.length
  at_ : ∀ (n : Nat) (c : Cell), mu[n]? = some c → ∃ a, be[n]? = some a ∧ IsC K CT H be c a
  nd : be.Nodup

/-- the names' values -/
abbrev Sl := List (Option D)
structure RepL (K : PySem.W.Frag) (H : Hp) (be : List Addr) (rh : Sl) (sg : L2.St) : Prop where
  len : rh.length = sg.length
  at_ : ∀ (i : Nat) (d : D), rh[i]? = some (some d) → ∃ v, sg[i]? = some (some v) ∧ IsD K H be d v

def imm : HO → Bool
  | .tup _ => true
  | .frz _ (.lst _) => true
  | .frz _ (.tup _) => true
  | _ => false
/-- from one heap with its cells to a later one -/
structure Ext (H H' : Hp) (be be' : List Addr) : Prop where
  pre : be <+: be'
  fr : ∀ b o, H b = some o → (b ∉ be ∨ imm o = true) → H' b = some o
  new : ∀ b ∈ be', b ∈ be ∨ H b = none

section
variable {K : PySem.W.Frag} {CT : Nat → Addr} {H H1 H2 H' : Hp} {be be1 be2 be' : List Addr} {mu : Store} {rh : Sl} {sg : L2.St}
theorem Ext.refl : Ext H H be be := ⟨List.prefix_refl _, fun _ _ e _ => e, fun _ h => .inl h⟩
theorem Ext.trans (a : Ext H H1 be be1) (b : Ext H1 H2 be1 be2) : Ext H H2 be be2 where
  pre := a.pre.trans b.pre
  fr := fun c o e h => by
    have e1 := a.fr c o e h
    refine b.fr c o e1 ?_
    rcases h with h | h
    · by_cases hc : c ∈ be1
      · rcases a.new c hc with z | z
        · exact absurd z h
        · rw [e] at z; cases z
      · exact .inl hc
    · exact .inr h
  new := fun c hc => by
    rcases b.new c hc with z | z
    · exact a.new c z
    · cases q : H c with
      | none => exact .inr rfl
      | some o =>
        by_cases hb : c ∈ be
        · exact .inl hb
        · rw [a.fr c o q (.inl hb)] at z; cases z
theorem Ext.tup (x : Ext H H' be be') : ∀ a xs, SqT K H a xs → SqT K H' a xs := fun a xs h => by
  rcases h with (h | ⟨o, h⟩) | h
  · exact .inl (.inl (x.fr _ _ h (.inr rfl)))
  · exact .inl (.inr ⟨o, x.fr _ _ h (.inr rfl)⟩)
  · exact .inr h
theorem Ext.rol (x : Ext H H' be be') : ∀ a xs, RoL K H a xs → RoL K H' a xs := fun a xs h => by
  rcases h with ⟨o, h⟩ | h
  · exact .inl ⟨o, x.fr _ _ h (.inr rfl)⟩
  · exact .inr h
theorem Ext.get (x : Ext H H' be be') : ∀ n a, n < be.length → be[n]? = some a → be'[n]? = some a := fun n a _ e => by
  obtain ⟨r, rfl⟩ := x.pre
  rw [List.getElem?_append_left (List.getElem?_eq_some_iff.mp e).1]
  exact e
theorem Ext.at_ (x : Ext H H' be be') {n : Nat} {a : Addr} (e : be[n]? = some a) : be'[n]? = some a := x.get n a (List.getElem?_eq_some_iff.mp e).1 e
theorem IsD.mono {d : D} {v : V} (x : Ext H H' be be') (h : IsD K H be d v) : IsD K H' be' d v := h.on x.tup x.rol x.get
theorem IsDs.mono {d : List D} {v : List V} (x : Ext H H' be be') (h : IsDs K H be d v) : IsDs K H' be' d v := h.on x.tup x.rol x.get
theorem RepL.mono (x : Ext H H' be be') (h : RepL K H be rh sg) : RepL K H' be' rh sg :=
  ⟨h.len, fun i d e => let ⟨v, e1, e2⟩ := h.at_ i d e; ⟨v, e1, e2.mono x⟩⟩
theorem RepL.set {i : Nat} {d : D} {v : V} (h : RepL K H be rh sg) (q : IsD K H be d v) : RepL K H be (rh.set i (some d)) (sg.set i (some v)) := by
  refine ⟨by rw [List.length_set, List.length_set]; exact h.len, fun j e hj => ?_⟩
  by_cases hji : i = j
  · subst hji
    have hl : i < rh.length := by
      have := (List.getElem?_eq_some_iff.mp hj).1
      rw [List.length_set] at this
      exact this
    rw [List.getElem?_set_self hl] at hj
    cases hj
    exact ⟨v, List.getElem?_set_self (by rw [← h.len]; exact hl), q⟩
  · rw [List.getElem?_set_ne hji] at hj
    obtain ⟨u, h1, h2⟩ := h.at_ j e hj
    exact ⟨u, by rw [List.getElem?_set_ne hji]; exact h1, h2⟩
theorem RepL.setNone {i : Nat} (h : RepL K H be rh sg) : RepL K H be (rh.set i none) (sg.set i none) := by
  refine ⟨by rw [List.length_set, List.length_set]; exact h.len, fun j e hj => ?_⟩
  by_cases hji : i = j
  · subst hji
    have hl : i < rh.length := by
      have := (List.getElem?_eq_some_iff.mp hj).1
      rw [List.length_set] at this
      exact this
    rw [List.getElem?_set_self hl] at hj
    cases hj
  · rw [List.getElem?_set_ne hji] at hj
    obtain ⟨u, h1, h2⟩ := h.at_ j e hj
    exact ⟨u, by rw [List.getElem?_set_ne hji]; exact h1, h2⟩
/-- a cell whose own object is as it was -/
theorem IsC.mono {c : Cell} {a : Addr} (x : Ext H H' be be') (e : ∀ o, H a = some o → H' a = some o) (h : IsC K CT H be c a) : IsC K CT H' be' c a := by
  cases c with
  | lst xs => obtain ⟨vs, h1, h2⟩ := h; exact ⟨vs, e _ h1, h2.mono x⟩
  | dct kvs lk =>
    cases lk with
    | false => obtain ⟨gs, h1, h2, h3⟩ := h; exact ⟨gs, e _ h1, h2, h3.mono x⟩
    | true => obtain ⟨gs, o, h1, h2, h3⟩ := h; exact ⟨gs, o, e _ h1, h2, h3.mono x⟩
  | ins c fs => obtain ⟨dx, gs, h1, h2, h3⟩ := h; exact ⟨dx, gs, e _ h1, h2, h3.mono x⟩
theorem IsC.held {c : Cell} {a : Addr} (h : IsC K CT H be c a) : ∃ o, H a = some o ∧ imm o = false := by
  cases c with
  | lst xs => obtain ⟨vs, h1, h2⟩ := h; exact ⟨_, h1, rfl⟩
  | dct kvs lk =>
    cases lk with
    | false => obtain ⟨gs, h1, h2, h3⟩ := h; exact ⟨_, h1, rfl⟩
    | true => obtain ⟨gs, o, h1, h2, h3⟩ := h; exact ⟨_, h1, rfl⟩
  | ins c fs => obtain ⟨dx, gs, h1, h2, h3⟩ := h; exact ⟨_, h1, rfl⟩
theorem RepS.mem (S : RepS K CT H be mu) {a : Addr} (h : a ∈ be) : ∃ o, H a = some o ∧ imm o = false := by
  obtain ⟨n, hn⟩ := List.getElem?_of_mem h
  have hl : n < mu.length := by rw [← S.len]; exact (List.getElem?_eq_some_iff.mp hn).1
  obtain ⟨b, h1, h2⟩ := S.at_ n _ (List.getElem?_eq_getElem hl)
  rw [hn] at h1; cases h1
  exact h2.held
theorem RepS.out (S : RepS K CT H be mu) {p : Addr} (hp : H p = none) : p ∉ be := fun h => by
  obtain ⟨o, e, _⟩ := S.mem h
  rw [hp] at e; cases e
theorem RepS.get (S : RepS K CT H be mu) {n : Nat} {a : Addr} {c : Cell} (hb : be[n]? = some a) (hc : mu[n]? = some c) : IsC K CT H be c a := by
  obtain ⟨b, e, h⟩ := S.at_ n c hc
  rw [hb] at e; cases e
  exact h
/-- a new object that is no cell -/
theorem Ext.fresh {p : Addr} {o : HO} (hp : H p = none) : Ext H (upd H p o) be be :=
  ⟨List.prefix_refl _, fun b u e _ => by rw [upd_ne (ne_of_none e hp)]; exact e, fun _ h => .inl h⟩
theorem RepS.fresh {p : Addr} {o : HO} (S : RepS K CT H be mu) (hp : H p = none) : RepS K CT (upd H p o) be mu :=
  ⟨S.len, fun n c e => let ⟨a, e1, e2⟩ := S.at_ n c e; ⟨a, e1, e2.mono (.fresh hp) fun u q => by rw [upd_ne (ne_of_none q hp)]; exact q⟩, S.nd⟩
/-- an object that is no cell becomes one -/
theorem RepS.adopt {p : Addr} {c : Cell} (S : RepS K CT H be mu) (hp : p ∉ be) (hc : IsC K CT H (be ++ [p]) c p) : RepS K CT H (be ++ [p]) (mu ++ [c]) := by
  have x : Ext H H be (be ++ [p]) → True := fun _ => trivial
  have gt : ∀ n a, n < be.length → be[n]? = some a → (be ++ [p])[n]? = some a := fun n a hn e => by rw [List.getElem?_append_left hn]; exact e
  refine ⟨by simp [S.len], fun n e h => ?_, ?_⟩
  · by_cases hn : n < mu.length
    · rw [List.getElem?_append_left hn] at h
      obtain ⟨a, e1, e2⟩ := S.at_ n e h
      refine ⟨a, gt n a (List.getElem?_eq_some_iff.mp e1).1 e1, ?_⟩
      have on1 : ∀ {xs : List D} {vs : List V}, IsDs K H be xs vs → IsDs K H (be ++ [p]) xs vs := fun h => h.on (fun _ _ q => q) (fun _ _ q => q) gt
      cases e with
      | lst xs => obtain ⟨vs, h1, h2⟩ := e2; exact ⟨vs, h1, on1 h2⟩
      | dct kvs lk =>
        cases lk with
        | false => obtain ⟨gs, h1, h2, h3⟩ := e2; exact ⟨gs, h1, h2, on1 h3⟩
        | true => obtain ⟨gs, o, h1, h2, h3⟩ := e2; exact ⟨gs, o, h1, h2, on1 h3⟩
      | ins c fs => obtain ⟨dx, gs, h1, h2, h3⟩ := e2; exact ⟨dx, gs, h1, h2, on1 h3⟩
    · rw [List.getElem?_append_right (by omega)] at h
      have hl := (List.getElem?_eq_some_iff.mp h).1
      simp at hl
      have e0 : n - mu.length = 0 := by omega
      rw [e0] at h
      simp at h
      subst h
      refine ⟨p, ?_, hc⟩
      have : n = be.length := by rw [S.len]; omega
      rw [this]; simp
  · rw [List.nodup_append]
    refine ⟨S.nd, by simp, fun a ha b hb => ?_⟩
    have e : b = p := by simpa using hb
    rw [e]
    exact fun z => hp (z ▸ ha)
/-- a new cell -/
theorem Ext.cell {p : Addr} {o : HO} (hp : H p = none) : Ext H (upd H p o) be (be ++ [p]) :=
  ⟨List.prefix_append _ _, fun b u e _ => by rw [upd_ne (ne_of_none e hp)]; exact e, fun b h => by
    rcases List.mem_append.mp h with h | h
    · exact .inl h
    · have e : b = p := by simpa using h
      rw [e]; exact .inr hp⟩
theorem RepS.cell {p : Addr} {o : HO} {c : Cell} (S : RepS K CT H be mu) (hp : H p = none) (hc : IsC K CT (upd H p o) (be ++ [p]) c p) : RepS K CT (upd H p o) (be ++ [p]) (mu ++ [c]) :=
  (S.fresh hp).adopt (S.out hp) hc
/-- a cell is written -/
theorem Ext.write {n : Nat} {p : Addr} {o u : HO} (hb : be[n]? = some p) (hp : H p = some u) (hi : imm u = false) : Ext H (upd H p o) be be :=
  ⟨List.prefix_refl _, fun b w e h => by
    have hne : b ≠ p := by
      rintro rfl
      rcases h with h | h
      · exact h (List.mem_of_getElem? hb)
      · rw [e] at hp; cases hp; rw [hi] at h; cases h
    rw [upd_ne hne]; exact e, fun _ h => .inl h⟩
theorem RepS.write {n : Nat} {p : Addr} {o u : HO} {c : Cell} (S : RepS K CT H be mu) (hb : be[n]? = some p) (hp : H p = some u) (hi : imm u = false) (hc : IsC K CT (upd H p o) be c p) :
    RepS K CT (upd H p o) be (mu.set n c) := by
  have x : Ext H (upd H p o) be be := .write hb hp hi
  have hl : n < mu.length := by rw [← S.len]; exact (List.getElem?_eq_some_iff.mp hb).1
  refine ⟨by simp [S.len], fun m e h => ?_, S.nd⟩
  by_cases hm : m = n
  · subst hm
    rw [List.getElem?_set_self hl] at h
    cases h
    exact ⟨p, hb, hc⟩
  · rw [List.getElem?_set_ne (Ne.symm hm)] at h
    obtain ⟨a, z1, z2⟩ := S.at_ m e h
    refine ⟨a, z1, z2.mono x fun w q => ?_⟩
    have hap : a ≠ p := fun z => hm (by
      rw [z] at z1
      exact nd_ix S.nd z1 hb)
    rw [upd_ne hap]; exact q
/-- an object that is no cell, and no tuple, is written -/
theorem RepS.beside {p : Addr} {o u : HO} (S : RepS K CT H be mu) (hb : p ∉ be) (hp : H p = some u) (hi : imm u = false) : RepS K CT (upd H p o) be mu := by
  have tp : ∀ a xs, SqT K H a xs → SqT K (upd H p o) a xs := fun a xs h => by
    rcases h with (h | ⟨w, h⟩) | h
    · refine .inl (.inl ?_)
      rw [upd_ne (by rintro rfl; rw [hp] at h; cases h; cases hi)]; exact h
    · refine .inl (.inr ⟨w, ?_⟩)
      rw [upd_ne (by rintro rfl; rw [hp] at h; cases h; cases hi)]; exact h
    · exact .inr h
  have rp : ∀ a xs, RoL K H a xs → RoL K (upd H p o) a xs := fun a xs h => by
    rcases h with ⟨w, h⟩ | h
    · refine .inl ⟨w, ?_⟩
      rw [upd_ne (by rintro rfl; rw [hp] at h; cases h; cases hi)]; exact h
    · exact .inr h
  refine ⟨S.len, fun n c e => ?_, S.nd⟩
  obtain ⟨a, e1, e2⟩ := S.at_ n c e
  have na : a ≠ p := fun z => hb (z ▸ List.mem_of_getElem? e1)
  have k : ∀ {w : HO}, H a = some w → upd H p o a = some w := fun q => by rw [upd_ne na]; exact q
  have on1 : ∀ {xs : List D} {vs : List V}, IsDs K H be xs vs → IsDs K (upd H p o) be xs vs := fun h => h.on tp rp fun _ _ _ q => q
  refine ⟨a, e1, ?_⟩
  cases c with
  | lst xs => obtain ⟨vs, h1, h2⟩ := e2; exact ⟨vs, k h1, on1 h2⟩
  | dct kvs lk =>
    cases lk with
    | false => obtain ⟨gs, h1, h2, h3⟩ := e2; exact ⟨gs, k h1, h2, on1 h3⟩
    | true => obtain ⟨gs, o, h1, h2, h3⟩ := e2; exact ⟨gs, o, k h1, h2, on1 h3⟩
  | ins c fs => obtain ⟨dx, gs, h1, h2, h3⟩ := e2; exact ⟨dx, gs, k h1, h2, on1 h3⟩
theorem IsDs.beside {p : Addr} {o u : HO} {xs : List D} {vs : List V} (hp : H p = some u) (hi : imm u = false) (h : IsDs K H be xs vs) : IsDs K (upd H p o) be xs vs := by
  refine h.on (fun a xs h => ?_) (fun a xs h => ?_) fun _ _ _ q => q
  · rcases h with (h | ⟨w, h⟩) | h
    · refine .inl (.inl ?_)
      rw [upd_ne (by rintro rfl; rw [hp] at h; cases h; cases hi)]; exact h
    · refine .inl (.inr ⟨w, ?_⟩)
      rw [upd_ne (by rintro rfl; rw [hp] at h; cases h; cases hi)]; exact h
    · exact .inr h
  · rcases h with ⟨w, h⟩ | h
    · refine .inl ⟨w, ?_⟩
      rw [upd_ne (by rintro rfl; rw [hp] at h; cases h; cases hi)]; exact h
    · exact .inr h
theorem IsC.cl {c : Cell} {a : Addr} (h : IsC K CT H be c a) : c.cl be.length := by
  cases c with
  | lst xs => obtain ⟨vs, h1, h2⟩ := h; exact h2.cl
  | dct kvs lk =>
    cases lk with
    | false => obtain ⟨gs, h1, h2, h3⟩ := h; exact h3.cl
    | true => obtain ⟨gs, o, h1, h2, h3⟩ := h; exact h3.cl
  | ins c fs => obtain ⟨dx, gs, h1, h2, h3⟩ := h; exact h3.cl
theorem RepS.wf (S : RepS K CT H be mu) : WF mu := fun n c e => by
  obtain ⟨a, _, h⟩ := S.at_ n c e
  rw [← S.len]
  exact h.cl
theorem IsC.less {n : Nat} {c : Cell} {a : Addr} (hc : c.cl n) (h : IsC K CT H be c a) : IsC K CT H (be.take n) c a := by
  cases c with
  | lst xs => obtain ⟨vs, h1, h2⟩ := h; exact ⟨vs, h1, h2.less hc⟩
  | dct kvs lk =>
    cases lk with
    | false => obtain ⟨gs, h1, h2, h3⟩ := h; exact ⟨gs, h1, h2, h3.less hc⟩
    | true => obtain ⟨gs, o, h1, h2, h3⟩ := h; exact ⟨gs, o, h1, h2, h3.less hc⟩
  | ins c fs => obtain ⟨dx, gs, h1, h2, h3⟩ := h; exact ⟨dx, gs, h1, h2, h3.less hc⟩
/-- the later cells forgotten -/
theorem RepS.forget {nu : Store} (S : RepS K CT H be mu) (hp : nu <+: mu) (hw : WF nu) : RepS K CT H (be.take nu.length) nu := by
  obtain ⟨g, rfl⟩ := hp
  refine ⟨?_, fun n c e => ?_, S.nd.sublist (List.take_sublist _ _)⟩
  · rw [List.length_take, S.len, List.length_append]; omega
  · have gt : (nu ++ g)[n]? = some c := by rw [List.getElem?_append_left (List.getElem?_eq_some_iff.mp e).1]; exact e
    obtain ⟨a, e1, e2⟩ := S.at_ n c gt
    exact ⟨a, by rw [List.getElem?_take_of_lt (List.getElem?_eq_some_iff.mp e).1]; exact e1, e2.less (hw n c e)⟩
theorem Ext.forget {n : Nat} (x : Ext H H' be be') (hn : be.length ≤ n) : Ext H H' be (be'.take n) where
  pre := by
    obtain ⟨r, rfl⟩ := x.pre
    rw [List.take_append]
    rw [List.take_of_length_le hn]
    exact List.prefix_append _ _
  fr := x.fr
  new := fun b h => x.new b (List.mem_of_mem_take h)
end
end MP

/-! MP: the core trees and what is wanted of them (weakest preconditions over plain data) -/
namespace MP
open PySem PySem.Spec PyProof.Rows L2

/-- an exception of the program's own: its class, its fields -/
structure Exc where
  c : Nat
  fs : List (Str × D)
abbrev QD := D → Store → Prop
abbrev QX := Exc → Store → Prop
/-- a def's promise -/
abbrev DSp := List D → Store → QD → QX → Prop

/-- types that isinstance asks for -/
inductive Ty where
  | int | str | bool | tuple | list | dict
  deriving DecidableEq
inductive O1 where
  | neg | len | abs | int | str | tuple | list | all | any | sum | repr | isinst (t : Ty) | isN | notN | isF | isT | upper | sorted | pop | step | sortset
  deriving DecidableEq
inductive O2 where
  | add | sub | mul | fdiv | mod | pow | eq | ne | lt | le | gt | ge | inn | nin | max | min | ix | join | append | extend | popAt | shl | band | bor
  deriving DecidableEq

def D.isNon : D → Bool
  | .non => true
  | _ => false
mutual
/-- as PyData, where it names no cell -/
def D.py : D → PyData
  | .non => .none
  | .bl b => .bool b
  | .int i => .int i
  | .str x => .str x
  | .tup xs => .tuple (D.pys xs)
  | .ref _ => .none
  | .ro _ => .none
def D.pys : List D → List PyData
  | [] => []
  | x :: r => D.py x :: D.pys r
end
mutual
/-- it names no cell -/
def D.pure : D → Bool
  | .tup xs => D.pures xs
  | .ref _ => false
  | .ro _ => false
  | _ => true
def D.pures : List D → Bool
  | [] => true
  | x :: r => D.pure x && D.pures r
end
/-- data that may be compared: no cell, not too deep -/
def D.flat (d : D) : Bool := d.pure && SeqAt.shaped d.py
def eqP (x y : D) : Bool := PyData.eqv x.py y.py
mutual
/-- data through the cells -/
inductive Deep (mu : Store) : D → PyData → Prop
  | non : Deep mu .non .none
  | bl (b : Bool) : Deep mu (.bl b) (.bool b)
  | int (i : Int) : Deep mu (.int i) (.int i)
  | str (x : Str) : Deep mu (.str x) (.str x)
  | tup {xs : List D} {ps : List PyData} : Deeps mu xs ps → Deep mu (.tup xs) (.tuple ps)
  | lst {n : Nat} {xs : List D} {ps : List PyData} : mu[n]? = some (.lst xs) → Deeps mu xs ps → Deep mu (.ref n) (.list ps)
  | ro {xs : List D} {ps : List PyData} : Deeps mu xs ps → Deep mu (.ro xs) (.list ps)
inductive Deeps (mu : Store) : List D → List PyData → Prop
  | nil : Deeps mu [] []
  | cons {x : D} {p : PyData} {xs : List D} {ps : List PyData} : Deep mu x p → Deeps mu xs ps → Deeps mu (x :: xs) (p :: ps)
end

/-- the items of a list that stands in a cell -/
def lstAt (mu : Store) (n : Nat) (Q : List D → Prop) : Prop :=
  match mu[n]? with
  | some (.lst xs) => Q xs
  | _ => False
/-- the items of a list -/
def listAt (d : D) (mu : Store) (Q : List D → Prop) : Prop :=
  match d with
  | .ref n => lstAt mu n Q
  | .ro xs => Q xs
  | _ => False
/-- the items of a list or a tuple -/
def seqAt (d : D) (mu : Store) (Q : List D → Prop) : Prop :=
  match d with
  | .tup xs => Q xs
  | .ref n => lstAt mu n Q
  | .ro xs => Q xs
  | _ => False
def newLst (xs : List D) (mu : Store) (Q : QD) : Prop := Q (.ref mu.length) (mu ++ [.lst xs])

def sizeT (n : Nat) : Prop := n ≤ sizeLine
def cpsLt (x y : Str) : Bool := decide (x.cps.toList < y.cps.toList)
def isTy : Ty → D → Store → (Bool → Prop) → Prop
  | .int, .int _, _, k => k true
  | .int, .bl _, _, k => k true
  | .bool, .bl _, _, k => k true
  | .str, .str _, _, k => k true
  | .tuple, .tup _, _, k => k true
  | t, .ref n, mu, k => match mu[n]? with
    | some (.lst _) => k (t == .list)
    | some (.dct _ _) => k (t == .dict)
    | _ => False
  | t, .ro _, _, k => k (t == .list)
  | _, _, _, k => k false
def strOf : D → Option Str
  | .str x => some x
  | _ => none
def allBl : List D → Option (List Bool)
  | [] => some []
  | .bl b :: r => (allBl r).map (b :: ·)
  | _ :: _ => none
def allInt : List D → Option (List Int)
  | [] => some []
  | .int b :: r => (allInt r).map (b :: ·)
  | _ :: _ => none
def allStr : List D → Option (List Str)
  | [] => some []
  | .str b :: r => (allStr r).map (b :: ·)
  | _ :: _ => none
def onBl (xs : List D) (k : List Bool → Prop) : Prop := match allBl xs with
  | some bs => k bs
  | none => False
def onInt (xs : List D) (k : List Int → Prop) : Prop := match allInt xs with
  | some bs => k bs
  | none => False
def onStr (xs : List D) (k : List Str → Prop) : Prop := match allStr xs with
  | some bs => k bs
  | none => False

/-- a truth value, an int -/
def onB (d : D) (k : Bool → Prop) : Prop := match d with
  | .bl b => k b
  | _ => False
def onI (d : D) (k : Int → Prop) : Prop := match d with
  | .int i => k i
  | _ => False

def w1 (o : O1) (x : D) (mu : Store) (Q : QD) : Prop :=
  match o with
  | .neg => match x with
    | .int i => Q (.int (-i)) mu
    | _ => False
  | .len => match x with
    | .str z => sizeT z.length ∧ Q (.int z.length) mu
    | x => seqAt x mu fun xs => Q (.int xs.length) mu
  | .abs => match x with
    | .int i => Q (.int (if i < 0 then -i else i)) mu
    | _ => False
  | .int => match x with
    | .int i => Q (.int i) mu
    | .bl b => Q (.int (if b then 1 else 0)) mu
    | _ => False
  | .str => match x with
    | .int i => i.natAbs.log2 < 1920 ∧ Q (.str (toString i)) mu
    | .bl b => Q (.str (if b then "True" else "False")) mu
    | _ => False
  | .tuple => seqAt x mu fun xs => Q (.tup xs) mu
  | .list => seqAt x mu fun xs => newLst xs mu Q
  | .all => listAt x mu fun xs => onBl xs fun bs => Q (.bl (bs.all id)) mu
  | .any => listAt x mu fun xs => onBl xs fun bs => Q (.bl (bs.any id)) mu
  | .sum => listAt x mu fun xs => onInt xs fun ns => Q (.int ns.sum) mu
  | .repr => ∃ p, Deep mu x p ∧ p.showable = true ∧ p.depth ≤ 64 ∧ sizeT p.shown.length ∧ Q (.str p.shown) mu
  | .isinst t => isTy t x mu fun b => Q (.bl b) mu
  | .isN => Q (.bl x.isNon) mu
  | .notN => Q (.bl (!x.isNon)) mu
  | .isF => match x with
    | .bl b => Q (.bl (!b)) mu
    | _ => False
  | .isT => match x with
    | .bl b => Q (.bl b) mu
    | _ => False
  | .upper => False
  | .sorted => listAt x mu fun xs => onStr xs fun ss => ss.length < 64 ∧ ∀ ys : List Str, ys.Perm ss → sortedS ys = true → newLst (ys.map .str) mu Q
  | .pop => match x with
    | .ref n => lstAt mu n fun xs => ∃ y, xs[xs.length - 1]? = some y ∧ Q y (mu.set n (.lst xs.dropLast))
    | _ => False
  | .step => False
  | .sortset => False

/-- the item at an int place -/
def itemAt (xs : List D) (i : Int) (k : D → Prop) : Prop := match atI xs i with
  | some v => k v
  | none => False
def w2 (o : O2) (x y : D) (mu : Store) (Q : QD) : Prop :=
  match o with
  | .add => match x, y with
    | .int i, .int j => Q (.int (i + j)) mu
    | .str a, .str b => sizeT (a.length + b.length) ∧ Q (.str (a ++ b)) mu
    | .tup a, .tup b => sizeT (a.length + b.length) ∧ Q (.tup (a ++ b)) mu
    | .ref n, .ref m => lstAt mu n fun xs => lstAt mu m fun ys => sizeT (xs.length + ys.length) ∧ newLst (xs ++ ys) mu Q
    | _, _ => False
  | .sub => match x, y with
    | .int i, .int j => Q (.int (i - j)) mu
    | _, _ => False
  | .mul => match x, y with
    | .int i, .int j => IntMulOk i j ∧ Q (.int (i * j)) mu
    | .str a, .int k => k < 2 ^ 20 ∧ -(2 ^ 20) < k ∧ sizeT (a.length * k.toNat) ∧ Q (.str ⟨(List.replicate k.toNat a.cps.toList).flatten.toArray⟩) mu
    | .tup a, .int k => k < 2 ^ 20 ∧ -(2 ^ 20) < k ∧ sizeT (a.length * k.toNat) ∧ Q (.tup (List.replicate k.toNat a).flatten) mu
    | .ref n, .int k => lstAt mu n fun xs => k < 2 ^ 20 ∧ -(2 ^ 20) < k ∧ sizeT (xs.length * k.toNat) ∧ newLst (List.replicate k.toNat xs).flatten mu Q
    | _, _ => False
  | .fdiv => match x, y with
    | .int i, .int j => (0 < j ∧ j < 2 ^ 30) ∧ Q (.int (i / j)) mu
    | _, _ => False
  | .mod => match x, y with
    | .int i, .int j => 0 < j ∧ Q (.int (i % j)) mu
    | _, _ => False
  | .pow => match x, y with
    | .int i, .int j => (0 ≤ j ∧ (Builtin.Int.intBits i : Int) * j ≤ 2 ^ 27) ∧ Q (.int (i ^ j.toNat)) mu
    | _, _ => False
  | .eq => match x, y with
    | .str a, .str b => Q (.bl (decide (a = b))) mu
    | .int i, .int j => Q (.bl (decide (i = j))) mu
    | .tup xs, .tup [] => Q (.bl xs.isEmpty) mu
    | .ref n, .ref m => lstAt mu n fun xs => lstAt mu m fun ys => (D.tup xs).flat = true ∧ (D.tup ys).flat = true ∧ Q (.bl (eqP (.tup xs) (.tup ys))) mu
    | x, y => x.flat = true ∧ y.flat = true ∧ Q (.bl (eqP x y)) mu
  | .ne => match x, y with
    | .str a, .str b => Q (.bl (!decide (a = b))) mu
    | .int i, .int j => Q (.bl (!decide (i = j))) mu
    | .tup xs, .tup [] => Q (.bl (!xs.isEmpty)) mu
    | .ref n, .ref m => lstAt mu n fun xs => lstAt mu m fun ys => (D.tup xs).flat = true ∧ (D.tup ys).flat = true ∧ Q (.bl (!eqP (.tup xs) (.tup ys))) mu
    | x, y => x.flat = true ∧ y.flat = true ∧ Q (.bl (!eqP x y)) mu
  | .lt => match x, y with
    | .int i, .int j => Q (.bl (decide (i < j))) mu
    | .str a, .str b => Q (.bl (cpsLt a b)) mu
    | _, _ => False
  | .le => match x, y with
    | .int i, .int j => Q (.bl (decide (i ≤ j))) mu
    | .str a, .str b => Q (.bl (!cpsLt b a)) mu
    | _, _ => False
  | .gt => match x, y with
    | .int i, .int j => Q (.bl (decide (j < i))) mu
    | .str a, .str b => Q (.bl (cpsLt b a)) mu
    | _, _ => False
  | .ge => match x, y with
    | .int i, .int j => Q (.bl (decide (j ≤ i))) mu
    | .str a, .str b => Q (.bl (!cpsLt a b)) mu
    | _, _ => False
  | .inn => match x, y with
    | .str a, .str b => a.length = 1 ∧ Q (.bl (b.cps.toList.any fun c => decide (a.cps.toList = [c]))) mu
    | _, _ => False
  | .nin => False
  | .max => match x, y with
    | .int i, .int j => Q (.int (if j > i then j else i)) mu
    | _, _ => False
  | .min => match x, y with
    | .int i, .int j => Q (.int (if j < i then j else i)) mu
    | _, _ => False
  | .ix => match x, y with
    | .str z, .int i => sizeT z.length ∧ match atI z.cps.toList i with
      | some c => Q (.str ⟨#[c]⟩) mu
      | none => False
    | x, .int i => seqAt x mu fun xs => itemAt xs i fun v => Q v mu
    | _, _ => False
  | .join => match x with
    | .str z => seqAt y mu fun xs => onStr xs fun ss => sizeT ((ss.map Str.length).sum + z.length * ss.length) ∧ Q (.str (Txt.join z ss)) mu
    | _ => False
  | .append => match x with
    | .ref n => lstAt mu n fun xs => xs.length < sizeLine ∧ Q .non (mu.set n (.lst (xs ++ [y])))
    | _ => False
  | .extend => match x, y with
    | .ref n, .ref m => lstAt mu n fun xs => lstAt mu m fun ys => sizeT (xs.length + ys.length) ∧ Q .non (mu.set n (.lst (xs ++ ys)))
    | _, _ => False
  | .popAt => False
  | .shl => False
  | .band => False
  | .bor => False

/-- the receiver of a method, ahead of its argument -/
def pre2 (o : O2) (x : D) (mu : Store) : Prop :=
  match o with
  | .append => match x with
    | .ref n => lstAt mu n fun _ => True
    | _ => False
  | .extend => match x with
    | .ref n => lstAt mu n fun _ => True
    | _ => False
  | .popAt => match x with
    | .ref n => lstAt mu n fun _ => True
    | _ => False
  | .join => match x with
    | .str _ => True
    | _ => False
  | _ => True
/-- a part of a slice -/
def cutD (xs : List D) (lo hi : Option Int) : List D := (xs.drop (HT.sIx xs.length 0 lo)).take (HT.sIx xs.length xs.length hi - HT.sIx xs.length 0 lo)
def wSl (x : D) (lo hi : Option Int) (mu : Store) (Q : QD) : Prop :=
  match x with
  | .str z => sizeT z.length ∧ Q (.str (cutS z lo hi)) mu
  | .tup xs => Q (.tup (cutD xs lo hi)) mu
  | .ref n => lstAt mu n fun xs => newLst (cutD xs lo hi) mu Q
  | _ => False

/-- names bound by a target -/
inductive CP where
  | name (i : Nat)
  | tup (ps : List CP)
mutual
def CP.bind : CP → D → Sl → Option Sl
  | .name i, d, rh => some (rh.set i (some d))
  | .tup ps, .tup xs, rh => CP.binds ps xs rh
  | .tup _, _, _ => none
def CP.binds : List CP → List D → Sl → Option Sl
  | [], [], rh => some rh
  | p :: ps, x :: xs, rh => match CP.bind p x rh with
    | some r => CP.binds ps xs r
    | none => none
  | _, _, _ => none
end
def onP (p : CP) (d : D) (rh : Sl) (k : Sl → Prop) : Prop := match p.bind d rh with
  | some r => k r
  | none => False
def wipeD (rh : Sl) : List Nat → Sl
  | [] => rh
  | v :: vs => (wipeD rh vs).set v none

mutual
inductive CE where
  | con (d : D)
  | var (i : Nat)
  | tup (es : CEs)
  | lst (es : CEs)
  | op1 (o : O1) (a : CE)
  | op2 (o : O2) (a b : CE)
  | cond (t a b : CE)
  | and (a b : CE)
  | or (a b : CE)
  | not (a : CE)
  | chain (o p : O2) (a b c : CE)
  | sl (e : CE) (lo hi : CO)
  | call (f : Nat) (perm : List Nat) (es ks : CEs)
  | lc (own : List Nat) (p : CP) (it : CI) (c : CE) (e : CE)
  | gc (e : CE)
inductive CEs where
  | nil
  | cons (e : CE) (r : CEs)
inductive CO where
  | no
  | some (e : CE)
inductive CI where
  | seq (e : CE)
  | rng1 (e : CE)
  | rng2 (a b : CE)
  | enum (e : CE)
  | zip (a b : CE)
end

/-- the turns of a comprehension -/
def lcGo (turn : D → Store → (Option D → Store → Prop) → Prop) (still : Store → Prop) (fin : List D → Store → Prop) : List D → List D → Store → Prop
  | [], acc, mu => still mu ∧ fin acc mu
  | x :: xs, acc, mu => still mu ∧ turn x mu fun o mu1 => match o with
    | some d => lcGo turn still fin xs (acc ++ [d]) mu1
    | none => lcGo turn still fin xs acc mu1
/-- what is walked: its items, and what must stay so -/
def stay (d : D) (xs : List D) : Store → Prop := fun mu => match d with
  | .ref n => lstAt mu n fun ys => ys = xs
  | _ => True
def chars (z : Str) : List D := z.cps.toList.map fun c => .str ⟨#[c]⟩
def wSeq (d : D) (mu : Store) (R : List D → (Store → Prop) → Store → Prop) : Prop :=
  match d with
  | .str z => sizeT z.length ∧ R (chars z) (fun _ => True) mu
  | d => seqAt d mu fun xs => R xs (stay d xs) mu
def intsD (lo : Int) (n : Nat) : List D := (List.range n).map fun i => .int (lo + (i : Nat))
def pairs : List D → List D → List D
  | x :: xs, y :: ys => .tup [x, y] :: pairs xs ys
  | _, _ => []

structure Ctx where
  fn : Nat → DSp

/-- the values in the parameters' order -/
def perm (ps : List Nat) (xs : List D) : List D := ps.map fun i => xs.getD i .non

mutual
def wpE (G : Ctx) : CE → QX → Sl → Store → QD → Prop
  | .con d, _, _, mu, Q => Q d mu
  | .var i, _, rh, mu, Q => match rh[i]? with
    | some (some d) => Q d mu
    | _ => False
  | .tup es, E, rh, mu, Q => wpEs G es E rh mu fun xs mu1 => sizeT xs.length ∧ Q (.tup xs) mu1
  | .lst es, E, rh, mu, Q => wpEs G es E rh mu fun xs mu1 => sizeT xs.length ∧ newLst xs mu1 Q
  | .op1 o a, E, rh, mu, Q => wpE G a E rh mu fun x mu1 => w1 o x mu1 Q
  | .op2 o a b, E, rh, mu, Q => wpE G a E rh mu fun x mu1 => pre2 o x mu1 ∧ wpE G b E rh mu1 fun y mu2 => w2 o x y mu2 Q
  | .cond t a b, E, rh, mu, Q => wpE G t E rh mu fun x mu1 => onB x fun c => if c = true then wpE G a E rh mu1 Q else wpE G b E rh mu1 Q
  | .and a b, E, rh, mu, Q => wpE G a E rh mu fun x mu1 => onB x fun c => if c = true then wpE G b E rh mu1 Q else Q (.bl false) mu1
  | .or a b, E, rh, mu, Q => wpE G a E rh mu fun x mu1 => onB x fun c => if c = true then Q (.bl true) mu1 else wpE G b E rh mu1 Q
  | .not a, E, rh, mu, Q => wpE G a E rh mu fun x mu1 => onB x fun c => Q (.bl (!c)) mu1
  | .chain o p a b c, E, rh, mu, Q => wpE G a E rh mu fun x mu1 => wpE G b E rh mu1 fun y mu2 => w2 o x y mu2 fun z mu3 => onB z fun k => if k = true then wpE G c E rh mu3 fun u mu4 => w2 p y u mu4 Q else Q (.bl false) mu3
  | .sl e lo hi, E, rh, mu, Q => wpE G e E rh mu fun x mu1 => wpO G lo E rh mu1 fun l mu2 => wpO G hi E rh mu2 fun h mu3 => wSl x l h mu3 Q
  | .call f ps es ks, E, rh, mu, Q => wpEs G es E rh mu fun xs mu1 => wpEs G ks E rh mu1 fun ys mu2 => ∃ (Q0 : QD) (E0 : QX), G.fn f (perm ps (xs ++ ys)) mu2 Q0 E0 ∧ (∀ d nu, Q0 d nu → Q d nu) ∧ ∀ x nu, E0 x nu → E x nu
  | .lc own p it c e, E, rh, mu, Q => wpI G it E rh mu fun xs still mu1 =>
      lcGo (fun x mu2 k => onP p x (wipeD rh own) fun rh1 => wpE G c (fun _ _ => False) rh1 mu2 fun y mu3 => onB y fun b => if b = true then wpE G e (fun _ _ => False) rh1 mu3 fun d mu4 => k (some d) mu4 else k none mu3)
        still (fun acc mu2 => newLst acc mu2 Q) xs [] mu1
  | .gc e, E, rh, mu, Q => wpE G e E rh mu fun d mu1 => ∃ nu, nu <+: mu1 ∧ nu.length = mu.length ∧ (WF mu → WF nu) ∧ d.cl mu.length ∧ Q d nu
def wpEs (G : Ctx) : CEs → QX → Sl → Store → (List D → Store → Prop) → Prop
  | .nil, _, _, mu, Q => Q [] mu
  | .cons e r, E, rh, mu, Q => wpE G e E rh mu fun x mu1 => wpEs G r E rh mu1 fun xs mu2 => Q (x :: xs) mu2
/-- a part of a slice -/
def wpO (G : Ctx) : CO → QX → Sl → Store → (Option Int → Store → Prop) → Prop
  | .no, _, _, mu, Q => Q none mu
  | .some e, E, rh, mu, Q => wpE G e E rh mu fun x mu1 => onI x fun i => Q (some i) mu1
/-- what is walked -/
def wpI (G : Ctx) : CI → QX → Sl → Store → (List D → (Store → Prop) → Store → Prop) → Prop
  | .seq e, E, rh, mu, R => wpE G e E rh mu fun x mu1 => wSeq x mu1 R
  | .rng1 e, E, rh, mu, R => wpE G e E rh mu fun x mu1 => onI x fun j => (-(2 ^ 20) < j ∧ j < 2 ^ 20) ∧ R (intsD 0 j.toNat) (fun _ => True) mu1
  | .rng2 a b, E, rh, mu, R => wpE G a E rh mu fun x mu1 => wpE G b E rh mu1 fun y mu2 => onI x fun i => onI y fun j => (-(2 ^ 20) < i ∧ i < 2 ^ 20 ∧ -(2 ^ 20) < j ∧ j < 2 ^ 20) ∧ R (intsD i (j - i).toNat) (fun _ => True) mu2
  | .enum e, E, rh, mu, R => wpE G e E rh mu fun x mu1 => seqAt x mu1 fun xs => R (pairs (intsD 0 xs.length) xs) (stay x xs) mu1
  | .zip a b, E, rh, mu, R => wpE G a E rh mu fun x mu1 => wpE G b E rh mu1 fun y mu2 => seqAt x mu2 fun xs => seqAt y mu2 fun ys => R (pairs xs ys) (fun nu => stay x xs nu ∧ stay y ys nu) mu2
end

/-- a test -/
def wpT (G : Ctx) (c : CE) (E : QX) (rh : Sl) (mu : Store) (Q : Bool → Store → Prop) : Prop := wpE G c E rh mu fun x nu => onB x fun b => Q b nu

/-- what is wanted behind a statement -/
structure CEnds where
  nx : Sl → Store → Prop
  rt : D → Store → Prop
  bk : Sl → Store → Prop
  ct : Sl → Store → Prop
  ex : Exc → Sl → Store → Prop

mutual
inductive CS where
  | asg (p : CP) (e : CE)
  | setSub (o i e : CE)
  | augN (i : Nat) (o : O2) (e : CE)
  | expr (e : CE)
  | ret (e : CE)
  | retN
  | ite (c : CE) (a b : CSs)
  | for (p : CP) (it : CI) (b : CSs)
  | while (c : CE) (b : CSs)
  | pass
  | brk
  | cont
inductive CSs where
  | nil
  | cons (s : CS) (r : CSs)
end

/-- the turns of a for -/
def forGo (turn : D → Sl → Store → (Sl → Store → Prop) → Prop) (still : Store → Prop) (fin : Sl → Store → Prop) : List D → Sl → Store → Prop
  | [], rh, mu => still mu ∧ fin rh mu
  | x :: xs, rh, mu => still mu ∧ turn x rh mu (forGo turn still fin xs)
/-- the turns of a while, n of them at most -/
def whileGo (turn : Sl → Store → (Sl → Store → Prop) → Prop) : Nat → Sl → Store → Prop
  | 0, _, _ => False
  | n + 1, rh, mu => turn rh mu (whileGo turn n)
def wSet (o i v : D) (mu : Store) (k : Store → Prop) : Prop :=
  match o, i with
  | .ref n, .int j => lstAt mu n fun xs => match ixN xs.length j with
    | some m => k (mu.set n (.lst (xs.set m v)))
    | none => False
  | _, _ => False
def wAug : O2 → D → D → Store → QD → Prop
  | .add, .int i, .int j, mu, Q => Q (.int (i + j)) mu
  | .sub, .int i, .int j, mu, Q => Q (.int (i - j)) mu
  | _, _, _, _, _ => False

mutual
def wpS (G : Ctx) : CS → CEnds → Sl → Store → Prop
  | .asg p e, D, rh, mu => wpE G e (fun x nu => D.ex x rh nu) rh mu fun d mu1 => onP p d rh fun rh1 => D.nx rh1 mu1
  | .setSub o i e, D, rh, mu => wpE G e (fun x nu => D.ex x rh nu) rh mu fun v mu1 => wpE G o (fun x nu => D.ex x rh nu) rh mu1 fun od mu2 => wpE G i (fun x nu => D.ex x rh nu) rh mu2 fun id mu3 => wSet od id v mu3 fun mu4 => D.nx rh mu4
  | .augN i o e, D, rh, mu => match rh[i]? with
    | some (some x) => wpE G e (fun x nu => D.ex x rh nu) rh mu fun y mu1 => wAug o x y mu1 fun z mu2 => D.nx (rh.set i (some z)) mu2
    | _ => False
  | .expr e, D, rh, mu => wpE G e (fun x nu => D.ex x rh nu) rh mu fun _ mu1 => D.nx rh mu1
  | .ret e, D, rh, mu => wpE G e (fun x nu => D.ex x rh nu) rh mu fun d mu1 => D.rt d mu1
  | .retN, D, _, mu => D.rt .non mu
  | .ite c a b, D, rh, mu => wpT G c (fun x nu => D.ex x rh nu) rh mu fun k mu1 => if k = true then wpSs G a D rh mu1 else wpSs G b D rh mu1
  | .for p it b, D, rh, mu => wpI G it (fun x nu => D.ex x rh nu) rh mu fun xs still mu1 =>
      forGo (fun x rh1 mu2 k => onP p x rh1 fun rh2 => wpSs G b { D with nx := k, ct := k, bk := D.nx } rh2 mu2) still D.nx xs rh mu1
  | .while c b, D, rh, mu => ∃ n, whileGo (fun rh1 mu1 k => wpT G c (fun x nu => D.ex x rh1 nu) rh1 mu1 fun t mu2 => if t = true then wpSs G b { D with nx := k, ct := k, bk := D.nx } rh1 mu2 else D.nx rh1 mu2) n rh mu
  | .pass, D, rh, mu => D.nx rh mu
  | .brk, D, rh, mu => D.bk rh mu
  | .cont, D, rh, mu => D.ct rh mu
def wpSs (G : Ctx) : CSs → CEnds → Sl → Store → Prop
  | .nil, D, rh, mu => D.nx rh mu
  | .cons s r, D, rh, mu => wpS G s { D with nx := wpSs G r D } rh mu
end
end MP

/-! MP: wishes may be weakened -/
namespace MP
open PySem PySem.Spec PyProof.Rows L2

theorem lstAt_mono {mu : Store} {n : Nat} {Q Q' : List D → Prop} (h : ∀ xs, Q xs → Q' xs) (q : lstAt mu n Q) : lstAt mu n Q' := by
  unfold lstAt at q ⊢
  split <;> simp_all
theorem seqAt_mono {d : D} {mu : Store} {Q Q' : List D → Prop} (h : ∀ xs, Q xs → Q' xs) (q : seqAt d mu Q) : seqAt d mu Q' := by
  cases d <;> simp only [seqAt] at q ⊢
  · exact h _ q
  · exact lstAt_mono h q
  · exact h _ q
theorem listAt_mono {d : D} {mu : Store} {Q Q' : List D → Prop} (h : ∀ xs, Q xs → Q' xs) (q : listAt d mu Q) : listAt d mu Q' := by
  cases d <;> simp only [listAt] at q ⊢
  · exact lstAt_mono h q
  · exact h _ q
theorem onBl_mono {xs : List D} {k k' : List Bool → Prop} (h : ∀ b, k b → k' b) (q : onBl xs k) : onBl xs k' := by
  unfold onBl at q ⊢
  split <;> simp_all
theorem onInt_mono {xs : List D} {k k' : List Int → Prop} (h : ∀ b, k b → k' b) (q : onInt xs k) : onInt xs k' := by
  unfold onInt at q ⊢
  split <;> simp_all
theorem onStr_mono {xs : List D} {k k' : List Str → Prop} (h : ∀ b, k b → k' b) (q : onStr xs k) : onStr xs k' := by
  unfold onStr at q ⊢
  split <;> simp_all
theorem isTy_mono {t : Ty} {d : D} {mu : Store} {k k' : Bool → Prop} (h : ∀ b, k b → k' b) (q : isTy t d mu k) : isTy t d mu k' := by
  cases d <;> cases t <;> simp only [isTy] at q ⊢ <;> first | exact h _ q | (split <;> first | exact h _ (by simpa only [*] using q) | simp_all)
theorem itemAt_mono {xs : List D} {i : Int} {k k' : D → Prop} (h : ∀ b, k b → k' b) (q : itemAt xs i k) : itemAt xs i k' := by
  unfold itemAt at q ⊢
  split <;> simp_all

theorem onB_mono {d : D} {k k' : Bool → Prop} (h : ∀ b, k b → k' b) (q : onB d k) : onB d k' := by
  cases d <;> simp only [onB] at q ⊢
  exact h _ q
theorem onI_mono {d : D} {k k' : Int → Prop} (h : ∀ b, k b → k' b) (q : onI d k) : onI d k' := by
  cases d <;> simp only [onI] at q ⊢
  exact h _ q
theorem w1_mono {o : O1} {x : D} {mu : Store} {Q Q' : QD} (h : ∀ d nu, Q d nu → Q' d nu) (q : w1 o x mu Q) : w1 o x mu Q' := by
  cases o <;> simp only [w1] at q ⊢
  case neg => split <;> simp_all
  case len =>
    cases x <;> simp only at q ⊢ <;> first | exact ⟨q.1, h _ _ q.2⟩ | exact seqAt_mono (fun xs p => h _ _ p) q
  case abs => split <;> simp_all
  case int => split <;> simp_all
  case str => split <;> simp_all
  case tuple => exact seqAt_mono (fun xs p => h _ _ p) q
  case list => exact seqAt_mono (fun xs p => h _ _ p) q
  case all => exact listAt_mono (fun xs p => onBl_mono (fun b r => h _ _ r) p) q
  case any => exact listAt_mono (fun xs p => onBl_mono (fun b r => h _ _ r) p) q
  case sum => exact listAt_mono (fun xs p => onInt_mono (fun b r => h _ _ r) p) q
  case repr =>
    obtain ⟨p, a, b, c, d, e⟩ := q
    exact ⟨p, a, b, c, d, h _ _ e⟩
  case isinst t => exact isTy_mono (fun b p => h _ _ p) q
  case isN => exact h _ _ q
  case notN => exact h _ _ q
  case isF => split <;> simp_all
  case isT => split <;> simp_all
  case sorted => exact listAt_mono (fun xs p => onStr_mono (fun b r => ⟨r.1, fun ys a b => h _ _ (r.2 ys a b)⟩) p) q
  case pop =>
    split <;> simp_all
    exact lstAt_mono (fun xs ⟨y, a, b⟩ => ⟨y, a, h _ _ b⟩) q
theorem w2_mono {o : O2} {x y : D} {mu : Store} {Q Q' : QD} (h : ∀ d nu, Q d nu → Q' d nu) (q : w2 o x y mu Q) : w2 o x y mu Q' := by
  cases o <;> simp only [w2] at q ⊢
  case add =>
    split <;> simp_all
    exact lstAt_mono (fun xs p => lstAt_mono (fun ys r => ⟨r.1, h _ _ r.2⟩) p) q
  case sub => split <;> simp_all
  case mul =>
    split <;> simp_all
    exact lstAt_mono (fun xs p => ⟨p.1, p.2.1, p.2.2.1, h _ _ p.2.2.2⟩) q
  case fdiv => split <;> simp_all
  case mod => split <;> simp_all
  case pow => split <;> simp_all
  case eq =>
    split <;> simp_all
    exact lstAt_mono (fun xs p => lstAt_mono (fun ys r => ⟨r.1, r.2.1, h _ _ r.2.2⟩) p) q
  case ne =>
    split <;> simp_all
    exact lstAt_mono (fun xs p => lstAt_mono (fun ys r => ⟨r.1, r.2.1, h _ _ r.2.2⟩) p) q
  case lt => split <;> simp_all
  case le => split <;> simp_all
  case gt => split <;> simp_all
  case ge => split <;> simp_all
  case inn => split <;> simp_all
  case max => split <;> simp_all
  case min => split <;> simp_all
  case ix =>
    split <;> simp_all
    · split <;> simp_all
    · exact seqAt_mono (fun xs p => itemAt_mono (fun v r => h _ _ r) p) q
  case join =>
    split <;> simp_all
    exact seqAt_mono (fun xs p => onStr_mono (fun v r => ⟨r.1, h _ _ r.2⟩) p) q
  case append =>
    split <;> simp_all
    exact lstAt_mono (fun xs p => ⟨p.1, h _ _ p.2⟩) q
  case extend =>
    split <;> simp_all
    exact lstAt_mono (fun xs p => lstAt_mono (fun ys r => ⟨r.1, h _ _ r.2⟩) p) q
theorem wSl_mono {x : D} {lo hi : Option Int} {mu : Store} {Q Q' : QD} (h : ∀ d nu, Q d nu → Q' d nu) (q : wSl x lo hi mu Q) : wSl x lo hi mu Q' := by
  cases x <;> simp only [wSl] at q ⊢ <;> first | exact ⟨q.1, h _ _ q.2⟩ | exact h _ _ q | exact lstAt_mono (fun xs p => h _ _ p) q
theorem onP_mono {p : CP} {d : D} {rh : Sl} {k k' : Sl → Prop} (h : ∀ r, k r → k' r) (q : onP p d rh k) : onP p d rh k' := by
  unfold onP at q ⊢
  split <;> simp_all
theorem lcGo_mono {turn turn' : D → Store → (Option D → Store → Prop) → Prop} {still : Store → Prop} {fin fin' : List D → Store → Prop}
    (ht : ∀ x mu k k', (∀ o nu, k o nu → k' o nu) → turn x mu k → turn' x mu k') (hf : ∀ a nu, fin a nu → fin' a nu) :
    ∀ xs acc mu, lcGo turn still fin xs acc mu → lcGo turn' still fin' xs acc mu
  | [], acc, mu, h => ⟨h.1, hf _ _ h.2⟩
  | x :: xs, acc, mu, h => ⟨h.1, ht _ _ _ _ (fun o nu p => by
      cases o with
      | none => exact lcGo_mono ht hf xs acc nu p
      | some d => exact lcGo_mono ht hf xs (acc ++ [d]) nu p) h.2⟩
theorem wSeq_mono {d : D} {mu : Store} {R R' : List D → (Store → Prop) → Store → Prop} (h : ∀ xs st nu, R xs st nu → R' xs st nu) (q : wSeq d mu R) : wSeq d mu R' := by
  cases d <;> simp only [wSeq] at q ⊢ <;> first | exact ⟨q.1, h _ _ _ q.2⟩ | exact seqAt_mono (fun xs p => h _ _ _ p) q

mutual
theorem wpE_mono {G : Ctx} : ∀ (c : CE) {E E' : QX} {rh : Sl} {mu : Store} {Q Q' : QD}, (∀ x nu, E x nu → E' x nu) → (∀ d nu, Q d nu → Q' d nu) → wpE G c E rh mu Q → wpE G c E' rh mu Q'
  | .con d, _, _, _, _, _, _, _, hq, h => hq _ _ h
  | .var i, _, _, _, _, _, _, _, hq, h => by
    simp only [wpE] at h ⊢
    split <;> simp_all
  | .tup es, _, _, _, _, _, _, he, hq, h => by
    simp only [wpE] at h ⊢
    exact wpEs_mono es he (fun xs nu p => ⟨p.1, hq _ _ p.2⟩) h
  | .lst es, _, _, _, _, _, _, he, hq, h => by
    simp only [wpE] at h ⊢
    exact wpEs_mono es he (fun xs nu p => ⟨p.1, hq _ _ p.2⟩) h
  | .op1 o a, _, _, _, _, _, _, he, hq, h => by
    simp only [wpE] at h ⊢
    exact wpE_mono a he (fun x nu p => w1_mono hq p) h
  | .op2 o a b, _, _, _, _, _, _, he, hq, h => by
    simp only [wpE] at h ⊢
    exact wpE_mono a he (fun x nu p => ⟨p.1, wpE_mono b he (fun y nu r => w2_mono hq r) p.2⟩) h
  | .cond t a b, _, _, _, _, _, _, he, hq, h => by
    simp only [wpE] at h ⊢
    refine wpE_mono t he (fun x nu p => ?_) h
    refine onB_mono (fun k p => ?_) p
    cases k
    · exact wpE_mono b he hq p
    · exact wpE_mono a he hq p
  | .and a b, _, _, _, _, _, _, he, hq, h => by
    simp only [wpE] at h ⊢
    refine wpE_mono a he (fun x nu p => ?_) h
    refine onB_mono (fun k p => ?_) p
    cases k
    · exact hq _ _ p
    · exact wpE_mono b he hq p
  | .or a b, _, _, _, _, _, _, he, hq, h => by
    simp only [wpE] at h ⊢
    refine wpE_mono a he (fun x nu p => ?_) h
    refine onB_mono (fun k p => ?_) p
    cases k
    · exact wpE_mono b he hq p
    · exact hq _ _ p
  | .not a, _, _, _, _, _, _, he, hq, h => by
    simp only [wpE] at h ⊢
    refine wpE_mono a he (fun x nu p => ?_) h
    exact onB_mono (fun k p => hq _ _ p) p
  | .chain o p a b c, _, _, _, _, _, _, he, hq, h => by
    simp only [wpE] at h ⊢
    refine wpE_mono a he (fun x nu q => wpE_mono b he (fun y nu q => w2_mono (fun z nu q => ?_) q) q) h
    refine onB_mono (fun k q => ?_) q
    cases k
    · exact hq _ _ q
    · exact wpE_mono c he (fun u nu q => w2_mono hq q) q
  | .sl e lo hi, _, _, _, _, _, _, he, hq, h => by
    simp only [wpE] at h ⊢
    exact wpE_mono e he (fun x nu q => wpO_mono lo he (fun l nu q => wpO_mono hi he (fun u nu q => wSl_mono hq q) q) q) h
  | .call f ps es ks, _, _, _, _, _, _, he, hq, h => by
    simp only [wpE] at h ⊢
    exact wpEs_mono es he (fun xs nu q => wpEs_mono ks he (fun ys nu ⟨Q0, E0, a, b, c⟩ => ⟨Q0, E0, a, fun d m r => hq _ _ (b d m r), fun x m r => he _ _ (c x m r)⟩) q) h
  | .lc own p it c e, _, _, _, _, _, _, he, hq, h => by
    simp only [wpE] at h ⊢
    refine wpI_mono it he (fun xs still nu q => lcGo_mono (fun x m k k' hk r => onP_mono (fun rh1 r => wpE_mono c (fun _ _ z => z) (fun y m r => ?_) r) r) (fun a m r => hq _ _ r) xs [] nu q) h
    refine onB_mono (fun b r => ?_) r
    cases b
    · exact hk _ _ r
    · exact wpE_mono e (fun _ _ z => z) (fun d m r => hk _ _ r) r
  | .gc e, _, _, _, _, _, _, he, hq, h => by
    simp only [wpE] at h ⊢
    exact wpE_mono e he (fun d nu ⟨m, a, b, c, d', q⟩ => ⟨m, a, b, c, d', hq _ _ q⟩) h
theorem wpEs_mono {G : Ctx} : ∀ (c : CEs) {E E' : QX} {rh : Sl} {mu : Store} {Q Q' : List D → Store → Prop}, (∀ x nu, E x nu → E' x nu) → (∀ d nu, Q d nu → Q' d nu) → wpEs G c E rh mu Q → wpEs G c E' rh mu Q'
  | .nil, _, _, _, _, _, _, _, hq, h => hq _ _ h
  | .cons e r, _, _, _, _, _, _, he, hq, h => by
    simp only [wpEs] at h ⊢
    exact wpE_mono e he (fun x nu p => wpEs_mono r he (fun xs nu q => hq _ _ q) p) h
theorem wpO_mono {G : Ctx} : ∀ (c : CO) {E E' : QX} {rh : Sl} {mu : Store} {Q Q' : Option Int → Store → Prop}, (∀ x nu, E x nu → E' x nu) → (∀ d nu, Q d nu → Q' d nu) → wpO G c E rh mu Q → wpO G c E' rh mu Q'
  | .no, _, _, _, _, _, _, _, hq, h => hq _ _ h
  | .some e, _, _, _, _, _, _, he, hq, h => by
    simp only [wpO] at h ⊢
    exact wpE_mono e he (fun x nu p => onI_mono (fun i p => hq _ _ p) p) h
theorem wpI_mono {G : Ctx} : ∀ (c : CI) {E E' : QX} {rh : Sl} {mu : Store} {R R' : List D → (Store → Prop) → Store → Prop}, (∀ x nu, E x nu → E' x nu) → (∀ xs st nu, R xs st nu → R' xs st nu) → wpI G c E rh mu R → wpI G c E' rh mu R'
  | .seq e, _, _, _, _, _, _, he, hq, h => by
    simp only [wpI] at h ⊢
    exact wpE_mono e he (fun x nu p => wSeq_mono hq p) h
  | .rng1 e, _, _, _, _, _, _, he, hq, h => by
    simp only [wpI] at h ⊢
    exact wpE_mono e he (fun x nu p => onI_mono (fun i p => ⟨p.1, hq _ _ _ p.2⟩) p) h
  | .rng2 a b, _, _, _, _, _, _, he, hq, h => by
    simp only [wpI] at h ⊢
    exact wpE_mono a he (fun x nu p => wpE_mono b he (fun y nu p => onI_mono (fun i p => onI_mono (fun j p => ⟨p.1, hq _ _ _ p.2⟩) p) p) p) h
  | .enum e, _, _, _, _, _, _, he, hq, h => by
    simp only [wpI] at h ⊢
    exact wpE_mono e he (fun x nu p => seqAt_mono (fun xs r => hq _ _ _ r) p) h
  | .zip a b, _, _, _, _, _, _, he, hq, h => by
    simp only [wpI] at h ⊢
    exact wpE_mono a he (fun x nu p => wpE_mono b he (fun y nu p => seqAt_mono (fun xs r => seqAt_mono (fun ys r => hq _ _ _ r) r) p) p) h
end
theorem wpT_mono {G : Ctx} (c : CE) {E E' : QX} {rh : Sl} {mu : Store} {Q Q' : Bool → Store → Prop} (he : ∀ x nu, E x nu → E' x nu) (hq : ∀ d nu, Q d nu → Q' d nu) (h : wpT G c E rh mu Q) : wpT G c E' rh mu Q' :=
  wpE_mono c he (fun x nu p => onB_mono (fun b p => hq _ _ p) p) h
end MP

/-! MP: the readings of the core trees in the hand layer; values' operations -/
namespace MP
open PySem PySem.Spec PyProof.Rows L2

/-! ### wishes -/
/-- an exception as it lies -/
def IsX (K : PySem.W.Frag) (CT : Nat → Addr) (H : Hp) (be : List Addr) (x : Exc) (cls : Value) (d : Option Addr) : Prop :=
  cls = .ref (CT x.c) ∧ ((x.fs = [] ∧ d = none) ∨ ∃ dx gs, d = some dx ∧ H dx = some (.xd gs) ∧ IsFs K H be x.fs gs)
/-- a wish over data is a wish over the heap -/
def KQ (K : PySem.W.Frag) (CT : Nat → Addr) (H : Hp) (be : List Addr) (Qd : QD) (Q : VK) : Prop :=
  ∀ d nu be' H' v, Ext H H' be be' → RepS K CT H' be' nu → IsD K H' be' d v → Qd d nu → Q v H'
def KX (K : PySem.W.Frag) (CT : Nat → Addr) (H : Hp) (be : List Addr) (Ed : QX) (W : Value → Option Addr → Hp → Prop) : Prop :=
  ∀ x nu be' H' cls d, Ext H H' be be' → RepS K CT H' be' nu → IsX K CT H' be' x cls d → Ed x nu → W cls d H'
section
variable {K : PySem.W.Frag} {CT : Nat → Addr} {H H1 : Hp} {be be1 : List Addr} {Qd : QD} {Q : VK} {Ed : QX} {W : Value → Option Addr → Hp → Prop}
theorem KQ.mono (x : Ext H H1 be be1) (k : KQ K CT H be Qd Q) : KQ K CT H1 be1 Qd Q := fun d nu be' H' v y => k d nu be' H' v (x.trans y)
theorem KX.mono (x : Ext H H1 be be1) (k : KX K CT H be Ed W) : KX K CT H1 be1 Ed W := fun d nu be' H' c v y => k d nu be' H' c v (x.trans y)
theorem KQ.at_ (k : KQ K CT H be Qd Q) {mu : Store} {d : D} {v : V} (S : RepS K CT H be mu) (i : IsD K H be d v) (q : Qd d mu) : Q v H := k d mu be H v .refl S i q
theorem KQ.tup (k : KQ K CT H be Qd Q) {mu : Store} {xs : List D} {vs : List V} {p : Addr} (S : RepS K CT H be mu) (i : IsDs K H be xs vs) (q : Qd (.tup xs) mu) (hp : H p = none) : Q (.ref p) (upd H p (.tup vs)) := by
  have x : Ext H (upd H p (.tup vs)) be be := .fresh hp
  refine k _ mu be _ _ x (S.fresh hp) ?_ q
  simp only [IsD]
  exact ⟨p, vs, rfl, SqT.of upd_same, i.mono x⟩
theorem KQ.lst (k : KQ K CT H be Qd Q) {mu : Store} {xs : List D} {vs : List V} {p : Addr} (S : RepS K CT H be mu) (i : IsDs K H be xs vs) (q : newLst xs mu Qd) (hp : H p = none) : Q (.ref p) (upd H p (.lst vs)) := by
  have x : Ext H (upd H p (.lst vs)) be (be ++ [p]) := .cell hp
  refine k _ _ (be ++ [p]) _ _ x (S.cell (c := .lst xs) hp ⟨vs, upd_same, i.mono x⟩) ?_ q
  simp only [IsD]
  exact ⟨p, by rw [← S.len]; simp, rfl⟩
end

/-! ### readings -/
def LE (G : Ctx) (K : PySem.W.Frag) (CT : Nat → Addr) (W : WX) (c : CE) : TE := fun sg H Q => ∃ be mu rh Qd Ed,
  RepS K CT H be mu ∧ RepL K H be rh sg ∧ wpE G c Ed rh mu Qd ∧ KQ K CT H be Qd Q ∧ KX K CT H be Ed (fun c d => W c d sg)
def LT (G : Ctx) (K : PySem.W.Frag) (CT : Nat → Addr) (W : WX) (c : CE) : TT := fun sg H Q => ∃ be mu rh Qd Ed,
  RepS K CT H be mu ∧ RepL K H be rh sg ∧ wpT G c Ed rh mu Qd ∧ (∀ b nu be' H', Ext H H' be be' → RepS K CT H' be' nu → Qd b nu → Q b H') ∧ KX K CT H be Ed (fun c d => W c d sg)
def LA (G : Ctx) (K : PySem.W.Frag) (CT : Nat → Addr) (W : WX) (c : CEs) : TA := fun sg H Q => ∃ be mu rh Qd Ed,
  RepS K CT H be mu ∧ RepL K H be rh sg ∧ wpEs G c Ed rh mu Qd ∧ (∀ ds nu be' H' vs, Ext H H' be be' → RepS K CT H' be' nu → IsDs K H' be' ds vs → Qd ds nu → Q vs H') ∧ KX K CT H be Ed (fun c d => W c d sg)
def LO (G : Ctx) (K : PySem.W.Frag) (CT : Nat → Addr) (W : WX) (c : CO) : TO := fun sg H Q => ∃ be mu rh Qd Ed,
  RepS K CT H be mu ∧ RepL K H be rh sg ∧ wpO G c Ed rh mu Qd ∧ (∀ o nu be' H', Ext H H' be be' → RepS K CT H' be' nu → Qd o nu → Q o H') ∧ KX K CT H be Ed (fun c d => W c d sg)

/-- values' operations over data -/
def R1D (K : PySem.W.Frag) (CT : Nat → Addr) (o : O1) : V → Hp → VK → Prop := fun v H Q => ∃ be mu x Qd, RepS K CT H be mu ∧ IsD K H be x v ∧ w1 o x mu Qd ∧ KQ K CT H be Qd Q
def R2D (K : PySem.W.Frag) (CT : Nat → Addr) (o : O2) : R2 := fun v u H Q => ∃ be mu x y Qd, RepS K CT H be mu ∧ IsD K H be x v ∧ IsD K H be y u ∧ w2 o x y mu Qd ∧ KQ K CT H be Qd Q
def RSl (K : PySem.W.Frag) (CT : Nat → Addr) : V → Option Int → Option Int → Hp → VK → Prop := fun v lo hi H Q => ∃ be mu x Qd, RepS K CT H be mu ∧ IsD K H be x v ∧ wSl x lo hi mu Qd ∧ KQ K CT H be Qd Q

section
variable {G : Ctx} {K : PySem.W.Frag} {CT : Nat → Addr} {W : WX} {sg : L2.St} {H : Hp} {Q : VK}
theorem le_op1 {o : O1} {a : CE} (h : LE G K CT W (.op1 o a) sg H Q) : LE G K CT W a sg H fun v H1 => R1D K CT o v H1 Q := by
  obtain ⟨be, mu, rh, Qd, Ed, S, L, h, kq, kx⟩ := h
  exact ⟨be, mu, rh, _, Ed, S, L, by simpa only [wpE] using h, fun x mu1 be1 H1 v x1 S1 d1 h1 => ⟨be1, mu1, x, Qd, S1, d1, h1, kq.mono x1⟩, kx⟩
theorem le_op2 {o : O2} {a b : CE} (h : LE G K CT W (.op2 o a b) sg H Q) : tOp (R2D K CT o) (LE G K CT W a) (LE G K CT W b) sg H Q := by
  obtain ⟨be, mu, rh, Qd, Ed, S, L, h, kq, kx⟩ := h
  exact ⟨be, mu, rh, fun x nu => pre2 o x nu ∧ wpE G b Ed rh nu fun y mu2 => w2 o x y mu2 Qd, Ed, S, L, by simpa only [wpE] using h, fun x mu1 be1 H1 v x1 S1 d1 h1 =>
    ⟨be1, mu1, rh, _, Ed, S1, L.mono x1, h1.2, fun y mu2 be2 H2 u x2 S2 d2 h2 => ⟨be2, mu2, x, y, Qd, S2, d1.mono x2, d2, h2, kq.mono (x1.trans x2)⟩, kx.mono x1⟩, kx⟩
/-- the receiver of a method -/
def Pre2 (K : PySem.W.Frag) (CT : Nat → Addr) (o : O2) (v : V) (H : Hp) : Prop := ∃ be mu x, RepS K CT H be mu ∧ IsD K H be x v ∧ pre2 o x mu
theorem le_meth2 {o : O2} {a b : CE} (h : LE G K CT W (.op2 o a b) sg H Q) : LE G K CT W a sg H fun v H1 => Pre2 K CT o v H1 ∧ LE G K CT W b sg H1 fun u H2 => R2D K CT o v u H2 Q := by
  obtain ⟨be, mu, rh, Qd, Ed, S, L, h, kq, kx⟩ := h
  exact ⟨be, mu, rh, fun x nu => pre2 o x nu ∧ wpE G b Ed rh nu fun y mu2 => w2 o x y mu2 Qd, Ed, S, L, by simpa only [wpE] using h, fun x mu1 be1 H1 v x1 S1 d1 h1 =>
    ⟨⟨be1, mu1, x, S1, d1, h1.1⟩, be1, mu1, rh, _, Ed, S1, L.mono x1, h1.2, fun y mu2 be2 H2 u x2 S2 d2 h2 => ⟨be2, mu2, x, y, Qd, S2, d1.mono x2, d2, h2, kq.mono (x1.trans x2)⟩, kx.mono x1⟩, kx⟩
theorem LE.mono {c : CE} {Q' : VK} (h : LE G K CT W c sg H Q) (k : ∀ v H', Q v H' → Q' v H') : LE G K CT W c sg H Q' := by
  obtain ⟨be, mu, rh, Qd, Ed, S, L, h, kq, kx⟩ := h
  exact ⟨be, mu, rh, Qd, Ed, S, L, h, fun d nu be' H' v x S i q => k _ _ (kq d nu be' H' v x S i q), kx⟩
theorem LA.mono {c : CEs} {Q Q' : List V → Hp → Prop} (h : LA G K CT W c sg H Q) (k : ∀ v H', Q v H' → Q' v H') : LA G K CT W c sg H Q' := by
  obtain ⟨be, mu, rh, Qd, Ed, S, L, h, kq, kx⟩ := h
  exact ⟨be, mu, rh, Qd, Ed, S, L, h, fun d nu be' H' v x S i q => k _ _ (kq d nu be' H' v x S i q), kx⟩
theorem le_sl {e : CE} {lo hi : CO} (h : LE G K CT W (.sl e lo hi) sg H Q) : tSl (RSl K CT) (LE G K CT W e) (LO G K CT W lo) (LO G K CT W hi) sg H Q := by
  obtain ⟨be, mu, rh, Qd, Ed, S, L, h, kq, kx⟩ := h
  exact ⟨be, mu, rh, _, Ed, S, L, by simpa only [wpE] using h, fun x mu1 be1 H1 v x1 S1 d1 h1 =>
    ⟨be1, mu1, rh, _, Ed, S1, L.mono x1, h1, fun y mu2 be2 H2 x2 S2 h2 => ⟨be2, mu2, rh, _, Ed, S2, L.mono (x1.trans x2), h2, fun z mu3 be3 H3 x3 S3 h3 =>
      ⟨be3, mu3, x, Qd, S3, d1.mono (x2.trans x3), h3, kq.mono ((x1.trans x2).trans x3)⟩, kx.mono (x1.trans x2)⟩, kx.mono x1⟩, kx⟩
theorem le_con {d : D} (h : LE G K CT W (.con d) sg H Q) : ∃ be mu Qd, RepS K CT H be mu ∧ Qd d mu ∧ KQ K CT H be Qd Q := by
  obtain ⟨be, mu, rh, Qd, Ed, S, L, h, kq, kx⟩ := h
  exact ⟨be, mu, Qd, S, by simpa only [wpE] using h, kq⟩
theorem le_var {i : Nat} (h : LE G K CT W (.var i) sg H Q) : tVar i sg H Q := by
  obtain ⟨be, mu, rh, Qd, Ed, S, L, h, kq, kx⟩ := h
  simp only [wpE] at h
  split at h
  · rename_i d e
    obtain ⟨v, e2, i2⟩ := L.at_ i d e
    exact ⟨v, e2, kq.at_ S i2 h⟩
  · exact h.elim
theorem le_tup {es : CEs} (h : LE G K CT W (.tup es) sg H Q) : tTup (LA G K CT W es) sg H Q := by
  obtain ⟨be, mu, rh, Qd, Ed, S, L, h, kq, kx⟩ := h
  refine ⟨be, mu, rh, fun xs nu => sizeT xs.length ∧ Qd (.tup xs) nu, Ed, S, L, by simpa only [wpE] using h, fun ds mu1 be1 H1 vs x1 S1 d1 h1 => ⟨by rw [← d1.len]; exact h1.1, fun p hp => (kq.mono x1).tup S1 d1 h1.2 hp⟩, kx⟩
theorem le_lst {es : CEs} (h : LE G K CT W (.lst es) sg H Q) : tLst (LA G K CT W es) sg H Q := by
  obtain ⟨be, mu, rh, Qd, Ed, S, L, h, kq, kx⟩ := h
  refine ⟨be, mu, rh, fun xs nu => sizeT xs.length ∧ newLst xs nu Qd, Ed, S, L, by simpa only [wpE] using h, fun ds mu1 be1 H1 vs x1 S1 d1 h1 => ⟨by rw [← d1.len]; exact h1.1, fun p hp => (kq.mono x1).lst S1 d1 h1.2 hp⟩, kx⟩
theorem la_nil {Q : List V → Hp → Prop} (h : LA G K CT W .nil sg H Q) : tNil sg H Q := by
  obtain ⟨be, mu, rh, Qd, Ed, S, L, h, kq, kx⟩ := h
  exact kq [] mu be H [] .refl S .nil (by simpa only [wpEs] using h)
theorem la_cons {e : CE} {r : CEs} {Q : List V → Hp → Prop} (h : LA G K CT W (.cons e r) sg H Q) : tCons (LE G K CT W e) (LA G K CT W r) sg H Q := by
  obtain ⟨be, mu, rh, Qd, Ed, S, L, h, kq, kx⟩ := h
  exact ⟨be, mu, rh, _, Ed, S, L, by simpa only [wpEs] using h, fun x mu1 be1 H1 v x1 S1 d1 h1 =>
    ⟨be1, mu1, rh, _, Ed, S1, L.mono x1, h1, fun xs mu2 be2 H2 vs x2 S2 d2 h2 => kq _ mu2 be2 H2 _ (x1.trans x2) S2 (.cons (d1.mono x2) d2) h2, kx.mono x1⟩, kx⟩
theorem lo_no {Q : Option Int → Hp → Prop} (h : LO G K CT W .no sg H Q) : tNoPart sg H Q := by
  obtain ⟨be, mu, rh, Qd, Ed, S, L, h, kq, kx⟩ := h
  exact kq none mu be H .refl S (by simpa only [wpO] using h)
theorem lo_some {e : CE} {Q : Option Int → Hp → Prop} (h : LO G K CT W (.some e) sg H Q) : tPart (LE G K CT W e) sg H Q := by
  obtain ⟨be, mu, rh, Qd, Ed, S, L, h, kq, kx⟩ := h
  refine ⟨be, mu, rh, _, Ed, S, L, by simpa only [wpO] using h, fun x mu1 be1 H1 v x1 S1 d1 h1 => ?_, kx⟩
  cases x <;> simp only [onI] at h1
  case int i =>
    simp only [IsD] at d1
    exact ⟨i, d1, kq _ mu1 be1 H1 x1 S1 h1⟩
theorem le_cond {t a b : CE} (h : LE G K CT W (.cond t a b) sg H Q) : tIf (LT G K CT W t) (LE G K CT W a) (LE G K CT W b) sg H Q := by
  obtain ⟨be, mu, rh, Qd, Ed, S, L, h, kq, kx⟩ := h
  refine ⟨be, mu, rh, fun c nu => if c = true then wpE G a Ed rh nu Qd else wpE G b Ed rh nu Qd, Ed, S, L, by simpa only [wpE, wpT] using h, fun c mu1 be1 H1 x1 S1 h1 => ?_, kx⟩
  cases c with
  | true => exact ⟨be1, mu1, rh, Qd, Ed, S1, L.mono x1, h1, kq.mono x1, kx.mono x1⟩
  | false => exact ⟨be1, mu1, rh, Qd, Ed, S1, L.mono x1, h1, kq.mono x1, kx.mono x1⟩
theorem le_and {a b : CE} (h : LE G K CT W (.and a b) sg H Q) : tAndV (LE G K CT W a) (LE G K CT W b) sg H Q := by
  obtain ⟨be, mu, rh, Qd, Ed, S, L, h, kq, kx⟩ := h
  refine ⟨be, mu, rh, _, Ed, S, L, by simpa only [wpE] using h, fun x mu1 be1 H1 v x1 S1 d1 h1 => ?_, kx⟩
  cases x <;> simp only [onB] at h1
  case bl c =>
    simp only [IsD] at d1
    refine ⟨c, d1, ?_⟩
    cases c with
    | true => exact ⟨be1, mu1, rh, Qd, Ed, S1, L.mono x1, h1, kq.mono x1, kx.mono x1⟩
    | false => exact (kq.mono x1).at_ S1 (by simp only [IsD]) h1
theorem le_or {a b : CE} (h : LE G K CT W (.or a b) sg H Q) : tOrV (LE G K CT W a) (LE G K CT W b) sg H Q := by
  obtain ⟨be, mu, rh, Qd, Ed, S, L, h, kq, kx⟩ := h
  refine ⟨be, mu, rh, _, Ed, S, L, by simpa only [wpE] using h, fun x mu1 be1 H1 v x1 S1 d1 h1 => ?_, kx⟩
  cases x <;> simp only [onB] at h1
  case bl c =>
    simp only [IsD] at d1
    refine ⟨c, d1, ?_⟩
    cases c with
    | true => exact (kq.mono x1).at_ S1 (by simp only [IsD]) h1
    | false => exact ⟨be1, mu1, rh, Qd, Ed, S1, L.mono x1, h1, kq.mono x1, kx.mono x1⟩
theorem le_not {a : CE} (h : LE G K CT W (.not a) sg H Q) : tNotV (LE G K CT W a) sg H Q := by
  obtain ⟨be, mu, rh, Qd, Ed, S, L, h, kq, kx⟩ := h
  refine ⟨be, mu, rh, _, Ed, S, L, by simpa only [wpE] using h, fun x mu1 be1 H1 v x1 S1 d1 h1 => ?_, kx⟩
  cases x <;> simp only [onB] at h1
  case bl c =>
    simp only [IsD] at d1
    exact ⟨c, d1, (kq.mono x1).at_ S1 (by simp only [IsD]) h1⟩
theorem le_chain {o p : O2} {a b c : CE} (h : LE G K CT W (.chain o p a b c) sg H Q) : tChain (R2D K CT o) (R2D K CT p) (LE G K CT W a) (LE G K CT W b) (LE G K CT W c) sg H Q := by
  obtain ⟨be, mu, rh, Qd, Ed, S, L, h, kq, kx⟩ := h
  refine ⟨be, mu, rh, _, Ed, S, L, by simpa only [wpE] using h, fun x mu1 be1 H1 v x1 S1 d1 h1 =>
    ⟨be1, mu1, rh, _, Ed, S1, L.mono x1, h1, fun y mu2 be2 H2 u x2 S2 d2 h2 => ⟨be2, mu2, x, y, _, S2, d1.mono x2, d2, h2, fun z mu3 be3 H3 w x3 S3 d3 h3 => ?_⟩, kx.mono x1⟩, kx⟩
  cases z <;> simp only [onB] at h3
  case bl k =>
    simp only [IsD] at d3
    refine ⟨k, d3, ?_⟩
    cases k with
    | true => exact ⟨be3, mu3, rh, _, Ed, S3, L.mono ((x1.trans x2).trans x3), h3, fun q mu4 be4 H4 w x4 S4 d4 h4 => ⟨be4, mu4, y, q, Qd, S4, d2.mono (x3.trans x4), d4, h4, kq.mono (((x1.trans x2).trans x3).trans x4)⟩, kx.mono ((x1.trans x2).trans x3)⟩
    | false => exact (kq.mono ((x1.trans x2).trans x3)).at_ S3 (by simp only [IsD]) h3
/-- a test from its value -/
theorem lt_le {c : CE} {Q : Bool → Hp → Prop} (h : LT G K CT W c sg H Q) : tB (LE G K CT W c) sg H Q := by
  obtain ⟨be, mu, rh, Qd, Ed, S, L, h, kq, kx⟩ := h
  refine ⟨be, mu, rh, _, Ed, S, L, h, fun x mu1 be1 H1 v x1 S1 d1 h1 => ?_, kx⟩
  cases x <;> simp only [onB] at h1
  case bl k =>
    simp only [IsD] at d1
    exact ⟨k, d1, kq k mu1 be1 H1 x1 S1 h1⟩
theorem lt_and {a b : CE} {Q : Bool → Hp → Prop} (h : LT G K CT W (.and a b) sg H Q) : tAnd (LT G K CT W a) (LT G K CT W b) sg H Q := by
  obtain ⟨be, mu, rh, Qd, Ed, S, L, h, kq, kx⟩ := h
  refine ⟨be, mu, rh, fun c nu => if c = true then wpT G b Ed rh nu Qd else Qd false nu, Ed, S, L, ?_, fun c mu1 be1 H1 x1 S1 h1 => ?_, kx⟩
  · simp only [wpT, wpE] at h
    exact h
  · cases c with
    | true => exact ⟨be1, mu1, rh, Qd, Ed, S1, L.mono x1, h1, fun b nu be' H' y => kq b nu be' H' (x1.trans y), kx.mono x1⟩
    | false => exact kq false mu1 be1 H1 x1 S1 h1
theorem lt_or {a b : CE} {Q : Bool → Hp → Prop} (h : LT G K CT W (.or a b) sg H Q) : tOr (LT G K CT W a) (LT G K CT W b) sg H Q := by
  obtain ⟨be, mu, rh, Qd, Ed, S, L, h, kq, kx⟩ := h
  refine ⟨be, mu, rh, fun c nu => if c = true then Qd true nu else wpT G b Ed rh nu Qd, Ed, S, L, ?_, fun c mu1 be1 H1 x1 S1 h1 => ?_, kx⟩
  · simp only [wpT, wpE] at h
    exact h
  · cases c with
    | true => exact kq true mu1 be1 H1 x1 S1 h1
    | false => exact ⟨be1, mu1, rh, Qd, Ed, S1, L.mono x1, h1, fun b nu be' H' y => kq b nu be' H' (x1.trans y), kx.mono x1⟩
theorem lt_not {a : CE} {Q : Bool → Hp → Prop} (h : LT G K CT W (.not a) sg H Q) : tNot (LT G K CT W a) sg H Q := by
  obtain ⟨be, mu, rh, Qd, Ed, S, L, h, kq, kx⟩ := h
  exact ⟨be, mu, rh, fun c nu => Qd (!c) nu, Ed, S, L, (by simp only [wpT, wpE] at h; exact h), fun c mu1 be1 H1 x1 S1 h1 => kq _ mu1 be1 H1 x1 S1 h1, kx⟩
theorem le_gc {a : CE} (h : LE G K CT W (.gc a) sg H Q) : LE G K CT W a sg H Q := by
  obtain ⟨be, mu, rh, Qd, Ed, S, L, h, kq, kx⟩ := h
  refine ⟨be, mu, rh, _, Ed, S, L, by simpa only [wpE] using h, fun x mu1 be1 H1 v x1 S1 d1 h1 => ?_, kx⟩
  obtain ⟨nu, a1, a2, a3, a4, h2⟩ := h1
  have e : nu.length = be.length := by rw [a2, S.len]
  refine kq x nu (be1.take nu.length) H1 v (x1.forget (by omega)) (S1.forget a1 (a3 S.wf)) (d1.less (by rw [a2]; exact a4)) h2
end
end MP

/-! MP: values' operations over data are those of the machine -/
namespace MP
open PySem PySem.Spec PyProof.Rows L2

section
variable {K : PySem.W.Frag} {CT : Nat → Addr} {H : Hp} {be : List Addr} {mu : Store}
theorem lst_of {n : Nat} {Q : List D → Prop} {v : V} (S : RepS K CT H be mu) (i : IsD K H be (.ref n) v) (h : lstAt mu n Q) :
    ∃ a vs xs, v = .ref a ∧ be[n]? = some a ∧ mu[n]? = some (.lst xs) ∧ H a = some (.lst vs) ∧ IsDs K H be xs vs ∧ Q xs := by
  simp only [IsD] at i
  obtain ⟨a, e, rfl⟩ := i
  unfold lstAt at h
  split at h
  · rename_i xs hm
    obtain ⟨vs, h1, h2⟩ := S.get e hm
    exact ⟨a, vs, xs, rfl, e, hm, h1, h2, h⟩
  · exact h.elim
theorem seq_of {d : D} {Q : List D → Prop} {v : V} (S : RepS K CT H be mu) (i : IsD K H be d v) (h : seqAt d mu Q) :
    ∃ a vs xs, v = .ref a ∧ (SqL K H a vs ∨ SqT K H a vs) ∧ IsDs K H be xs vs ∧ Q xs := by
  cases d <;> simp only [seqAt] at h
  case tup xs =>
    simp only [IsD] at i
    obtain ⟨a, vs, rfl, q, r⟩ := i
    exact ⟨a, vs, xs, rfl, .inr q, r, h⟩
  case ref n =>
    obtain ⟨a, vs, xs, rfl, _, _, h1, h2, q⟩ := lst_of S i h
    exact ⟨a, vs, xs, rfl, .inl (SqL.of h1), h2, q⟩
  case ro xs =>
    simp only [IsD] at i
    obtain ⟨a, vs, rfl, q, r⟩ := i
    exact ⟨a, vs, xs, rfl, .inl q.sq, r, h⟩
theorem list_of {d : D} {Q : List D → Prop} {v : V} (S : RepS K CT H be mu) (i : IsD K H be d v) (h : listAt d mu Q) :
    ∃ a vs xs, v = .ref a ∧ SqL K H a vs ∧ IsDs K H be xs vs ∧ Q xs := by
  cases d <;> simp only [listAt] at h
  case ref n =>
    obtain ⟨a, vs, xs, rfl, _, _, h1, h2, q⟩ := lst_of S i h
    exact ⟨a, vs, xs, rfl, SqL.of h1, h2, q⟩
  case ro xs =>
    simp only [IsD] at i
    obtain ⟨a, vs, rfl, q, r⟩ := i
    exact ⟨a, vs, xs, rfl, q.sq, r, h⟩
theorem bls_of : ∀ {xs : List D} {bs : List Bool} {vs : List V}, allBl xs = some bs → IsDs K H be xs vs → vs = bs.map .bl
  | [], bs, vs, e, h => by
    simp only [allBl, Option.some.injEq] at e
    subst e
    simp only [IsDs] at h
    subst h
    rfl
  | x :: r, bs, vs, e, h => by
    cases x <;> simp only [allBl] at e <;> try (cases e)
    case bl b =>
      simp only [Option.map_eq_some_iff] at e
      obtain ⟨cs, e1, rfl⟩ := e
      simp only [IsDs, IsD] at h
      obtain ⟨v, w, rfl, rfl, h2⟩ := h
      rw [bls_of e1 h2]; rfl
theorem ints_of : ∀ {xs : List D} {bs : List Int} {vs : List V}, allInt xs = some bs → IsDs K H be xs vs → vs = bs.map .int
  | [], bs, vs, e, h => by
    simp only [allInt, Option.some.injEq] at e
    subst e
    simp only [IsDs] at h
    subst h
    rfl
  | x :: r, bs, vs, e, h => by
    cases x <;> simp only [allInt] at e <;> try (cases e)
    case int b =>
      simp only [Option.map_eq_some_iff] at e
      obtain ⟨cs, e1, rfl⟩ := e
      simp only [IsDs, IsD] at h
      obtain ⟨v, w, rfl, rfl, h2⟩ := h
      rw [ints_of e1 h2]; rfl
theorem strs_of : ∀ {xs : List D} {bs : List Str} {vs : List V}, allStr xs = some bs → IsDs K H be xs vs → vs = bs.map .str
  | [], bs, vs, e, h => by
    simp only [allStr, Option.some.injEq] at e
    subst e
    simp only [IsDs] at h
    subst h
    rfl
  | x :: r, bs, vs, e, h => by
    cases x <;> simp only [allStr] at e <;> try (cases e)
    case str b =>
      simp only [Option.map_eq_some_iff] at e
      obtain ⟨cs, e1, rfl⟩ := e
      simp only [IsDs, IsD] at h
      obtain ⟨v, w, rfl, rfl, h2⟩ := h
      rw [strs_of e1 h2]; rfl
theorem of_ints (ns : List Int) : IsDs K H be (ns.map .int) (ns.map .int) := by
  induction ns with
  | nil => exact .nil
  | cons n r ih => exact .cons (by simp only [IsD]) ih
theorem of_strs (ns : List Str) : IsDs K H be (ns.map .str) (ns.map .str) := by
  induction ns with
  | nil => exact .nil
  | cons n r ih => exact .cons (by simp only [IsD]) ih
mutual
theorem dp_of : ∀ {d : D} {v : V}, d.pure = true → IsD K H be d v → Dp K H v d.py
  | .non, _, _, h => by simp only [IsD] at h; subst h; exact .non
  | .bl _, _, _, h => by simp only [IsD] at h; subst h; exact .bl _
  | .int _, _, _, h => by simp only [IsD] at h; subst h; exact .int _
  | .str _, _, _, h => by simp only [IsD] at h; subst h; exact .str _
  | .tup xs, _, p, h => by
    simp only [IsD] at h
    obtain ⟨a, vs, rfl, q, r⟩ := h
    simp only [D.py]
    exact .tup q (dps_of (by simpa only [D.pure] using p) r)
  | .ref _, _, p, _ => by simp [D.pure] at p
  | .ro _, _, p, _ => by simp [D.pure] at p
theorem dps_of : ∀ {xs : List D} {vs : List V}, D.pures xs = true → IsDs K H be xs vs → DpAll K H vs (D.pys xs)
  | [], _, _, h => by simp only [IsDs] at h; subst h; exact .nil
  | x :: r, _, p, h => by
    simp only [IsDs] at h
    obtain ⟨v, w, rfl, h1, h2⟩ := h
    simp only [D.pures, Bool.and_eq_true] at p
    simp only [D.pys]
    exact .cons (dp_of p.1 h1) (dps_of p.2 h2)
end
end

/-! ### rules may be joined -/
theorem opr_alt {X : Cx} {f : Value → Value → Sem Value} {r s t : R2} (a : OpR X f r) (b : OpR X f s) (h : ∀ x y H Q, t x y H Q → r x y H Q ∨ s x y H Q) : OpR X f t := by
  intro pins s σ H x y v u Q I rx ry q
  rcases h _ _ _ _ q with q | q
  · exact a pins s σ H x y v u Q I rx ry q
  · exact b pins s σ H x y v u Q I rx ry q
theorem opr_imp {X : Cx} {f : Value → Value → Sem Value} {r t : R2} (a : OpR X f r) (h : ∀ x y H Q, t x y H Q → r x y H Q) : OpR X f t :=
  fun pins s σ H x y v u Q I rx ry q => a pins s σ H x y v u Q I rx ry (h _ _ _ _ q)
theorem opr_or {X : Cx} {f : Value → Value → Sem Value} {r s : R2} (a : OpR X f r) (b : OpR X f s) : OpR X f (fun x y H Q => r x y H Q ∨ s x y H Q) := opr_alt a b fun _ _ _ _ h => h
theorem callr_or {X : Cx} {f : Value} {r s : List V → Hp → VK → Prop} (a : CallR X f r) (b : CallR X f s) : CallR X f (fun xs H Q => r xs H Q ∨ s xs H Q) := by
  intro pins s σ H xs us Q I r q
  rcases q with q | q
  · exact a pins s σ H xs us Q I r q
  · exact b pins s σ H xs us Q I r q
theorem callr_imp {X : Cx} {f : Value} {r t : List V → Hp → VK → Prop} (a : CallR X f r) (h : ∀ xs H Q, t xs H Q → r xs H Q) : CallR X f t :=
  fun pins s σ H xs us Q I r q => a pins s σ H xs us Q I r (h _ _ _ q)

theorem tupMulSame (l : Addr) (its : Array Value) (n : Nat) (dd : Option Addr) (sl : Array (Option Value)) (x : Int) (u : Tok)
    (c0 : (decide (x < -(2 ^ 63)) || decide (x ≥ 2 ^ 63)) = false) (c1 : (its.isEmpty || x == 1) = true) :
    Meets (Builtin.«tuple.__mul__» ⟨[.ref l, .int x u], []⟩)
      (fun _ R s => s.heap.get? l = some { cls := .type "tuple", dict := dd, data := .seq its n, slots := sl } ∧ R (.ok (.ret (.ref l))) s) :=
  .of_wp fun prog w A R s h => by
    obtain ⟨hp, g, d, tk, os⟩ := s
    obtain ⟨hl, h⟩ := h
    have f1 := AutoSeq1.idx_int
    wp_walk using wpAny_loadPart' hl
    refine wpAny_ite_false (decide_eq_false (by rw [c0]; exact Bool.false_ne_true)) ?_
    wp_walk using wpAny_loadPart' hl
    exact ⟨_, rfl, h⟩
theorem tupMulNone (l : Addr) (its : Array Value) (n : Nat) (dd : Option Addr) (sl : Array (Option Value)) (x : Int) (u : Tok)
    (c0 : (decide (x < -(2 ^ 63)) || decide (x ≥ 2 ^ 63)) = false) (c1 : (its.isEmpty || x == 1) = false) (c2 : (decide (x ≤ 0) || its.isEmpty) = true) :
    Meets (Builtin.«tuple.__mul__» ⟨[.ref l, .int x u], []⟩)
      (fun _ R s => s.heap.get? l = some { cls := .type "tuple", dict := dd, data := .seq its n, slots := sl } ∧ R (.ok (.ret (.ref s.heap.objs.size))) { s with heap := s.heap.push { cls := Value.type "tuple", data := Data.seq #[] }, toks := s.toks }) :=
  .of_wp fun prog w A R s h => by
    obtain ⟨hp, g, d, tk, os⟩ := s
    obtain ⟨hl, h⟩ := h
    have f1 := AutoSeq1.idx_int
    wp_walk using wpAny_loadPart' hl
    refine wpAny_ite_false (decide_eq_false (by rw [c0]; exact Bool.false_ne_true)) ?_
    wp_walk using wpAny_loadPart' hl
    repeat (first
      | (refine wpAny_ite_false (decide_eq_false (by rw [c1]; exact Bool.false_ne_true)) ?_; wp_walk using wpAny_loadPart' hl)
      | (refine wpAny_ite_true (decide_eq_true c2) ?_; wp_walk using wpAny_loadPart' hl))
    exact ⟨_, rfl, h⟩

section
variable {X : Cx} {CT : Nat → Addr}
theorem add_D : OpR X (binaryOp .Add) (R2D X.K CT .add) := by
  refine opr_imp (opr_or (opr_or op_add op_add_str) (opr_or op_catA op_cat)) fun v u H Q h => ?_
  obtain ⟨be, mu, x, y, Qd, S, dx, dy, h, kq⟩ := h
  cases x <;> cases y <;> simp only [w2] at h <;> try exact h.elim
  case int.int i j =>
    simp only [IsD] at dx dy
    exact .inl (.inl ⟨i, j, dx, dy, kq.at_ S (by simp only [IsD]) h⟩)
  case str.str i j =>
    simp only [IsD] at dx dy
    exact .inl (.inr ⟨i, j, dx, dy, h.1, kq.at_ S (by simp only [IsD]) h.2⟩)
  case tup.tup xs ys =>
    have dx0 := dx
    have dy0 := dy
    simp only [IsD] at dx dy
    obtain ⟨a, vs, rfl, q1, r1⟩ := dx
    obtain ⟨b, ws, rfl, q2, r2⟩ := dy
    refine .inr (.inl ⟨a, b, vs, ws, rfl, rfl, q1, q2, by rw [← r1.len, ← r2.len]; exact h.1, fun e => ?_, fun e1 e2 => ?_, fun e1 e2 p hp => kq.tup S (r1.append r2) h.2 hp⟩)
    · have e' : xs = [] := by
        have := r1.len
        rw [e] at this
        exact List.eq_nil_of_length_eq_zero (by simpa using this)
      subst e'
      exact kq.at_ S dy0 (by simpa using h.2)
    · have e' : ys = [] := by
        have := r2.len
        rw [e2] at this
        exact List.eq_nil_of_length_eq_zero (by simpa using this)
      subst e'
      exact kq.at_ S dx0 (by simpa using h.2)
  case ref.ref n m =>
    obtain ⟨a, vs, xs, rfl, _, _, h1, i1, h⟩ := lst_of S dx h
    obtain ⟨b, ws, ys, rfl, _, _, h2, i2, h⟩ := lst_of S dy h
    exact .inr (.inr ⟨a, b, vs, ws, rfl, rfl, h1, h2, by rw [← i1.len, ← i2.len]; exact h.1, fun p hp => kq.lst S (i1.append i2) h.2 hp⟩)
theorem sub_D : OpR X (binaryOp .Sub) (R2D X.K CT .sub) := by
  refine opr_imp op_sub fun v u H Q h => ?_
  obtain ⟨be, mu, x, y, Qd, S, dx, dy, h, kq⟩ := h
  cases x <;> cases y <;> simp only [w2] at h
  case int.int i j =>
    simp only [IsD] at dx dy
    exact ⟨i, j, dx, dy, kq.at_ S (by simp only [IsD]) h⟩
theorem op_mulI : OpR X (binaryOp .Mult) (rI IntMulOk fun i j => .int (i * j)) := opI fun _ _ _ _ _ _ _ hc q => mul_int q hc
theorem fold_rep {α : Type} (x : Array α) : ∀ (m : Nat) (acc : Array α), (List.replicate m x).foldl (· ++ ·) acc = acc ++ (List.replicate m x.toList).flatten.toArray
  | 0, acc => by simp
  | m + 1, acc => by
    rw [List.replicate_succ, List.foldl_cons, fold_rep x m, List.replicate_succ, List.flatten_cons]
    apply Array.ext'
    simp
theorem op_mulS : OpR X (binaryOp .Mult) (fun x y H Q => ∃ a k, x = .str a ∧ y = .int k ∧ k < 2 ^ 20 ∧ -(2 ^ 20) < k ∧ a.length * k.toNat ≤ sizeLine ∧ Q (.str ⟨(List.replicate k.toNat a.cps.toList).flatten.toArray⟩) H) := by
  intro pins s σ H x y v u Q I rx ry h
  obtain ⟨a, k, rfl, rfl, h1, h2, hz, q⟩ := h
  obtain ⟨t, rfl⟩ := rx
  obtain ⟨t', rfl⟩ := ry
  have hs := sizeLine_eq
  refine PySem.P.mul_str ?_ (fun hn _ => ?_) (fun hn _ => ?_) ?_
  · rw [decide_eq_false (by omega), decide_eq_false (by omega)]; rfl
  · have e1 : (a.length : Int) * k ≤ sizeLine := by
      have : ((a.length * k.toNat : Nat) : Int) ≤ (sizeLine : Int) := by omega
      rw [Int.natCast_mul, Int.toNat_of_nonneg (by omega)] at this
      exact this
    intro z
    have z2 : (2 ^ 63 - 1) / k < (a.length : Int) := z
    have z3 : (2 ^ 63 - 1 : Int) < (a.length : Int) * k := (Int.ediv_lt_iff_lt_mul (by omega)).mp z2
    omega
  · exact decide_eq_false (show ¬ a.length * k.toNat > sizeLine by omega)
  · have e1 : (⟨(List.replicate k.toNat a.cps).foldl (· ++ ·) #[]⟩ : Str) = ⟨(List.replicate k.toNat a.cps.toList).flatten.toArray⟩ := by rw [fold_rep]; simp
    have ln : ∀ m : Nat, (List.replicate m a.cps.toList).flatten.length = m * a.length := fun m => by simp [Str.length]
    by_cases hk : k < 1
    · rw [if_pos hk]
      have e0 : k.toNat = 0 := by omega
      rw [e0] at q
      refine ⟨by decide, ?_⟩
      exact ⟨.str _, H, I.tok _, ⟨_, rfl⟩, q⟩
    · rw [if_neg hk]
      by_cases hk1 : (k == 1 || a.length == 0) = true
      · rw [if_pos hk1]
        refine ⟨.str _, H, I, ⟨_, rfl⟩, ?_⟩
        have e2 : (⟨(List.replicate k.toNat a.cps.toList).flatten.toArray⟩ : Str) = a := by
          rw [Bool.or_eq_true, beq_iff_eq, beq_iff_eq] at hk1
          rcases hk1 with z | z
          · subst z
            show (⟨(List.replicate 1 a.cps.toList).flatten.toArray⟩ : Str) = a
            simp
          · have z' : a.cps = #[] := Array.eq_empty_of_size_eq_zero z
            obtain ⟨c⟩ := a
            simp only at z'
            subst z'
            simp
        rw [e2] at q
        exact q
      · rw [if_neg hk1, e1]
        refine ⟨?_, ?_⟩
        · show (List.replicate k.toNat a.cps.toList).flatten.toArray.size ≤ sizeLine
          rw [List.size_toArray, ln, Nat.mul_comm]
          exact hz
        · exact ⟨.str _, H, I.tok _, ⟨_, rfl⟩, q⟩

theorem op_mulT : OpR X (binaryOp .Mult) (fun x y H Q => ∃ l k xs, x = .ref l ∧ y = .int k ∧ SqT X.K H l xs ∧ k < 2 ^ 20 ∧ -(2 ^ 20) < k ∧ xs.length * k.toNat ≤ sizeLine ∧
    ((xs = [] ∨ k = 1) → Q (.ref l) H) ∧ (xs ≠ [] → k ≠ 1 → ∀ p, H p = none → Q (.ref p) (upd H p (.tup (List.replicate k.toNat xs).flatten)))) := by
  intro pins s σ H x y v u Q I rx ry h
  obtain ⟨l, k, xs, rfl, rfl, hT, h1, h2, hz, q1, q2⟩ := h
  cases rx
  obtain ⟨t, rfl⟩ := ry
  have hs := sizeLine_eq
  obtain ⟨its, r, ⟨⟨cls, dd, data, sl⟩, ho, hc, n, hd⟩, _⟩ := I.tuple hT
  simp only at hc hd
  subst hc hd
  have hle : its.length = xs.length := r.length.symm
  have c0 : (decide (k < -(2 ^ 63)) || decide (k ≥ 2 ^ 63)) = false := by
    rw [decide_eq_false (by omega), decide_eq_false (by omega)] <;> rfl
  have fl : ∀ m : Nat, (List.replicate m its).flatten.length = m * xs.length := fun m => by rw [PyProof.Rows.lm_len_rep_flat, hle]
  by_cases hb : (its.toArray.isEmpty || k == 1) = true
  · refine wpAny_binaryOp_repeat_ref (T := "tuple") (U := "int") (by decide) ⟨_, ho, rfl⟩ (fun s' => typeIs_int s' k t) noFill_tuple_mul F.fills_int_mul F.slot_int_rmul repeat_tuple F.slot_int_index.lookup
      (call_meets F.slot_int_rmul (typeIs_int s k t) F.entry_int_rmul (F.args_int_rmul_2 _ _) (int_rmul_tuple k t l its.toArray n dd sl)
        ⟨ho, rfl, ⟨_, ho, rfl⟩, call_meets F.slot_tuple_mul ⟨_, ho, rfl⟩ F.entry_tuple_mul (F.args_tuple_mul_2 _ _) (tupMulSame l its.toArray n dd sl k t c0 hb) ⟨ho, ?_⟩⟩)
    refine ⟨.ref l, H, I, rfl, q1 ?_⟩
    rw [Bool.or_eq_true] at hb
    rcases hb with z | z
    · left
      have : its = [] := by simpa using z
      rw [this] at hle
      exact List.eq_nil_of_length_eq_zero hle.symm
    · exact .inr (by simpa using z)
  · have hb : (its.toArray.isEmpty || k == 1) = false := by simpa using hb
    have hb' := hb
    rw [Bool.or_eq_false_iff] at hb
    have hne : its ≠ [] := fun z => by
      rw [z] at hb
      simp at hb
    have hk1 : k ≠ 1 := by simpa using hb.2
    have hxs : xs ≠ [] := fun z => hne (by
      rw [z] at hle
      exact List.eq_nil_of_length_eq_zero hle)
    by_cases hk : k ≤ 0
    · have c2 : (decide (k ≤ 0) || its.toArray.isEmpty) = true := by rw [decide_eq_true hk]; rfl
      refine wpAny_binaryOp_repeat_ref (T := "tuple") (U := "int") (by decide) ⟨_, ho, rfl⟩ (fun s' => typeIs_int s' k t) noFill_tuple_mul F.fills_int_mul F.slot_int_rmul repeat_tuple F.slot_int_index.lookup
        (call_meets F.slot_int_rmul (typeIs_int s k t) F.entry_int_rmul (F.args_int_rmul_2 _ _) (int_rmul_tuple k t l its.toArray n dd sl)
          ⟨ho, rfl, ⟨_, ho, rfl⟩, call_meets F.slot_tuple_mul ⟨_, ho, rfl⟩ F.entry_tuple_mul (F.args_tuple_mul_2 _ _) (tupMulNone l its.toArray n dd sl k t c0 hb' c2) ⟨ho, ?_⟩⟩)
      have e0 : k.toNat = 0 := by omega
      have q3 := q2 hxs hk1 s.heap.objs.size (I.hok.fresh (Nat.le_refl _))
      rw [e0] at q3
      refine ⟨.ref s.heap.objs.size, _, I.laid (t' := s.toks) (o := .tup []) (fun b ob q => Heap.get?_push_of_some _ q) (Nat.le_refl _) ?_, rfl, q3⟩
      exact ⟨Nat.zero_le _, [], .nil, IsTup.new _ _⟩
    · have c2 : (decide (k ≤ 0) || its.toArray.isEmpty) = false := by rw [decide_eq_false hk, hb.1]; rfl
      have e1 : ((its.toArray.size : Nat) : Int) * k ≤ sizeLine := by
        rw [List.size_toArray, hle]
        have : ((xs.length * k.toNat : Nat) : Int) ≤ (sizeLine : Int) := by omega
        rw [Int.natCast_mul, Int.toNat_of_nonneg (by omega)] at this
        exact this
      have c4 : Builtin.Tuple.tupleTooMany (((its.toArray.size : Nat) : Int) * k) = false := by
        unfold Builtin.Tuple.tupleTooMany
        exact decide_eq_false (by omega)
      refine wpAny_binaryOp_repeat_ref (T := "tuple") (U := "int") (by decide) ⟨_, ho, rfl⟩ (fun s' => typeIs_int s' k t) noFill_tuple_mul F.fills_int_mul F.slot_int_rmul repeat_tuple F.slot_int_index.lookup
        (call_meets F.slot_int_rmul (typeIs_int s k t) F.entry_int_rmul (F.args_int_rmul_2 _ _) (int_rmul_tuple k t l its.toArray n dd sl)
          ⟨ho, rfl, ⟨_, ho, rfl⟩, call_meets F.slot_tuple_mul ⟨_, ho, rfl⟩ F.entry_tuple_mul (F.args_tuple_mul_2 _ _) (tuple_mulW l its.toArray n dd sl k t c0 hb' c2 (by omega) c4 (by rw [size_rep, List.size_toArray, fl, Nat.mul_comm]; exact hz)) ⟨ho, ?_⟩⟩)
      rw [size_rep]
      refine ⟨.ref s.heap.objs.size, _, I.laid (t' := s.toks) (o := .tup (List.replicate k.toNat xs).flatten) (fun b ob q => Heap.get?_push_of_some _ q) (Nat.le_refl _) ?_, rfl, q2 hxs hk1 _ (I.hok.fresh (Nat.le_refl _))⟩
      exact ⟨by rw [PyProof.Rows.lm_len_rep_flat, Nat.mul_comm]; exact hz, _, r.rep k.toNat, IsTup.new _ _⟩
theorem IsDs.rep {K : PySem.W.Frag} {H : Hp} {be : List Addr} {xs : List D} {vs : List V} (h : IsDs K H be xs vs) : ∀ m : Nat, IsDs K H be (List.replicate m xs).flatten (List.replicate m vs).flatten
  | 0 => by simpa using IsDs.nil
  | m + 1 => by
    rw [List.replicate_succ, List.replicate_succ, List.flatten_cons, List.flatten_cons]
    exact h.append (IsDs.rep h m)
theorem mul_D : OpR X (binaryOp .Mult) (R2D X.K CT .mul) := by
  refine opr_imp (opr_or (opr_or op_mulI op_mulS) (opr_or op_mulT op_rep)) fun v u H Q h => ?_
  obtain ⟨be, mu, x, y, Qd, S, dx, dy, h, kq⟩ := h
  cases x <;> cases y <;> simp only [w2] at h
  case int.int i j =>
    simp only [IsD] at dx dy
    exact .inl (.inl ⟨i, j, dx, dy, h.1, kq.at_ S (by simp only [IsD]) h.2⟩)
  case str.int a k =>
    simp only [IsD] at dx dy
    exact .inl (.inr ⟨a, k, dx, dy, h.1, h.2.1, h.2.2.1, kq.at_ S (by simp only [IsD]) h.2.2.2⟩)
  case tup.int xs k =>
    have dx0 := dx
    simp only [IsD] at dx dy
    obtain ⟨a, vs, rfl, q1, r1⟩ := dx
    refine .inr (.inl ⟨a, k, vs, rfl, dy, q1, h.1, h.2.1, by rw [← r1.len]; exact h.2.2.1, fun z => ?_, fun z1 z2 p hp => kq.tup S (r1.rep _) h.2.2.2 hp⟩)
    refine kq.at_ S dx0 ?_
    have e : (List.replicate k.toNat xs).flatten = xs := by
      rcases z with z | z
      · have : xs = [] := by
          have := r1.len
          rw [z] at this
          exact List.eq_nil_of_length_eq_zero (by simpa using this)
        subst this
        simp
      · subst z
        show (List.replicate 1 xs).flatten = xs
        simp
    rw [← e]
    exact h.2.2.2
  case ref.int n k =>
    simp only [IsD] at dy
    obtain ⟨a, vs, xs, rfl, _, _, h1, i1, h⟩ := lst_of S dx h
    exact .inr (.inr ⟨a, k, vs, rfl, dy, h1, by omega, by omega, by rw [← i1.len]; exact h.2.2.1, fun p hp => kq.lst S (i1.rep _) h.2.2.2 hp⟩)
theorem op_powI : OpR X (binaryOp .Pow) (rI (fun i j => 0 ≤ j ∧ (Builtin.Int.intBits i : Int) * j ≤ 2 ^ 27) fun i j => .int (i ^ j.toNat)) := opI fun _ _ _ _ _ _ _ hc q => pow_int hc.1 hc.2 q
theorem pow_D : OpR X (binaryOp .Pow) (R2D X.K CT .pow) := by
  refine opr_imp op_powI fun v u H Q h => ?_
  obtain ⟨be, mu, x, y, Qd, S, dx, dy, h, kq⟩ := h
  cases x <;> cases y <;> simp only [w2] at h
  case int.int i j =>
    simp only [IsD] at dx dy
    exact ⟨i, j, dx, dy, h.1, kq.at_ S (by simp only [IsD]) h.2⟩
theorem mod_D : OpR X (binaryOp .Mod) (R2D X.K CT .mod) := by
  refine opr_imp op_mod fun v u H Q h => ?_
  obtain ⟨be, mu, x, y, Qd, S, dx, dy, h, kq⟩ := h
  cases x <;> cases y <;> simp only [w2] at h
  case int.int i j =>
    simp only [IsD] at dx dy
    exact ⟨i, j, dx, dy, h.1, kq.at_ S (by simp only [IsD]) h.2⟩
theorem fdiv_D : OpR X (binaryOp .FloorDiv) (R2D X.K CT .fdiv) := by
  refine opr_imp op_fdivW fun v u H Q h => ?_
  obtain ⟨be, mu, x, y, Qd, S, dx, dy, h, kq⟩ := h
  cases x <;> cases y <;> simp only [w2] at h
  case int.int i j =>
    simp only [IsD] at dx dy
    exact ⟨i, j, dx, dy, wide_div (b := 30) h.1.1 (by have := h.1; omega) (by decide) (by decide), kq.at_ S (by simp only [IsD]) h.2⟩
end
end MP

/-! MP: values' operations over data, comparisons, calls, subscripts -/
namespace MP
open PySem PySem.Spec PyProof.Rows L2

section
variable {X : Cx} {CT : Nat → Addr}
/-- t == () -/
theorem op_eqNil (hu : X.A.units < cLine) : OpR X (compareOp .Eq) (fun x y H Q => ∃ a b xs, x = .ref a ∧ y = .ref b ∧ SqT X.K H a xs ∧ SqT X.K H b [] ∧ Q (.bl xs.isEmpty) H) := by
  intro pins s σ H x y v u Q I rx ry h
  obtain ⟨a, b, xs, rfl, rfl, ha, hb, q⟩ := h
  cases rx
  cases ry
  obtain ⟨its, r1, p1, _⟩ := I.tuple ha
  obtain ⟨its2, r2, p2, _⟩ := I.tuple hb
  cases r2
  refine SeqAt.eq_tupleAt (e := fun _ => true) (show s.heap.IsTuple a its.toArray from p1) (show s.heap.IsTuple b ([] : List Value).toArray from p2) hu (fun j h1 h2 => absurd h2 (by simp)) ?_
  refine ⟨.bl xs.isEmpty, H, I, ?_, q⟩
  have hl := r1.length
  cases xs with
  | nil =>
    have : its = [] := List.eq_nil_of_length_eq_zero (by simpa using hl.symm)
    subst this
    rfl
  | cons x r =>
    cases its with
    | nil => simp at hl
    | cons z t => simp [L2.RelV]
theorem op_neNil (hu : X.A.units < cLine) : OpR X (compareOp .NotEq) (fun x y H Q => ∃ a b xs, x = .ref a ∧ y = .ref b ∧ SqT X.K H a xs ∧ SqT X.K H b [] ∧ Q (.bl (!xs.isEmpty)) H) := by
  intro pins s σ H x y v u Q I rx ry h
  obtain ⟨a, b, xs, rfl, rfl, ha, hb, q⟩ := h
  cases rx
  cases ry
  obtain ⟨its, r1, p1, _⟩ := I.tuple ha
  obtain ⟨its2, r2, p2, _⟩ := I.tuple hb
  cases r2
  refine SeqAt.RcNeAt.tuples (e := fun _ => true) (show s.heap.IsTuple a its.toArray from p1) (show s.heap.IsTuple b ([] : List Value).toArray from p2) hu (fun j h1 h2 => absurd h2 (by simp)) _ _ _ _ ?_
  refine ⟨.bl (!xs.isEmpty), H, I, ?_, q⟩
  have hl := r1.length
  cases xs with
  | nil =>
    have : its = [] := List.eq_nil_of_length_eq_zero (by simpa using hl.symm)
    subst this
    rfl
  | cons x r =>
    cases its with
    | nil => simp at hl
    | cons z t => simp [L2.RelV]
theorem flat_dp {K : PySem.W.Frag} {H : Hp} {be : List Addr} {d : D} {v : V} (h : d.flat = true) (i : IsD K H be d v) : Dp K H v d.py ∧ SeqAt.shaped d.py = true := by
  unfold D.flat at h
  rw [Bool.and_eq_true] at h
  exact ⟨dp_of h.1 i, h.2⟩
theorem shaped_lst {ds : List PyData} (h : SeqAt.shaped (.tuple ds) = true) : SeqAt.shaped (.list ds) = true := by
  simpa [SeqAt.shaped, PyData.canLay0, PyData.depth] using h
theorem eq_D (hu : X.A.units + 64 < cLine) : OpR X (compareOp .Eq) (R2D X.K CT .eq) := by
  refine opr_imp (opr_or op_eq (opr_or (op_eqNil (by omega)) (op_eqD hu))) fun v u H Q h => ?_
  obtain ⟨be, mu, x, y, Qd, S, dx, dy, h, kq⟩ := h
  simp only [w2] at h
  split at h
  · rename_i a b
    simp only [IsD] at dx dy
    subst dx dy
    refine .inl ⟨rfl, kq.at_ S (by simp only [IsD]; simp) h⟩
  · rename_i a b
    simp only [IsD] at dx dy
    subst dx dy
    refine .inl ⟨rfl, kq.at_ S (by simp only [IsD]; simp) h⟩
  · rename_i xs
    simp only [IsD] at dx dy
    obtain ⟨a, vs, rfl, q1, r1⟩ := dx
    obtain ⟨b, ws, rfl, q2, r2⟩ := dy
    simp only [IsDs] at r2
    subst r2
    refine .inr (.inl ⟨a, b, vs, rfl, rfl, q1, q2, kq.at_ (d := .bl vs.isEmpty) S (by simp only [IsD]) ?_⟩)
    have : vs.isEmpty = xs.isEmpty := by
      have := r1.len
      cases vs <;> cases xs <;> simp_all
    rw [this]; exact h
  · rename_i n m
    obtain ⟨a, vs, xs, rfl, _, _, h1, i1, h⟩ := lst_of S dx h
    obtain ⟨b, ws, ys, rfl, _, _, h2, i2, h⟩ := lst_of S dy h
    obtain ⟨f1, f2, h⟩ := h
    unfold D.flat at f1 f2
    rw [Bool.and_eq_true] at f1 f2
    refine .inr (.inr ⟨.list (D.pys xs), .list (D.pys ys), .lst (SqL.of h1) (dps_of f1.1 i1), .lst (SqL.of h2) (dps_of f2.1 i2), shaped_lst f1.2, shaped_lst f2.2, kq.at_ S (by simp only [IsD]; rfl) h⟩)
  · obtain ⟨p1, s1⟩ := flat_dp h.1 dx
    obtain ⟨p2, s2⟩ := flat_dp h.2.1 dy
    exact .inr (.inr ⟨_, _, p1, p2, s1, s2, kq.at_ S (by simp only [IsD]; rfl) h.2.2⟩)
theorem ne_D (hu : X.A.units + 64 < cLine) : OpR X (compareOp .NotEq) (R2D X.K CT .ne) := by
  refine opr_imp (opr_or op_ne (opr_or (op_neNil (by omega)) (op_neD hu))) fun v u H Q h => ?_
  obtain ⟨be, mu, x, y, Qd, S, dx, dy, h, kq⟩ := h
  simp only [w2] at h
  split at h
  · rename_i a b
    simp only [IsD] at dx dy
    subst dx dy
    refine .inl ⟨rfl, kq.at_ S (by simp only [IsD]; simp) h⟩
  · rename_i a b
    simp only [IsD] at dx dy
    subst dx dy
    refine .inl ⟨rfl, kq.at_ S (by simp only [IsD]; simp) h⟩
  · rename_i xs
    simp only [IsD] at dx dy
    obtain ⟨a, vs, rfl, q1, r1⟩ := dx
    obtain ⟨b, ws, rfl, q2, r2⟩ := dy
    simp only [IsDs] at r2
    subst r2
    refine .inr (.inl ⟨a, b, vs, rfl, rfl, q1, q2, kq.at_ (d := .bl (!vs.isEmpty)) S (by simp only [IsD]) ?_⟩)
    have : vs.isEmpty = xs.isEmpty := by
      have := r1.len
      cases vs <;> cases xs <;> simp_all
    rw [this]; exact h
  · rename_i n m
    obtain ⟨a, vs, xs, rfl, _, _, h1, i1, h⟩ := lst_of S dx h
    obtain ⟨b, ws, ys, rfl, _, _, h2, i2, h⟩ := lst_of S dy h
    obtain ⟨f1, f2, h⟩ := h
    unfold D.flat at f1 f2
    rw [Bool.and_eq_true] at f1 f2
    refine .inr (.inr ⟨.list (D.pys xs), .list (D.pys ys), .lst (SqL.of h1) (dps_of f1.1 i1), .lst (SqL.of h2) (dps_of f2.1 i2), shaped_lst f1.2, shaped_lst f2.2, kq.at_ S (by simp only [IsD]; rfl) h⟩)
  · obtain ⟨p1, s1⟩ := flat_dp h.1 dx
    obtain ⟨p2, s2⟩ := flat_dp h.2.1 dy
    exact .inr (.inr ⟨_, _, p1, p2, s1, s2, kq.at_ S (by simp only [IsD]; rfl) h.2.2⟩)
theorem lt_D : OpR X (compareOp .Lt) (R2D X.K CT .lt) := by
  refine opr_imp (opr_or op_lt op_lt_str) fun v u H Q h => ?_
  obtain ⟨be, mu, x, y, Qd, S, dx, dy, h, kq⟩ := h
  cases x <;> cases y <;> simp only [w2] at h
  case int.int i j =>
    simp only [IsD] at dx dy
    exact .inl ⟨i, j, dx, dy, kq.at_ S (by simp only [IsD]) h⟩
  case str.str i j =>
    simp only [IsD] at dx dy
    exact .inr ⟨i, j, dx, dy, kq.at_ S (by simp only [IsD]; rfl) h⟩
theorem le_D : OpR X (compareOp .LtE) (R2D X.K CT .le) := by
  refine opr_imp (opr_or op_le op_le_str) fun v u H Q h => ?_
  obtain ⟨be, mu, x, y, Qd, S, dx, dy, h, kq⟩ := h
  cases x <;> cases y <;> simp only [w2] at h
  case int.int i j =>
    simp only [IsD] at dx dy
    exact .inl ⟨i, j, dx, dy, kq.at_ S (by simp only [IsD]) h⟩
  case str.str i j =>
    simp only [IsD] at dx dy
    exact .inr ⟨i, j, dx, dy, kq.at_ S (by simp only [IsD]; rfl) h⟩
theorem gt_D : OpR X (compareOp .Gt) (R2D X.K CT .gt) := by
  refine opr_imp (opr_or op_gt op_gt_str) fun v u H Q h => ?_
  obtain ⟨be, mu, x, y, Qd, S, dx, dy, h, kq⟩ := h
  cases x <;> cases y <;> simp only [w2] at h
  case int.int i j =>
    simp only [IsD] at dx dy
    exact .inl ⟨i, j, dx, dy, kq.at_ S (by simp only [IsD]) h⟩
  case str.str i j =>
    simp only [IsD] at dx dy
    exact .inr ⟨i, j, dx, dy, kq.at_ S (by simp only [IsD]; rfl) h⟩
theorem ge_D : OpR X (compareOp .GtE) (R2D X.K CT .ge) := by
  refine opr_imp (opr_or op_ge op_ge_str) fun v u H Q h => ?_
  obtain ⟨be, mu, x, y, Qd, S, dx, dy, h, kq⟩ := h
  cases x <;> cases y <;> simp only [w2] at h
  case int.int i j =>
    simp only [IsD] at dx dy
    exact .inl ⟨i, j, dx, dy, kq.at_ S (by simp only [IsD]) h⟩
  case str.str i j =>
    simp only [IsD] at dx dy
    exact .inr ⟨i, j, dx, dy, kq.at_ S (by simp only [IsD]; rfl) h⟩
theorem at_of {K : PySem.W.Frag} {H : Hp} {be : List Addr} {xs : List D} {vs : List V} {i : Int} {k : D → Prop} (h : IsDs K H be xs vs) (q : itemAt xs i k) : ∃ d v, atI vs i = some v ∧ IsD K H be d v ∧ k d := by
  unfold itemAt at q
  split at q
  · rename_i d e
    unfold atI at e ⊢
    rw [← h.len]
    cases hj : ixN xs.length i with
    | none => rw [hj] at e; cases e
    | some j =>
      rw [hj] at e
      obtain ⟨v, e1, i1⟩ := h.get (show xs[j]? = some d from e)
      exact ⟨d, v, e1, i1, q⟩
  · exact q.elim
theorem ix_D : IxR X (R2D X.K CT .ix) := by
  have imp : ∀ {r t : R2}, IxR X r → (∀ x y H Q, t x y H Q → r x y H Q) → IxR X t := fun h k value slice pins s σ H x y v u Q I rx ry q hs => h value slice pins s σ H x y v u Q I rx ry (k _ _ _ _ q) hs
  refine imp ix_seq fun v u H Q h => ?_
  obtain ⟨be, mu, x, y, Qd, S, dx, dy, h, kq⟩ := h
  have seqs : ∀ {i : Int}, u = .int i → seqAt x mu (fun xs => itemAt xs i fun v => Qd v mu) → rIx X.K v u H Q := fun {i} e h => by
    obtain ⟨a, vs, xs, rfl, q, r, h⟩ := seq_of S dx h
    obtain ⟨d, w, e1, i1, h⟩ := at_of r h
    rcases q with q | q
    · exact .inl ⟨a, vs, i, w, rfl, e, q, e1, kq.at_ S i1 h⟩
    · exact .inr (.inl ⟨a, vs, i, w, rfl, e, q, e1, kq.at_ S i1 h⟩)
  cases y with
  | int i =>
    simp only [IsD] at dy
    cases x <;> simp only [w2] at h
    case str z =>
      simp only [IsD] at dx
      obtain ⟨hz, h⟩ := h
      split at h
      · rename_i c e
        exact .inr (.inr ⟨z, i, c, dx, dy, hz, e, kq.at_ S (by simp only [IsD]) h⟩)
      · exact h.elim
    all_goals exact seqs dy h
  | _ => cases x <;> simp only [w2] at h
theorem max_D (hc : X.calm = true) : CallR X (.builtin "max") (fun vs H Q => ∃ v u, vs = [v, u] ∧ R2D X.K CT .max v u H Q) := by
  refine callr_imp (call_max2 hc) fun vs H Q h => ?_
  obtain ⟨v, u, rfl, be, mu, x, y, Qd, S, dx, dy, h, kq⟩ := h
  cases x <;> cases y <;> simp only [w2] at h
  case int.int i j =>
    simp only [IsD] at dx dy
    subst dx dy
    exact ⟨i, j, rfl, kq.at_ S (by simp only [IsD]) h⟩
theorem min_D (hc : X.calm = true) : CallR X (.builtin "min") (fun vs H Q => ∃ v u, vs = [v, u] ∧ R2D X.K CT .min v u H Q) := by
  refine callr_imp (call_min2 hc) fun vs H Q h => ?_
  obtain ⟨v, u, rfl, be, mu, x, y, Qd, S, dx, dy, h, kq⟩ := h
  cases x <;> cases y <;> simp only [w2] at h
  case int.int i j =>
    simp only [IsD] at dx dy
    subst dx dy
    exact ⟨i, j, rfl, kq.at_ S (by simp only [IsD]) h⟩
/-- a list's cell written anew -/
theorem put_lst {K : PySem.W.Frag} {H : Hp} {be : List Addr} {mu : Store} {Qd : QD} {Q : VK} {n : Nat} {a : Addr} {vs ws : List V} {ys : List D} {d : D} {v : V} (S : RepS K CT H be mu) (e : be[n]? = some a) (h1 : H a = some (.lst vs))
    (i : IsDs K H be ys ws) (id : IsD K H be d v) (kq : KQ K CT H be Qd Q) (q : Qd d (mu.set n (.lst ys))) : Q v (upd H a (.lst ws)) := by
  have x : Ext H (upd H a (.lst ws)) be be := .write e h1 rfl
  exact kq d _ be _ v x (S.write (c := .lst ys) e h1 rfl ⟨ws, upd_same, i.mono x⟩) (id.mono x) q
theorem append_D : MtR X "list.append" (fun v us H Q => ∃ u, us = [u] ∧ R2D X.K CT .append v u H Q) := by
  have imp : ∀ {r t : V → List V → Hp → VK → Prop} {id : String}, MtR X id r → (∀ x y H Q, t x y H Q → r x y H Q) → MtR X id t := fun h k pins s σ H x xs v us Q I rx rs q => h pins s σ H x xs v us Q I rx rs (k _ _ _ _ q)
  refine imp mt_append fun v us H Q h => ?_
  obtain ⟨u, rfl, be, mu, x, y, Qd, S, dx, dy, h, kq⟩ := h
  cases x <;> simp only [w2] at h
  case ref n =>
    obtain ⟨a, vs, xs, rfl, e, _, h1, i1, h⟩ := lst_of S dx h
    exact ⟨a, vs, u, rfl, rfl, h1, by rw [← i1.len]; exact h.1, put_lst S e h1 (i1.append (.one dy)) (by simp only [IsD]) kq h.2⟩
theorem extend_D : MtR X "list.extend" (fun v us H Q => ∃ u, us = [u] ∧ R2D X.K CT .extend v u H Q) := by
  have imp : ∀ {r t : V → List V → Hp → VK → Prop} {id : String}, MtR X id r → (∀ x y H Q, t x y H Q → r x y H Q) → MtR X id t := fun h k pins s σ H x xs v us Q I rx rs q => h pins s σ H x xs v us Q I rx rs (k _ _ _ _ q)
  refine imp mt_extend fun v us H Q h => ?_
  obtain ⟨u, rfl, be, mu, x, y, Qd, S, dx, dy, h, kq⟩ := h
  cases x <;> cases y <;> simp only [w2] at h
  case ref.ref n m =>
    obtain ⟨a, vs, xs, rfl, e, _, h1, i1, h⟩ := lst_of S dx h
    obtain ⟨b, ws, ys, rfl, _, _, h2, i2, h⟩ := lst_of S dy h
    exact ⟨a, b, vs, ws, rfl, rfl, h1, h2, by rw [← i1.len, ← i2.len]; exact h.1, put_lst S e h1 (i1.append i2) (by simp only [IsD]) kq h.2⟩
theorem pop_D : MtR X "list.pop" (fun v us H Q => us = [] ∧ R1D X.K CT .pop v H Q) := by
  have imp : ∀ {r t : V → List V → Hp → VK → Prop} {id : String}, MtR X id r → (∀ x y H Q, t x y H Q → r x y H Q) → MtR X id t := fun h k pins s σ H x xs v us Q I rx rs q => h pins s σ H x xs v us Q I rx rs (k _ _ _ _ q)
  refine imp mt_pop fun v us H Q h => ?_
  obtain ⟨rfl, be, mu, x, Qd, S, dx, h, kq⟩ := h
  cases x <;> simp only [w1] at h
  case ref n =>
    obtain ⟨a, vs, xs, rfl, e, _, h1, i1, y, ey, h⟩ := lst_of S dx h
    obtain ⟨w, ew, iw⟩ := i1.get ey
    refine ⟨a, vs, w, rfl, rfl, h1, by rw [← i1.len]; exact ew, put_lst S e h1 (ys := xs.dropLast) ?_ iw kq h⟩
    rw [List.dropLast_eq_take, List.dropLast_eq_take, i1.len]
    exact i1.take _
/-! ### calls of one argument -/
abbrev One (K : PySem.W.Frag) (CT : Nat → Addr) (o : O1) : List V → Hp → VK → Prop := fun vs H Q => ∃ v, vs = [v] ∧ R1D K CT o v H Q
theorem len_D : CallR X (.builtin "len") (One X.K CT .len) := by
  refine callr_imp (callr_or call_len_str call_len_seq) fun vs H Q h => ?_
  obtain ⟨v, rfl, be, mu, x, Qd, S, dx, h, kq⟩ := h
  have seqs : seqAt x mu (fun xs => Qd (.int xs.length) mu) → ∃ p ys, [v] = [V.ref p] ∧ (SqL X.K H p ys ∨ SqT X.K H p ys) ∧ Q (.int ys.length) H := fun h => by
    obtain ⟨a, vs, xs, rfl, q, r, h⟩ := seq_of S dx h
    exact ⟨a, vs, rfl, q, by rw [← r.len]; exact kq.at_ S (by simp only [IsD]) h⟩
  cases x <;> simp only [w1] at h
  case str z =>
    simp only [IsD] at dx
    subst dx
    exact .inl ⟨z, rfl, h.1, kq.at_ S (by simp only [IsD]) h.2⟩
  all_goals exact .inr (seqs h)
theorem abs_D : CallR X (.builtin "abs") (One X.K CT .abs) := by
  refine callr_imp call_abs fun vs H Q h => ?_
  obtain ⟨v, rfl, be, mu, x, Qd, S, dx, h, kq⟩ := h
  cases x <;> simp only [w1] at h
  case int i =>
    simp only [IsD] at dx
    subst dx
    exact ⟨i, rfl, kq.at_ S (by simp only [IsD]) h⟩
theorem int_D : CallR X (.type "int") (One X.K CT .int) := by
  refine callr_imp call_int1 fun vs H Q h => ?_
  obtain ⟨v, rfl, be, mu, x, Qd, S, dx, h, kq⟩ := h
  cases x <;> simp only [w1] at h
  case int i =>
    simp only [IsD] at dx
    subst dx
    exact .inl ⟨i, rfl, kq.at_ S (by simp only [IsD]) h⟩
  case bl i =>
    simp only [IsD] at dx
    subst dx
    exact .inr ⟨i, rfl, kq.at_ S (by simp only [IsD]) h⟩
theorem tuple_D : CallR X (.type "tuple") (One X.K CT .tuple) := by
  refine callr_imp call_tuple_of fun vs H Q h => ?_
  obtain ⟨v, rfl, be, mu, x, Qd, S, dx, h, kq⟩ := h
  simp only [w1] at h
  cases x with
  | tup xs =>
    have dx0 := dx
    simp only [IsD] at dx
    obtain ⟨a, vs, rfl, q, r⟩ := dx
    exact ⟨a, vs, rfl, .inr ⟨q, kq.at_ S dx0 (by simpa only [seqAt] using h)⟩⟩
  | ref n =>
    simp only [seqAt] at h
    obtain ⟨a, vs, xs, rfl, e, _, h1, i1, h⟩ := lst_of S dx h
    exact ⟨a, vs, rfl, .inl ⟨SqL.of h1, fun p hp => kq.tup S i1 h hp⟩⟩
  | ro xs =>
    simp only [IsD] at dx
    obtain ⟨a, vs, rfl, q, r⟩ := dx
    exact ⟨a, vs, rfl, .inl ⟨q.sq, fun p hp => kq.tup S r (by simpa only [seqAt] using h) hp⟩⟩
  | _ => simp only [seqAt] at h
theorem list_D : CallR X (.type "list") (One X.K CT .list) := by
  refine callr_imp call_list_of fun vs H Q h => ?_
  obtain ⟨v, rfl, be, mu, x, Qd, S, dx, h, kq⟩ := h
  simp only [w1] at h
  obtain ⟨a, vs, xs, rfl, q, r, h⟩ := seq_of S dx h
  exact ⟨a, vs, rfl, q, fun p hp => kq.lst S r h hp⟩
theorem all_D (hc : X.calm = true) : CallR X (.builtin "all") (One X.K CT .all) := by
  refine callr_imp (cr_all hc) fun vs H Q h => ?_
  obtain ⟨v, rfl, be, mu, x, Qd, S, dx, h, kq⟩ := h
  simp only [w1] at h
  obtain ⟨a, vs, xs, rfl, q, r, h⟩ := list_of S dx h
  unfold onBl at h
  split at h
  · rename_i bs e
    have := bls_of e r
    subst this
    exact ⟨a, bs, rfl, q, kq.at_ S (by simp only [IsD]) h⟩
  · exact h.elim
theorem any_D (hc : X.calm = true) : CallR X (.builtin "any") (One X.K CT .any) := by
  refine callr_imp (cr_any hc) fun vs H Q h => ?_
  obtain ⟨v, rfl, be, mu, x, Qd, S, dx, h, kq⟩ := h
  simp only [w1] at h
  obtain ⟨a, vs, xs, rfl, q, r, h⟩ := list_of S dx h
  unfold onBl at h
  split at h
  · rename_i bs e
    have := bls_of e r
    subst this
    exact ⟨a, bs, rfl, q, kq.at_ S (by simp only [IsD]) h⟩
  · exact h.elim
theorem sum_D (hc : X.calm = true) : CallR X (.builtin "sum") (One X.K CT .sum) := by
  refine callr_imp (cr_sum hc) fun vs H Q h => ?_
  obtain ⟨v, rfl, be, mu, x, Qd, S, dx, h, kq⟩ := h
  simp only [w1] at h
  obtain ⟨a, vs, xs, rfl, q, r, h⟩ := list_of S dx h
  unfold onInt at h
  split at h
  · rename_i bs e
    have := ints_of e r
    subst this
    exact ⟨a, bs, rfl, q, kq.at_ S (by simp only [IsD]) h⟩
  · exact h.elim
theorem sorted_D : CallR X (.builtin "sorted") (One X.K CT .sorted) := by
  refine callr_imp cr_sortedS fun vs H Q h => ?_
  obtain ⟨v, rfl, be, mu, x, Qd, S, dx, h, kq⟩ := h
  simp only [w1] at h
  obtain ⟨a, vs, xs, rfl, q, r, h⟩ := list_of S dx h
  unfold onStr at h
  split at h
  · rename_i bs e
    have := strs_of e r
    subst this
    exact ⟨a, bs, rfl, q, h.1, fun ys p h1 h2 hp => kq.lst S (of_strs ys) (h.2 ys h1 h2) hp⟩
  · exact h.elim
theorem isN_D : OpR X (compareOp .Is) (fun x y H Q => y = .non ∧ R1D X.K CT .isN x H Q) := by
  refine opr_imp op_isN fun v u H Q h => ?_
  obtain ⟨e, be, mu, x, Qd, S, dx, h, kq⟩ := h
  refine ⟨e, ?_⟩
  simp only [w1] at h
  have : decide (v = .non) = x.isNon := by
    cases x <;> simp only [IsD] at dx <;> first | (subst dx; rfl) | (obtain ⟨a, vs, rfl, _⟩ := dx; rfl) | (obtain ⟨a, _, rfl⟩ := dx; rfl)
  rw [this]
  exact kq.at_ S (by simp only [IsD]) h
theorem notN_D : OpR X (compareOp .IsNot) (fun x y H Q => y = .non ∧ R1D X.K CT .notN x H Q) := by
  refine opr_imp op_notN fun v u H Q h => ?_
  obtain ⟨e, be, mu, x, Qd, S, dx, h, kq⟩ := h
  refine ⟨e, ?_⟩
  simp only [w1] at h
  have : (!decide (v = .non)) = !x.isNon := by
    cases x <;> simp only [IsD] at dx <;> first | (subst dx; rfl) | (obtain ⟨a, vs, rfl, _⟩ := dx; rfl) | (obtain ⟨a, _, rfl⟩ := dx; rfl)
  rw [this]
  exact kq.at_ S (by simp only [IsD]) h
theorem isB_D (b : Bool) : OpR X (compareOp .Is) (fun x y H Q => y = .bl b ∧ R1D X.K CT (if b then .isT else .isF) x H Q) := by
  refine opr_imp op_isBl fun v u H Q h => ?_
  obtain ⟨e, be, mu, x, Qd, S, dx, h, kq⟩ := h
  cases b <;> cases x <;> simp [w1] at h
  all_goals
    rename_i c
    simp only [IsD] at dx
    refine ⟨c, _, dx, e, ?_⟩
    cases c <;> exact kq.at_ S (by simp only [IsD]; rfl) h
theorem neg_D : UnR X (unaryOp .USub) (R1D X.K CT .neg) := by
  intro pins s σ H v u Q I rx h
  refine un_neg pins s σ H v u Q I rx ?_
  obtain ⟨be, mu, x, Qd, S, dx, h, kq⟩ := h
  cases x <;> simp only [w1] at h
  case int i =>
    simp only [IsD] at dx
    exact ⟨i, dx, kq.at_ S (by simp only [IsD]) h⟩
theorem cut_of {K : PySem.W.Frag} {H : Hp} {be : List Addr} {xs : List D} {vs : List V} (h : IsDs K H be xs vs) (lo hi : Option Int) : IsDs K H be (cutD xs lo hi) (cutV vs lo hi) := by
  unfold cutD cutV
  rw [← h.len]
  exact (h.drop _).take _
theorem sl_D : SlR X (RSl X.K CT) := by
  have imp : ∀ {r t : V → Option Int → Option Int → Hp → VK → Prop}, SlR X r → (∀ x l u H Q, t x l u H Q → r x l u H Q) → SlR X t := fun h k pins s σ H x v vl vu lo hi sl Q I rx hs pl pu q => h pins s σ H x v vl vu lo hi sl Q I rx hs pl pu (k _ _ _ _ _ q)
  refine imp (sl_str.or (sl_tupA.or sl_list)) fun v lo hi H Q h => ?_
  obtain ⟨be, mu, x, Qd, S, dx, h, kq⟩ := h
  cases x <;> simp only [wSl] at h
  case str z =>
    simp only [IsD] at dx
    exact .inl ⟨z, dx, h.1, kq.at_ S (by simp only [IsD]) h.2⟩
  case tup xs =>
    have dx0 := dx
    simp only [IsD] at dx
    obtain ⟨a, vs, rfl, q, r⟩ := dx
    refine .inr (.inl ⟨a, vs, rfl, q, fun e => kq.at_ S dx0 ?_, fun _ p hp => kq.tup S (cut_of r lo hi) h hp⟩)
    have : cutD xs lo hi = xs := by
      unfold cutD
      rw [r.len, e.1, e.2, List.drop_zero, List.take_of_length_le (by rw [r.len]; omega)]
    rw [this] at h
    exact h
  case ref n =>
    obtain ⟨a, vs, xs, rfl, e, _, h1, i1, h⟩ := lst_of S dx h
    exact .inr (.inr ⟨a, vs, rfl, SqL.of h1, fun p hp => kq.lst S (cut_of i1 lo hi) h hp⟩)
end
end MP

/-! MP: repr -/
namespace MP
open PySem PySem.Spec PyProof.Rows L2
section
variable {K : PySem.W.Frag} {CT : Nat → Addr} {H : Hp} {be : List Addr} {mu : Store}
mutual
theorem deep_dp (S : RepS K CT H be mu) : ∀ (p : PyData) (d : D) (v : V), Deep mu d p → IsD K H be d v → Dp K H v p
  | .none, _, _, h, i => by cases h; simp only [IsD] at i; subst i; exact .non
  | .bool _, _, _, h, i => by cases h; simp only [IsD] at i; subst i; exact .bl _
  | .int _, _, _, h, i => by cases h; simp only [IsD] at i; subst i; exact .int _
  | .str _, _, _, h, i => by cases h; simp only [IsD] at i; subst i; exact .str _
  | .tuple ps, _, _, h, i => by
    cases h with
    | tup hs =>
      simp only [IsD] at i
      obtain ⟨a, vs, rfl, q, r⟩ := i
      exact .tup q (deeps_dp S ps _ _ hs r)
  | .list ps, _, _, h, i => by
    cases h with
    | lst hn hs =>
      simp only [IsD] at i
      obtain ⟨a, e, rfl⟩ := i
      obtain ⟨vs, h1, r⟩ := S.get e hn
      exact .lst (SqL.of h1) (deeps_dp S ps _ _ hs r)
    | ro hs =>
      simp only [IsD] at i
      obtain ⟨a, vs, rfl, q, r⟩ := i
      exact .lst q.sq (deeps_dp S ps _ _ hs r)
  | .dict _, _, _, h, _ => by cases h
theorem deeps_dp (S : RepS K CT H be mu) : ∀ (ps : List PyData) (xs : List D) (vs : List V), Deeps mu xs ps → IsDs K H be xs vs → DpAll K H vs ps
  | [], _, _, h, i => by cases h; simp only [IsDs] at i; subst i; exact .nil
  | p :: ps, _, _, h, i => by
    cases h with
    | cons h1 h2 =>
      simp only [IsDs] at i
      obtain ⟨v, w, rfl, i1, i2⟩ := i
      exact .cons (deep_dp S p _ _ h1 i1) (deeps_dp S ps _ _ h2 i2)
end
mutual
theorem dp_nodict : ∀ (p : PyData) (v : V), Dp K H v p → p.hasDict = false
  | .none, _, _ => rfl
  | .bool _, _, _ => rfl
  | .int _, _, _ => rfl
  | .str _, _, _ => rfl
  | .tuple ps, _, h => by
    cases h with
    | tup q r => simp only [PyData.hasDict]; exact dps_nodict ps _ r
  | .list ps, _, h => by
    cases h with
    | lst q r => simp only [PyData.hasDict]; exact dps_nodict ps _ r
  | .dict _, _, h => by cases h
theorem dps_nodict : ∀ (ps : List PyData) (vs : List V), DpAll K H vs ps → PyData.hasDictAll ps = false
  | [], _, _ => rfl
  | p :: ps, _, h => by
    cases h with
    | cons h1 h2 => simp only [PyData.hasDictAll, dp_nodict p _ h1, dps_nodict ps _ h2]; rfl
end
end
section
variable {X : Cx} {CT : Nat → Addr}
theorem repr_D (hg : X.A.guards = some []) (hu : X.A.units + 66 < cLine) : CallR X (.builtin "repr") (One X.K CT .repr) := by
  intro pins s σ H xs us Q I r h
  obtain ⟨v, rfl, be, mu, x, Qd, S, dx, h, kq⟩ := h
  simp only [w1] at h
  obtain ⟨p, hp, hs, hd, hz, h⟩ := h
  have q : Q (.str p.shown) H := kq.at_ S (by simp only [IsD]) h
  have dp := deep_dp S p x v hp dx
  obtain ⟨u, rfl, rv⟩ := vals1 r
  obtain ⟨as, rd⟩ := Dp.reads I p v u dp rv
  cases rd with
  | none => exact PySem.P.repr_of_none ⟨.str _, H, I.tok _, ⟨_, rfl⟩, q⟩
  | bool b => exact PySem.P.repr_of_bool ⟨.str _, H, I.tok _, ⟨_, rfl⟩, q⟩
  | int i t => exact PySem.P.repr_of_int (by simpa [PyData.showable] using hs) ⟨.str _, H, I.tok _, ⟨_, rfl⟩, q⟩
  | str z t => exact PySem.P.repr_of_str ⟨.str _, H, I.tok _, ⟨_, rfl⟩, q⟩ hz
  | list h1 h2 h3 h4 =>
    refine repr_of_reads' (.list h1 h2 h3 h4) hs (fun z => ?_) hg (by omega) (fun _ _ e => e) (fun h' u tk hk => ⟨.str _, H, I.kept hk, ⟨_, rfl⟩, q⟩) hz
    rw [dp_nodict _ _ dp] at z; cases z
  | tuple h1 h2 h3 h4 =>
    refine repr_of_reads' (.tuple h1 h2 h3 h4) hs (fun z => ?_) hg (by omega) (fun _ _ e => e) (fun h' u tk hk => ⟨.str _, H, I.kept hk, ⟨_, rfl⟩, q⟩) hz
    rw [dp_nodict _ _ dp] at z; cases z
  | dict h1 h2 h3 h4 h5 => cases dp
end
end MP

/-! MP: which core tree stands for which tree of the text; one-place and two-place operations -/
namespace MP
open PySem PySem.Spec PyProof.Rows L2

/-- the names of a def's body: its own by slot, the text's defs, constants of the top, builtins that the top leaves alone -/
structure Nm where
  N : List Str
  fns : List Str
  cons : List (Str × D)
  blts : List Str
  /-- how defs are called: def, positional arguments, keywords, where each parameter's value stands -/
  kwp : List (Nat × Nat × List Str × List Nat)

mutual
def D.beq : D → D → Bool
  | .non, .non => true
  | .bl a, .bl b => a == b
  | .int a, .int b => a == b
  | .str a, .str b => decide (a = b)
  | .tup a, .tup b => D.beqs a b
  | _, _ => false
def D.beqs : List D → List D → Bool
  | [], [] => true
  | x :: r, y :: t => D.beq x y && D.beqs r t
  | _, _ => false
end
mutual
theorem beq_D : ∀ {a b : D}, D.beq a b = true → a = b
  | .non, b, h => by cases b <;> first | rfl | simp [D.beq] at h
  | .bl _, b, h => by cases b <;> simp [D.beq] at h; rw [h]
  | .int _, b, h => by cases b <;> simp [D.beq] at h; rw [h]
  | .str _, b, h => by cases b <;> simp [D.beq] at h; rw [h]
  | .tup xs, b, h => by
    cases b <;> simp only [D.beq] at h <;> try (cases h)
    rw [beqs_D h]
  | .ref _, b, h => by cases b <;> simp [D.beq] at h
  | .ro _, b, h => by cases b <;> simp [D.beq] at h
theorem beqs_D : ∀ {a b : List D}, D.beqs a b = true → a = b
  | [], b, h => by cases b <;> first | rfl | simp [D.beqs] at h
  | x :: r, b, h => by
    cases b <;> simp only [D.beqs] at h <;> try (cases h)
    rw [Bool.and_eq_true] at h
    rw [beq_D h.1, beqs_D h.2]
end

/-- no name that the machine treats apart -/
def okN (x : Str) : Bool := !(x == ("__debug__" : Str)) && !(x == ("__classdict__" : Str)) && !decide (x = ("__name__" : Str))
def visB (sc : Scope) (x : Str) : Bool := match sc.names.lookup x with
  | some .local => true
  | some .cell => true
  | some .free => true
  | _ => false
def locB (sc : Scope) (x : Str) : Bool := match sc.names.lookup x with
  | some .local => true
  | some .cell => true
  | _ => false
def glB (sc : Scope) (x : Str) : Bool := okN x && match sc.names.lookup x with
  | some .globalImplicit => true
  | _ => false
/-- the builtin of that name -/
def bltB (n : Nm) (sc : Scope) (f : Expr) (x : Str) : Bool := match f with
  | .Name y _ => decide (y = x) && glB sc x && n.blts.contains x
  | _ => false
def nst : Expr → Bool
  | .Starred _ _ => false
  | _ => true
def nsl : Expr → Bool
  | .Slice _ _ _ _ => false
  | _ => true
/-- an expression that «super» does not look at -/
def plainB : Expr → Bool
  | .Name _ _ => true
  | .Attribute _ _ _ => true
  | .Subscript _ _ _ => true
  | .Constant _ _ _ => true
  | _ => false
def nset : Expr → Bool
  | .Set _ _ _ => false
  | _ => true
def sameLine (a b : Pos) : Bool := a.endLine == b.line

def tyN : Ty → Str
  | .int => "int"
  | .str => "str"
  | .bool => "bool"
  | .tuple => "tuple"
  | .list => "list"
  | .dict => "dict"
/-- the part of a one-place operation -/
def sh1 (n : Nm) (sc : Scope) (o : O1) (e : Expr) : Option Expr :=
  match o, e with
  | .neg, .UnaryOp .USub a _ => some a
  | .len, .Call f [a] [] _ => if bltB n sc f "len" && nst a then some a else none
  | .abs, .Call f [a] [] _ => if bltB n sc f "abs" && nst a then some a else none
  | .int, .Call f [a] [] _ => if bltB n sc f "int" && nst a then some a else none
  | .tuple, .Call f [a] [] _ => if bltB n sc f "tuple" && nst a then some a else none
  | .list, .Call f [a] [] _ => if bltB n sc f "list" && nst a then some a else none
  | .all, .Call f [a] [] _ => if bltB n sc f "all" && nst a then some a else none
  | .any, .Call f [a] [] _ => if bltB n sc f "any" && nst a then some a else none
  | .sum, .Call f [a] [] _ => if bltB n sc f "sum" && nst a then some a else none
  | .repr, .Call f [a] [] _ => if bltB n sc f "repr" && nst a then some a else none
  | .sorted, .Call f [a] [] _ => if bltB n sc f "sorted" && nst a then some a else none
  | .isN, .Compare a [.Is] [.Constant .none _ _] _ => some a
  | .notN, .Compare a [.IsNot] [.Constant .none _ _] _ => some a
  | .isF, .Compare a [.Is] [.Constant (.bool false) _ _] _ => some a
  | .isT, .Compare a [.Is] [.Constant (.bool true) _ _] _ => some a
  | .pop, .Call (.Attribute a m p) [] [] q => if decide (m = ("pop" : Str)) && plainB a && sameLine p q then some a else none
  | _, _ => none
def sh2 (n : Nm) (sc : Scope) (o : O2) (e : Expr) : Option (Expr × Expr) :=
  match o, e with
  | .add, .BinOp a .Add b _ => some (a, b)
  | .sub, .BinOp a .Sub b _ => some (a, b)
  | .mul, .BinOp a .Mult b _ => some (a, b)
  | .fdiv, .BinOp a .FloorDiv b _ => some (a, b)
  | .mod, .BinOp a .Mod b _ => some (a, b)
  | .pow, .BinOp a .Pow b _ => some (a, b)
  | .eq, .Compare a [.Eq] [b] _ => some (a, b)
  | .ne, .Compare a [.NotEq] [b] _ => some (a, b)
  | .lt, .Compare a [.Lt] [b] _ => some (a, b)
  | .le, .Compare a [.LtE] [b] _ => some (a, b)
  | .gt, .Compare a [.Gt] [b] _ => some (a, b)
  | .ge, .Compare a [.GtE] [b] _ => some (a, b)
  | .max, .Call f [a, b] [] _ => if bltB n sc f "max" && nst a && nst b then some (a, b) else none
  | .min, .Call f [a, b] [] _ => if bltB n sc f "min" && nst a && nst b then some (a, b) else none
  | .ix, .Subscript a b _ => if nsl b then some (a, b) else none
  | .append, .Call (.Attribute a m p) [b] [] q => if decide (m = ("append" : Str)) && plainB a && sameLine p q && nst b then some (a, b) else none
  | .extend, .Call (.Attribute a m p) [b] [] q => if decide (m = ("extend" : Str)) && plainB a && sameLine p q && nst b then some (a, b) else none
  | _, _ => none
/-- the operator of a comparison in a chain -/
def shC : O2 → Option CmpOp
  | .lt => some .Lt
  | .le => some .LtE
  | .gt => some .Gt
  | .ge => some .GtE
  | .eq => some .Eq
  | .ne => some .NotEq
  | _ => none

/-! ### what the context gives -/
structure XO (n : Nm) (sc0 sc : Scope) (X : Cx) : Prop where
  scp : X.env.scope = sc
  N : X.N = n.N
  nd : n.N.Nodup
  calm : X.calm = true
  hu : X.A.units + 200 < cLine
  hg : X.A.guards = some []
  blt : ∀ x ∈ n.blts, X.mg x = none
  cons : ∀ p ∈ n.cons, ∃ u, X.mg p.1 = some u ∧ ∀ H be, ∃ v, L2.RelV v u ∧ IsD X.K H be p.2 v
  own : PassesOwn (model X.prog X.w) X.A X.env X.xe
  loc : ∀ x, locB sc0 x = true → L2.Loc sc x ∧ (X.fn x = true ∨ sc.names.lookup x = some .local)
  kind : sc.kind = .function

section
variable {n : Nm} {sc0 sc : Scope} {X : Cx} {CT : Nat → Addr} {G : Ctx} {W : WX}
theorem okN_of {x : Str} (h : okN x = true) : (x == ("__debug__" : Str)) = false ∧ (x == ("__classdict__" : Str)) = false ∧ x ≠ "__name__" := by
  unfold okN at h
  simp only [Bool.and_eq_true, Bool.not_eq_true', decide_eq_false_iff_not] at h
  exact ⟨h.1.1, h.1.2, h.2⟩
theorem gl_of (O : XO n sc0 sc X) {x : Str} (h : glB sc x = true) : Gl X x ∧ (x == ("__debug__" : Str)) = false ∧ x ≠ "__name__" := by
  unfold glB at h
  rw [Bool.and_eq_true] at h
  obtain ⟨a, _, c⟩ := okN_of h.1
  refine ⟨?_, a, c⟩
  show X.env.scope.names.lookup x = some .globalImplicit
  rw [O.scp]
  have h2 := h.2
  split at h2
  · assumption
  · cases h2
theorem blt_of (O : XO n sc0 sc X) {f : Expr} {x : Str} (h : bltB n sc f x = true) : ∃ p, f = .Name x p ∧ Gl X x ∧ X.mg x = none ∧ (x == ("__debug__" : Str)) = false ∧ x ≠ "__name__" := by
  unfold bltB at h
  split at h
  · rename_i y p
    simp only [Bool.and_eq_true, decide_eq_true_eq] at h
    obtain ⟨⟨rfl, h2⟩, h3⟩ := h
    obtain ⟨a, b, c⟩ := gl_of O h2
    exact ⟨p, rfl, a, O.blt _ (by simpa using h3), b, c⟩
  · cases h
theorem star1 {e : Expr} (h : nst e = true) (es : List Expr) (env : Env) : starEach (e :: es) env = (false, eval e env) :: starEach es env := by
  cases e <;> first | rfl | cases h
theorem star_any {pos : Pos} {env : Env} : ∀ {es : List Expr}, es.all nst = true → (backTo pos (starEach es env)).any (·.1) = false
  | [], _ => rfl
  | e :: es, h => by
    rw [List.all_cons, Bool.and_eq_true] at h
    rw [star1 h.1]
    show (false || (backTo pos (starEach es env)).any (·.1)) = false
    rw [star_any h.2]; rfl
theorem base_of {o : Expr} {m : Str} {env : Env} {w : Sem Value} (h : plainB o = true) : attributeBase o m env w = w := by
  cases o <;> first | rfl | cases h
theorem ix_of {b : Expr} (h : nsl b = true) : PlainIx b := by
  intro o i
  cases b <;> first | rfl | cases h
theorem PE.imp {e : Expr} {t u : TE} (h : PE X e t) (k : ∀ σ H Q, u σ H Q → t σ H Q) : PE X e u := ⟨fun pins s σ H Q I q => h.run pins s σ H Q I (k _ _ _ q)⟩
theorem PT.imp {e : Expr} {t u : TT} (h : PT X e t) (k : ∀ σ H Q, u σ H Q → t σ H Q) : PT X e u := ⟨fun pins s σ H Q I q => h.run pins s σ H Q I (k _ _ _ q)⟩

/-- f(a), f a builtin function -/
theorem call1 (O : XO n sc0 sc X) {o : O1} {f a : Expr} {x : Str} {id : String} {c : CE} {pos : Pos} (hc : CallR X (.builtin id) (One X.K CT o)) (hv : bootBuiltins x = some (.builtin id)) (h : (bltB n sc f x && nst a) = true)
    (ha : PE X a (LE G X.K CT W c)) : PE X (.Call f [a] [] pos) (LE G X.K CT W (.op1 o c)) := by
  rw [Bool.and_eq_true] at h
  obtain ⟨p, rfl, hg, hm, hd, hn⟩ := blt_of O h.1
  refine PE.imp (pe_callB hc hg hm hv (pa_cons ha pa_nil (star1 h.2 _ _)) hn hd (star1 h.2 _ _) rfl) fun σ H Q q => ?_
  exact (le_op1 q).mono fun v H1 r => ⟨v, rfl, r⟩
/-- f(a), f a builtin type -/
theorem call1T (O : XO n sc0 sc X) {o : O1} {f a : Expr} {x : Str} {id : String} {c : CE} {pos : Pos} (hc : CallR X (.type id) (One X.K CT o)) (hv : bootBuiltins x = some (.type id)) (h : (bltB n sc f x && nst a) = true)
    (ha : PE X a (LE G X.K CT W c)) : PE X (.Call f [a] [] pos) (LE G X.K CT W (.op1 o c)) := by
  rw [Bool.and_eq_true] at h
  obtain ⟨p, rfl, hg, hm, hd, hn⟩ := blt_of O h.1
  refine PE.imp (pe_callTy hc hg hm hv (pa_cons ha pa_nil (star1 h.2 _ _)) hn hd (star1 h.2 _ _) rfl) fun σ H Q q => ?_
  exact (le_op1 q).mono fun v H1 r => ⟨v, rfl, r⟩
/-- f(a, b) -/
theorem call2 (O : XO n sc0 sc X) {o : O2} {f a b : Expr} {x : Str} {id : String} {c d : CE} {pos : Pos} (hc : CallR X (.builtin id) (fun vs H Q => ∃ v u, vs = [v, u] ∧ R2D X.K CT o v u H Q)) (hv : bootBuiltins x = some (.builtin id)) (h : (bltB n sc f x && nst a && nst b) = true)
    (ha : PE X a (LE G X.K CT W c)) (hb : PE X b (LE G X.K CT W d)) : PE X (.Call f [a, b] [] pos) (LE G X.K CT W (.op2 o c d)) := by
  rw [Bool.and_eq_true, Bool.and_eq_true] at h
  obtain ⟨p, rfl, hg, hm, hd, hn⟩ := blt_of O h.1.1
  refine PE.imp (pe_callB hc hg hm hv (pa_cons ha (pa_cons hb pa_nil (star1 h.2 _ _)) (star1 h.1.2 _ _)) hn hd (star1 h.1.2 _ _) (star_any (by simp [h.2]))) fun σ H Q q => ?_
  exact LE.mono (le_op2 q) fun v H1 r => LE.mono r fun u H2 r => ⟨v, u, rfl, r⟩
theorem nomark' (b : Expr) {op : CmpOp} (h : op ≠ .In) (h2 : op ≠ .NotIn) : behindInMarks op b = false := nomark b h h2
/-- a one-place operation -/
theorem snd1 (O : XO n sc0 sc X) (o : O1) {e a : Expr} {c : CE} (h : sh1 n sc o e = some a) (ha : PE X a (LE G X.K CT W c)) : PE X e (LE G X.K CT W (.op1 o c)) := by
  unfold sh1 at h
  have hu := O.hu
  split at h
  · cases h
    exact PE.imp (pe_un neg_D ha) fun σ H Q q => le_op1 q
  · split at h <;> cases h
    rename_i k
    exact call1 O len_D PySem.boot_len k ha
  · split at h <;> cases h
    rename_i k
    exact call1 O abs_D (by decide +kernel) k ha
  · split at h <;> cases h
    rename_i k
    exact call1T O int_D (by decide +kernel) k ha
  · split at h <;> cases h
    rename_i k
    exact call1T O tuple_D (by decide +kernel) k ha
  · split at h <;> cases h
    rename_i k
    exact call1T O list_D (by decide +kernel) k ha
  · split at h <;> cases h
    rename_i k
    exact call1 O (all_D O.calm) (by decide +kernel) k ha
  · split at h <;> cases h
    rename_i k
    exact call1 O (any_D O.calm) (by decide +kernel) k ha
  · split at h <;> cases h
    rename_i k
    exact call1 O (sum_D O.calm) (by decide +kernel) k ha
  · split at h <;> cases h
    rename_i k
    exact call1 O (repr_D O.hg (by omega)) (by decide +kernel) k ha
  · split at h <;> cases h
    rename_i k
    exact call1 O sorted_D (by decide +kernel) k ha
  · cases h
    refine PE.imp (pe_cmpR (isN_D (CT := CT)) ha pe_non (nomark _)) fun σ H Q q => ?_
    exact (le_op1 q).mono fun v H1 r => ⟨rfl, r⟩
  · cases h
    refine PE.imp (pe_cmpR (notN_D (CT := CT)) ha pe_non (nomark _)) fun σ H Q q => ?_
    exact (le_op1 q).mono fun v H1 r => ⟨rfl, r⟩
  · cases h
    refine PE.imp (pe_cmpR (isB_D (CT := CT) false) ha pe_bl (nomark _)) fun σ H Q q => ?_
    exact (le_op1 q).mono fun v H1 r => ⟨rfl, r⟩
  · cases h
    refine PE.imp (pe_cmpR (isB_D (CT := CT) true) ha pe_bl (nomark _)) fun σ H Q q => ?_
    exact (le_op1 q).mono fun v H1 r => ⟨rfl, r⟩
  · split at h <;> cases h
    rename_i k
    simp only [Bool.and_eq_true, decide_eq_true_eq] at k
    obtain ⟨⟨rfl, k2⟩, k3⟩ := k
    refine PE.imp (pe_bm0 PySem.F.plainAttrs_list PySem.F.slot_list_pop PySem.F.type_list_pop (pop_D (CT := CT)) ha (base_of k2) k3) fun σ H Q q => ?_
    refine (le_op1 q).mono fun v H1 r => ⟨?_, rfl, r⟩
    obtain ⟨be, mu, x, Qd, S, dx, r, kq⟩ := r
    cases x <;> simp only [w1] at r
    case ref m =>
      obtain ⟨a, vs, xs, rfl, _, _, h1, _⟩ := lst_of S dx r
      exact .inl ⟨rfl, vs, SqL.of h1⟩
  · cases h
/-- a two-place operation -/
theorem snd2 (O : XO n sc0 sc X) (o : O2) {e a b : Expr} {c d : CE} (h : sh2 n sc o e = some (a, b)) (ha : PE X a (LE G X.K CT W c)) (hb : PE X b (LE G X.K CT W d)) : PE X e (LE G X.K CT W (.op2 o c d)) := by
  unfold sh2 at h
  have hu := O.hu
  have ls : ∀ {a : Expr} {m : Str} {id : String} {o : O2} {b : Expr} {p q : Pos} (slot : Slot "list" m id) (hty : typeOf (.builtin id) = pure (.type "method_descriptor")) (hm : MtR X id (fun v us H Q => ∃ u, us = [u] ∧ R2D X.K CT o v u H Q))
      (hp : ∀ v H, Pre2 X.K CT o v H → tyV X.K "list" v H) (ha : PE X a (LE G X.K CT W c)) (hb : PE X b (LE G X.K CT W d)), (plainB a && sameLine p q && nst b) = true → PE X (.Call (.Attribute a m p) [b] [] q) (LE G X.K CT W (.op2 o c d)) :=
    fun {a m id o b p q} slot hty hm hp ha hb k => by
      simp only [Bool.and_eq_true] at k
      obtain ⟨⟨k1, k2⟩, k3⟩ := k
      refine PE.imp (pe_bm PySem.F.plainAttrs_list slot hty hm ha (pa_cons hb pa_nil (star1 k3 _ _)) (base_of k1) (by rw [star1 k3]; rfl) k2 (star1 k3 _ _) rfl) fun σ H Q r => ?_
      exact (le_meth2 r).mono fun v H1 r => ⟨hp v H1 r.1, LE.mono r.2 fun u H2 r => ⟨u, rfl, r⟩⟩
  have isl : ∀ (v : V) (H : Hp) (o : O2), (∀ x mu, pre2 o x mu → ∃ m, x = .ref m ∧ lstAt mu m fun _ => True) → Pre2 X.K CT o v H → tyV X.K "list" v H := fun v H o k ⟨be, mu, x, S, dx, r⟩ => by
    obtain ⟨m, rfl, r1⟩ := k x mu r
    obtain ⟨a, vs, xs, rfl, _, _, h1, _⟩ := lst_of S dx r1
    exact .inl ⟨rfl, vs, SqL.of h1⟩
  have hl : ∀ (x : D) (mu : Store), (match x with | .ref n => lstAt mu n fun _ => True | _ => False) → ∃ m, x = .ref m ∧ lstAt mu m fun _ => True := fun x mu r => by
    cases x <;> simp only at r
    case ref m => exact ⟨m, rfl, r⟩
  split at h
  · cases h; exact PE.imp (pe_op add_D ha hb) fun σ H Q q => le_op2 q
  · cases h; exact PE.imp (pe_op sub_D ha hb) fun σ H Q q => le_op2 q
  · cases h; exact PE.imp (pe_op mul_D ha hb) fun σ H Q q => le_op2 q
  · cases h; exact PE.imp (pe_op fdiv_D ha hb) fun σ H Q q => le_op2 q
  · cases h; exact PE.imp (pe_op mod_D ha hb) fun σ H Q q => le_op2 q
  · cases h; exact PE.imp (pe_op pow_D ha hb) fun σ H Q q => le_op2 q
  · cases h; exact PE.imp (pe_cmpR (eq_D (by omega)) ha hb (nomark _)) fun σ H Q q => le_op2 q
  · cases h; exact PE.imp (pe_cmpR (ne_D (by omega)) ha hb (nomark _)) fun σ H Q q => le_op2 q
  · cases h; exact PE.imp (pe_cmpR lt_D ha hb (nomark _)) fun σ H Q q => le_op2 q
  · cases h; exact PE.imp (pe_cmpR le_D ha hb (nomark _)) fun σ H Q q => le_op2 q
  · cases h; exact PE.imp (pe_cmpR gt_D ha hb (nomark _)) fun σ H Q q => le_op2 q
  · cases h; exact PE.imp (pe_cmpR ge_D ha hb (nomark _)) fun σ H Q q => le_op2 q
  · split at h <;> cases h
    rename_i k
    exact call2 O (max_D O.calm) (by decide +kernel) k ha hb
  · split at h <;> cases h
    rename_i k
    exact call2 O (min_D O.calm) (by decide +kernel) k ha hb
  · split at h <;> cases h
    rename_i k
    exact PE.imp (pe_ix ix_D ha hb (ix_of k)) fun σ H Q q => le_op2 q
  · split at h <;> cases h
    rename_i k
    simp only [Bool.and_eq_true, decide_eq_true_eq] at k
    obtain ⟨⟨⟨rfl, k1⟩, k2⟩, k3⟩ := k
    exact ls PySem.F.slot_list_append PySem.F.type_list_append append_D (fun v H q => isl v H .append (fun x mu r => hl x mu r) q) ha hb (by simp [k1, k2, k3])
  · split at h <;> cases h
    rename_i k
    simp only [Bool.and_eq_true, decide_eq_true_eq] at k
    obtain ⟨⟨⟨rfl, k1⟩, k2⟩, k3⟩ := k
    exact ls PySem.F.slot_list_extend PySem.F.type_list_extend extend_D (fun v H q => isl v H .extend (fun x mu r => hl x mu r) q) ha hb (by simp [k1, k2, k3])
  · cases h
theorem chain_op (O : XO n sc0 sc X) {o : O2} {op : CmpOp} (h : shC o = some op) : OpR X (compareOp op) (R2D X.K CT o) ∧ op ≠ .In ∧ op ≠ .NotIn := by
  have hu := O.hu
  unfold shC at h
  split at h <;> cases h
  · exact ⟨lt_D, by decide, by decide⟩
  · exact ⟨le_D, by decide, by decide⟩
  · exact ⟨gt_D, by decide, by decide⟩
  · exact ⟨ge_D, by decide, by decide⟩
  · exact ⟨eq_D (by omega), by decide, by decide⟩
  · exact ⟨ne_D (by omega), by decide, by decide⟩
end
end MP

/-! MP: targets, what is walked, comprehensions -/
namespace MP
open PySem PySem.Spec PyProof.Rows L2

/-! ### targets -/
mutual
/-- the slots that a target binds -/
def CP.slots : CP → List Nat
  | .name i => [i]
  | .tup ps => CP.slotss ps
def CP.slotss : List CP → List Nat
  | [] => []
  | p :: ps => p.slots ++ CP.slotss ps
end
mutual
def mP (n : Nm) (sc0 : Scope) : CP → Expr → Bool
  | .name i, .Name x _ => decide (n.N[i]? = some x) && locB sc0 x
  | .tup ps, .Tuple es _ _ => mPs n sc0 ps es
  | _, _ => false
def mPs (n : Nm) (sc0 : Scope) : List CP → List Expr → Bool
  | [], [] => true
  | p :: ps, e :: es => mP n sc0 p e && mPs n sc0 ps es
  | _, _ => false
end
theorem wipe_get (vs : List Nat) (sg : L2.St) (j : Nat) : (wipe sg vs)[j]? = if j ∈ vs then sg[j]?.map fun _ => none else sg[j]? := by
  induction vs with
  | nil => simp [wipe]
  | cons v r ih =>
    unfold wipe
    by_cases hv : v = j
    · subst hv
      rw [List.getElem?_set]
      simp only [if_pos rfl, List.mem_cons, true_or, if_true, wipe_length]
      by_cases hl : v < sg.length
      · rw [if_pos hl, List.getElem?_eq_getElem hl]; rfl
      · rw [if_neg hl, List.getElem?_eq_none (by omega)]; rfl
    · rw [List.getElem?_set_ne hv, ih]
      have : (j ∈ v :: r) ↔ j ∈ r := by simp [Ne.symm hv]
      by_cases hj : j ∈ r
      · rw [if_pos hj, if_pos (this.mpr hj)]
      · rw [if_neg hj, if_neg (fun z => hj (this.mp z))]
theorem wipe_set {vs : List Nat} {sg : L2.St} {i : Nat} {x : Option V} (h : i ∈ vs) : wipe (sg.set i x) vs = wipe sg vs := by
  apply List.ext_getElem?
  intro j
  rw [wipe_get, wipe_get]
  by_cases hj : j ∈ vs
  · rw [if_pos hj, if_pos hj, List.getElem?_set]
    by_cases hij : i = j
    · subst hij
      rw [if_pos rfl]
      by_cases hl : i < sg.length
      · rw [if_pos hl, List.getElem?_eq_getElem hl]; rfl
      · rw [if_neg hl, List.getElem?_eq_none (by omega)]
    · rw [if_neg hij]
  · rw [if_neg hj, if_neg hj, List.getElem?_set_ne (fun z => hj (by rw [← z]; exact h))]
theorem wipe_wipe (vs : List Nat) (sg : L2.St) : wipe (wipe sg vs) vs = wipe sg vs := by
  apply List.ext_getElem?
  intro j
  rw [wipe_get, wipe_get]
  by_cases hj : j ∈ vs
  · simp [hj, Option.map_map, Function.comp_def]
  · simp [hj]
theorem RepL.wiped {K : PySem.W.Frag} {H : Hp} {be : List Addr} {rh : Sl} {sg : L2.St} (h : RepL K H be rh sg) : ∀ vs : List Nat, RepL K H be (wipeD rh vs) (wipe sg vs)
  | [] => h
  | v :: r => (RepL.wiped h r).setNone

def LP (K : PySem.W.Frag) (p : CP) : TG := fun v sg H Q => ∃ be d rh rh', IsD K H be d v ∧ RepL K H be rh sg ∧ p.bind d rh = some rh' ∧
  ∀ sg', RepL K H be rh' sg' → (∀ vs, (∀ i ∈ p.slots, i ∈ vs) → wipe sg' vs = wipe sg vs) → Q sg' H
def LPs (K : PySem.W.Frag) (ps : List CP) : TGs := fun us sg H Q => ∃ be ds rh rh', IsDs K H be ds us ∧ RepL K H be rh sg ∧ CP.binds ps ds rh = some rh' ∧
  ∀ sg', RepL K H be rh' sg' → (∀ vs, (∀ i ∈ CP.slotss ps, i ∈ vs) → wipe sg' vs = wipe sg vs) → Q sg' H
section
variable {n : Nm} {sc0 sc : Scope} {X : Cx} {CT : Nat → Addr} {G : Ctx} {W : WX}
theorem PG.imp {e : Expr} {t u : TG} (h : PG X e t) (k : ∀ v σ H Q, u v σ H Q → t v σ H Q) : PG X e u := ⟨fun pins s σ H v w Q I r q => h.run pins s σ H v w Q I r (k _ _ _ _ q)⟩
theorem PGs.imp {e : List Expr} {t u : TGs} (h : PGs X e t) (k : ∀ v σ H Q, u v σ H Q → t v σ H Q) : PGs X e u := ⟨fun pins s σ H v w Q I r q => h.run pins s σ H v w Q I r (k _ _ _ _ q)⟩
theorem mP_nst {p : CP} {e : Expr} (h : mP n sc0 p e = true) : nst e = true := by
  cases p <;> cases e <;> first | rfl | simp [mP] at h
theorem mPs_all : ∀ {ps : List CP} {es : List Expr}, mPs n sc0 ps es = true → es.all nst = true ∧ es.length = ps.length
  | [], [], _ => ⟨rfl, rfl⟩
  | [], _ :: _, h => by simp [mPs] at h
  | _ :: _, [], h => by simp [mPs] at h
  | p :: ps, e :: es, h => by
    simp only [mPs, Bool.and_eq_true] at h
    obtain ⟨a, b⟩ := mPs_all h.2
    exact ⟨by rw [List.all_cons, mP_nst h.1, a]; rfl, by simp [b]⟩
theorem asg_cons {e : Expr} (h : nst e = true) (es : List Expr) (env : Env) : assignEach (e :: es) env = (false, assign e env) :: assignEach es env := by
  cases e <;> first | rfl | cases h
theorem asg_len : ∀ {es : List Expr} {env : Env}, es.all nst = true → (assignEach es env).length = es.length ∧ (assignEach es env).findIdx? (·.1) = none
  | [], _, _ => ⟨rfl, rfl⟩
  | e :: es, env, h => by
    rw [List.all_cons, Bool.and_eq_true] at h
    obtain ⟨a, b⟩ := asg_len (env := env) h.2
    rw [asg_cons h.1]
    refine ⟨by simp [a], ?_⟩
    rw [List.findIdx?_cons]
    simp [b]
mutual
theorem sndP (O : XO n sc0 sc X) : ∀ (p : CP) (e : Expr), mP n sc0 p e = true → PG X e (LP X.K p)
  | .name i, e, h => by
    cases e <;> simp only [mP] at h <;> try (cases h)
    rename_i x pos
    rw [Bool.and_eq_true, decide_eq_true_eq] at h
    obtain ⟨h1, h2⟩ := h
    obtain ⟨l1, l2⟩ := O.loc x h2
    refine PG.imp (pg_name (by rw [O.N]; exact O.nd) (by rw [O.N]; exact h1) (by rw [O.scp]; exact l1) (by rw [O.scp]; exact l2)) fun v σ H Q q => ?_
    obtain ⟨be, d, rh, rh', id, L, e, k⟩ := q
    simp only [CP.bind, Option.some.injEq] at e
    subst e
    exact k _ (L.set id) fun vs hv => wipe_set (hv i (by simp [CP.slots]))
  | .tup ps, e, h => by
    cases e <;> simp only [mP] at h <;> try (cases h)
    rename_i es kk pos
    obtain ⟨a, b⟩ := mPs_all h
    obtain ⟨c1, c2⟩ := asg_len (env := X.env) a
    refine PG.imp (pg_tup O.calm (sndPs O ps es h) (by rw [c1, b]) c2) fun v σ H Q q => ?_
    obtain ⟨be, d, rh, rh', id, L, e, k⟩ := q
    cases d <;> simp only [CP.bind] at e <;> try (cases e)
    rename_i xs
    simp only [IsD] at id
    obtain ⟨u, us, rfl, q, r⟩ := id
    have hl : us.length = ps.length := by
      rw [← r.len]
      have : ∀ (ps : List CP) (xs : List D) (rh rh' : Sl), CP.binds ps xs rh = some rh' → xs.length = ps.length := by
        intro ps
        induction ps with
        | nil => intro xs rh rh' e; cases xs <;> simp [CP.binds] at e ⊢
        | cons p ps ih =>
          intro xs rh rh' e
          cases xs with
          | nil => simp [CP.binds] at e
          | cons x xs =>
            simp only [CP.binds] at e
            split at e
            · simp [ih xs _ _ e]
            · cases e
      exact this ps xs _ _ e
    exact ⟨u, us, rfl, q, hl, be, xs, rh, rh', r, L, e, fun sg' L' w => k sg' L' fun vs hv => w vs (by simpa [CP.slots] using hv)⟩
theorem sndPs (O : XO n sc0 sc X) : ∀ (ps : List CP) (es : List Expr), mPs n sc0 ps es = true → PGs X es (LPs X.K ps)
  | [], es, h => by
    cases es <;> simp only [mPs] at h <;> try (cases h)
    refine PGs.imp pgs_nil fun v σ H Q q => ?_
    obtain ⟨be, ds, rh, rh', id, L, e, k⟩ := q
    cases ds <;> simp only [CP.binds] at e <;> try (cases e)
    simp only [IsDs] at id
    exact ⟨id, k _ L fun _ _ => rfl⟩
  | p :: ps, es, h => by
    cases es <;> simp only [mPs] at h <;> try (cases h)
    rename_i e es
    rw [Bool.and_eq_true] at h
    refine PGs.imp (pgs_cons (sndP O p e h.1) (sndPs O ps es h.2) (by rw [asg_cons (mP_nst h.1)]; rfl)) fun v σ H Q q => ?_
    obtain ⟨be, ds, rh, rh', id, L, e, k⟩ := q
    cases ds <;> simp only [CP.binds] at e <;> try (cases e)
    rename_i x xs
    split at e
    · rename_i r0 e0
      simp only [IsDs] at id
      obtain ⟨u, w, rfl, i1, i2⟩ := id
      refine ⟨u, w, rfl, be, x, rh, r0, i1, L, e0, fun sg1 L1 w1 => ⟨be, xs, r0, rh', i2, L1, e, fun sg2 L2 w2 => k sg2 L2 fun vs hv => ?_⟩⟩
      rw [w2 vs fun i hi => hv i (by simp [CP.slotss, hi]), w1 vs fun i hi => hv i (by simp [CP.slotss, hi])]
    · cases e
end
end

/-! ### what is walked -/
structure IsIt (K : PySem.W.Frag) (CT : Nat → Addr) (H0 : Hp) (be0 : List Addr) (J : It) (xs : List D) (still : Store → Prop) : Prop where
  go : ∀ i H be mu, Ext H0 H be0 be → RepS K CT H be mu → still mu → i < xs.length → J.go i H
  stop : ∀ H be mu, Ext H0 H be0 be → RepS K CT H be mu → still mu → J.stop xs.length H
  yld : ∀ i H be mu v H', Ext H0 H be0 be → RepS K CT H be mu → still mu → i < xs.length → J.yld i H v H' → ∃ x, xs[i]? = some x ∧ IsD K H' be x v ∧ Ext H H' be be ∧ RepS K CT H' be mu
  len : xs.length ≤ sizeLine
def LI (G : Ctx) (K : PySem.W.Frag) (CT : Nat → Addr) (W : WX) (c : CI) : TI := fun sg H R => ∃ be mu rh Rd Ed, RepS K CT H be mu ∧ RepL K H be rh sg ∧ wpI G c Ed rh mu Rd ∧
  (∀ xs still nu be' H' J, Ext H H' be be' → RepS K CT H' be' nu → IsIt K CT H' be' J xs still → Rd xs still nu → R J H') ∧ KX K CT H be Ed (fun c d => W c d sg)

section
variable {K : PySem.W.Frag} {CT : Nat → Addr} {H : Hp} {be : List Addr} {mu : Store}
/-- what stays of a list while its cell stays -/
theorem stay_sq {d : D} {xs : List D} {v : V} (S : RepS K CT H be mu) (i : IsD K H be d v) (h : seqAt d mu fun ys => ys = xs) :
    ∃ a vs, v = .ref a ∧ IsDs K H be xs vs ∧ ((SqL K H a vs ∧ ∀ H' be' nu, Ext H H' be be' → RepS K CT H' be' nu → stay d xs nu → ∃ ws, SqL K H' a ws ∧ IsDs K H' be' xs ws) ∨
      (SqT K H a vs ∧ ∀ H' be' nu, Ext H H' be be' → RepS K CT H' be' nu → stay d xs nu → ∃ ws, SqT K H' a ws ∧ IsDs K H' be' xs ws)) := by
  cases d <;> simp only [seqAt] at h
  case tup ys =>
    subst h
    simp only [IsD] at i
    obtain ⟨a, vs, rfl, q, r⟩ := i
    exact ⟨a, vs, rfl, r, .inr ⟨q, fun H' be' nu x S' _ => ⟨vs, x.tup _ _ q, r.mono x⟩⟩⟩
  case ref n =>
    have i0 := i
    obtain ⟨a, vs, ys, rfl, e, hm, h1, i1, rfl⟩ := lst_of S i h
    refine ⟨a, vs, rfl, i1, .inl ⟨SqL.of h1, fun H' be' nu x S' st => ?_⟩⟩
    have st : lstAt nu n fun zs => zs = ys := st
    obtain ⟨b, ws, zs, e1, e2, _, h2, i2, rfl⟩ := lst_of S' (i0.mono x) st
    cases e1
    exact ⟨ws, SqL.of h2, i2⟩
  case ro ys =>
    subst h
    simp only [IsD] at i
    obtain ⟨a, vs, rfl, q, r⟩ := i
    exact ⟨a, vs, rfl, r, .inl ⟨q.sq, fun H' be' nu x S' _ => ⟨vs, (x.rol _ _ q).sq, r.mono x⟩⟩⟩
theorem it_list {H0 : Hp} {be0 : List Addr} {a : Addr} {xs : List D} {still : Store → Prop} (hl : xs.length ≤ sizeLine) (h : ∀ H' be' nu, Ext H0 H' be0 be' → RepS K CT H' be' nu → still nu → ∃ ws, SqL K H' a ws ∧ IsDs K H' be' xs ws) : IsIt K CT H0 be0 (Itl K a) xs still where
  go := fun i H be mu x S st hi => by
    obtain ⟨ws, q, r⟩ := h H be mu x S st
    exact ⟨ws, _, q, List.getElem?_eq_getElem (by rw [← r.len]; exact hi)⟩
  stop := fun H be mu x S st => by
    obtain ⟨ws, q, r⟩ := h H be mu x S st
    exact ⟨ws, q, by rw [r.len]; exact Nat.le_refl _⟩
  yld := fun i H be mu v H' x S st hi y => by
    obtain ⟨ws, q, r⟩ := h H be mu x S st
    obtain ⟨rfl, y⟩ := y
    obtain ⟨d, e, id⟩ := r.get' (y ws q)
    exact ⟨d, e, id, .refl, S⟩
  len := hl
theorem it_tup {H0 : Hp} {be0 : List Addr} {a : Addr} {xs : List D} {still : Store → Prop} (hl : xs.length ≤ sizeLine) (h : ∀ H' be' nu, Ext H0 H' be0 be' → RepS K CT H' be' nu → still nu → ∃ ws, SqT K H' a ws ∧ IsDs K H' be' xs ws) : IsIt K CT H0 be0 (Itt K a) xs still where
  go := fun i H be mu x S st hi => by
    obtain ⟨ws, q, r⟩ := h H be mu x S st
    exact ⟨ws, _, q, List.getElem?_eq_getElem (by rw [← r.len]; exact hi)⟩
  stop := fun H be mu x S st => by
    obtain ⟨ws, q, r⟩ := h H be mu x S st
    exact ⟨ws, q, by rw [r.len]; exact Nat.le_refl _⟩
  yld := fun i H be mu v H' x S st hi y => by
    obtain ⟨ws, q, r⟩ := h H be mu x S st
    obtain ⟨rfl, y⟩ := y
    obtain ⟨d, e, id⟩ := r.get' (y ws q)
    exact ⟨d, e, id, .refl, S⟩
  len := hl
theorem it_range {H0 : Hp} {be0 : List Addr} {lo : Int} {n : Nat} (hn : n ≤ sizeLine) : IsIt K CT H0 be0 (Itr lo n) (intsD lo n) (fun _ => True) where
  go := fun i H be mu x S st hi => by simpa [intsD, Itr] using hi
  stop := fun H be mu x S st => by simp [intsD, Itr]
  yld := fun i H be mu v H' x S st hi y => by
    obtain ⟨rfl, rfl⟩ := y
    have hi : i < n := by simpa [intsD] using hi
    exact ⟨.int (lo + i), by simp [intsD, hi], by simp only [IsD], .refl, S⟩
  len := by simpa [intsD] using hn
theorem it_str {H0 : Hp} {be0 : List Addr} {z : Str} (hn : z.length ≤ sizeLine) : IsIt K CT H0 be0 (Its z) (chars z) (fun _ => True) where
  go := fun i H be mu x S st hi => by simpa [chars, Its] using hi
  stop := fun H be mu x S st => by simp [chars, Its]
  yld := fun i H be mu v H' x S st hi y => by
    obtain ⟨rfl, c, e, rfl⟩ := y
    refine ⟨.str ⟨#[c]⟩, ?_, by simp only [IsD], .refl, S⟩
    unfold chars
    rw [List.getElem?_map, Array.getElem?_toList, e]
    rfl
  len := by simpa [chars, Str.length] using hn
end

/-- an iterable by its value: a list, a tuple, a text -/
def iSeq (K : PySem.W.Frag) (tl : TE) : TI := fun σ H R => tl σ H fun x H1 =>
  (∃ a xs, x = .ref a ∧ SqL K H1 a xs ∧ (xs.length ≤ sizeLine → R (Itl K a) H1)) ∨ (∃ a xs, x = .ref a ∧ SqT K H1 a xs ∧ (xs.length ≤ sizeLine → R (Itt K a) H1)) ∨ ∃ z, x = .str z ∧ R (Its z) H1
theorem pi_seq {X : Cx} {tg l : Expr} {tl : TE} (hl : PE X l tl) : PI X tg l (iSeq X.K tl) := by
  refine ⟨fun pins s σ H R I h => thn (hl.run pins s σ H _ I h) fun v s1 ⟨x, H1, I1, r1, q1⟩ => ?_⟩
  have nh := I1.hok.fresh (Nat.le_refl _)
  have kp : ∀ o : Obj, Inv X pins σ H1 { s1 with heap := s1.heap.push o } := fun o => I1.kept (t' := s1.toks) fun b ob e => Heap.get?_push_of_some _ e
  have fp : ∀ b ∈ [s1.heap.objs.size], FpOk X pins H1 b := fun b hb => by
    obtain rfl : b = s1.heap.objs.size := by simpa using hb
    exact I1.fpOk (Nat.le_refl _) nh
  rcases q1 with ⟨a, xs, rfl, hq, q⟩ | ⟨a, xs, rfl, hq, q⟩ | ⟨z, rfl, q⟩
  · cases r1
    obtain ⟨its, rv, p, hz⟩ := I1.list hq
    exact wpAny_pyIter_list p.isList ⟨_, _, _, _, H1, rfl, kp _, turn_list a _, ⟨_, Heap.get?_push_size _ rfl, rfl, rfl⟩, fp, q hz⟩
  · cases r1
    obtain ⟨its, rv, p, hz⟩ := I1.tuple hq
    exact wpAny_pyIter_tuple (show s1.heap.IsTuple a its.toArray from p) ⟨_, _, _, _, H1, rfl, kp _, turn_tuple a _, ⟨_, Heap.get?_push_size _ rfl, rfl, rfl⟩, fp, q hz⟩
  · obtain ⟨t, rfl⟩ := r1
    cases ha : z.cps.all (· < 128)
    · exact wpAny_pyIter_wide ha (pi_one (tk := s1.toks) I1 _ (turn_str _ z t _ (.inr rfl)) ⟨_, Heap.get?_push_size _ rfl, rfl, rfl⟩ q)
    · exact wpAny_pyIter_ascii ha (pi_one (tk := s1.toks) I1 _ (turn_str _ z t _ (.inl rfl)) ⟨_, Heap.get?_push_size _ rfl, rfl, rfl⟩ q)

section
variable {G : Ctx} {K : PySem.W.Frag} {CT : Nat → Addr} {W : WX} {sg : L2.St} {H : Hp} {R : It → Hp → Prop}
theorem seqAt_eq {d : D} {mu : Store} {Q : List D → Prop} (h : seqAt d mu Q) : ∃ xs, Q xs ∧ seqAt d mu fun ys => ys = xs := by
  cases d <;> simp only [seqAt] at h ⊢
  case tup xs => exact ⟨xs, h, rfl⟩
  case ro xs => exact ⟨xs, h, rfl⟩
  case ref n =>
    unfold lstAt at h ⊢
    split at h
    · rename_i xs e
      exact ⟨xs, h, rfl⟩
    · exact h.elim
theorem li_seq {e : CE} (h : LI G K CT W (.seq e) sg H R) : iSeq K (LE G K CT W e) sg H R := by
  obtain ⟨be, mu, rh, Rd, Ed, S, L, h, kr, kx⟩ := h
  refine ⟨be, mu, rh, _, Ed, S, L, by simpa only [wpI] using h, fun x mu1 be1 H1 v x1 S1 d1 h1 => ?_, kx⟩
  have seqs : seqAt x mu1 (fun xs => Rd xs (stay x xs) mu1) → (∃ a xs, v = .ref a ∧ SqL K H1 a xs ∧ (xs.length ≤ sizeLine → R (Itl K a) H1)) ∨ (∃ a xs, v = .ref a ∧ SqT K H1 a xs ∧ (xs.length ≤ sizeLine → R (Itt K a) H1)) ∨ ∃ z, v = .str z ∧ R (Its z) H1 := fun h => by
    obtain ⟨xs, h, hs⟩ := seqAt_eq h
    obtain ⟨a, vs, rfl, i, q⟩ := stay_sq S1 d1 hs
    rcases q with ⟨q, st⟩ | ⟨q, st⟩
    · exact .inl ⟨a, vs, rfl, q, fun hz => kr xs _ mu1 be1 H1 _ x1 S1 (it_list (by rw [i.len]; exact hz) st) h⟩
    · exact .inr (.inl ⟨a, vs, rfl, q, fun hz => kr xs _ mu1 be1 H1 _ x1 S1 (it_tup (by rw [i.len]; exact hz) st) h⟩)
  cases x <;> simp only [wSeq] at h1
  case str z =>
    simp only [IsD] at d1
    exact .inr (.inr ⟨z, d1, kr _ _ mu1 be1 H1 _ x1 S1 (it_str h1.1) h1.2⟩)
  all_goals exact seqs h1
theorem li_rng1 {e : CE} (h : LI G K CT W (.rng1 e) sg H R) : LE G K CT W e sg H fun v H1 => ∃ j : Int, v = .int j ∧ -(2 ^ 62) ≤ j ∧ j < 2 ^ 62 ∧ R (Itr 0 j.toNat) H1 := by
  obtain ⟨be, mu, rh, Rd, Ed, S, L, h, kr, kx⟩ := h
  refine ⟨be, mu, rh, _, Ed, S, L, by simpa only [wpI] using h, fun x mu1 be1 H1 v x1 S1 d1 h1 => ?_, kx⟩
  cases x <;> simp only [onI] at h1
  case int j =>
    simp only [IsD] at d1
    have hs := sizeLine_eq
    exact ⟨j, d1, by omega, by omega, kr _ _ mu1 be1 H1 _ x1 S1 (it_range (by omega)) h1.2⟩
theorem li_rng2 {a b : CE} (h : LI G K CT W (.rng2 a b) sg H R) : LE G K CT W a sg H fun v H1 => LE G K CT W b sg H1 fun u H2 => ∃ i j : Int, v = .int i ∧ u = .int j ∧ (-(2 ^ 62) ≤ i ∧ i < 2 ^ 62 ∧ -(2 ^ 62) ≤ j ∧ j < 2 ^ 62) ∧ R (Itr i (j - i).toNat) H2 := by
  obtain ⟨be, mu, rh, Rd, Ed, S, L, h, kr, kx⟩ := h
  refine ⟨be, mu, rh, _, Ed, S, L, by simpa only [wpI] using h, fun x mu1 be1 H1 v x1 S1 d1 h1 => ⟨be1, mu1, rh, _, Ed, S1, L.mono x1, h1, fun y mu2 be2 H2 u x2 S2 d2 h2 => ?_, kx.mono x1⟩, kx⟩
  cases x <;> cases y <;> simp only [onI] at h2
  case int.int i j =>
    simp only [IsD] at d1 d2
    have hs := sizeLine_eq
    exact ⟨i, j, d1, d2, by omega, kr _ _ mu2 be2 H2 _ (x1.trans x2) S2 (it_range (by omega)) h2.2⟩
/-- a comprehension -/
theorem le_lc {vs : List Nat} {p : CP} {it : CI} {c e : CE} {Q : VK} (hv : ∀ i ∈ p.slots, i ∈ vs) (h : LE G K CT W (.lc vs p it c e) sg H Q) :
    tLc (LI G K CT W it) (LP K p) (LT G K CT (fun _ _ _ _ => False) c) (LE G K CT (fun _ _ _ _ => False) e) vs sg H Q := by
  obtain ⟨be, mu, rh, Qd, Ed, S, L, h, kq, kx⟩ := h
  simp only [wpE] at h
  refine ⟨be, mu, rh, _, Ed, S, L, h, fun xs still mu1 be1 H1 J x1 S1 ij h1 => ?_, kx⟩
  intro D hD
  have hL := ij.len
  refine ⟨fun i m H2 => m = xs.length - i ∧ i ≤ xs.length ∧ ∃ be2 mu2 acc vacc, Ext H1 H2 be1 be2 ∧ D ∉ be2 ∧ RepS K CT H2 be2 mu2 ∧ H2 D = some (.lst vacc) ∧ IsDs K H2 be2 acc vacc ∧ acc.length ≤ i ∧
    lcGo (fun x mu2 k => onP p x (wipeD rh vs) fun rh1 => wpE G c (fun _ _ => False) rh1 mu2 fun y mu3 => onB y fun b => if b = true then wpE G e (fun _ _ => False) rh1 mu3 fun d mu4 => k (some d) mu4 else k none mu3) still (fun acc mu2 => newLst acc mu2 Qd) (xs.drop i) acc mu2, ⟨xs.length, rfl, Nat.zero_le _, be1, mu1, [], [], .fresh hD, S1.out hD, S1.fresh hD, upd_same, .nil, Nat.zero_le _, by simpa using h1⟩, ?_⟩
  rintro i m H2 ⟨rfl, hi, be2, mu2, acc, vacc, x2, nD, S2, eD, iacc, hacc, go⟩
  by_cases hlt : i < xs.length
  · right
    rw [List.drop_eq_getElem_cons hlt] at go
    simp only [lcGo] at go
    obtain ⟨st, go⟩ := go
    refine ⟨ij.go i H2 be2 mu2 x2 S2 st hlt, fun H' => (fun i m H2 => m = xs.length - i ∧ i ≤ xs.length ∧ ∃ be2 mu2 acc vacc, Ext H1 H2 be1 be2 ∧ D ∉ be2 ∧ RepS K CT H2 be2 mu2 ∧ H2 D = some (.lst vacc) ∧ IsDs K H2 be2 acc vacc ∧ acc.length ≤ i ∧
      lcGo (fun x mu2 k => onP p x (wipeD rh vs) fun rh1 => wpE G c (fun _ _ => False) rh1 mu2 fun y mu3 => onB y fun b => if b = true then wpE G e (fun _ _ => False) rh1 mu3 fun d mu4 => k (some d) mu4 else k none mu3) still (fun acc mu2 => newLst acc mu2 Qd) (xs.drop i) acc mu2) (i + 1) (xs.length - (i + 1)) H', fun H' w => ⟨_, by omega, w⟩, fun v H3 y => ?_⟩
    obtain ⟨x, ex, ix, x3, S3⟩ := ij.yld i H2 be2 mu2 v H3 x2 S2 st hlt y
    have ex' : xs[i] = x := by
      rw [List.getElem?_eq_getElem hlt] at ex
      exact Option.some.inj ex
    rw [ex'] at go
    unfold onP at go
    split at go
    · rename_i rh1 eb
      have y3 := (x1.trans x2).trans x3
      refine ⟨be2, x, wipeD rh vs, rh1, ix, (L.mono y3).wiped vs, eb, fun sg1 L1 w1 => ⟨by rw [w1 vs hv, wipe_wipe], ?_⟩⟩
      refine ⟨be2, mu2, rh1, fun b nu => if b = true then wpE G e (fun _ _ => False) rh1 nu fun d mu4 => lcGo _ still (fun acc mu2 => newLst acc mu2 Qd) (xs.drop (i + 1)) (acc ++ [d]) mu4 else lcGo _ still (fun acc mu2 => newLst acc mu2 Qd) (xs.drop (i + 1)) acc nu, fun _ _ => False, S3, L1, go, fun b nu be4 H4 x4 S4 h4 => ?_, fun _ _ _ _ _ _ _ _ _ z => z⟩
      have nD4 : D ∉ be4 := fun z => by
        rcases (x3.trans x4).new D z with z | z
        · exact nD z
        · rw [eD] at z; cases z
      have eD4 : H4 D = some (.lst vacc) := (x3.trans x4).fr D _ eD (.inl nD)
      cases b with
      | false =>
        rw [if_neg Bool.false_ne_true] at h4
        show if false = true then _ else _
        rw [if_neg Bool.false_ne_true]
        exact ⟨rfl, by omega, be4, nu, acc, vacc, (x2.trans x3).trans x4, nD4, S4, eD4, iacc.mono (x3.trans x4), by omega, h4⟩
      | true =>
        rw [if_pos rfl] at h4
        show if true = true then _ else _
        rw [if_pos rfl]
        refine ⟨be4, nu, rh1, _, fun _ _ => False, S4, L1.mono x4, h4, fun d mu5 be5 H5 w x5 S5 d5 h5 => ?_, fun _ _ _ _ _ _ _ _ _ z => z⟩
        have nD5 : D ∉ be5 := fun z => by
          rcases x5.new D z with z | z
          · exact nD4 z
          · rw [eD4] at z; cases z
        have eD5 : H5 D = some (.lst vacc) := x5.fr D _ eD4 (.inl nD4)
        have ia5 := iacc.mono ((x3.trans x4).trans x5)
        have xx : Ext H1 H5 be1 be5 := ((x2.trans x3).trans x4).trans x5
        refine ⟨vacc, eD5, by rw [← ia5.len]; omega, rfl, by omega, be5, mu5, acc ++ [d], vacc ++ [w], ⟨xx.pre, fun b o q z => ?_, xx.new⟩, nD5, S5.beside nD5 eD5 rfl, upd_same, (ia5.append (.one d5)).beside eD5 rfl, by simp; omega, h5⟩
        rw [upd_ne (ne_of_none q hD)]
        exact xx.fr b o q z
    · exact go.elim
  · left
    have e : i = xs.length := by omega
    subst e
    rw [List.drop_length] at go
    simp only [lcGo] at go
    obtain ⟨st, go⟩ := go
    refine ⟨ij.stop H2 be2 mu2 x2 S2 st, ?_⟩
    have xa : Ext H2 H2 be2 (be2 ++ [D]) → True := fun _ => trivial
    have x12 : Ext H1 H2 be1 (be2 ++ [D]) := ⟨x2.pre.trans (List.prefix_append _ _), x2.fr, fun b hb => by
      rcases List.mem_append.mp hb with hb | hb
      · exact x2.new b hb
      · have : b = D := by simpa using hb
        rw [this]; exact .inr hD⟩
    have up : ∀ n a, n < be2.length → be2[n]? = some a → (be2 ++ [D])[n]? = some a := fun n a hn e => by rw [List.getElem?_append_left hn]; exact e
    refine kq _ _ (be2 ++ [D]) H2 _ (x1.trans x12) (S2.adopt (c := .lst acc) nD ⟨vacc, eD, iacc.on (fun _ _ q => q) (fun _ _ q => q) up⟩) ?_ go
    simp only [IsD]
    exact ⟨D, by rw [← S2.len]; simp, rfl⟩
end
end MP

/-! MP: calls of the text's own defs; expressions -/
namespace MP
open PySem PySem.Spec PyProof.Rows L2

/-! ### a def's promise, where no repr runs around it -/
structure FnG (P : Program) (w : World) (K : PySem.W.Frag) (mg : Str → Option Value) (base : Heap) (k : Nat) (f : Addr) (fd : FuncData) (ps : List Str) (sp : Sp) : Prop where
  run : ∀ (A : Around) (outer : List Env) (s : Shared) (H : Hp) (args : Args) (us : List Value) (vs : List V) (Q : VK) (E : XK),
    Room k A → A.guards = some [] → Env0 P w K mg base A outer s H → BindsTo s fd args (ps.zip us) → Vals vs us → vs.length = ps.length → sp vs H Q E →
      codeAny (model P w) A (.call (.ref f) args) (CR (L2.CX P w) outer P w H s Q E) s
theorem FnG.mono {P : Program} {w : World} {K : PySem.W.Frag} {mg : Str → Option Value} {base : Heap} {j k : Nat} {f : Addr} {fd : FuncData} {ps : List Str} {sp : Sp} (F : FnG P w K mg base j f fd ps sp) (h : j ≤ k) :
    FnG P w K mg base k f fd ps sp := ⟨fun A outer s H args us vs Q E hr => F.run A outer s H args us vs Q E (hr.mono h)⟩
theorem FnG.imp {P : Program} {w : World} {K : PySem.W.Frag} {mg : Str → Option Value} {base : Heap} {k : Nat} {f : Addr} {fd : FuncData} {ps : List Str} {sp sp' : Sp} (F : FnG P w K mg base k f fd ps sp) (h : ∀ vs H Q E, sp' vs H Q E → sp vs H Q E) :
    FnG P w K mg base k f fd ps sp' := ⟨fun A outer s H args us vs Q E hr hg e b r l q => F.run A outer s H args us vs Q E hr hg e b r l (h _ _ _ _ q)⟩
/-- a promise over data as one over the heap -/
def liftF (K : PySem.W.Frag) (CT : Nat → Addr) (sp : DSp) : Sp := fun vs H Q E => ∃ be mu ds Qd Ed, RepS K CT H be mu ∧ IsDs K H be ds vs ∧ sp ds mu Qd Ed ∧ KQ K CT H be Qd Q ∧ KX K CT H be Ed E

def permV (ps : List Nat) (vs : List V) : List V := ps.map fun i => vs.getD i .non
def permU (ps : List Nat) (us : List Value) : List Value := ps.map fun i => us.getD i .none
theorem perm_rel {vs : List V} {us : List Value} (r : Vals vs us) (ps : List Nat) : Vals (permV ps vs) (permU ps us) := by
  induction ps with
  | nil => exact .nil
  | cons i ps ih =>
    refine .cons ?_ ih
    cases e : vs[i]? with
    | none =>
      have e2 := r.none_of e
      simp [List.getD_eq_getElem?_getD, e, e2, L2.RelV]
    | some v =>
      obtain ⟨u, e2, q⟩ := r.get e
      simpa [List.getD_eq_getElem?_getD, e, e2] using q
theorem perm_is {K : PySem.W.Frag} {H : Hp} {be : List Addr} {ds : List D} {vs : List V} (r : IsDs K H be ds vs) (ps : List Nat) : IsDs K H be (perm ps ds) (permV ps vs) := by
  induction ps with
  | nil => exact .nil
  | cons i ps ih =>
    refine .cons ?_ ih
    cases e : ds[i]? with
    | none =>
      have e2 : vs[i]? = none := by
        rw [List.getElem?_eq_none_iff] at e ⊢
        rw [← r.len]; exact e
      simp [List.getD_eq_getElem?_getD, e, e2, IsD]
    | some d =>
      obtain ⟨v, e2, q⟩ := r.get e
      simpa [List.getD_eq_getElem?_getD, e, e2] using q

/-- the text's defs -/
structure XF (n : Nm) (G : Ctx) (CT : Nat → Addr) (k : Nat) (X : Cx) : Prop where
  room : Room k X.A
  fns : ∀ i x, n.fns[i]? = some x → ∃ f fd ps, X.mg x = some (.ref f) ∧ PySem.W.keepIn X.K (.ref f) = true ∧ FnG X.prog X.w X.K X.mg X.base k f fd ps (liftF X.K CT (G.fn i)) ∧
    ∀ np ks pm, (i, np, ks, pm) ∈ n.kwp → pm.length = ps.length ∧ ∀ (s : Shared) (us ws : List Value), X.K.In s.heap → us.length = np → ws.length = ks.length → BindsTo s fd ⟨us, ks.zip ws⟩ (ps.zip (permU pm (us ++ ws)))

section
variable {X : Cx} {k : Nat} {f : Addr} {fd : FuncData} {ps ks : List Str} {sp : Sp} {W : WX} {x : Str} {p pos : Pos}
theorem run_G {pins : List (Addr × Obj)} {σ : L2.St} {H : Hp} {s : Shared} {Q : VK} {args : Args} {us : List Value} {vs : List V} (F : FnG X.prog X.w X.K X.mg X.base k f fd ps sp) (hr : Room k X.A) (hg : X.A.guards = some []) (tk : Takes X W) (I : Inv X pins σ H s)
    (b : BindsTo s fd args (ps.zip us)) (r : Vals vs us) (hl : vs.length = ps.length) (h : sp vs H Q (WE W σ)) : codeAny (model X.prog X.w) X.A (.call (.ref f) args) (fun r s' => match r with | .ok (.ret u) => EP X pins σ Q u s' | .ok _ => False | .error e => X.xe e s') s := by
  refine codeAny_mono (F.run X.A X.stack s H args us vs Q (WE W σ) hr hg I.env0 b r hl h) fun r s' hq => ?_
  match r, hq with
  | .error e, hq => exact passAt tk σ pins H s e s' I hq
  | .ok (.ret u), hq => exact I.after hq
  | .ok .next, hq => exact hq.elim
  | .ok .brk, hq => exact hq.elim
  | .ok .cont, hq => exact hq.elim
/-- f(e, .., k = v, ..), any number of either -/
theorem pe_G {args : List Expr} {kws : List Keyword} {t tk' : TA} {pm : List Nat} (F : FnG X.prog X.w X.K X.mg X.base k f fd ps sp) (hr : Room k X.A) (hgd : X.A.guards = some []) (tk : Takes X W) (hg : Gl X x) (hm : X.mg x = some (.ref f)) (hk : PySem.W.keepIn X.K (.ref f) = true)
    (hpm : pm.length = ps.length) (hb : ∀ (s : Shared) (us ws : List Value), X.K.In s.heap → us.length = args.length → ws.length = ks.length → BindsTo s fd ⟨us, ks.zip ws⟩ (ps.zip (permU pm (us ++ ws))))
    (ha : PA X args t) (hkw : PK X kws tk') (hst : args.all nst = true) (hks : kws.map (·.arg) = ks.map some) (hdb : (x == ("__debug__" : Str)) = false)
    (hnil : args = [] → ∀ σ H Q, t σ H Q → Q [] H) (hl : ∀ σ H Q, t σ H Q → t σ H fun vs H1 => vs.length = args.length ∧ Q vs H1) (hl2 : ∀ σ H Q, tk' σ H Q → tk' σ H fun vs H1 => vs.length = ks.length ∧ Q vs H1) :
    PE X (.Call (.Name x p) args kws pos) (fun σ H Q => t σ H fun vs H1 => tk' σ H1 fun zs H2 => sp (permV pm (vs ++ zs)) H2 Q (WE W σ)) := by
  refine ⟨fun pins s σ H Q I h => wpAny_Call_Name_kw (ld_glob I hg hm ?_ hdb)⟩
  have hsome : (backToKw pos (keywordEach kws X.env)).all (·.1.isSome) = true ∧ (backToKw pos (keywordEach kws X.env)).filterMap (·.1) = ks ∧ (backToKw pos (keywordEach kws X.env)).any (·.1.isNone) = false := by
    have gen : ∀ (kws : List Keyword) (ks : List Str), kws.map (·.arg) = ks.map some → (backToKw pos (keywordEach kws X.env)).all (·.1.isSome) = true ∧ (backToKw pos (keywordEach kws X.env)).filterMap (·.1) = ks ∧ (backToKw pos (keywordEach kws X.env)).any (·.1.isNone) = false := by
      intro kws
      induction kws with
      | nil =>
        intro ks e
        have : ks = [] := by cases ks <;> simp_all
        subst this
        exact ⟨rfl, rfl, rfl⟩
      | cons q kws ih =>
        intro ks e
        obtain ⟨nm, ex, kp⟩ := q
        cases ks with
        | nil => simp at e
        | cons y ks =>
          simp only [List.map_cons, List.cons.injEq] at e
          obtain ⟨e1, e2⟩ := e
          subst e1
          obtain ⟨a, b, c⟩ := ih ks e2
          show ((true && (backToKw pos (keywordEach kws X.env)).all (·.1.isSome)) = true) ∧ (y :: (backToKw pos (keywordEach kws X.env)).filterMap (·.1)) = y :: ks ∧ (false || (backToKw pos (keywordEach kws X.env)).any (·.1.isNone)) = false
          rw [a, b, c]
          exact ⟨rfl, rfl, rfl⟩
    exact gen kws ks hks
  obtain ⟨h1, h2, h3⟩ := hsome
  have fin : ∀ (us ws : List Value) (vs zs : List V) (s2 : Shared) (H2 : Hp), Inv X pins σ H2 s2 → Vals vs us → Vals zs ws → vs.length = args.length → zs.length = ks.length → sp (permV pm (vs ++ zs)) H2 Q (WE W σ) →
      wpAny (model X.prog X.w) X.A (call (.ref f) us (ks.zip ws)) (EP X pins σ Q) X.xe s2 := fun us ws vs zs s2 H2 I2 r rz e1 e2 q => by
    refine wpAny_call (codeAny_mono (run_G F hr hgd tk I2 (hb s2 us ws I2.kIn (by rw [← r.length]; exact e1) (by rw [← rz.length]; exact e2)) (perm_rel (r.append rz) pm) (by simp [permV, hpm]) q) fun r s' hq => ?_)
    match r, hq with
    | .error e, hq => exact hq
    | .ok (.ret u), hq => exact hq
    | .ok .next, hq => exact hq.elim
    | .ok .brk, hq => exact hq.elim
    | .ok .cont, hq => exact hq.elim
  have kin := I.ok.mod.kin
  cases args with
  | nil =>
    have q1 := hnil rfl σ H _ h
    refine PySem.W.callWith_KW0 (h₀ := X.base) kin hk h1 (thn (hkw.run pos pins s σ H _ I (hl2 _ _ _ q1)) fun ws s2 ⟨zs, H2, I2, rz, e2, q2⟩ => ⟨I2.kIn, ?_⟩) h3
    rw [h2]
    exact fin [] ws [] zs s2 H2 I2 .nil rz rfl e2 q2
  | cons e es =>
    have hst' : nst e = true ∧ es.all nst = true := by
      rw [List.all_cons, Bool.and_eq_true] at hst
      exact hst
    refine PySem.W.callWith_KW (h₀ := X.base) kin hk h1 (thn (ha.run pos pins s σ H _ I (hl _ _ _ h)) fun us s1 ⟨vs, H1, I1, r, e1, q⟩ => ?_) (by rw [star_any hst, h3]; rfl) (star1 hst'.1 _ _)
    refine thn (hkw.run pos pins s1 σ H1 _ I1 (hl2 _ _ _ q)) fun ws s2 ⟨zs, H2, I2, rz, e2, q2⟩ => ⟨I2.kIn, ?_⟩
    rw [h2]
    exact fin us ws vs zs s2 H2 I2 r rz e1 e2 q2
end
end MP

/-! MP: expressions: the core tree that matches is read as its wish says -/
namespace MP
open PySem PySem.Spec PyProof.Rows L2

def ownOf (n : Nm) (vs : List Nat) : List (Str × Nat) := vs.map fun i => (n.N.getD i Str.empty, i)
theorem ownOf_snd (n : Nm) (vs : List Nat) : (ownOf n vs).map (·.2) = vs := by
  unfold ownOf
  rw [List.map_map]
  exact List.map_id' vs
def mCon (n : Nm) (sc : Scope) (d : D) : Expr → Bool
  | .Constant (.int i) _ _ => D.beq (.int i) d
  | .Constant (.str x) _ _ => D.beq (.str x) d
  | .Constant (.bool b) _ _ => D.beq (.bl b) d
  | .Constant .none _ _ => D.beq .non d
  | .Name x _ => glB sc x && (match n.cons.lookup x with
    | some e => D.beq e d
    | none => false)
  | _ => false
/-- no test of a comprehension -/
def isTrueC : CE → Bool
  | .con (.bl true) => true
  | _ => false

mutual
def mE (n : Nm) : CE → Scope → Scope → Expr → Bool
  | .con d, _, sc, e => mCon n sc d e
  | .var i, _, sc, e => match e with
    | .Name x _ => decide (n.N[i]? = some x) && visB sc x && okN x
    | _ => false
  | .tup es, s0, sc, e => match e with
    | .Tuple xs _ _ => mEs n es s0 sc xs
    | _ => false
  | .lst es, s0, sc, e => match e with
    | .List xs _ => mEs n es s0 sc xs
    | _ => false
  | .op1 o a, s0, sc, e => match sh1 n sc o e with
    | some x => mE n a s0 sc x
    | none => false
  | .op2 o a b, s0, sc, e => match sh2 n sc o e with
    | some (x, y) => mE n a s0 sc x && mE n b s0 sc y
    | none => false
  | .cond t a b, s0, sc, e => match e with
    | .IfExp x y z _ => mE n t s0 sc x && mE n a s0 sc y && mE n b s0 sc z
    | _ => false
  | .and a b, s0, sc, e => match e with
    | .BoolOp .And (x :: y :: r) p => mE n a s0 sc x && (match r with
      | [] => mE n b s0 sc y
      | _ => mE n b s0 sc (.BoolOp .And (y :: r) p))
    | _ => false
  | .or a b, s0, sc, e => match e with
    | .BoolOp .Or (x :: y :: r) p => mE n a s0 sc x && (match r with
      | [] => mE n b s0 sc y
      | _ => mE n b s0 sc (.BoolOp .Or (y :: r) p))
    | _ => false
  | .not a, s0, sc, e => match e with
    | .UnaryOp .Not x _ => mE n a s0 sc x
    | _ => false
  | .chain o p a b c, s0, sc, e => match e with
    | .Compare x [u, v] [y, z] _ => decide (shC o = some u) && decide (shC p = some v) && mE n a s0 sc x && mE n b s0 sc y && mE n c s0 sc z
    | _ => false
  | .sl e lo hi, s0, sc, x => match x with
    | .Subscript y (.Slice l h none _) _ => mE n e s0 sc y && mO n lo s0 sc l && mO n hi s0 sc h
    | _ => false
  | .call f pm es ks, s0, sc, e => match e with
    | .Call (.Name x _) args kws _ => decide (n.fns[f]? = some x) && glB sc x && args.all nst && mEs n es s0 sc args && mEs n ks s0 sc (kws.map (·.value)) &&
        n.kwp.any fun q => decide (q.1 = f) && decide (q.2.1 = args.length) && decide (kws.map (·.arg) = q.2.2.1.map some) && decide (q.2.2.2 = pm)
    | _ => false
  | .lc vs p it c e, s0, sc, x => match x with
    | .ListComp elt [⟨tg, iter, ifs, 0⟩] scope _ => blkC n.N sc scope (ownOf n vs) && mP n scope p tg && p.slots.all (fun i => vs.contains i) && nset iter && mI n it s0 sc tg iter &&
        (match ifs with
          | [] => isTrueC c
          | [f] => mE n c scope (relS scope sc) f
          | _ => false) && mE n e scope (relS scope sc) elt
    | _ => false
  | .gc e, s0, sc, x => mE n e s0 sc x
def mEs (n : Nm) : CEs → Scope → Scope → List Expr → Bool
  | .nil, _, _, es => match es with
    | [] => true
    | _ => false
  | .cons e r, s0, sc, es => match es with
    | x :: xs => nst x && mE n e s0 sc x && mEs n r s0 sc xs
    | [] => false
def mO (n : Nm) : CO → Scope → Scope → Option Expr → Bool
  | .no, _, _, e => match e with
    | none => true
    | _ => false
  | .some e, s0, sc, x => match x with
    | some y => mE n e s0 sc y
    | none => false
def mI (n : Nm) : CI → Scope → Scope → Expr → Expr → Bool
  | .seq e, s0, sc, _, x => mE n e s0 sc x
  | .rng1 e, s0, sc, _, x => match x with
    | .Call f [a] [] _ => bltB n sc f "range" && nst a && mE n e s0 sc a
    | _ => false
  | .rng2 a b, s0, sc, _, x => match x with
    | .Call f [y, z] [] _ => bltB n sc f "range" && nst y && nst z && mE n a s0 sc y && mE n b s0 sc z
    | _ => false
  | .enum e, _, _, _, _ => false
  | .zip a b, _, _, _, _ => false
end

section
variable {n : Nm} {sc0 sc : Scope} {X : Cx} {CT : Nat → Addr} {G : Ctx} {W : WX} {k : Nat}
theorem rel_scope (scope : Scope) (cl : List (Str × Addr)) (C : Addr) (env : Env) : (compEnvC scope cl C env).scope = relS scope env.scope := rfl
theorem XO.blk (O : XO n sc0 sc X) {scope : Scope} {own : List (Str × Nat)} (h : blkC n.N sc scope own = true) (s : Shared) (H : Hp) (C : Addr) (cl : List (Str × Addr)) (fp : List Addr) : XO n scope (relS scope sc) (X.blk s H scope (compEnvC scope cl C X.env) fp) := by
  have B := blkOk_by h
  refine ⟨by show (compEnvC scope cl C X.env).scope = _; rw [rel_scope, O.scp], O.N, O.nd, O.calm, O.hu, O.hg, O.blt, O.cons, PassesOwn.never, fun x hx => ?_, B.kind⟩
  unfold locB at hx
  split at hx
  · rename_i e
    have e2 := lookup_relS_keep (sc := sc) (k := .local) (by decide) e
    exact ⟨.inl e2, .inr e2⟩
  · rename_i e
    have e2 := lookup_relS_keep (sc := sc) (k := .cell) (by decide) e
    refine ⟨.inr e2, .inl ?_⟩
    show (scope.names.lookup x == some .cell) = true
    rw [e]; rfl
  · cases hx
theorem XF.blk (F : XF n G CT k X) (s : Shared) (H : Hp) (scope : Scope) (C : Addr) (cl : List (Str × Addr)) (fp : List Addr) : XF n G CT k (X.blk s H scope (compEnvC scope cl C X.env) fp) := ⟨F.room, F.fns⟩
def CEs.len : CEs → Nat
  | .nil => 0
  | .cons _ r => r.len + 1
theorem wpEs_len : ∀ (c : CEs) {E : QX} {rh : Sl} {mu : Store} {Q : List D → Store → Prop}, wpEs G c E rh mu Q → wpEs G c E rh mu fun ds nu => ds.length = c.len ∧ Q ds nu
  | .nil, _, _, _, _, h => by
    simp only [wpEs] at h ⊢
    exact ⟨rfl, h⟩
  | .cons e r, _, _, _, _, h => by
    simp only [wpEs] at h ⊢
    exact wpE_mono e (fun _ _ z => z) (fun x nu q => wpEs_mono r (fun _ _ z => z) (fun xs nu q => ⟨by simp [CEs.len, q.1], q.2⟩) (wpEs_len r q)) h
theorem la_len {K : PySem.W.Frag} {c : CEs} {sg : L2.St} {H : Hp} {Q : List V → Hp → Prop} (h : LA G K CT W c sg H Q) : LA G K CT W c sg H fun vs H1 => vs.length = c.len ∧ Q vs H1 := by
  obtain ⟨be, mu, rh, Qd, Ed, S, L, h, kq, kx⟩ := h
  exact ⟨be, mu, rh, _, Ed, S, L, wpEs_len c h, fun ds nu be' H' vs x S' i q => ⟨by rw [← i.len]; exact q.1, kq ds nu be' H' vs x S' i q.2⟩, kx⟩
theorem mEs_len : ∀ (c : CEs) {es : List Expr}, mEs n c sc0 sc es = true → es.length = c.len ∧ es.all nst = true
  | .nil, es, h => by
    cases es <;> simp only [mEs] at h
    · exact ⟨rfl, rfl⟩
    · cases h
  | .cons e r, es, h => by
    cases es <;> simp only [mEs] at h
    · cases h
    · simp only [Bool.and_eq_true] at h
      obtain ⟨a, b⟩ := mEs_len r h.2
      exact ⟨by simp [CEs.len, a], by rw [List.all_cons, h.1.1, b]; rfl⟩
theorem PO.imp {e : Option Expr} {t u : TO} (h : PO X e t) (k : ∀ σ H Q, u σ H Q → t σ H Q) : PO X e u := ⟨fun pins s σ H Q I q => h.run pins s σ H Q I (k _ _ _ q)⟩
theorem PA.imp {e : List Expr} {t u : TA} (h : PA X e t) (k : ∀ σ H Q, u σ H Q → t σ H Q) : PA X e u := ⟨fun pos pins s σ H Q I q => h.run pos pins s σ H Q I (k _ _ _ q)⟩
theorem PK.imp {e : List Keyword} {t u : TA} (h : PK X e t) (k : ∀ σ H Q, u σ H Q → t σ H Q) : PK X e u := ⟨fun pos pins s σ H Q I q => h.run pos pins s σ H Q I (k _ _ _ q)⟩
theorem PI.imp {tg e : Expr} {t u : TI} (h : PI X tg e t) (k : ∀ σ H Q, u σ H Q → t σ H Q) : PI X tg e u := ⟨fun pins s σ H Q I q => h.run pins s σ H Q I (k _ _ _ q)⟩
theorem PTs.imp {e : List Expr} {t u : TT} (h : PTs X e t) (k : ∀ σ H Q, u σ H Q → t σ H Q) : PTs X e u := ⟨fun pins s σ H Q I q => h.run pins s σ H Q I (k _ _ _ q)⟩
theorem sndCon (O : XO n sc0 sc X) (d : D) (e : Expr) (h : mCon n sc d e = true) : PE X e (LE G X.K CT W (.con d)) := by
  unfold mCon at h
  split at h
  · have := beq_D h; subst this
    refine PE.imp pe_int fun σ H Q q => ?_
    obtain ⟨be, mu, Qd, S, q, kq⟩ := le_con q
    exact kq.at_ S (by simp only [IsD]) q
  · have := beq_D h; subst this
    refine PE.imp pe_str fun σ H Q q => ?_
    obtain ⟨be, mu, Qd, S, q, kq⟩ := le_con q
    exact kq.at_ S (by simp only [IsD]) q
  · have := beq_D h; subst this
    refine PE.imp pe_bl fun σ H Q q => ?_
    obtain ⟨be, mu, Qd, S, q, kq⟩ := le_con q
    exact kq.at_ S (by simp only [IsD]) q
  · have := beq_D h; subst this
    refine PE.imp pe_non fun σ H Q q => ?_
    obtain ⟨be, mu, Qd, S, q, kq⟩ := le_con q
    exact kq.at_ S (by simp only [IsD]) q
  · rename_i x pos
    rw [Bool.and_eq_true] at h
    obtain ⟨h1, h2⟩ := h
    obtain ⟨g1, g2, g3⟩ := gl_of O h1
    split at h2
    · rename_i e0 el
      have := beq_D h2; subst this
      obtain ⟨u, hm, hu⟩ := O.cons (x, e0) (mem_of_lookup el)
      refine ⟨fun pins s σ H Q I q => ld_glob I g1 hm ?_ g2⟩
      obtain ⟨be, mu, Qd, S, q, kq⟩ := le_con q
      obtain ⟨v, r, id⟩ := hu H be
      exact ⟨v, H, I, r, kq.at_ S id q⟩
    · cases h2
  · cases h
theorem vis_of {sc : Scope} {x : Str} (h : visB sc x = true) : Vis sc x := by
  unfold visB at h
  split at h
  · exact .inl (by assumption)
  · exact .inr (.inl (by assumption))
  · exact .inr (.inr (by assumption))
  · cases h
theorem fset_of {e : Expr} {env : Env} (h : nset e = true) (x : Value) : foldedSetIterable e env x = pure x := by
  cases e <;> first | rfl | cases h
end
section
variable {n : Nm} {sc0 sc : Scope} {X : Cx} {CT : Nat → Addr} {G : Ctx} {W : WX} {K : PySem.W.Frag} {sg : L2.St} {H : Hp}
theorem pw_of {op : BoolOp} {es : List Expr} {p : Pos} {t : TT} (h : PT X (.BoolOp op es p) t) : PW X (.BoolOp op es p) t := ⟨fun _ => h.run⟩
theorem snd1T (O : XO n sc0 sc X) (o : O1) {e a : Expr} {c : CE} (h : sh1 n sc o e = some a) (ha : PE X a (LE G X.K CT W c)) : PT X e (LT G X.K CT W (.op1 o c)) := by
  have p := snd1 (CT := CT) (G := G) (W := W) O o h ha
  unfold sh1 at h
  split at h
  case h_12 =>
    cases h
    refine PT.imp (pt_cmpR (isN_D (CT := CT)) ha pe_non (nomark _)) fun σ H Q q => ?_
    exact (le_op1 (lt_le q)).mono fun v H1 r => ⟨rfl, r⟩
  case h_13 =>
    cases h
    refine PT.imp (pt_cmpR (notN_D (CT := CT)) ha pe_non (nomark _)) fun σ H Q q => ?_
    exact (le_op1 (lt_le q)).mono fun v H1 r => ⟨rfl, r⟩
  case h_14 =>
    cases h
    refine PT.imp (pt_cmpR (isB_D (CT := CT) false) ha pe_bl (nomark _)) fun σ H Q q => ?_
    exact (le_op1 (lt_le q)).mono fun v H1 r => ⟨rfl, r⟩
  case h_15 =>
    cases h
    refine PT.imp (pt_cmpR (isB_D (CT := CT) true) ha pe_bl (nomark _)) fun σ H Q q => ?_
    exact (le_op1 (lt_le q)).mono fun v H1 r => ⟨rfl, r⟩
  all_goals first
    | exact PT.imp (pt_val p) fun σ H Q q => lt_le q
    | cases h
theorem snd2T (O : XO n sc0 sc X) (o : O2) {e a b : Expr} {c d : CE} (h : sh2 n sc o e = some (a, b)) (ha : PE X a (LE G X.K CT W c)) (hb : PE X b (LE G X.K CT W d)) : PT X e (LT G X.K CT W (.op2 o c d)) := by
  have p := snd2 (CT := CT) (G := G) (W := W) O o h ha hb
  have hu := O.hu
  unfold sh2 at h
  split at h
  case h_7 => cases h; exact PT.imp (pt_cmpR (eq_D (by omega)) ha hb (nomark _)) fun σ H Q q => le_op2 (lt_le q)
  case h_8 => cases h; exact PT.imp (pt_cmpR (ne_D (by omega)) ha hb (nomark _)) fun σ H Q q => le_op2 (lt_le q)
  case h_9 => cases h; exact PT.imp (pt_cmpR lt_D ha hb (nomark _)) fun σ H Q q => le_op2 (lt_le q)
  case h_10 => cases h; exact PT.imp (pt_cmpR le_D ha hb (nomark _)) fun σ H Q q => le_op2 (lt_le q)
  case h_11 => cases h; exact PT.imp (pt_cmpR gt_D ha hb (nomark _)) fun σ H Q q => le_op2 (lt_le q)
  case h_12 => cases h; exact PT.imp (pt_cmpR ge_D ha hb (nomark _)) fun σ H Q q => le_op2 (lt_le q)
  all_goals first
    | exact PT.imp (pt_val p) fun σ H Q q => lt_le q
    | cases h
theorem pt_ifExp' {c a b : Expr} {tc ta tb : TT} {pos : Pos} (hc : PT X c tc) (ha : PT X a ta) (hb : PT X b tb) : PT X (.IfExp c a b pos) (fun σ H Q => tc σ H fun d H1 => if d = true then ta σ H1 Q else tb σ H1 Q) := by
  refine ⟨fun pins s σ H Q I h => ?_⟩
  show wpAny _ _ (do if ← isTrue c X.env (eval c X.env) then isTrue a X.env (eval a X.env) else isTrue b X.env (eval b X.env)) _ _ _
  refine wpAny_bind (thn (hc.run pins s σ H _ I h) fun d s1 ⟨H1, I1, q1⟩ => ?_)
  cases d with
  | true => exact ha.run pins s1 σ H1 Q I1 q1
  | false => exact hb.run pins s1 σ H1 Q I1 q1
theorem lt_cond {t a b : CE} {Q : Bool → Hp → Prop} (h : LT G K CT W (.cond t a b) sg H Q) : LT G K CT W t sg H fun d H1 => if d = true then LT G K CT W a sg H1 Q else LT G K CT W b sg H1 Q := by
  obtain ⟨be, mu, rh, Qd, Ed, S, L, h, kq, kx⟩ := h
  refine ⟨be, mu, rh, fun c nu => if c = true then wpT G a Ed rh nu Qd else wpT G b Ed rh nu Qd, Ed, S, L, by simpa only [wpE, wpT] using h, fun c mu1 be1 H1 x1 S1 h1 => ?_, kx⟩
  cases c with
  | true => exact ⟨be1, mu1, rh, Qd, Ed, S1, L.mono x1, h1, fun b nu be' H' y => kq b nu be' H' (x1.trans y), kx.mono x1⟩
  | false => exact ⟨be1, mu1, rh, Qd, Ed, S1, L.mono x1, h1, fun b nu be' H' y => kq b nu be' H' (x1.trans y), kx.mono x1⟩
theorem lt_gc {a : CE} {Q : Bool → Hp → Prop} (h : LT G K CT W (.gc a) sg H Q) : LT G K CT W a sg H Q := by
  obtain ⟨be, mu, rh, Qd, Ed, S, L, h, kq, kx⟩ := h
  refine ⟨be, mu, rh, fun b nu' => ∃ nu, nu <+: nu' ∧ nu.length = mu.length ∧ (WF mu → WF nu) ∧ Qd b nu, Ed, S, L, ?_, fun b mu1 be1 H1 x1 S1 h1 => ?_, kx⟩
  · simp only [wpT, wpE] at h ⊢
    refine wpE_mono a (fun _ _ z => z) (fun x nu' ⟨nu, a1, a2, a3, a4, q⟩ => ?_) h
    cases x <;> simp only [onB] at q ⊢
    exact ⟨nu, a1, a2, a3, q⟩
  · obtain ⟨nu, a1, a2, a3, h2⟩ := h1
    have e : nu.length = be.length := by rw [a2, S.len]
    exact kq b nu (be1.take nu.length) H1 (x1.forget (by omega)) (S1.forget a1 (a3 S.wf)) h2
theorem chain_tt {o p : O2} {a b c : CE} {Q : Bool → Hp → Prop} (h : tB (LE G K CT W (.chain o p a b c)) sg H Q) : tTest (tChain (R2D K CT o) (R2D K CT p) (LE G K CT W a) (LE G K CT W b) (LE G K CT W c)) sg H Q := le_chain h
end
mutual
theorem sndE {n : Nm} {CT : Nat → Addr} {G : Ctx} {k : Nat} : ∀ (c : CE) {sc0 sc : Scope} {X : Cx} {W : WX} (e : Expr), XO n sc0 sc X → XF n G CT k X → Takes X W → mE n c sc0 sc e = true → PE X e (LE G X.K CT W c)
  | .con d, _, _, _, _, e, O, _, _, h => sndCon O d e (by simpa only [mE] using h)
  | .var i, _, _, _, _, e, O, _, _, h => by
    cases e <;> simp only [mE] at h <;> try (cases h)
    simp only [Bool.and_eq_true, decide_eq_true_eq] at h
    obtain ⟨⟨h1, h2⟩, h3⟩ := h
    obtain ⟨a, b, _⟩ := okN_of h3
    exact PE.imp (pe_var (by rw [O.N]; exact h1) (by rw [O.scp]; exact vis_of h2) a b) fun σ H Q q => le_var q
  | .tup es, _, _, _, _, e, O, F, T, h => by
    cases e <;> simp only [mE] at h <;> try (cases h)
    exact PE.imp (pe_tup (sndEs es _ O F T h).1) fun σ H Q q => le_tup q
  | .lst es, _, _, _, _, e, O, F, T, h => by
    cases e <;> simp only [mE] at h <;> try (cases h)
    exact PE.imp (pe_lst (sndEs es _ O F T h).1) fun σ H Q q => le_lst q
  | .op1 o a, _, _, _, _, e, O, F, T, h => by
    simp only [mE] at h
    split at h
    · rename_i x hx
      exact snd1 O o hx (sndE a x O F T h)
    · cases h
  | .op2 o a b, _, _, _, _, e, O, F, T, h => by
    simp only [mE] at h
    split at h
    · rename_i x y hx
      rw [Bool.and_eq_true] at h
      exact snd2 O o hx (sndE a x O F T h.1) (sndE b y O F T h.2)
    · cases h
  | .cond t a b, _, _, _, _, e, O, F, T, h => by
    cases e <;> simp only [mE] at h <;> try (cases h)
    simp only [Bool.and_eq_true] at h
    exact PE.imp (pe_ifExp (sndT t _ O F T h.1.1) (sndE a _ O F T h.1.2) (sndE b _ O F T h.2)) fun σ H Q q => le_cond q
  | .and a b, _, _, _, _, e, O, F, T, h => by
    simp only [mE] at h
    split at h
    · rename_i x y r p
      rw [Bool.and_eq_true] at h
      obtain ⟨h1, h2⟩ := h
      split at h2
      · exact PE.imp (pe_and (sndE a x O F T h1) (pe_one (sndE b y O F T h2))) fun σ H Q q => le_and q
      · exact PE.imp (pe_and (sndE a x O F T h1) (sndE b _ O F T h2)) fun σ H Q q => le_and q
    · cases h
  | .or a b, _, _, _, _, e, O, F, T, h => by
    simp only [mE] at h
    split at h
    · rename_i x y r p
      rw [Bool.and_eq_true] at h
      obtain ⟨h1, h2⟩ := h
      split at h2
      · exact PE.imp (pe_or (sndE a x O F T h1) (pe_one (sndE b y O F T h2))) fun σ H Q q => le_or q
      · exact PE.imp (pe_or (sndE a x O F T h1) (sndE b _ O F T h2)) fun σ H Q q => le_or q
    · cases h
  | .not a, _, _, _, _, e, O, F, T, h => by
    simp only [mE] at h
    split at h
    · exact PE.imp (pe_not (sndE a _ O F T h)) fun σ H Q q => le_not q
    · cases h
  | .chain o p a b c, _, _, _, _, e, O, F, T, h => by
    simp only [mE] at h
    split at h
    · simp only [Bool.and_eq_true, decide_eq_true_eq] at h
      obtain ⟨⟨⟨⟨h1, h2⟩, h3⟩, h4⟩, h5⟩ := h
      obtain ⟨r1, a1, b1⟩ := chain_op (CT := CT) O h1
      obtain ⟨r2, a2, b2⟩ := chain_op (CT := CT) O h2
      exact PE.imp (pe_chain r1 r2 (sndE a _ O F T h3) (sndE b _ O F T h4) (sndE c _ O F T h5) (nomark' _ a2 b2)) fun σ H Q q => le_chain q
    · cases h
  | .sl e lo hi, _, _, _, _, x, O, F, T, h => by
    simp only [mE] at h
    split at h
    · simp only [Bool.and_eq_true] at h
      exact PE.imp (pe_slice sl_D (sndE e _ O F T h.1.1) (sndO lo _ O F T h.1.2) (sndO hi _ O F T h.2)) fun σ H Q q => le_sl q
    · cases h
  | .call f pm es ks, _, _, X, W, e, O, F, T, h => by
    simp only [mE] at h
    split at h
    · rename_i x px args kws pos
      simp only [Bool.and_eq_true, decide_eq_true_eq, List.any_eq_true] at h
      obtain ⟨⟨⟨⟨⟨h1, h2⟩, h3⟩, h4⟩, h5⟩, ⟨i, np, kn, pm'⟩, hq, ⟨⟨q1, q2⟩, q3⟩, q4⟩ := h
      simp only at q1 q2 q3 q4
      subst q1 q2 q4
      obtain ⟨g1, g2, _⟩ := gl_of O h2
      obtain ⟨fa, fd, ps, m1, m2, m3, m4⟩ := F.fns i x h1
      obtain ⟨l1, b1⟩ := m4 _ _ _ hq
      obtain ⟨e1, _⟩ := mEs_len es h4
      obtain ⟨e2, _⟩ := mEs_len ks h5
      have ek : ks.len = kn.length := by
        have := congrArg List.length q3
        simp only [List.length_map] at this e2
        omega
      refine PE.imp (pe_G m3 F.room O.hg T g1 m1 m2 l1 (ks := kn) (fun s us ws k1 k2 k3 => b1 s us ws k1 k2 k3) (sndEs es args O F T h4).1 ((sndEs ks _ O F T h5).2 kws rfl) h3 q3 g2
        (fun z σ H Q q => ?_) (fun σ H Q q => (la_len q).mono fun v H1 r => ⟨by rw [r.1, e1], r.2⟩) (fun σ H Q q => (la_len q).mono fun v H1 r => ⟨by rw [r.1, ek], r.2⟩)) fun σ H Q q => ?_
      · subst z
        cases es with
        | nil => exact la_nil q
        | cons a b => simp [CEs.len] at e1
      · obtain ⟨be, mu, rh, Qd, Ed, S, L, h, kq, kx⟩ := q
        simp only [wpE] at h
        refine ⟨be, mu, rh, _, Ed, S, L, h, fun ds mu1 be1 H1 vs x1 S1 d1 h1 => ⟨be1, mu1, rh, _, Ed, S1, L.mono x1, h1, fun es mu2 be2 H2 ws x2 S2 d2 h2 => ?_, kx.mono x1⟩, kx⟩
        obtain ⟨Q0, E0, a, b, c⟩ := h2
        exact ⟨be2, mu2, _, Q0, E0, S2, perm_is ((d1.mono x2).append d2) pm', a, fun d nu be' H' v x S' i q => (kq.mono (x1.trans x2)) d nu be' H' v x S' i (b d nu q), fun y nu be' H' c' d' x S' i q => (kx.mono (x1.trans x2)) y nu be' H' c' d' x S' i (c y nu q)⟩
    · cases h
  | .lc vs p it c e, sc0, sc, X, W, x, O, F, T, h => by
    simp only [mE] at h
    split at h
    · rename_i elt tg iter ifs scope pos
      simp only [Bool.and_eq_true] at h
      obtain ⟨⟨⟨⟨⟨⟨h1, h2⟩, h3⟩, h4⟩, h5⟩, h6⟩, h7⟩ := h
      have hv : ∀ i ∈ p.slots, i ∈ vs := fun i hi => by
        have := List.all_eq_true.mp h3 i hi
        simpa using this
      have bk : BlkOk X.N X.env.scope scope (ownOf n vs) := by rw [O.N, O.scp]; exact blkOk_by h1
      refine PE.imp (pe_lc (g := LP X.K p) (tt := LT G X.K CT (fun _ _ _ _ => False) c) (te := LE G X.K CT (fun _ _ _ _ => False) e) O.calm (by rw [O.N]; exact O.nd) (sndI it tg iter O F T h5) bk
        (fun s H C cl fp => sndP (O.blk h1 s H C cl fp) p tg h2) (fun s H C cl fp => ?_) (fun s H C cl fp => sndE e elt (O.blk h1 s H C cl fp) (F.blk s H scope C cl fp) takes0 h7) (fset_of h4)) fun σ H Q q => ?_
      · have O' := O.blk h1 s H C cl fp
        split at h6
        · refine PTs.imp pts_nil fun σ H Q q => ?_
          obtain ⟨be, mu, rh, Qd, Ed, S, L, h, kq, kx⟩ := q
          unfold isTrueC at h6
          split at h6
          · simp only [wpT, wpE, onB] at h
            exact kq true mu be H .refl S h
          · cases h6
        · exact pts_one (sndT c _ O' (F.blk s H scope C cl fp) takes0 h6)
        · cases h6
      · rw [ownOf_snd]
        exact le_lc hv q
    · cases h
  | .gc e, _, _, _, _, x, O, F, T, h => PE.imp (sndE e x O F T (by simpa only [mE] using h)) fun σ H Q q => le_gc q
theorem sndEs {n : Nm} {CT : Nat → Addr} {G : Ctx} {k : Nat} : ∀ (c : CEs) {sc0 sc : Scope} {X : Cx} {W : WX} (es : List Expr), XO n sc0 sc X → XF n G CT k X → Takes X W → mEs n c sc0 sc es = true → PA X es (LA G X.K CT W c) ∧ ∀ kws : List Keyword, kws.map (·.value) = es → PK X kws (LA G X.K CT W c)
  | .nil, _, _, _, _, es, O, F, T, h => by
    cases es <;> simp only [mEs] at h
    · refine ⟨PA.imp pa_nil fun σ H Q q => la_nil q, fun kws e => ?_⟩
      have : kws = [] := by simpa using e
      subst this
      exact PK.imp pk_nil fun σ H Q q => la_nil q
    · cases h
  | .cons e r, _, _, _, _, es, O, F, T, h => by
    cases es <;> simp only [mEs] at h
    · cases h
    · rename_i x xs
      simp only [Bool.and_eq_true] at h
      have a := sndE e x O F T h.1.2
      have b := sndEs r xs O F T h.2
      refine ⟨PA.imp (pa_cons a b.1 (star1 h.1.1 _ _)) fun σ H Q q => la_cons q, fun kws e => ?_⟩
      cases kws with
      | nil => simp at e
      | cons q kws =>
        obtain ⟨nm, v, kp⟩ := q
        simp only [List.map_cons, List.cons.injEq] at e
        obtain ⟨e1, e2⟩ := e
        subst e1
        exact PK.imp (pk_cons a (b.2 kws e2)) fun σ H Q q => la_cons q
theorem sndO {n : Nm} {CT : Nat → Addr} {G : Ctx} {k : Nat} : ∀ (c : CO) {sc0 sc : Scope} {X : Cx} {W : WX} (e : Option Expr), XO n sc0 sc X → XF n G CT k X → Takes X W → mO n c sc0 sc e = true → PO X e (LO G X.K CT W c)
  | .no, _, _, _, _, e, O, F, T, h => by
    cases e <;> simp only [mO] at h
    · exact PO.imp po_none fun σ H Q q => lo_no q
    · cases h
  | .some c, _, _, _, _, e, O, F, T, h => by
    cases e <;> simp only [mO] at h
    · cases h
    · exact PO.imp (po_some (sndE c _ O F T h)) fun σ H Q q => lo_some q
theorem sndI {n : Nm} {CT : Nat → Addr} {G : Ctx} {k : Nat} : ∀ (c : CI) {sc0 sc : Scope} {X : Cx} {W : WX} (tg e : Expr), XO n sc0 sc X → XF n G CT k X → Takes X W → mI n c sc0 sc tg e = true → PI X tg e (LI G X.K CT W c)
  | .seq c, _, _, _, _, tg, e, O, F, T, h => PI.imp (pi_seq (sndE c e O F T (by simpa only [mI] using h))) fun σ H Q q => li_seq q
  | .rng1 c, _, _, _, _, tg, e, O, F, T, h => by
    simp only [mI] at h
    split at h
    · rename_i f a pos
      simp only [Bool.and_eq_true] at h
      obtain ⟨p, rfl, hg, hm, hd, hn⟩ := blt_of O h.1.1
      refine PI.imp (pi_range1 hg hm (pa_cons (sndE c a O F T h.2) pa_nil (star1 h.1.2 _ _)) (star1 h.1.2 _ _)) fun σ H Q q => ?_
      exact (li_rng1 q).mono fun v H1 ⟨j, e, a, b, r⟩ => ⟨j, by rw [e], a, b, r⟩
    · cases h
  | .rng2 a b, _, _, _, _, tg, e, O, F, T, h => by
    simp only [mI] at h
    split at h
    · rename_i f y z pos
      simp only [Bool.and_eq_true] at h
      obtain ⟨p, rfl, hg, hm, hd, hn⟩ := blt_of O h.1.1.1.1
      refine PI.imp (pi_range2 hg hm (pa_cons (sndE a y O F T h.1.2) (pa_cons (sndE b z O F T h.2) pa_nil (star1 h.1.1.2 _ _)) (star1 h.1.1.1.2 _ _)) (by rw [star1 h.1.1.1.2, star1 h.1.1.2]; rfl) (star1 h.1.1.2 _ _)) fun σ H Q q => ?_
      exact (li_rng2 q).mono fun v H1 r => LE.mono r fun u H2 ⟨i, j, e1, e2, a, r⟩ => ⟨i, j, by rw [e1, e2], a, r⟩
    · cases h
  | .enum _, _, _, _, _, _, _, _, _, _, h => by simp only [mI] at h; cases h
  | .zip _ _, _, _, _, _, _, _, _, _, _, h => by simp only [mI] at h; cases h
theorem sndT {n : Nm} {CT : Nat → Addr} {G : Ctx} {k : Nat} : ∀ (c : CE) {sc0 sc : Scope} {X : Cx} {W : WX} (e : Expr), XO n sc0 sc X → XF n G CT k X → Takes X W → mE n c sc0 sc e = true → PT X e (LT G X.K CT W c)
  | .con d, _, _, _, _, e, O, _, _, h => by
    have p := sndCon (CT := CT) (G := G) (W := by assumption) O d e (by simpa only [mE] using h)
    simp only [mE] at h
    unfold mCon at h
    split at h
    · exact PT.imp (pt_val p) fun σ H Q q => lt_le q
    · exact PT.imp (pt_val p) fun σ H Q q => lt_le q
    · exact PT.imp (pt_val p) fun σ H Q q => lt_le q
    · exact PT.imp (pt_val p) fun σ H Q q => lt_le q
    · exact PT.imp (pt_val p) fun σ H Q q => lt_le q
    · cases h
  | .var i, _, _, _, _, e, O, F, T, h => by
    have p := sndE (.var i) e O F T h
    cases e <;> simp only [mE] at h <;> try (cases h)
    exact PT.imp (pt_val p) fun σ H Q q => lt_le q
  | .tup es, _, _, _, _, e, O, F, T, h => by
    have p := sndE (.tup es) e O F T h
    cases e <;> simp only [mE] at h <;> try (cases h)
    exact PT.imp (pt_val p) fun σ H Q q => lt_le q
  | .lst es, _, _, _, _, e, O, F, T, h => by
    have p := sndE (.lst es) e O F T h
    cases e <;> simp only [mE] at h <;> try (cases h)
    exact PT.imp (pt_val p) fun σ H Q q => lt_le q
  | .op1 o a, _, _, _, _, e, O, F, T, h => by
    simp only [mE] at h
    split at h
    · rename_i x hx
      exact snd1T O o hx (sndE a x O F T h)
    · cases h
  | .op2 o a b, _, _, _, _, e, O, F, T, h => by
    simp only [mE] at h
    split at h
    · rename_i x y hx
      rw [Bool.and_eq_true] at h
      exact snd2T O o hx (sndE a x O F T h.1) (sndE b y O F T h.2)
    · cases h
  | .cond t a b, _, _, _, _, e, O, F, T, h => by
    cases e <;> simp only [mE] at h <;> try (cases h)
    simp only [Bool.and_eq_true] at h
    exact PT.imp (pt_ifExp' (sndT t _ O F T h.1.1) (sndT a _ O F T h.1.2) (sndT b _ O F T h.2)) fun σ H Q q => lt_cond q
  | .and a b, _, _, _, _, e, O, F, T, h => by
    simp only [mE] at h
    split at h
    · rename_i x y r p
      rw [Bool.and_eq_true] at h
      obtain ⟨h1, h2⟩ := h
      split at h2
      · exact PT.imp (pw_and (sndT a x O F T h1) (pw_and1 (sndT b y O F T h2))).pt fun σ H Q q => lt_and q
      · exact PT.imp (pw_and (sndT a x O F T h1) (pw_of (sndT b _ O F T h2))).pt fun σ H Q q => lt_and q
    · cases h
  | .or a b, _, _, _, _, e, O, F, T, h => by
    simp only [mE] at h
    split at h
    · rename_i x y r p
      rw [Bool.and_eq_true] at h
      obtain ⟨h1, h2⟩ := h
      split at h2
      · exact PT.imp (pw_or (sndT a x O F T h1) (pw_or1 (sndT b y O F T h2))).pt fun σ H Q q => lt_or q
      · exact PT.imp (pw_or (sndT a x O F T h1) (pw_of (sndT b _ O F T h2))).pt fun σ H Q q => lt_or q
    · cases h
  | .not a, _, _, _, _, e, O, F, T, h => by
    simp only [mE] at h
    split at h
    · exact PT.imp (pt_not (sndT a _ O F T h)) fun σ H Q q => lt_not q
    · cases h
  | .chain o p a b c, _, _, _, _, e, O, F, T, h => by
    simp only [mE] at h
    split at h
    · simp only [Bool.and_eq_true, decide_eq_true_eq] at h
      obtain ⟨⟨⟨⟨h1, h2⟩, h3⟩, h4⟩, h5⟩ := h
      obtain ⟨r1, a1, b1⟩ := chain_op (CT := CT) O h1
      obtain ⟨r2, a2, b2⟩ := chain_op (CT := CT) O h2
      exact PT.imp (pt_chain r1 r2 (sndE a _ O F T h3) (sndE b _ O F T h4) (sndE c _ O F T h5) (nomark' _ a2 b2)) fun σ H Q q => chain_tt (lt_le q)
    · cases h
  | .sl e lo hi, _, _, _, _, x, O, F, T, h => by
    have p := sndE (.sl e lo hi) x O F T h
    simp only [mE] at h
    split at h
    · exact PT.imp (pt_val p) fun σ H Q q => lt_le q
    · cases h
  | .call f pm es ks, _, _, X, W, e, O, F, T, h => by
    have p := sndE (.call f pm es ks) e O F T h
    simp only [mE] at h
    split at h
    · exact PT.imp (pt_val p) fun σ H Q q => lt_le q
    · cases h
  | .lc vs p it c e, sc0, sc, X, W, x, O, F, T, h => by
    have q := sndE (.lc vs p it c e) x O F T h
    simp only [mE] at h
    split at h
    · exact PT.imp (pt_val q) fun σ H Q q => lt_le q
    · cases h
  | .gc e, _, _, _, _, x, O, F, T, h => PT.imp (sndT e x O F T (by simpa only [mE] using h)) fun σ H Q q => lt_gc q
end
end MP

/-! MP: statements: the core tree that matches is read as its wish says -/
namespace MP
open PySem PySem.Spec PyProof.Rows L2

/-- wishes behind a statement -/
structure KEnds (K : PySem.W.Frag) (CT : Nat → Addr) (H : Hp) (be : List Addr) (W : WX) (C : CEnds) (D : L2.Ends) : Prop where
  nx : ∀ rh nu be' H' sg', Ext H H' be be' → RepS K CT H' be' nu → RepL K H' be' rh sg' → C.nx rh nu → D.nx sg' H'
  rt : KQ K CT H be C.rt D.rt
  bk : ∀ rh nu be' H' sg', Ext H H' be be' → RepS K CT H' be' nu → RepL K H' be' rh sg' → C.bk rh nu → D.bk sg' H'
  ct : ∀ rh nu be' H' sg', Ext H H' be be' → RepS K CT H' be' nu → RepL K H' be' rh sg' → C.ct rh nu → D.ct sg' H'
  ex : ∀ x rh nu be' H' cls d sg', Ext H H' be be' → RepS K CT H' be' nu → RepL K H' be' rh sg' → IsX K CT H' be' x cls d → C.ex x rh nu → W cls d sg' H'
def LS (G : Ctx) (K : PySem.W.Frag) (CT : Nat → Addr) (W : WX) (c : CS) : TS := fun D sg H => ∃ be mu rh C, RepS K CT H be mu ∧ RepL K H be rh sg ∧ wpS G c C rh mu ∧ KEnds K CT H be W C D
def LSs (G : Ctx) (K : PySem.W.Frag) (CT : Nat → Addr) (W : WX) (c : CSs) : TS := fun D sg H => ∃ be mu rh C, RepS K CT H be mu ∧ RepL K H be rh sg ∧ wpSs G c C rh mu ∧ KEnds K CT H be W C D
section
variable {G : Ctx} {K : PySem.W.Frag} {CT : Nat → Addr} {W : WX} {sg : L2.St} {H H1 : Hp} {be be1 : List Addr} {C : CEnds} {De : L2.Ends}
theorem KEnds.mono (x : Ext H H1 be be1) (k : KEnds K CT H be W C De) : KEnds K CT H1 be1 W C De :=
  ⟨fun rh nu be' H' sg' y => k.nx rh nu be' H' sg' (x.trans y), k.rt.mono x, fun rh nu be' H' sg' y => k.bk rh nu be' H' sg' (x.trans y), fun rh nu be' H' sg' y => k.ct rh nu be' H' sg' (x.trans y), fun e rh nu be' H' c d sg' y => k.ex e rh nu be' H' c d sg' (x.trans y)⟩
theorem KEnds.kx {rh : Sl} (L : RepL K H be rh sg) (k : KEnds K CT H be W C De) : KX K CT H be (fun x nu => C.ex x rh nu) (fun c d => W c d sg) :=
  fun x nu be' H' c d y S i q => k.ex x rh nu be' H' c d sg y S (L.mono y) i q
theorem two_of {a b : D} {v w : V} (h : IsDs K H be [a, b] [v, w]) : IsD K H be a v ∧ IsD K H be b w := by
  obtain ⟨x, e, p⟩ := h.get (i := 0) rfl
  obtain ⟨y, e', q⟩ := h.get (i := 1) rfl
  cases e; cases e'
  exact ⟨p, q⟩
theorem three_of {a b c : D} {u v w : V} (h : IsDs K H be [a, b, c] [u, v, w]) : IsD K H be a u ∧ IsD K H be b v ∧ IsD K H be c w := by
  obtain ⟨x, e, p⟩ := h.get (i := 0) rfl
  obtain ⟨y, e', q⟩ := h.get (i := 1) rfl
  obtain ⟨z, e'', r⟩ := h.get (i := 2) rfl
  cases e; cases e'; cases e''
  exact ⟨p, q, r⟩
theorem lss_nil (h : LSs G K CT W .nil De sg H) : tNext De sg H := by
  obtain ⟨be, mu, rh, C, S, L, h, k⟩ := h
  exact k.nx rh mu be H sg .refl S L (by simpa only [wpSs] using h)
theorem lss_cons {s : CS} {r : CSs} (h : LSs G K CT W (.cons s r) De sg H) : tSeq (LS G K CT W s) (LSs G K CT W r) De sg H := by
  obtain ⟨be, mu, rh, C, S, L, h, k⟩ := h
  simp only [wpSs] at h
  exact ⟨be, mu, rh, { C with nx := wpSs G r C }, S, L, h, ⟨fun rh1 nu be' H' sg' y S1 L1 q => ⟨be', nu, rh1, C, S1, L1, q, k.mono y⟩, k.rt, k.bk, k.ct, k.ex⟩⟩
theorem ls_asg {p : CP} {e : CE} (h : LS G K CT W (.asg p e) De sg H) : tAsg (LE G K CT W e) (LP K p) De sg H := by
  obtain ⟨be, mu, rh, C, S, L, h, k⟩ := h
  simp only [wpS] at h
  refine ⟨be, mu, rh, _, _, S, L, h, fun d nu be1 H1 v x1 S1 i1 q => ?_, k.kx L⟩
  simp only [onP] at q
  split at q
  · rename_i rh1 e1
    exact ⟨be1, d, rh, rh1, i1, L.mono x1, e1, fun sg' L' _ => k.nx rh1 nu be1 H1 sg' x1 S1 L' q⟩
  · exact q.elim
/-- a name -/
theorem ls_name {i : Nat} {e : CE} (h : LS G K CT W (.asg (.name i) e) De sg H) : tAsg (LE G K CT W e) (gName i) De sg H := by
  obtain ⟨be, mu, rh, C, S, L, h, k⟩ := h
  simp only [wpS, onP, CP.bind] at h
  exact ⟨be, mu, rh, _, _, S, L, h, fun d nu be1 H1 v x1 S1 i1 q => k.nx _ nu be1 H1 _ x1 S1 ((L.mono x1).set i1) q, k.kx L⟩
theorem ls_par {i j : Nat} {es : CEs} (h : LS G K CT W (.asg (.tup [.name i, .name j]) (.tup es)) De sg H) : tPar i j (LA G K CT W es) De sg H := by
  obtain ⟨be, mu, rh, C, S, L, h, k⟩ := h
  simp only [wpS, wpE] at h
  refine ⟨be, mu, rh, _, _, S, L, h, fun ds nu be1 H1 vs x1 S1 i1 q => ?_, k.kx L⟩
  obtain ⟨_, q⟩ := q
  have Lm := L.mono x1
  match ds, vs, i1 with
  | [], _, _ => exact absurd q (by simp [onP, CP.bind, CP.binds])
  | [_], _, _ => exact absurd q (by simp [onP, CP.bind, CP.binds])
  | [a, b], [], i1 => have := i1.len; simp at this
  | [a, b], [_], i1 => have := i1.len; simp at this
  | [a, b], [v, w], i1 =>
    obtain ⟨a1, b1⟩ := two_of i1
    simp only [onP, CP.bind, CP.binds] at q
    exact ⟨v, w, rfl, k.nx _ nu be1 H1 _ x1 S1 ((Lm.set a1).set b1) q⟩
  | [a, b], _ :: _ :: _ :: _, i1 => have := i1.len; simp at this
  | _ :: _ :: _ :: _, _, _ => exact absurd q (by simp [onP, CP.bind, CP.binds])
theorem ls_par3 {i j l : Nat} {es : CEs} (h : LS G K CT W (.asg (.tup [.name i, .name j, .name l]) (.tup es)) De sg H) : tPar3 i j l (LA G K CT W es) De sg H := by
  obtain ⟨be, mu, rh, C, S, L, h, k⟩ := h
  simp only [wpS, wpE] at h
  refine ⟨be, mu, rh, _, _, S, L, h, fun ds nu be1 H1 vs x1 S1 i1 q => ?_, k.kx L⟩
  obtain ⟨_, q⟩ := q
  have Lm := L.mono x1
  have ln := i1.len
  match ds with
  | [] => exact absurd q (by simp [onP, CP.bind, CP.binds])
  | [_] => exact absurd q (by simp [onP, CP.bind, CP.binds])
  | [_, _] => exact absurd q (by simp [onP, CP.bind, CP.binds])
  | _ :: _ :: _ :: _ :: _ => exact absurd q (by simp [onP, CP.bind, CP.binds])
  | [a, b, c] =>
    obtain ⟨u, v, w, rfl⟩ : ∃ u v w, vs = [u, v, w] := by
      match vs, ln with
      | [u, v, w], _ => exact ⟨u, v, w, rfl⟩
    obtain ⟨a1, b1, c1⟩ := three_of i1
    simp only [onP, CP.bind, CP.binds] at q
    exact ⟨u, v, w, rfl, k.nx _ nu be1 H1 _ x1 S1 (((Lm.set a1).set b1).set c1) q⟩
theorem ls_setSub {o i e : CE} (h : LS G K CT W (.setSub o i e) De sg H) : tAsg (LE G K CT W e) (gSub (LE G K CT W o) (LE G K CT W i) rSetL) De sg H := by
  obtain ⟨be, mu, rh, C, S, L, h, k⟩ := h
  simp only [wpS] at h
  refine ⟨be, mu, rh, _, _, S, L, h, fun v mu1 be1 H1 vv x1 S1 d1 h1 => ⟨be1, mu1, rh, _, _, S1, L.mono x1, h1, fun od mu2 be2 H2 ov x2 S2 d2 h2 => ⟨be2, mu2, rh, _, _, S2, L.mono (x1.trans x2), h2, fun id mu3 be3 H3 iv x3 S3 d3 h3 => ?_, (k.mono (x1.trans x2)).kx (L.mono (x1.trans x2))⟩, (k.mono x1).kx (L.mono x1)⟩, k.kx L⟩
  simp only [wSet] at h3
  split at h3
  · rename_i m j
    obtain ⟨a, vs, xs, rfl, hb, hm, hv, hi, h3⟩ := lst_of S3 (d2.mono x3) h3
    simp only [IsD] at d3
    subst d3
    split at h3
    · rename_i t ht
      have ln := hi.len
      have z1 : Ext H3 (upd H3 a (.lst (vs.set t vv))) be3 be3 := .write hb hv rfl
      have z2 := S3.write (c := .lst (xs.set t v)) hb hv rfl ⟨vs.set t vv, upd_same, (hi.set t (d1.mono (x2.trans x3))).mono z1⟩
      exact ⟨a, vs, j, t, rfl, rfl, hv, by rw [← ln]; exact ht, k.nx rh _ be3 _ sg (((x1.trans x2).trans x3).trans z1) z2 (L.mono (((x1.trans x2).trans x3).trans z1)) h3⟩
    · exact h3.elim
  · exact h3.elim
theorem ls_aug {i : Nat} {o : O2} {f : Int → Int → Int} {e : CE} (hf : ∀ x y mu Q, wAug o x y mu Q → ∃ a b, x = .int a ∧ y = .int b ∧ Q (.int (f a b)) mu) (h : LS G K CT W (.augN i o e) De sg H) : tAug i (LE G K CT W e) (ipI f) De sg H := by
  obtain ⟨be, mu, rh, C, S, L, h, k⟩ := h
  simp only [wpS] at h
  split at h
  · rename_i x ex
    obtain ⟨v, e2, i2⟩ := L.at_ i x ex
    refine ⟨v, e2, be, mu, rh, _, _, S, L, h, fun y mu1 be1 H1 u x1 S1 d1 h1 => ?_, k.kx L⟩
    obtain ⟨a, b, rfl, rfl, q⟩ := hf _ _ _ _ h1
    simp only [IsD] at i2 d1
    exact ⟨a, b, i2, d1, k.nx _ mu1 be1 H1 _ x1 S1 ((L.mono x1).set (by simp only [IsD])) q⟩
  · exact h.elim
theorem ls_expr {e : CE} (h : LS G K CT W (.expr e) De sg H) : tDrop (LE G K CT W e) De sg H := by
  obtain ⟨be, mu, rh, C, S, L, h, k⟩ := h
  simp only [wpS] at h
  exact ⟨be, mu, rh, _, _, S, L, h, fun d nu be1 H1 v x1 S1 i1 q => k.nx _ nu be1 H1 _ x1 S1 (L.mono x1) q, k.kx L⟩
theorem ls_ret {e : CE} (h : LS G K CT W (.ret e) De sg H) : tRet (LE G K CT W e) De sg H := by
  obtain ⟨be, mu, rh, C, S, L, h, k⟩ := h
  simp only [wpS] at h
  exact ⟨be, mu, rh, _, _, S, L, h, fun d nu be1 H1 v x1 S1 i1 q => k.rt d nu be1 H1 v x1 S1 i1 q, k.kx L⟩
theorem ls_retN (h : LS G K CT W .retN De sg H) : tRetN De sg H := by
  obtain ⟨be, mu, rh, C, S, L, h, k⟩ := h
  simp only [wpS] at h
  exact k.rt.at_ S (by simp only [IsD]) h
theorem ls_pass (h : LS G K CT W .pass De sg H) : tNext De sg H := by
  obtain ⟨be, mu, rh, C, S, L, h, k⟩ := h
  simp only [wpS] at h
  exact k.nx rh mu be H sg .refl S L h
theorem ls_brk (h : LS G K CT W .brk De sg H) : tBreak De sg H := by
  obtain ⟨be, mu, rh, C, S, L, h, k⟩ := h
  simp only [wpS] at h
  exact k.bk rh mu be H sg .refl S L h
theorem ls_cont (h : LS G K CT W .cont De sg H) : tCont De sg H := by
  obtain ⟨be, mu, rh, C, S, L, h, k⟩ := h
  simp only [wpS] at h
  exact k.ct rh mu be H sg .refl S L h
theorem ls_ite {c : CE} {a b : CSs} (h : LS G K CT W (.ite c a b) De sg H) : tIfS (LT G K CT W c) (LSs G K CT W a) (LSs G K CT W b) De sg H := by
  obtain ⟨be, mu, rh, C, S, L, h, k⟩ := h
  simp only [wpS] at h
  refine ⟨be, mu, rh, _, _, S, L, h, fun t nu be1 H1 x1 S1 q => ?_, k.kx L⟩
  cases t with
  | true => exact ⟨be1, nu, rh, C, S1, L.mono x1, q, k.mono x1⟩
  | false => exact ⟨be1, nu, rh, C, S1, L.mono x1, q, k.mono x1⟩
theorem ls_while {c : CE} {b : CSs} (h : LS G K CT W (.while c b) De sg H) : tWhile (LT G K CT W c) (LSs G K CT W b) De sg H := by
  obtain ⟨be, mu, rh, C, S, L, h, k⟩ := h
  simp only [wpS] at h
  obtain ⟨n, h⟩ := h
  let Pw : Nat → L2.St → Hp → Prop := fun m sg1 H1 => ∃ be1 mu1 rh1, Ext H H1 be be1 ∧ RepS K CT H1 be1 mu1 ∧ RepL K H1 be1 rh1 sg1 ∧ whileGo (fun rh1 mu1 k => wpT G c (fun x nu => C.ex x rh1 nu) rh1 mu1 fun t mu2 => if t = true then wpSs G b { C with nx := k, ct := k, bk := C.nx } rh1 mu2 else C.nx rh1 mu2) m rh1 mu1
  refine ⟨Pw, ⟨n, be, mu, rh, .refl, S, L, h⟩, ?_⟩
  rintro m sg1 H1 ⟨be1, mu1, rh1, x1, S1, L1, h1⟩
  cases m with
  | zero => exact h1.elim
  | succ m =>
    refine ⟨be1, mu1, rh1, _, _, S1, L1, h1, fun t nu be2 H2 x2 S2 q => ?_, (k.mono x1).kx L1⟩
    cases t with
    | true =>
      rw [if_pos rfl] at q
      show if true = true then _ else _
      rw [if_pos rfl]
      refine ⟨Pw m, fun sg3 H3 q3 => ⟨m, Nat.lt_succ_self m, q3⟩, be2, nu, rh1, _, S2, L1.mono x2, q, ?_⟩
      have kk := k.mono (x1.trans x2)
      have nx : ∀ rh3 nu3 be3 H3 sg3, Ext H2 H3 be2 be3 → RepS K CT H3 be3 nu3 → RepL K H3 be3 rh3 sg3 → whileGo _ m rh3 nu3 → Pw m sg3 H3 := fun rh3 nu3 be3 H3 sg3 x3 S3 L3 q3 => ⟨be3, nu3, rh3, (x1.trans x2).trans x3, S3, L3, q3⟩
      exact ⟨nx, kk.rt, kk.nx, nx, kk.ex⟩
    | false => exact k.nx _ nu be2 H2 _ (x1.trans x2) S2 (L1.mono x2) q
theorem ls_for {p : CP} {it : CI} {b : CSs} (h : LS G K CT W (.for p it b) De sg H) : tFor (LI G K CT W it) (LP K p) (LSs G K CT W b) De sg H := by
  obtain ⟨be, mu, rh, C, S, L, h, k⟩ := h
  simp only [wpS] at h
  refine ⟨be, mu, rh, _, _, S, L, h, fun xs still mu1 be1 H1 J x1 S1 ij h1 => ?_, k.kx L⟩
  let turn : D → Sl → Store → (Sl → Store → Prop) → Prop := fun x rh1 mu2 k => onP p x rh1 fun rh2 => wpSs G b { C with nx := k, ct := k, bk := C.nx } rh2 mu2
  let Pw : Nat → Nat → L2.St → Hp → Prop := fun i m sg2 H2 => m = xs.length - i ∧ i ≤ xs.length ∧ ∃ be2 mu2 rh2, Ext H1 H2 be1 be2 ∧ RepS K CT H2 be2 mu2 ∧ RepL K H2 be2 rh2 sg2 ∧ forGo turn still C.nx (xs.drop i) rh2 mu2
  refine ⟨Pw, ⟨xs.length, rfl, Nat.zero_le _, be1, mu1, rh, .refl, S1, L.mono x1, by simpa using h1⟩, ?_⟩
  rintro i m sg2 H2 ⟨rfl, hi, be2, mu2, rh2, x2, S2, L2', go⟩
  by_cases hlt : i < xs.length
  · right
    rw [List.drop_eq_getElem_cons hlt] at go
    simp only [forGo] at go
    obtain ⟨st, go⟩ := go
    refine ⟨ij.go i H2 be2 mu2 x2 S2 st hlt, Pw (i + 1) (xs.length - (i + 1)), fun sg' H' w => ⟨_, by omega, w⟩, fun v H3 y => ?_⟩
    obtain ⟨x, ex, ix, x3, S3⟩ := ij.yld i H2 be2 mu2 v H3 x2 S2 st hlt y
    have ex' : xs[i] = x := by
      rw [List.getElem?_eq_getElem hlt] at ex
      exact Option.some.inj ex
    rw [ex'] at go
    have go' : onP p x rh2 fun rh3 => wpSs G b { C with nx := forGo turn still C.nx (xs.drop (i + 1)), ct := forGo turn still C.nx (xs.drop (i + 1)), bk := C.nx } rh3 mu2 := go
    unfold onP at go'
    split at go'
    · rename_i rh3 eb
      refine ⟨be2, x, rh2, rh3, ix, L2'.mono x3, eb, fun sg3 L3 _ => ⟨be2, mu2, rh3, _, S3, L3, go', ?_⟩⟩
      have kk := k.mono ((x1.trans x2).trans x3)
      have nx : ∀ rh4 nu4 be4 H4 sg4, Ext H3 H4 be2 be4 → RepS K CT H4 be4 nu4 → RepL K H4 be4 rh4 sg4 → forGo turn still C.nx (xs.drop (i + 1)) rh4 nu4 → Pw (i + 1) (xs.length - (i + 1)) sg4 H4 := fun rh4 nu4 be4 H4 sg4 x4 S4 L4 q4 => ⟨rfl, by omega, be4, nu4, rh4, (x2.trans x3).trans x4, S4, L4, q4⟩
      exact ⟨nx, kk.rt, kk.nx, nx, kk.ex⟩
    · exact go'.elim
  · left
    have e : i = xs.length := by omega
    subst e
    rw [List.drop_length] at go
    simp only [forGo] at go
    exact ⟨ij.stop H2 be2 mu2 x2 S2 go.1, k.nx _ _ be2 H2 _ (x1.trans x2) S2 L2' go.2⟩
end
end MP

/-! MP: statements: matching -/
namespace MP
open PySem PySem.Spec PyProof.Rows L2

def ncmp : Expr → Bool
  | .ListComp _ _ _ _ => false
  | .SetComp _ _ _ _ => false
  | .DictComp _ _ _ _ _ => false
  | _ => true
theorem sw_no {e : Expr} {t : Option Expr} {l : Nat} {env : Env} (h : ncmp e = true) : swapsWith e t l env = pure false := by
  cases e <;> first | rfl | cases h
theorem sw_sub {e o i : Expr} {p : Pos} {l : Nat} {env : Env} : swapsWith e (some (.Subscript o i p)) l env = pure false := by
  cases e <;> rfl
/-- which names are stored from the right; none: not known -/
def swB (sc : Scope) (ts vs : List Expr) : Option (Option (List Str)) :=
  if !(ts.length == 2 || ts.length == 3) || vs.length != ts.length then some none
  else if (vs.all nst) = false then some none
  else
    let line := (ts.head?.map (·.pos.line)).getD 0
    let names := ts.filterMap fun
      | .Name id pos => if sc.names.lookup id == some .local && pos.line == line then some id else none
      | _ => none
    if names.length != ts.length || names.eraseDups.length != names.length then some none
    else if vs.all (foldedForSure 8) then some none
    else if vs.all (constantsAlone 8) then none
    else some (some names)
theorem swB_ok {sc : Scope} {env : Env} {ts vs : List Expr} {k k2 : Nat} {p p2 : Pos} {r : Option (List Str)} (he : env.scope = sc) (hk : sc.kind = .function) (h : swB sc ts vs = some r) :
    swappedStores [.Tuple ts k p] (.Tuple vs k2 p2) env = pure r := by
  have hb : env.blockKind = .function := by unfold Env.blockKind; rw [he, hk]; rfl
  have ha : (vs.any fun | .Starred .. => true | _ => false) = !(vs.all nst) := by
    induction vs with
    | nil => rfl
    | cons v vs ih => 
      have : (vs.any fun | .Starred .. => true | _ => false) = !(vs.all nst) := by
        clear ih h
        induction vs with
        | nil => rfl
        | cons v vs ih => rw [List.any_cons, List.all_cons, ih]; cases v <;> simp [nst]
      rw [List.any_cons, List.all_cons, this]
      cases v <;> simp [nst]
  have hn : (fun (id : Str) => env.kindOf id) = fun id => sc.names.lookup id := by funext id; show env.scope.names.lookup id = _; rw [he]
  have hn' : ∀ id, env.kindOf id = sc.names.lookup id := fun id => congrFun hn id
  have hb2 : (env.blockKind != .function) = false := by rw [hb]; decide
  unfold swB at h
  unfold swappedStores
  simp only [ha, hn', hb2, Bool.or_false]
  split at h
  · rename_i c; cases h; rw [if_pos c]
  · rename_i c
    rw [if_neg c]
    split at h
    · rename_i c2; cases h; exact if_pos (ha.trans (by rw [c2]; rfl))
    · rename_i c2
      have c2' : vs.all nst = true := by simpa using c2
      refine (if_neg (fun z => ?_)).trans ?_
      · have := ha.symm.trans z
        rw [c2'] at this
        cases this
      dsimp only at h ⊢
      split at h
      · rename_i c3; cases h; exact if_pos c3
      · rename_i c3
        refine (if_neg c3).trans ?_
        split at h
        · rename_i c4; cases h; exact if_pos c4
        · rename_i c4
          refine (if_neg c4).trans ?_
          split at h
          · cases h
          · rename_i c5; cases h; exact if_neg c5

mutual
def mS (n : Nm) : CS → Scope → Scope → Stmt → Bool
  | .asg p e, s0, sc, st => match st with
    | .Assign [tg] v pos => mP n s0 p tg && mE n e s0 sc v && (match p, tg, v with
      | .name _, .Name y py, .ListComp _ _ scope vp => (match sc.names.lookup y with
        | some .local => py.line == vp.line && !(scope.names.any fun (m, k) => m == y && (k == .local || k == .cell))
        | _ => false)
      | .name _, _, v => ncmp v
      | .tup ps, .Tuple ts _ _, .Tuple vs _ _ => (match swB sc ts vs with
        | some none => true
        | some (some _) => (match e, ps with
          | .tup _, [.name i, .name j] => i != j
          | .tup _, [.name i, .name j, .name l] => i != j && i != l && j != l
          | _, _ => false)
        | none => false)
      | .tup _, _, .Tuple _ _ _ => false
      | .tup _, _, v => ncmp v)
    | _ => false
  | .setSub o i e, s0, sc, st => match st with
    | .Assign [.Subscript a b _] v _ => mE n o s0 sc a && mE n i s0 sc b && mE n e s0 sc v && nsl b
    | _ => false
  | .augN i o e, s0, sc, st => match st with
    | .AugAssign (.Name x _) op v _ => decide (n.N[i]? = some x) && locB s0 x && mE n e s0 sc v && (match o, op with
      | .add, .Add => true
      | .sub, .Sub => true
      | _, _ => false)
    | _ => false
  | .expr e, s0, sc, st => match st with
    | .Expr v _ => ncmp v && mE n e s0 sc v
    | _ => false
  | .ret e, s0, sc, st => match st with
    | .Return (some v) _ => mE n e s0 sc v
    | _ => false
  | .retN, _, _, st => match st with
    | .Return none _ => true
    | _ => false
  | .ite c a b, s0, sc, st => match st with
    | .If t x y _ => mE n c s0 sc t && mSs n a s0 sc x && mSs n b s0 sc y
    | _ => false
  | .for p it b, s0, sc, st => match st with
    | .For tg iter body [] _ => mP n s0 p tg && mI n it s0 sc tg iter && mSs n b s0 sc body && nset iter
    | _ => false
  | .while c b, s0, sc, st => match st with
    | .While t body [] _ => mE n c s0 sc t && mSs n b s0 sc body
    | _ => false
  | .pass, _, _, st => match st with
    | .Pass _ => true
    | .Expr (.Constant (.str _) _ _) _ => true
    | _ => false
  | .brk, _, _, st => match st with
    | .Break _ => true
    | _ => false
  | .cont, _, _, st => match st with
    | .Continue _ => true
    | _ => false
def mSs (n : Nm) : CSs → Scope → Scope → List Stmt → Bool
  | .nil, _, _, sts => match sts with
    | [] => true
    | _ => false
  | .cons s r, s0, sc, sts => match sts with
    | st :: rest => mS n s s0 sc st && mSs n r s0 sc rest
    | [] => false
end
section
variable {n : Nm} {sc0 sc : Scope} {X : Cx} {CT : Nat → Addr} {G : Ctx} {W : WX} {k : Nat}
theorem PS.imp {st : Stmt} {t u : TS} (h : PS X st t) (j : ∀ D σ H, u D σ H → t D σ H) : PS X st u := ⟨fun pins s σ H D I q => h.run pins s σ H D I (j _ _ _ q)⟩
theorem PSs.imp {st : List Stmt} {t u : TS} (h : PSs X st t) (j : ∀ D σ H, u D σ H → t D σ H) : PSs X st u := ⟨fun pins s σ H D I q => h.run pins s σ H D I (j _ _ _ q)⟩
/-- the parts of a comprehension -/
theorem lc_parts (O : XO n sc0 sc X) (F : XF n G CT k X) (T : Takes X W) {vs : List Nat} {p : CP} {it : CI} {c e : CE} {elt tg iter : Expr} {ifs : List Expr} {scope : Scope} {pos : Pos} (h : mE n (.lc vs p it c e) sc0 sc (.ListComp elt [⟨tg, iter, ifs, 0⟩] scope pos) = true) :
    (∀ i ∈ p.slots, i ∈ vs) ∧ PI X tg iter (LI G X.K CT W it) ∧ BlkOk X.N X.env.scope scope (ownOf n vs) ∧ (∀ (s : Shared) (H : Hp) (C : Addr) (cl : List (Str × Addr)) (fp : List Addr), PG (X.blk s H scope (compEnvC scope cl C X.env) fp) tg (LP X.K p)) ∧
    (∀ (s : Shared) (H : Hp) (C : Addr) (cl : List (Str × Addr)) (fp : List Addr), PTs (X.blk s H scope (compEnvC scope cl C X.env) fp) ifs (LT G X.K CT (fun _ _ _ _ => False) c)) ∧
    (∀ (s : Shared) (H : Hp) (C : Addr) (cl : List (Str × Addr)) (fp : List Addr), PE (X.blk s H scope (compEnvC scope cl C X.env) fp) elt (LE G X.K CT (fun _ _ _ _ => False) e)) ∧ (∀ x, foldedSetIterable iter X.env x = pure x) := by
  simp only [mE] at h
  simp only [Bool.and_eq_true] at h
  obtain ⟨⟨⟨⟨⟨⟨h1, h2⟩, h3⟩, h4⟩, h5⟩, h6⟩, h7⟩ := h
  have hv : ∀ i ∈ p.slots, i ∈ vs := fun i hi => by
    have := List.all_eq_true.mp h3 i hi
    simpa using this
  have bk : BlkOk X.N X.env.scope scope (ownOf n vs) := by rw [O.N, O.scp]; exact blkOk_by h1
  refine ⟨hv, sndI it tg iter O F T h5, bk, fun s H C cl fp => sndP (O.blk h1 s H C cl fp) p tg h2, fun s H C cl fp => ?_, fun s H C cl fp => sndE e elt (O.blk h1 s H C cl fp) (F.blk s H scope C cl fp) takes0 h7, fset_of h4⟩
  have O' := O.blk h1 s H C cl fp
  split at h6
  · refine PTs.imp pts_nil fun σ H Q q => ?_
    obtain ⟨be, mu, rh, Qd, Ed, S, L, h, kq, kx⟩ := q
    unfold isTrueC at h6
    split at h6
    · simp only [wpT, wpE, onB] at h
      exact kq true mu be H .refl S h
    · cases h6
  · exact pts_one (sndT c _ O' (F.blk s H scope C cl fp) takes0 h6)
  · cases h6
theorem aug_f : ∀ x y mu Q, wAug .add x y mu Q → ∃ a b, x = .int a ∧ y = .int b ∧ Q (.int (a + b)) mu := by
  intro x y mu Q h
  cases x <;> cases y <;> simp only [wAug] at h
  exact ⟨_, _, rfl, rfl, h⟩
theorem aug_g : ∀ x y mu Q, wAug .sub x y mu Q → ∃ a b, x = .int a ∧ y = .int b ∧ Q (.int (a - b)) mu := by
  intro x y mu Q h
  cases x <;> cases y <;> simp only [wAug] at h
  exact ⟨_, _, rfl, rfl, h⟩
theorem lc_any {K : PySem.W.Frag} : ∀ (e : CE) {elt : Expr} {gs : List Comprehension} {scope : Scope} {pos : Pos}, mE n e sc0 sc (.ListComp elt gs scope pos) = true →
    ∃ tg iter ifs vs p it c e', gs = [⟨tg, iter, ifs, 0⟩] ∧ mE n (.lc vs p it c e') sc0 sc (.ListComp elt gs scope pos) = true ∧ ∀ (sg : L2.St) (H : Hp) (Q : VK), LE G K CT W e sg H Q → LE G K CT W (.lc vs p it c e') sg H Q
  | .con _, _, _, _, _, h => by simp only [mE, mCon] at h; cases h
  | .var _, _, _, _, _, h => by simp only [mE] at h; cases h
  | .tup _, _, _, _, _, h => by simp only [mE] at h; cases h
  | .lst _, _, _, _, _, h => by simp only [mE] at h; cases h
  | .op1 o _, _, _, _, _, h => by
    simp only [mE] at h
    cases o <;> simp [sh1] at h
  | .op2 o _ _, _, _, _, _, h => by
    simp only [mE] at h
    cases o <;> simp [sh2] at h
  | .cond _ _ _, _, _, _, _, h => by simp only [mE] at h; cases h
  | .and _ _, _, _, _, _, h => by simp only [mE] at h; cases h
  | .or _ _, _, _, _, _, h => by simp only [mE] at h; cases h
  | .not _, _, _, _, _, h => by simp only [mE] at h; cases h
  | .chain _ _ _ _ _, _, _, _, _, h => by simp only [mE] at h; cases h
  | .sl _ _ _, _, _, _, _, h => by simp only [mE] at h; cases h
  | .call _ _ _ _, _, _, _, _, h => by simp only [mE] at h; cases h
  | .lc vs p it c e, _, gs, _, _, h => by
    have h0 := h
    simp only [mE] at h
    split at h
    · rename_i heq
      cases heq
      exact ⟨_, _, _, vs, p, it, c, e, rfl, h0, fun _ _ _ q => q⟩
    · cases h
  | .gc e, _, _, _, _, h => by
    obtain ⟨tg, iter, ifs, vs, p, it, c, e', h1, h2, h3⟩ := lc_any (K := K) e (by simpa only [mE] using h)
    exact ⟨tg, iter, ifs, vs, p, it, c, e', h1, h2, fun sg H Q q => h3 sg H Q (le_gc q)⟩
theorem asg_one {tg : Expr} {env : Env} (h : nst tg = true) : (assignEach [tg] env).map (·.2) = [assign tg env] := by rw [asg_cons h]; rfl
theorem sw_tup {ts vs : List Expr} {k k2 : Nat} {p p2 : Pos} {l : Nat} {env : Env} : swapsWithSole [.Tuple ts k p] (.Tuple vs k2 p2) l env = pure false := rfl
theorem mP_name {sc0 : Scope} {i : Nat} {e : Expr} (h : mP n sc0 (.name i) e = true) : ∃ x p, e = .Name x p ∧ n.N[i]? = some x ∧ locB sc0 x = true := by
  cases e <;> simp only [mP] at h <;> try (cases h)
  simp only [Bool.and_eq_true, decide_eq_true_eq] at h
  exact ⟨_, _, rfl, h.1, h.2⟩
theorem mP_tup {sc0 : Scope} {ps : List CP} {es : List Expr} {k : Nat} {q : Pos} (h : mP n sc0 (.tup ps) (.Tuple es k q) = true) : mPs n sc0 ps es = true := by simpa only [mP] using h
theorem mPs_cons {sc0 : Scope} {p : CP} {ps : List CP} {es : List Expr} (h : mPs n sc0 (p :: ps) es = true) : ∃ e r, es = e :: r ∧ mP n sc0 p e = true ∧ mPs n sc0 ps r = true := by
  cases es with
  | nil => simp only [mPs] at h; cases h
  | cons e r =>
    simp only [mPs] at h
    rw [Bool.and_eq_true] at h
    exact ⟨e, r, rfl, h.1, h.2⟩
theorem mPs_nil {sc0 : Scope} {es : List Expr} (h : mPs n sc0 [] es = true) : es = [] := by
  cases es with
  | nil => rfl
  | cons e r => simp only [mPs] at h; cases h
theorem sw_sole {v tg : Expr} {l : Nat} {env : Env} (h : ncmp v = true) : swapsWithSole [tg] v l env = pure false := sw_no h
theorem sw_nt {v tg : Expr} {env : Env} (h : (∀ ts k p, tg = .Tuple ts k p → False) ∨ ∀ vs k p, v = .Tuple vs k p → False) (hl : ∀ ts p, tg = .List ts p → False) : swappedStores [tg] v env = pure none := by
  cases tg <;> first | rfl | exact (hl _ _ rfl).elim | (cases v <;> first | rfl | (rcases h with h | h <;> exact (h _ _ _ rfl).elim))
theorem swB_len {sc : Scope} {ts vs : List Expr} {nms : List Str} (h : swB sc ts vs = some (some nms)) : (ts.length = 2 ∨ ts.length = 3) ∧ vs.length = ts.length ∧ nms.length = ts.length ∧ vs.all nst = true ∧
    nms = ts.filterMap fun
      | .Name id pos => if sc.names.lookup id == some .local && pos.line == (ts.head?.map (·.pos.line)).getD 0 then some id else none
      | _ => none := by
  unfold swB at h
  split at h
  · cases h
  · rename_i c1
    split at h
    · cases h
    · rename_i c2
      dsimp only at h
      split at h
      · cases h
      · rename_i c3
        split at h
        · cases h
        · split at h
          · cases h
          · cases h
            simp only [Bool.or_eq_true, not_or, bne_iff_ne, ne_eq, Classical.not_not] at c1 c3
            refine ⟨?_, c1.2, c3.1, by simpa using c2, rfl⟩
            have := c1.1
            by_cases e : ts.length = 2
            · exact .inl e
            · exact .inr ((by simpa using this : ¬ts.length = 2 → ts.length = 3) e)
theorem swB2 {sc : Scope} {x y : Str} {px py : Pos} {vs : List Expr} {nms : List Str} (h : swB sc [.Name x px, .Name y py] vs = some (some nms)) :
    nms = [x, y] ∧ sc.names.lookup x = some .local ∧ sc.names.lookup y = some .local ∧ vs.all nst = true ∧ ∃ a b, vs = [a, b] := by
  obtain ⟨_, h2, h3, h4, rfl⟩ := swB_len h
  refine ⟨?_, ?_, ?_, h4, ?_⟩
  all_goals first
    | (match vs, h2 with
        | [a, b], _ => exact ⟨a, b, rfl⟩)
    | (simp only [List.filterMap_cons, List.filterMap_nil] at h3 ⊢
       split at h3 <;> rename_i e1 <;> split at h3 <;> rename_i e2 <;> simp at h3
       split at e1 <;> cases e1
       split at e2 <;> cases e2
       rename_i k1 k2
       simp only [Bool.and_eq_true, beq_iff_eq] at k1 k2
       first
         | exact k1.1
         | exact k2.1
         | simp [k1, k2])
theorem swB3 {sc : Scope} {x y z : Str} {px py pz : Pos} {vs : List Expr} {nms : List Str} (h : swB sc [.Name x px, .Name y py, .Name z pz] vs = some (some nms)) :
    nms = [x, y, z] ∧ sc.names.lookup x = some .local ∧ sc.names.lookup y = some .local ∧ sc.names.lookup z = some .local ∧ vs.all nst = true ∧ ∃ a b c, vs = [a, b, c] := by
  obtain ⟨_, h2, h3, h4, rfl⟩ := swB_len h
  refine ⟨?_, ?_, ?_, ?_, h4, ?_⟩
  all_goals first
    | (match vs, h2 with
        | [a, b, c], _ => exact ⟨a, b, c, rfl⟩)
    | (simp only [List.filterMap_cons, List.filterMap_nil] at h3 ⊢
       split at h3 <;> rename_i e1 <;> split at h3 <;> rename_i e2 <;> split at h3 <;> rename_i e3 <;> simp at h3
       split at e1 <;> cases e1
       split at e2 <;> cases e2
       split at e3 <;> cases e3
       rename_i k1 k2 k3
       simp only [Bool.and_eq_true, beq_iff_eq] at k1 k2 k3
       first
         | exact k1.1
         | exact k2.1
         | exact k3.1
         | simp [k1, k2, k3])
theorem nst2 {a b : Expr} (h : [a, b].all nst = true) : nst a = true ∧ nst b = true := by simpa using h
theorem sndAsg (O : XO n sc0 sc X) (F : XF n G CT k X) (T : Takes X W) {p : CP} {e : CE} {st : Stmt} (h : mS n (.asg p e) sc0 sc st = true) : PS X st (LS G X.K CT W (.asg p e)) := by
  simp only [mS] at h
  split at h
  case h_2 => cases h
  rename_i tg v pos
  simp only [Bool.and_eq_true] at h
  obtain ⟨⟨h1, h2⟩, h3⟩ := h
  have hN : X.N.Nodup := by rw [O.N]; exact O.nd
  split at h3
  · -- a name, a comprehension
    rename_i i y py elt gs scope vp
    simp only [mP, Bool.and_eq_true, decide_eq_true_eq] at h1
    split at h3
    · rename_i hl
      simp only [Bool.and_eq_true, Bool.not_eq_true'] at h3
      obtain ⟨tg, iter, ifs, vs, p, it, c, e', rfl, m2, m3⟩ := lc_any (CT := CT) (G := G) (W := W) (K := X.K) e h2
      obtain ⟨a1, a2, a3, a4, a5, a6, a7⟩ := lc_parts O F T m2
      refine PS.imp (ps_setLc (i := i) O.calm hN (by rw [O.N]; exact h1.1) (by rw [O.scp]; exact hl) (sw_true (by rw [O.scp]; exact O.kind) (by rw [O.scp]; exact hl) h3.1 h3.2) a2 a3 a4 a5 a6 a7) fun D σ H q => ?_
      have q1 : LE G X.K CT W (.lc vs p it c e') σ H _ := m3 _ _ _ (ls_name q)
      show tLc _ _ _ _ _ _ _ _
      rw [ownOf_snd]
      exact le_lc a1 q1
    · cases h3
  · -- a name
    rename_i i hne
    have hc : ncmp v = true := h3
    exact PS.imp (ps_asg (sndE e v O F T h2) (sndP O _ tg h1) (sw_sole hc) (sw_nt (.inl fun ts k p z => by subst z; simp only [mP] at h1; cases h1) (fun ts p z => by subst z; simp only [mP] at h1; cases h1)) (asg_one (mP_nst h1))) fun D σ H q => ls_asg q
  · -- tuples
    rename_i ps ts kt pt vs kv pv
    split at h3
    · rename_i hs
      exact PS.imp (ps_asg (sndE e _ O F T h2) (sndP O (.tup ps) _ h1) rfl (swB_ok O.scp O.kind hs) (asg_one rfl)) fun D σ H q => ls_asg q
    · rename_i nms hs
      split at h3
      · rename_i es i j
        obtain ⟨a, r, rfl, h1a, h1⟩ := mPs_cons (mP_tup h1)
        obtain ⟨b, r, rfl, h1b, h1⟩ := mPs_cons h1
        cases mPs_nil h1
        obtain ⟨x, px, rfl, n1, k1⟩ := mP_name h1a
        obtain ⟨y, py, rfl, n2, k2⟩ := mP_name h1b
        obtain ⟨rfl, l1, l2, hn, u, w, rfl⟩ := swB2 hs
        simp only [mE] at h2
        exact PS.imp (ps_par O.calm hN (by rw [O.N]; exact n1) (by rw [O.N]; exact n2) (by simpa using h3) (by rw [O.scp]; exact l1) (by rw [O.scp]; exact l2) (sndEs es _ O F T h2).1 (swB_ok O.scp O.kind hs)) fun D σ H q => ls_par q
      · rename_i es i j l
        obtain ⟨a, r, rfl, h1a, h1⟩ := mPs_cons (mP_tup h1)
        obtain ⟨b, r, rfl, h1b, h1⟩ := mPs_cons h1
        obtain ⟨c, r, rfl, h1c, h1⟩ := mPs_cons h1
        cases mPs_nil h1
        obtain ⟨x, px, rfl, n1, k1⟩ := mP_name h1a
        obtain ⟨y, py, rfl, n2, k2⟩ := mP_name h1b
        obtain ⟨z, pz, rfl, n3, k3⟩ := mP_name h1c
        obtain ⟨rfl, l1, l2, l3, hn, u, w, t, rfl⟩ := swB3 hs
        simp only [mE] at h2
        simp only [Bool.and_eq_true, bne_iff_ne, ne_eq] at h3
        exact PS.imp (ps_par3 O.calm hN (by rw [O.N]; exact n1) (by rw [O.N]; exact n2) (by rw [O.N]; exact n3) h3.1.1 h3.1.2 h3.2 (by rw [O.scp]; exact l1) (by rw [O.scp]; exact l2) (by rw [O.scp]; exact l3) (sndEs es _ O F T h2).1 (swB_ok O.scp O.kind hs)) fun D σ H q => ls_par3 q
      · cases h3
    · cases h3
  · cases h3
  · rename_i ps hne hne2
    exact PS.imp (ps_asg (sndE e v O F T h2) (sndP O (.tup ps) tg h1) (sw_sole h3) (sw_nt (.inr fun vs k p z => by subst z; first | exact hne2 _ _ _ rfl | exact hne _ _ _ _ _ _ rfl rfl | exact hne _ _ _ rfl | exact hne2 rfl) (fun ts p z => by subst z; simp only [mP] at h1; cases h1)) (asg_one (mP_nst h1))) fun D σ H q => ls_asg q
theorem sw_subS {e o i : Expr} {p : Pos} {l : Nat} {env : Env} : swapsWithSole [.Subscript o i p] e l env = pure false := by
  show swapsWith e (some (.Subscript o i p)) l env = pure false
  exact sw_sub
theorem nsl_asg {o i : Expr} {pos : Pos} {env : Env} (h : nsl i = true) (v : Value) : assign (.Subscript o i pos) env v = (do
      let ov ← holding [v] (eval o env)
      let iv ← holding [v, ov] (eval i env)
      standAt pos
      holding [v, ov, iv] (setItem ov iv v)
      release [v, ov, iv] []) := by
  cases i <;> first | rfl | cases h
end
mutual
theorem sndS {n : Nm} {CT : Nat → Addr} {G : Ctx} {k : Nat} : ∀ (c : CS) {sc0 sc : Scope} {X : Cx} {W : WX} (st : Stmt), XO n sc0 sc X → XF n G CT k X → Takes X W → mS n c sc0 sc st = true → PS X st (LS G X.K CT W c)
  | .asg p e, _, _, _, _, st, O, F, T, h => sndAsg O F T h
  | .setSub o i e, _, _, _, _, st, O, F, T, h => by
    simp only [mS] at h
    split at h
    · simp only [Bool.and_eq_true] at h
      exact PS.imp (ps_asg (sndE e _ O F T h.1.2) (pg_sub (sndE o _ O F T h.1.1.1) (sndE i _ O F T h.1.1.2) set_list (nsl_asg h.2)) sw_subS (sw_nt (.inl fun _ _ _ z => by cases z) fun _ _ z => by cases z) rfl) fun D σ H q => ls_setSub q
    · cases h
  | .augN i o e, _, _, _, _, st, O, F, T, h => by
    simp only [mS] at h
    split at h
    · simp only [Bool.and_eq_true, decide_eq_true_eq] at h
      obtain ⟨⟨⟨h1, h2⟩, h3⟩, h4⟩ := h
      obtain ⟨l1, l2⟩ := O.loc _ h2
      have hN := O.nd
      rw [← O.N] at hN h1
      split at h4
      · exact PS.imp (ps_aug hN h1 (by rw [O.scp]; exact l1) (sndE e _ O F T h3) ip_add (by rw [O.scp]; exact l2)) fun D σ H q => ls_aug aug_f q
      · exact PS.imp (ps_aug hN h1 (by rw [O.scp]; exact l1) (sndE e _ O F T h3) ip_sub (by rw [O.scp]; exact l2)) fun D σ H q => ls_aug aug_g q
      · cases h4
    · cases h
  | .expr e, _, _, _, _, st, O, F, T, h => by
    simp only [mS] at h
    split at h
    · rw [Bool.and_eq_true] at h
      exact PS.imp (ps_expr (sndE e _ O F T h.2) (sw_no h.1)) fun D σ H q => ls_expr q
    · cases h
  | .ret e, _, _, _, _, st, O, F, T, h => by
    simp only [mS] at h
    split at h
    · exact PS.imp (ps_ret (sndE e _ O F T h)) fun D σ H q => ls_ret q
    · cases h
  | .retN, _, _, _, _, st, O, F, T, h => by
    simp only [mS] at h
    split at h
    · exact PS.imp ps_retN fun D σ H q => ls_retN q
    · cases h
  | .ite c a b, _, _, _, _, st, O, F, T, h => by
    simp only [mS] at h
    split at h
    · simp only [Bool.and_eq_true] at h
      exact PS.imp (ps_if (sndT c _ O F T h.1.1) (sndSs a _ O F T h.1.2) (sndSs b _ O F T h.2)) fun D σ H q => ls_ite q
    · cases h
  | .for p it b, _, _, _, _, st, O, F, T, h => by
    simp only [mS] at h
    split at h
    · simp only [Bool.and_eq_true] at h
      exact PS.imp (ps_for O.own O.calm (sndI it _ _ O F T h.1.1.2) (sndP O p _ h.1.1.1) (sndSs b _ O F T h.1.2) (fset_of h.2)) fun D σ H q => ls_for q
    · cases h
  | .while c b, _, _, _, _, st, O, F, T, h => by
    simp only [mS] at h
    split at h
    · simp only [Bool.and_eq_true] at h
      exact PS.imp (ps_while O.own (sndT c _ O F T h.1) (sndSs b _ O F T h.2)) fun D σ H q => ls_while q
    · cases h
  | .pass, _, _, _, _, st, O, F, T, h => by
    simp only [mS] at h
    split at h
    · exact PS.imp ps_pass fun D σ H q => ls_pass q
    · exact PS.imp ps_doc fun D σ H q => ls_pass q
    · cases h
  | .brk, _, _, _, _, st, O, F, T, h => by
    simp only [mS] at h
    split at h
    · exact PS.imp ps_break fun D σ H q => ls_brk q
    · cases h
  | .cont, _, _, _, _, st, O, F, T, h => by
    simp only [mS] at h
    split at h
    · exact PS.imp ps_continue fun D σ H q => ls_cont q
    · cases h
theorem sndSs {n : Nm} {CT : Nat → Addr} {G : Ctx} {k : Nat} : ∀ (c : CSs) {sc0 sc : Scope} {X : Cx} {W : WX} (sts : List Stmt), XO n sc0 sc X → XF n G CT k X → Takes X W → mSs n c sc0 sc sts = true → PSs X sts (LSs G X.K CT W c)
  | .nil, _, _, _, _, sts, O, F, T, h => by
    cases sts <;> simp only [mSs] at h
    · exact PSs.imp pss_nil fun D σ H q => lss_nil q
    · cases h
  | .cons s r, _, _, _, _, sts, O, F, T, h => by
    cases sts <;> simp only [mSs] at h
    · cases h
    · rw [Bool.and_eq_true] at h
      exact PSs.imp (pss_cons (sndS s _ O F T h.1) (sndSs r _ O F T h.2)) fun D σ H q => lss_cons q
end
end MP

/-! MP: a def by its core tree; the law's head -/
namespace MP
open PySem PySem.Spec PyProof.Rows L2

/-- the data at a def's entry -/
def startD (N : List Str) (ds : List D) : Sl := ds.map some ++ List.replicate (N.length - ds.length) none
/-- what a def's body is run for -/
def endsOf (Q : QD) (E : QX) : CEnds := { nx := fun _ nu => Q .non nu, rt := Q, bk := fun _ _ => False, ct := fun _ _ => False, ex := fun x _ nu => E x nu }
/-- the text's defs as a body's calls want them -/
def FnsOk (P : Program) (w : World) (K : PySem.W.Frag) (mg : Str → Option Value) (base : Heap) (n : Nm) (G : Ctx) (CT : Nat → Addr) (k : Nat) : Prop :=
  ∀ i x, n.fns[i]? = some x → ∃ f fd ps, mg x = some (.ref f) ∧ PySem.W.keepIn K (.ref f) = true ∧ FnG P w K mg base k f fd ps (liftF K CT (G.fn i)) ∧
    ∀ np ks pm, (i, np, ks, pm) ∈ n.kwp → pm.length = ps.length ∧ ∀ (s : Shared) (us ws : List Value), K.In s.heap → us.length = np → ws.length = ks.length → BindsTo s fd ⟨us, ks.zip ws⟩ (ps.zip (permU pm (us ++ ws)))
/-- what the module's names stand for -/
structure GlbOk (K : PySem.W.Frag) (mg : Str → Option Value) (n : Nm) : Prop where
  blt : ∀ x ∈ n.blts, mg x = none
  cons : ∀ p ∈ n.cons, ∃ u, mg p.1 = some u ∧ ∀ H be, ∃ v, L2.RelV v u ∧ IsD K H be p.2 v

section
variable {P : Program} {w : World} {K : PySem.W.Frag} {mg : Str → Option Value} {base : Heap} {k : Nat} {f : Addr} {fd : FuncData} {x : Str} {st : Stmt} {N ps : List Str} {n : Nm} {body : CSs} {G : Ctx} {CT : Nat → Addr} {sp : DSp}
theorem startL {H : Hp} {be : List Addr} {ds : List D} {vs : List V} (r : IsDs K H be ds vs) : RepL K H be (startD N ds) (L2.start N vs) := by
  have hl := r.len
  have hsl : (startD N ds).length = (L2.start N vs).length := by unfold startD L2.start; simp [hl]
  refine ⟨hsl, fun i d e => ?_⟩
  unfold startD at e
  unfold L2.start
  by_cases hi : i < ds.length
  · rw [List.getElem?_append_left (by simpa using hi), List.getElem?_map] at e
    rw [List.getElem?_append_left (by simpa [← hl] using hi), List.getElem?_map]
    cases ed : ds[i]? with
    | none => rw [ed] at e; cases e
    | some d' =>
      rw [ed] at e
      cases e
      obtain ⟨v, ev, q⟩ := r.get ed
      exact ⟨v, by rw [ev]; rfl, q⟩
  · rw [List.getElem?_append_right (by simpa using hi), List.getElem?_replicate] at e
    split at e <;> cases e
/-- a def keeps the promise that its core tree keeps -/
theorem fng_of (F : L2.Fun K x x st f fd) (hsc : FnScope N ps (defScope st)) (hN : n.N = N) (hm : mSs n body (defScope st) (defScope st) (defBody st) = true) (hF : FnsOk P w K mg base n G CT k) (hG : GlbOk K mg n)
    (hw : ∀ ds mu Q E, ds.length = ps.length → sp ds mu Q E → wpSs G body (endsOf Q E) (startD N ds) mu) : FnG P w K mg base (k + 1) f fd ps (liftF K CT sp) := by
  refine ⟨fun A outer s H args us vs Q E room grd en bnd rel len spec => ?_⟩
  obtain ⟨oc, od, kV, doc, pm, an, cdv, ct, osl, rfl, look, code⟩ := F.ex
  have same : ∀ b o, base.get? b = some o → s.heap.get? b = some o := fun b o e => (en.bs b o e).1
  have kin : K.In s.heap := en.mod.kin.keeps same
  have nolim : s.heap.NoLimit := en.mod.nolimit.keeps same
  have parts : ∀ y ∈ ps.zip us, (defScope st).names.lookup y.1 = some .local ∨ ((defScope st).names.lookup y.1 = some .cell ∧ ((cellsFrom (s.heap.objs.size + 1) (defScope st).names []).lookup y.1).isSome = true) := by
    rintro ⟨nm, u⟩ hy
    exact (hsc.par nm (List.of_mem_zip hy).1).imp id fun c => ⟨c, PySem.W.cellsFrom_some _ _ _ (.inl c)⟩
  refine codeAny_call_function room.depth (kin _ _ look) rfl hsc.co hsc.gen rfl (PySem.W.codeRec_of kin code) (bnd _ _ _ _ ?_)
  refine wpAny_newFunctionEnv_cells hsc.kind parts fun env eqn s1 inn => ?_
  cases eqn
  refine ⟨nolim.keeps inn.toInCall.keep, codeAny_func ?_⟩
  let X : Cx := cxOf (L2.CX P w) P w K mg base N x (defScope st) f cdv A outer s H E
  have I : Inv X [] (L2.start N vs) H s1 := inv_start hsc room.hd en len rel inn
  have rm : Room k X.A := room.deeper _
  have un := rm.un
  have O : XO n (defScope st) (defScope st) X := ⟨rfl, hN.symm, by rw [hN]; exact hsc.nd, rfl, by omega, grd, hG.blt, hG.cons, passes_of rfl, fun y hy => by
    unfold locB at hy
    split at hy
    · rename_i e; exact ⟨.inl e, .inr e⟩
    · rename_i e; exact ⟨.inr e, .inl rfl⟩
    · exact absurd hy Bool.false_ne_true, hsc.kind⟩
  have T : Takes X (fun cls d _ H' => E cls d H') := takes_of rfl rfl rfl rfl
  obtain ⟨be, mu, ds, Qd, Ed, S, ids, q, kq, kx⟩ := spec
  have run := sndSs (CT := CT) (G := G) body (defBody st) O ⟨rm, hF⟩ T hm
  refine wpAny_mono (run.run [] s1 (L2.start N vs) H { nx := fun _ H' => Q .non H', rt := Q } I ⟨be, mu, startD N ds, endsOf Qd Ed, S, startL ids, hw ds mu Qd Ed (by rw [ids.len]; exact len) q, ?_⟩) (fun fl s' r => ?_) fun e s' r => r
  · refine ⟨fun rh nu be' H' sg' y S' L' qn => ?_, kq, fun _ _ _ _ _ _ _ _ z => z.elim, fun _ _ _ _ _ _ _ _ z => z.elim, fun e rh nu be' H' cls d sg' y S' L' i qn => kx e nu be' H' cls d y S' i qn⟩
    exact kq .non nu be' H' .non y S' (by simp only [IsD]) qn
  · have out : ∀ {sg' : L2.St} {H' : Hp} {v : V} {u : Value}, Inv X [] sg' H' s' → L2.RelV v u → Q v H' → L2.CE outer P w H s Q u s' :=
      fun {_ H' v _} J rv z => ⟨v, H', J.os, J.bare, J.base, J.hok, rv, z⟩
    match fl, r with
    | .ret u, r => obtain ⟨v, _, _, J, rv, z⟩ := r; exact out J rv z
    | .next, r => obtain ⟨_, _, J, z⟩ := r; exact out (v := V.non) (u := Value.none) J rfl z
    | .brk, r => obtain ⟨_, _, _, z⟩ := r; exact z.elim
    | .cont, r => obtain ⟨_, _, _, z⟩ := r; exact z.elim
end
end MP

/-! MP: the law's head -/
namespace MP
open PySem PySem.Spec PyProof.Rows L2

/-- the law's promise over data: the script is a list of its0, the answer is True -/
def LawD (sp : DSp) (n : Nat) : Prop := ∀ ns : List Int, ns.length ≤ n → sp [.ro (ns.map D.int)] [] (fun d _ => d = .bl true) fun _ _ => False
theorem ints_rel {K : PySem.W.Frag} {H : Hp} {be : List Addr} : ∀ ns : List Int, IsDs K H be (ns.map D.int) (ns.map V.int)
  | [] => .nil
  | _ :: r => .cons (by simp only [IsD]) (ints_rel r)
section
variable {P : Program} {w : World} {K : PySem.W.Frag} {mg mb : Str → Option Value} {k : Nat} {fa a : Addr} {fd : FuncData} {x : Str} {sp : DSp} {CT : Nat → Addr} {st : Shared} {vs : List Value} {ns : List Int} {n : Nat}
/-- the end that the head wants -/
abbrev HeadEnd (st : Shared) : Result → Shared → Prop := fun r s' => r = .ok (.ret (.bool true)) ∧ OldK st.heap s'.heap ∧ s'.os = st.os ∧ AllBare s'.gens
theorem head_at (kin : K.In st.heap) (ng : st.heap.Ns mainGlobals mg) (nb : st.heap.Ns builtinsNs mb) (hbb : ∀ x : Str, x ≠ "__name__" → mb x = bootBuiltins x) (nl : st.heap.NoLimit) (hg : st.gens = #[]) (obj : st.heap.get? a = some { cls := .type "list", data := .seq vs.toArray })
    (room : Room k callerA) (F : ∀ base : Heap, K.In base → base.Ns mainGlobals mg → FnG P w K mg base k fa fd [x] (liftF K CT sp)) (bind : ∀ (s : Shared) (u : Value), BindsTo s fd ⟨[u], []⟩ [(x, u)]) (law : LawD sp n) (hn : ns.length ≤ n)
    {H : Hp} (hr : RoL K H a (ns.map V.int)) (ok : HOk P w H st.heap) (one : ∀ b, H b ≠ none → b = a ∧ ∃ o xs, H b = some (.frz o (.lst xs))) (kn : H a ≠ none → K.lookup a = none) : codeAny (model P w) callerA (.call (.ref fa) ⟨[.ref a], []⟩) (HeadEnd st) st := by
  have free : ∀ {b : Addr} {o : Obj}, st.heap.get? b = some o → (∀ its : Array Value, o.data ≠ .seq its 0) → H b = none := fun {b o} e d => by
    cases q : H b with
    | none => rfl
    | some u =>
      obtain ⟨rfl, _⟩ := one b (by rw [q]; exact Option.some_ne_none u)
      rw [obj] at e; cases e
      exact absurd rfl (d _)
  have keepN : ∀ {b : Addr} {m : Str → Option Value}, st.heap.Ns b m → (hidT st.heap H).Ns b m := fun ⟨o, es, ep, e, d, r⟩ => ⟨o, es, ep, hidT_get e (free e fun its z => by rw [d] at z; cases z), d, r⟩
  have kin' : K.In (hidT st.heap H) := fun b o e => hidT_get (kin b o e) (by
    by_cases q : H b = none
    · exact q
    · obtain ⟨rfl, _⟩ := one b q
      rw [kn q] at e; cases e)
  have md : Mod K mg (hidT st.heap H) := ⟨kin', keepN ng, ⟨mb, keepN nb, hbb⟩, let ⟨mc, p, q⟩ := nl; ⟨mc, keepN p, q⟩⟩
  have env : Env0 P w K mg (hidT st.heap H) callerA [] st H := ⟨rfl, md, fun _ _ e => of_hidT e, Nat.le_of_eq (hidT_size _ _), trivial, (fun _ z => absurd (show _ ∈ ([] : List Addr) from z) List.not_mem_nil), ok, .of_eq hg⟩
  have spec : liftF K CT sp [V.ref a] H (fun v _ => v = .bl true) fun _ _ _ => False := by
    refine ⟨[], [], [.ro (ns.map D.int)], _, _, ⟨rfl, fun m c e => by simp at e, List.nodup_nil⟩, .one ?_, law ns hn, fun d nu be' H' v _ _ i q => ?_, fun _ _ _ _ _ _ _ _ _ z => z⟩
    · simp only [IsD]
      exact ⟨a, _, rfl, hr, ints_rel ns⟩
    · subst q
      simpa only [IsD] using i
  refine codeAny_mono ((F _ kin' (keepN ng)).run callerA [] st H ⟨[.ref a], []⟩ [.ref a] [.ref a] _ _ room rfl env (bind st (.ref a)) (.cons rfl .nil) rfl spec) fun r s' h => ?_
  match r, h with
  | .error e, h =>
    obtain ⟨_, _, _, _, _, _, _, _, _, _, _, _, z⟩ := h
    exact z.elim
  | .ok .next, h => exact False.elim h
  | .ok .brk, h => exact False.elim h
  | .ok .cont, h => exact False.elim h
  | .ok (.ret u), h =>
    obtain ⟨v, H', os, bare, un, ok', rv, q⟩ := h
    cases (show v = .bl true from q)
    cases (show u = Value.bool true from rv)
    refine ⟨rfl, OldK.of_keep fun b o e => ?_, os, bare⟩
    by_cases q : H b = none
    · exact un.keep b o e q (fun z => absurd (show _ ∈ ([] : List Addr) from z) List.not_mem_nil) (by simp)
    · obtain ⟨_, ob, xs, z⟩ := one b q
      have p1 := (ok b _ z).1
      have p2 := (ok' b _ (un.frzs b ob _ z)).1
      exact p2.trans (p1.symm.trans e)
theorem head_call (kin : K.In st.heap) (ng : st.heap.Ns mainGlobals mg) (nb : st.heap.Ns builtinsNs mb) (hbb : ∀ x : Str, x ≠ "__name__" → mb x = bootBuiltins x) (nl : st.heap.NoLimit) (hg : st.gens = #[]) (obj : st.heap.get? a = some { cls := .type "list", data := .seq vs.toArray })
    (its0 : IntsAre vs ns) (small : ns.length ≤ sizeLine) (room : Room k callerA) (F : ∀ base : Heap, K.In base → base.Ns mainGlobals mg → FnG P w K mg base k fa fd [x] (liftF K CT sp)) (bind : ∀ (s : Shared) (u : Value), BindsTo s fd ⟨[u], []⟩ [(x, u)]) (law : LawD sp n) (hn : ns.length ≤ n) :
    codeAny (model P w) callerA (.call (.ref fa) ⟨[.ref a], []⟩) (HeadEnd st) st := by
  have rel := vals_ints its0
  have len := its0.length
  cases own : K.lookup a with
  | some o =>
    have e := kin a o own
    rw [obj] at e
    cases e
    exact head_at kin ng nb hbb nl hg obj room F bind law hn (H := fun _ => none) (.inr ⟨_, vs.toArray, _, own, rfl, rfl, rfl, by simpa [len] using small, by simpa using rel⟩) (fun b u z => nomatch (show (none : Option HO) = some u from z)) (fun b z => absurd rfl z) fun z => absurd rfl z
  | none =>
    let o : Obj := { cls := .type "list", data := .seq vs.toArray }
    have at_a : ∀ {b : Addr} {u : HO}, (if b = a then some (HO.frz o (.lst (ns.map V.int))) else none) = some u → b = a ∧ u = .frz o (.lst (ns.map V.int)) := fun {b u} z => by
      split at z
      · rename_i e; exact ⟨e, (Option.some.inj z).symm⟩
      · cases z
    refine head_at kin ng nb hbb nl hg obj room F bind law hn (H := fun b => if b = a then some (.frz o (.lst (ns.map V.int))) else none) (.inl ⟨o, if_pos rfl⟩) (fun b u z => ?_) (fun b z => ?_) fun _ => own
    · obtain ⟨rfl, rfl⟩ := at_a z
      exact ⟨obj, by rw [List.length_map]; exact small, vs, _, rel, obj⟩
    · cases q : (if b = a then some (HO.frz o (.lst (ns.map V.int))) else none) with
      | none => exact absurd q z
      | some u =>
        obtain ⟨rfl, rfl⟩ := at_a q
        exact ⟨rfl, o, _, rfl⟩
end
/-- what k_head leaves -/
theorem walk_law {l : PySem.W.OpenLaw} {n k : Nat} {q : Program} {loose : List Str} {XP : (Str → Option Value) → Heap → Prop} {YP : World → Heap → Prop} {d : DefRec} {K : Params → PySem.W.Frag} {sp : DSp} {x : Str} (hn : l.most = some n) (hn2 : n ≤ sizeLine) (hdf : d.params.defaults = []) (room : Room k callerA)
    (hY : ∀ (w : World) (h : Heap), YP w h → (K w.params).In h) (law : LawD sp n)
    (F : ∀ (w : World) (mg : Str → Option Value) (fa : Addr) (h : Heap), (K w.params).In h → h.Ns mainGlobals mg → mg d.name = some (.ref fa) →
      ∃ (fd : FuncData) (CT : Nat → Addr), (∀ (s : Shared) (u : Value), BindsTo s fd ⟨[u], []⟩ [(x, u)]) ∧ ∀ base : Heap, (K w.params).In base → base.Ns mainGlobals mg → FnG l.prog w (K w.params) mg base k fa fd [x] (liftF (K w.params) CT sp)) :
    PySem.W.WalkO q loose XP YP l.row.toRowW d [] (fun f vs => PySem.call f vs) := by
  refine Att.attach_call hn hdf fun w s₀ st mg mb fa o pm cd doc a vs ns gr yp ho hd hcd hmg obj its0 len hg => ?_
  have kin := hY w _ yp
  obtain ⟨fd, CT, bind, pr⟩ := F w mg fa _ kin gr.T.g hmg
  exact head_call kin gr.T.g gr.T.b gr.T.builtins gr.T.nolimit hg obj its0 (Nat.le_trans len hn2) room pr bind law len
end MP

/-! MP: rules for the plain side: loops by invariants, what stays of the store -/
namespace MP
open PySem PySem.Spec PyProof.Rows L2

theorem forGo_inv {turn : D → Sl → Store → (Sl → Store → Prop) → Prop} {still : Store → Prop} {fin : Sl → Store → Prop} (I : Nat → Sl → Store → Prop) {xs : List D} {rh : Sl} {mu : Store} (h0 : I 0 rh mu)
    (hst : ∀ i rh mu, I i rh mu → still mu) (hs : ∀ i x rh mu k, xs[i]? = some x → I i rh mu → (∀ rh' mu', I (i + 1) rh' mu' → k rh' mu') → turn x rh mu k) (hd : ∀ rh mu, I xs.length rh mu → fin rh mu) : forGo turn still fin xs rh mu := by
  have go : ∀ (n i : Nat) rh mu, xs.length = i + n → I i rh mu → forGo turn still fin (xs.drop i) rh mu := by
    intro n
    induction n with
    | zero =>
      intro i rh mu e p
      rw [List.drop_eq_nil_of_le (by omega)]
      simp only [forGo]
      have : i = xs.length := by omega
      exact ⟨hst _ _ _ p, hd _ _ (this ▸ p)⟩
    | succ n ih =>
      intro i rh mu e p
      have hi : i < xs.length := by omega
      rw [List.drop_eq_getElem_cons hi]
      simp only [forGo]
      exact ⟨hst _ _ _ p, hs i _ rh mu _ (List.getElem?_eq_getElem hi) p fun rh' mu' q => ih (i + 1) rh' mu' (by omega) q⟩
  simpa using go xs.length 0 rh mu (by omega) h0
theorem lcGo_inv {turn : D → Store → (Option D → Store → Prop) → Prop} {still : Store → Prop} {fin : List D → Store → Prop} (I : Nat → List D → Store → Prop) {xs : List D} {mu : Store} (h0 : I 0 [] mu)
    (hst : ∀ i acc mu, I i acc mu → still mu) (hs : ∀ i x acc mu k, xs[i]? = some x → I i acc mu → (∀ o mu', I (i + 1) (acc ++ o.toList) mu' → k o mu') → turn x mu k) (hd : ∀ acc mu, I xs.length acc mu → fin acc mu) : lcGo turn still fin xs [] mu := by
  have go : ∀ (n i : Nat) acc mu, xs.length = i + n → I i acc mu → lcGo turn still fin (xs.drop i) acc mu := by
    intro n
    induction n with
    | zero =>
      intro i acc mu e p
      rw [List.drop_eq_nil_of_le (by omega)]
      simp only [lcGo]
      have : i = xs.length := by omega
      exact ⟨hst _ _ _ p, hd _ _ (this ▸ p)⟩
    | succ n ih =>
      intro i acc mu e p
      have hi : i < xs.length := by omega
      rw [List.drop_eq_getElem_cons hi]
      simp only [lcGo]
      refine ⟨hst _ _ _ p, hs i _ acc mu _ (List.getElem?_eq_getElem hi) p fun o mu' q => ?_⟩
      cases o with
      | none => exact ih (i + 1) acc mu' (by omega) (by simpa using q)
      | some d => exact ih (i + 1) (acc ++ [d]) mu' (by omega) (by simpa using q)
  simpa using go xs.length 0 [] mu (by omega) h0
/-- a comprehension without effects: its items one by one -/
theorem lcGo_map {turn : D → Store → (Option D → Store → Prop) → Prop} {still : Store → Prop} {fin : List D → Store → Prop} (f : Nat → D) {xs : List D} {mu : Store} (hst : still mu)
    (hs : ∀ i x k, xs[i]? = some x → k (some (f i)) mu → turn x mu k) (hd : fin ((List.range xs.length).map f) mu) : lcGo turn still fin xs [] mu := by
  refine lcGo_inv (fun i acc nu => nu = mu ∧ acc = (List.range i).map f) ⟨rfl, rfl⟩ (fun i acc nu h => h.1 ▸ hst) (fun i x acc nu k e h hk => ?_) (fun acc nu h => ?_)
  · obtain ⟨rfl, rfl⟩ := h
    exact hs i x k e (hk _ _ ⟨rfl, by rw [List.range_succ, List.map_append]; rfl⟩)
  · obtain ⟨rfl, rfl⟩ := h
    exact hd

/-- all cells but h stay, further ones may stand behind -/
def Fr (h : Nat) (mu nu : Store) : Prop := mu.length ≤ nu.length ∧ ∀ n, n ≠ h → n < mu.length → nu[n]? = mu[n]?
theorem Fr.refl {h : Nat} {mu : Store} : Fr h mu mu := ⟨Nat.le_refl _, fun _ _ _ => rfl⟩
theorem Fr.trans {h : Nat} {mu nu xi : Store} (a : Fr h mu nu) (b : Fr h nu xi) : Fr h mu xi := ⟨Nat.le_trans a.1 b.1, fun n hn hl => (b.2 n hn (Nat.lt_of_lt_of_le hl a.1)).trans (a.2 n hn hl)⟩
theorem Fr.set {h : Nat} {mu : Store} {c : Cell} : Fr h mu (mu.set h c) := ⟨by rw [List.length_set]; exact Nat.le_refl _, fun n hn hl => List.getElem?_set_ne (Ne.symm hn)⟩
theorem Fr.app {h : Nat} {mu : Store} {l : List Cell} : Fr h mu (mu ++ l) := ⟨by rw [List.length_append]; omega, fun n hn hl => List.getElem?_append_left hl⟩
theorem Fr.at_ {h : Nat} {mu nu : Store} (a : Fr h mu nu) {n : Nat} {c : Cell} (hn : n ≠ h) (e : mu[n]? = some c) : nu[n]? = some c := by rw [a.2 n hn (List.getElem?_eq_some_iff.mp e).1]; exact e
/-- only further cells -/
def Gr (mu nu : Store) : Prop := mu <+: nu
theorem Gr.refl {mu : Store} : Gr mu mu := List.prefix_refl _
theorem Gr.trans {mu nu xi : Store} (a : Gr mu nu) (b : Gr nu xi) : Gr mu xi := List.IsPrefix.trans a b
theorem Gr.app {mu : Store} {l : List Cell} : Gr mu (mu ++ l) := List.prefix_append _ _
theorem Gr.at_ {mu nu : Store} (a : Gr mu nu) {n : Nat} {c : Cell} (e : mu[n]? = some c) : nu[n]? = some c := by
  obtain ⟨l, rfl⟩ := a
  rw [List.getElem?_append_left (List.getElem?_eq_some_iff.mp e).1]; exact e
theorem Gr.fr {h : Nat} {mu nu : Store} (a : Gr mu nu) : Fr h mu nu := by
  obtain ⟨l, rfl⟩ := a
  exact .app
theorem lstAt_of {mu : Store} {n : Nat} {xs : List D} {Q : List D → Prop} (h : mu[n]? = some (.lst xs)) : lstAt mu n Q = Q xs := by unfold lstAt; rw [h]
theorem lstAt_end {mu : Store} {xs : List D} {Q : List D → Prop} : lstAt (mu ++ [.lst xs]) mu.length Q = Q xs := lstAt_of (by simp)
theorem atI_nat' {α : Type} (xs : List α) (n : Nat) : atI xs (n : Int) = xs[n]? := by
  unfold atI ixN
  rw [if_pos (by omega)]
  by_cases h : n < xs.length
  · rw [if_pos (by omega)]; simp
  · rw [if_neg (by omega), List.getElem?_eq_none (by omega)]; rfl
theorem atI_0 {α : Type} (xs : List α) : atI xs 0 = xs[0]? := atI_nat' xs 0
theorem atI_1 {α : Type} (xs : List α) : atI xs 1 = xs[1]? := atI_nat' xs 1
theorem atI_2 {α : Type} (xs : List α) : atI xs 2 = xs[2]? := atI_nat' xs 2
theorem atI_3 {α : Type} (xs : List α) : atI xs 3 = xs[3]? := atI_nat' xs 3
theorem atI_4 {α : Type} (xs : List α) : atI xs 4 = xs[4]? := atI_nat' xs 4
theorem atI_5 {α : Type} (xs : List α) : atI xs 5 = xs[5]? := atI_nat' xs 5
theorem ixN_nat (n i : Nat) : ixN n (i : Int) = if i < n then some i else none := by
  unfold ixN
  rw [if_pos (by omega)]
  by_cases h : i < n
  · rw [if_pos (by omega), if_pos h]; simp
  · rw [if_neg (by omega), if_neg h]
theorem ixN_0 (n : Nat) : ixN n 0 = if 0 < n then some 0 else none := ixN_nat n 0
theorem ixN_1 (n : Nat) : ixN n 1 = if 1 < n then some 1 else none := ixN_nat n 1
theorem ixN_2 (n : Nat) : ixN n 2 = if 2 < n then some 2 else none := ixN_nat n 2
theorem atI_mem {α : Type} {xs : List α} {i : Int} (h0 : 0 ≤ i) (h1 : i < xs.length) : ∃ x, atI xs i = some x ∧ x ∈ xs ∧ xs[i.toNat]? = some x := by
  obtain ⟨n, rfl⟩ := Int.eq_ofNat_of_zero_le h0
  have hn : n < xs.length := by omega
  refine ⟨xs[n], ?_, List.getElem_mem hn, ?_⟩
  · rw [atI_nat', List.getElem?_eq_getElem hn]
  · simp [hn]
theorem onP_name {i : Nat} {d : D} {rh : Sl} {k : Sl → Prop} : onP (.name i) d rh k = k (rh.set i (some d)) := rfl
theorem onP_nil {rh : Sl} {k : Sl → Prop} : onP (.tup []) (.tup []) rh k = k rh := rfl
theorem onP_cons {p : CP} {ps : List CP} {x : D} {xs : List D} {rh : Sl} {k : Sl → Prop} : onP (.tup (p :: ps)) (.tup (x :: xs)) rh k = onP p x rh fun r => onP (.tup ps) (.tup xs) r k := by
  unfold onP
  show (match (match CP.bind p x rh with | some r => CP.binds ps xs r | none => none) with | some r => k r | none => False) = _
  cases CP.bind p x rh <;> rfl

/-! ### one statement at a time -/
def Nx (G : Ctx) (r : CSs) (C : CEnds) (rh : Sl) (mu : Store) : Prop := wpSs G r C rh mu
theorem nx_in {G : Ctx} {r : CSs} {C : CEnds} {rh : Sl} {mu : Store} (h : wpSs G r C rh mu) : Nx G r C rh mu := h
/-- a turn of a for, of a comprehension -/
def forT (G : Ctx) (p : CP) (b : CSs) (C : CEnds) (x : D) (rh : Sl) (mu : Store) (k : Sl → Store → Prop) : Prop := onP p x rh fun rh2 => Nx G b { C with nx := k, ct := k, bk := C.nx } rh2 mu
def lcT (G : Ctx) (p : CP) (c e : CE) (rh : Sl) (x : D) (mu : Store) (k : Option D → Store → Prop) : Prop :=
  onP p x rh fun rh1 => wpE G c (fun _ _ => False) rh1 mu fun y mu3 => onB y fun b => if b = true then wpE G e (fun _ _ => False) rh1 mu3 fun d mu4 => k (some d) mu4 else k none mu3
def whT (G : Ctx) (c : CE) (b : CSs) (C : CEnds) (rh : Sl) (mu : Store) (k : Sl → Store → Prop) : Prop := wpT G c (fun x nu => C.ex x rh nu) rh mu fun t mu2 => if t = true then Nx G b { C with nx := k, ct := k, bk := C.nx } rh mu2 else C.nx rh mu2
section
variable {G : Ctx} {C : CEnds} {rh : Sl} {mu : Store} {Q : QD} {E : QX}
theorem s_nil : wpSs G .nil C rh mu = C.nx rh mu := by simp only [wpSs]
theorem s_cons {s : CS} {r : CSs} : wpSs G (.cons s r) C rh mu = wpS G s { C with nx := Nx G r C } rh mu := by simp only [wpSs]; rfl
theorem s_asg {p : CP} {e : CE} : wpS G (.asg p e) C rh mu = wpE G e (fun x nu => C.ex x rh nu) rh mu fun d mu1 => onP p d rh fun rh1 => C.nx rh1 mu1 := by simp only [wpS]
theorem s_setSub {o i e : CE} : wpS G (.setSub o i e) C rh mu = wpE G e (fun x nu => C.ex x rh nu) rh mu fun v mu1 => wpE G o (fun x nu => C.ex x rh nu) rh mu1 fun od mu2 => wpE G i (fun x nu => C.ex x rh nu) rh mu2 fun id mu3 => wSet od id v mu3 fun mu4 => C.nx rh mu4 := by simp only [wpS]
theorem s_augN {i : Nat} {o : O2} {e : CE} : wpS G (.augN i o e) C rh mu = wpE G (.var i) (fun _ _ => False) rh mu fun x _ => wpE G e (fun x nu => C.ex x rh nu) rh mu fun y mu1 => wAug o x y mu1 fun z mu2 => C.nx (rh.set i (some z)) mu2 := by
  simp only [wpS, wpE]
theorem s_expr {e : CE} : wpS G (.expr e) C rh mu = wpE G e (fun x nu => C.ex x rh nu) rh mu fun _ mu1 => C.nx rh mu1 := by simp only [wpS]
theorem s_ret {e : CE} : wpS G (.ret e) C rh mu = wpE G e (fun x nu => C.ex x rh nu) rh mu fun d mu1 => C.rt d mu1 := by simp only [wpS]
theorem s_retN : wpS G .retN C rh mu = C.rt .non mu := by simp only [wpS]
theorem s_ite {c : CE} {a b : CSs} : wpS G (.ite c a b) C rh mu = wpE G c (fun x nu => C.ex x rh nu) rh mu fun x mu1 => onB x fun k => if k = true then Nx G a C rh mu1 else Nx G b C rh mu1 := by simp only [wpS, wpT]; rfl
theorem s_for {p : CP} {it : CI} {b : CSs} : wpS G (.for p it b) C rh mu = wpI G it (fun x nu => C.ex x rh nu) rh mu fun xs still mu1 => forGo (forT G p b C) still C.nx xs rh mu1 := by simp only [wpS]; rfl
theorem s_while {c : CE} {b : CSs} : wpS G (.while c b) C rh mu = ∃ n, whileGo (whT G c b C) n rh mu := by simp only [wpS]; rfl
theorem s_pass : wpS G .pass C rh mu = C.nx rh mu := by simp only [wpS]
theorem s_brk : wpS G .brk C rh mu = C.bk rh mu := by simp only [wpS]
theorem s_cont : wpS G .cont C rh mu = C.ct rh mu := by simp only [wpS]
theorem e_con {d : D} : wpE G (.con d) E rh mu Q = Q d mu := by simp only [wpE]
theorem e_var0 {d : D} : wpE G (.var 0) E (some d :: rh) mu Q = Q d mu := by simp only [wpE]; rfl
theorem e_varS {i : Nat} {x : Option D} : wpE G (.var (i + 1)) E (x :: rh) mu Q = wpE G (.var i) E rh mu Q := by simp only [wpE]; rfl
theorem e_tup {es : CEs} : wpE G (.tup es) E rh mu Q = wpEs G es E rh mu fun xs mu1 => sizeT xs.length ∧ Q (.tup xs) mu1 := by simp only [wpE]
theorem e_lst {es : CEs} : wpE G (.lst es) E rh mu Q = wpEs G es E rh mu fun xs mu1 => sizeT xs.length ∧ newLst xs mu1 Q := by simp only [wpE]
theorem e_op1 {o : O1} {a : CE} : wpE G (.op1 o a) E rh mu Q = wpE G a E rh mu fun x mu1 => w1 o x mu1 Q := by simp only [wpE]
theorem e_op2 {o : O2} {a b : CE} : wpE G (.op2 o a b) E rh mu Q = wpE G a E rh mu fun x mu1 => pre2 o x mu1 ∧ wpE G b E rh mu1 fun y mu2 => w2 o x y mu2 Q := by simp only [wpE]
theorem e_cond {t a b : CE} : wpE G (.cond t a b) E rh mu Q = wpE G t E rh mu fun x mu1 => onB x fun c => if c = true then wpE G a E rh mu1 Q else wpE G b E rh mu1 Q := by simp only [wpE]
theorem e_and {a b : CE} : wpE G (.and a b) E rh mu Q = wpE G a E rh mu fun x mu1 => onB x fun c => if c = true then wpE G b E rh mu1 Q else Q (.bl false) mu1 := by simp only [wpE]
theorem e_or {a b : CE} : wpE G (.or a b) E rh mu Q = wpE G a E rh mu fun x mu1 => onB x fun c => if c = true then Q (.bl true) mu1 else wpE G b E rh mu1 Q := by simp only [wpE]
theorem e_not {a : CE} : wpE G (.not a) E rh mu Q = wpE G a E rh mu fun x mu1 => onB x fun c => Q (.bl (!c)) mu1 := by simp only [wpE]
theorem e_chain {o p : O2} {a b c : CE} : wpE G (.chain o p a b c) E rh mu Q = wpE G a E rh mu fun x mu1 => wpE G b E rh mu1 fun y mu2 => w2 o x y mu2 fun z mu3 => onB z fun k => if k = true then wpE G c E rh mu3 fun u mu4 => w2 p y u mu4 Q else Q (.bl false) mu3 := by simp only [wpE]
theorem e_sl {e : CE} {lo hi : CO} : wpE G (.sl e lo hi) E rh mu Q = wpE G e E rh mu fun x mu1 => wpO G lo E rh mu1 fun l mu2 => wpO G hi E rh mu2 fun h mu3 => wSl x l h mu3 Q := by simp only [wpE]
/-- a call's end -/
def CallTo (G : Ctx) (f : Nat) (xs : List D) (mu : Store) (Q : QD) (E : QX) : Prop := ∃ (Q0 : QD) (E0 : QX), G.fn f xs mu Q0 E0 ∧ (∀ d nu, Q0 d nu → Q d nu) ∧ ∀ x nu, E0 x nu → E x nu
theorem e_call {f : Nat} {ps : List Nat} {es ks : CEs} : wpE G (.call f ps es ks) E rh mu Q = wpEs G es E rh mu fun xs mu1 => wpEs G ks E rh mu1 fun ys mu2 => CallTo G f (perm ps (xs ++ ys)) mu2 Q E := by simp only [wpE]; rfl
theorem e_lc {own : List Nat} {p : CP} {it : CI} {c e : CE} : wpE G (.lc own p it c e) E rh mu Q = wpI G it E rh mu fun xs still mu1 => lcGo (lcT G p c e (wipeD rh own)) still (fun acc mu2 => newLst acc mu2 Q) xs [] mu1 := by simp only [wpE]; rfl
theorem es_nil {R : List D → Store → Prop} : wpEs G .nil E rh mu R = R [] mu := by simp only [wpEs]
theorem es_cons {e : CE} {r : CEs} {R : List D → Store → Prop} : wpEs G (.cons e r) E rh mu R = wpE G e E rh mu fun x mu1 => wpEs G r E rh mu1 fun xs mu2 => R (x :: xs) mu2 := by simp only [wpEs]
theorem o_no {R : Option Int → Store → Prop} : wpO G .no E rh mu R = R none mu := by simp only [wpO]
theorem o_some {e : CE} {R : Option Int → Store → Prop} : wpO G (.some e) E rh mu R = wpE G e E rh mu fun x mu1 => onI x fun i => R (some i) mu1 := by simp only [wpO]
theorem call_to {f : Nat} {sp : DSp} {xs : List D} (g : G.fn f = sp) (h : sp xs mu Q E) : CallTo G f xs mu Q E := ⟨Q, E, g ▸ h, fun _ _ z => z, fun _ _ z => z⟩
end
def nones : Nat → Sl
  | 0 => []
  | n + 1 => none :: nones n
theorem startD_n (N : List Str) (ds : List D) : startD N ds = ds.map some ++ nones (N.length - ds.length) := by
  have : ∀ n, List.replicate n (none : Option D) = nones n := fun n => by
    induction n with
    | zero => rfl
    | succ n ih => rw [List.replicate_succ, ih]; rfl
  unfold startD
  rw [this]
theorem nx_nil {G : Ctx} {C : CEnds} {rh : Sl} {mu : Store} : Nx G .nil C rh mu = C.nx rh mu := by unfold Nx; exact s_nil
theorem onStr_map {ws : List Str} {k : List Str → Prop} : onStr (ws.map .str) k = k ws := by
  have : allStr (ws.map .str) = some ws := by
    induction ws with
    | nil => rfl
    | cons w r ih => rw [List.map_cons]; show (allStr _).map _ = _; rw [ih]; rfl
  unfold onStr
  rw [this]
theorem onBl_map {ws : List Bool} {k : List Bool → Prop} : onBl (ws.map .bl) k = k ws := by
  have : allBl (ws.map .bl) = some ws := by
    induction ws with
    | nil => rfl
    | cons w r ih => rw [List.map_cons]; show (allBl _).map _ = _; rw [ih]; rfl
  unfold onBl
  rw [this]
theorem onInt_map {ws : List Int} {k : List Int → Prop} : onInt (ws.map .int) k = k ws := by
  have : allInt (ws.map .int) = some ws := by
    induction ws with
    | nil => rfl
    | cons w r ih => rw [List.map_cons]; show (allInt _).map _ = _; rw [ih]; rfl
  unfold onInt
  rw [this]
theorem intsD_get {lo : Int} {n i : Nat} {x : D} (h : (intsD lo n)[i]? = some x) : i < n ∧ x = .int (lo + (i : Nat)) := by
  unfold intsD at h
  rw [List.getElem?_map] at h
  obtain ⟨p, ep, rfl⟩ := Option.map_eq_some_iff.mp h
  obtain ⟨hl, el⟩ := List.getElem?_eq_some_iff.mp ep
  rw [List.length_range] at hl
  rw [List.getElem_range] at el
  subst el
  exact ⟨hl, rfl⟩
theorem intsD_len {lo : Int} {n : Nat} : (intsD lo n).length = n := by unfold intsD; rw [List.length_map, List.length_range]
theorem nomem {α : Type} {p : α → Prop} : ∀ r ∈ ([] : List α), p r := fun _ z => absurd z List.not_mem_nil
/-- all cells stay -/
def Kp (mu nu : Store) : Prop := ∀ (n : Nat) (c : Cell), mu[n]? = some c → nu[n]? = some c
theorem Kp.refl {mu : Store} : Kp mu mu := fun _ _ h => h
theorem Kp.trans {mu nu xi : Store} (a : Kp mu nu) (b : Kp nu xi) : Kp mu xi := fun n c h => b n c (a n c h)
theorem Kp.app {mu : Store} {l : List Cell} : Kp mu (mu ++ l) := fun n c h => by rw [List.getElem?_append_left (List.getElem?_eq_some_iff.mp h).1]; exact h
theorem Kp.set {mu nu : Store} {m : Nat} {c : Cell} (a : Kp mu nu) (h : mu.length ≤ m) : Kp mu (nu.set m c) := fun n d e => by
  have := (List.getElem?_eq_some_iff.mp e).1
  rw [List.getElem?_set_ne (by omega)]
  exact a n d e
theorem Kp.len {mu nu : Store} (a : Kp mu nu) : mu.length ≤ nu.length := by
  by_cases h : mu.length = 0
  · omega
  · have hl : mu.length - 1 < mu.length := by omega
    have := (List.getElem?_eq_some_iff.mp (a (mu.length - 1) _ (List.getElem?_eq_getElem hl))).1
    omega
theorem Kp.fr {mu nu : Store} (h : Nat) (a : Kp mu nu) : Fr h mu nu := ⟨a.len, fun n _ hl => by rw [List.getElem?_eq_getElem hl]; exact a n _ (List.getElem?_eq_getElem hl)⟩
theorem at_end (mu : Store) (c : Cell) : (mu ++ [c])[mu.length]? = some c := by simp
end MP

/-! MP: the laws' draws -/
namespace MP
open PySem PySem.Spec PyProof.Rows L2
abbrev i_law_hand : Nat := 0
abbrev i_law_take : Nat := 1
abbrev i_law_of : Nat := 2
def c_law_hand : CSs := (.cons (.asg (.name 2) (.cond (.op2 .lt (.var 1) (.op1 .len (.var 0))) (.op2 .ix (.var 0) (.var 1)) (.op2 .add (.op2 .mul (.con (.int 9)) (.var 1)) (.con (.int 4))))) (.cons (.asg (.name 3) (.op2 .mul (.op2 .mul (.op2 .mul (.op2 .mul (.op2 .pow (.con (.int 10)) (.con (.int 60))) (.op2 .pow (.con (.int 10)) (.con (.int 60)))) (.op2 .pow (.con (.int 10)) (.con (.int 60)))) (.op2 .pow (.con (.int 10)) (.con (.int 60)))) (.op2 .pow (.con (.int 10)) (.con (.int 60))))) (.cons (.asg (.name 4) (.op2 .mul (.op2 .mod (.op1 .abs (.var 2)) (.var 3)) (.op1 .int (.op2 .ge (.op1 .abs (.var 2)) (.op2 .pow (.con (.int 10)) (.con (.int 18))))))) (.cons (.ret (.lst (.cons (.var 4) (.cons (.op2 .mod (.op2 .mul (.op2 .add (.op2 .add (.op2 .mod (.var 2) (.con (.int 2305843009213693951))) (.op2 .mul (.op2 .mul (.con (.int 104729)) (.var 1)) (.var 1))) (.con (.int 37))) (.con (.int 48271))) (.con (.int 2305843009213693921))) (.cons (.con (.int 0)) .nil))))) .nil))))
def c_law_take : CSs := (.cons (.ite (.op2 .gt (.op2 .ix (.var 0) (.con (.int 0))) (.con (.int 0))) (.cons (.asg (.name 2) (.op2 .mod (.op2 .ix (.var 0) (.con (.int 0))) (.var 1))) (.cons (.setSub (.var 0) (.con (.int 0)) (.op2 .fdiv (.op2 .ix (.var 0) (.con (.int 0))) (.var 1))) (.cons (.ret (.var 2)) .nil))) .nil) (.cons (.asg (.name 3) (.op2 .add (.op2 .ix (.var 0) (.con (.int 2))) (.con (.int 1)))) (.cons (.setSub (.var 0) (.con (.int 2)) (.var 3)) (.cons (.asg (.name 4) (.op2 .ix (.lst (.cons (.con (.int 2147483647)) (.cons (.con (.int 2147483629)) (.cons (.con (.int 2147483587)) (.cons (.con (.int 2147483579)) (.cons (.con (.int 2147483563)) (.cons (.con (.int 2147483549)) .nil))))))) (.op2 .mod (.var 3) (.con (.int 6))))) (.cons (.asg (.name 5) (.op2 .mod (.op2 .pow (.op2 .add (.op2 .add (.op2 .ix (.var 0) (.con (.int 1))) (.op2 .mul (.op2 .mul (.con (.int 65537)) (.var 3)) (.var 3))) (.op2 .mul (.con (.int 31)) (.var 3))) (.con (.int 3))) (.var 4))) (.cons (.ret (.op2 .mod (.op2 .fdiv (.op2 .mod (.op2 .mul (.var 5) (.op2 .add (.op2 .mod (.var 5) (.con (.int 10007))) (.op2 .mul (.con (.int 13)) (.var 3)))) (.con (.int 2305843009213693907))) (.con (.int 97))) (.var 1))) .nil))))))
def c_law_of : CSs := (.cons (.ret (.op2 .ix (.var 1) (.call i_law_take [0, 1] (.cons (.var 0) (.cons (.op1 .len (.var 1)) .nil)) .nil))) .nil)

theorem mulOk {i j : Int} (h : i.natAbs < 2 ^ 4000) (h2 : j.natAbs < 2 ^ 4000) : IntMulOk i j := by
  refine CMulW.ok ?_
  have g : ∀ n : Nat, n < 2 ^ 4000 → n.log2 < 4000 := fun n hn => by
    by_cases h0 : n = 0
    · subst h0; decide
    · exact (Nat.log2_lt h0).mpr hn
  have a := g _ h
  have b := g _ h2
  show _ + _ < _
  omega
theorem bits_le {i : Int} {k : Nat} (h : i.natAbs < 2 ^ k) : Builtin.Int.intBits i ≤ k := by
  unfold Builtin.Int.intBits
  split
  · omega
  · rename_i hz
    have : i.natAbs ≠ 0 := by simpa using hz
    have := (Nat.log2_lt this).mpr h
    omega
theorem mulR {i j : Int} (h : -(2 ^ 62) < j) (h2 : j < 2 ^ 62) : IntMulOk i j := .of_right (bits_le (by omega))
theorem mulL {i j : Int} (h : -(2 ^ 62) < i) (h2 : i < 2 ^ 62) : IntMulOk i j := .of_left (bits_le (by omega))
theorem len_pos {α : Type} {xs : List α} (h : xs ≠ []) : 0 < xs.length := by
  cases xs with
  | nil => exact absurd rfl h
  | cons a b => simp
theorem mulLit {i j : Int} (h : decide (i.natAbs.log2 + j.natAbs.log2 < 1000000) = true) : IntMulOk i j := CMulW.ok (show i.natAbs.log2 + j.natAbs.log2 < 1000000 from of_decide_eq_true h)
theorem bit_lo (c : Prop) [Decidable c] : -(2 ^ 62) < (if c then (1 : Int) else 0) := by split <;> decide
theorem bit_hi (c : Prop) [Decidable c] : (if c then (1 : Int) else 0) < 2 ^ 62 := by split <;> decide
theorem bit_nn (c : Prop) [Decidable c] : 0 ≤ (if c then (1 : Int) else 0) := by split <;> decide
theorem size_le {n : Nat} (h : n ≤ 2 ^ 19) : sizeT n := Nat.le_trans h (by decide)
theorem ite_pos_neg {c : Prop} [Decidable c] {A B : Prop} (a : c → A) (b : ¬ c → B) : if c then A else B := by
  split
  · exact a ‹_›
  · exact b ‹_›
/-- the hand: at most n draws more -/
def Hand (nu : Store) (h n : Nat) : Prop := ∃ x y t : Int, nu[h]? = some (.lst [.int x, .int y, .int t]) ∧ 0 ≤ x ∧ 0 ≤ y ∧ y < 2 ^ 61 ∧ 0 ≤ t ∧ t + n ≤ 2 ^ 40
def spTake : DSp := fun ds mu Q _ => ∃ h n m, ds = [.ref h, .int m] ∧ 0 < m ∧ m < 2 ^ 30 ∧ Hand mu h (n + 1) ∧ ∀ r nu, 0 ≤ r → r < m → Fr h mu nu → Hand nu h n → Q (.int r) nu
theorem w_take {G : Ctx} {ds : List D} {mu : Store} {Q : QD} {E : QX} (s : spTake ds mu Q E) : wpSs G c_law_take (endsOf Q E) (startD ["_law_hand_here", "_law_many", "_law_digit", "_law_turn", "_law_prime", "_law_mixed"] ds) mu := by
  obtain ⟨h, n, m, rfl, h0, h1, ⟨x, y, t, e, hx, hy, hy2, ht, ht2⟩, q⟩ := s
  have hl := (List.getElem?_eq_some_iff.mp e).1
  (try refine nx_in ?_); simp only [s_nil, nx_nil, s_cons, s_asg, s_setSub, s_augN, s_expr, s_ret, s_retN, s_ite, s_for, s_while, s_pass, s_brk, s_cont, e_con, e_var0, e_varS, e_tup, e_lst, e_op1, e_op2, e_cond, e_and, e_or, e_not, e_chain, e_sl, e_call, e_lc, es_nil, es_cons, o_no, o_some, wpI, onP_name, onP_nil, onP_cons, onB, onI, onStr_map, onBl_map, onInt_map, intsD_len, Int.toNat_natCast, endsOf, startD_n, nones, w1, w2, pre2, wSl, wSet, wAug, seqAt, listAt, itemAt, wSeq, newLst, wipeD, List.map_cons, List.map_nil, List.length_cons, List.length_nil, List.nil_append, List.cons_append, List.set_cons_zero, List.set_cons_succ, List.getElem?_cons_zero, List.getElem?_cons_succ, List.append_nil, perm, List.getD_cons_zero, List.getD_cons_succ, Nat.reduceAdd, Nat.reduceSub, true_and, and_true, if_true, if_false, Bool.false_eq_true, decide_eq_true_eq, D.isNon, lstAt_end, atI_0, atI_1, atI_2, atI_3, atI_4, atI_5, ixN_0, ixN_1, ixN_2, Nat.reduceLT, Nat.reduceLeDiff, Int.reduceLT, Int.reduceLE, Int.reduceToNat, Int.reducePow, Int.reduceMul, Bool.not_true, Bool.not_false, c_law_take, lstAt_of e]
  refine ite_pos_neg (fun c => ?_) fun c => ?_
  · (try refine nx_in ?_); simp only [s_nil, nx_nil, s_cons, s_asg, s_setSub, s_augN, s_expr, s_ret, s_retN, s_ite, s_for, s_while, s_pass, s_brk, s_cont, e_con, e_var0, e_varS, e_tup, e_lst, e_op1, e_op2, e_cond, e_and, e_or, e_not, e_chain, e_sl, e_call, e_lc, es_nil, es_cons, o_no, o_some, wpI, onP_name, onP_nil, onP_cons, onB, onI, onStr_map, onBl_map, onInt_map, intsD_len, Int.toNat_natCast, endsOf, startD_n, nones, w1, w2, pre2, wSl, wSet, wAug, seqAt, listAt, itemAt, wSeq, newLst, wipeD, List.map_cons, List.map_nil, List.length_cons, List.length_nil, List.nil_append, List.cons_append, List.set_cons_zero, List.set_cons_succ, List.getElem?_cons_zero, List.getElem?_cons_succ, List.append_nil, perm, List.getD_cons_zero, List.getD_cons_succ, Nat.reduceAdd, Nat.reduceSub, true_and, and_true, if_true, if_false, Bool.false_eq_true, decide_eq_true_eq, D.isNon, lstAt_end, atI_0, atI_1, atI_2, atI_3, atI_4, atI_5, ixN_0, ixN_1, ixN_2, Nat.reduceLT, Nat.reduceLeDiff, Int.reduceLT, Int.reduceLE, Int.reduceToNat, Int.reducePow, Int.reduceMul, Bool.not_true, Bool.not_false, lstAt_of e]
    refine ⟨h0, ?_⟩
    (try refine nx_in ?_); simp only [s_nil, nx_nil, s_cons, s_asg, s_setSub, s_augN, s_expr, s_ret, s_retN, s_ite, s_for, s_while, s_pass, s_brk, s_cont, e_con, e_var0, e_varS, e_tup, e_lst, e_op1, e_op2, e_cond, e_and, e_or, e_not, e_chain, e_sl, e_call, e_lc, es_nil, es_cons, o_no, o_some, wpI, onP_name, onP_nil, onP_cons, onB, onI, onStr_map, onBl_map, onInt_map, intsD_len, Int.toNat_natCast, endsOf, startD_n, nones, w1, w2, pre2, wSl, wSet, wAug, seqAt, listAt, itemAt, wSeq, newLst, wipeD, List.map_cons, List.map_nil, List.length_cons, List.length_nil, List.nil_append, List.cons_append, List.set_cons_zero, List.set_cons_succ, List.getElem?_cons_zero, List.getElem?_cons_succ, List.append_nil, perm, List.getD_cons_zero, List.getD_cons_succ, Nat.reduceAdd, Nat.reduceSub, true_and, and_true, if_true, if_false, Bool.false_eq_true, decide_eq_true_eq, D.isNon, lstAt_end, atI_0, atI_1, atI_2, atI_3, atI_4, atI_5, ixN_0, ixN_1, ixN_2, Nat.reduceLT, Nat.reduceLeDiff, Int.reduceLT, Int.reduceLE, Int.reduceToNat, Int.reducePow, Int.reduceMul, Bool.not_true, Bool.not_false, lstAt_of e]
    refine ⟨⟨h0, h1⟩, ?_⟩
    (try refine nx_in ?_); simp only [s_nil, nx_nil, s_cons, s_asg, s_setSub, s_augN, s_expr, s_ret, s_retN, s_ite, s_for, s_while, s_pass, s_brk, s_cont, e_con, e_var0, e_varS, e_tup, e_lst, e_op1, e_op2, e_cond, e_and, e_or, e_not, e_chain, e_sl, e_call, e_lc, es_nil, es_cons, o_no, o_some, wpI, onP_name, onP_nil, onP_cons, onB, onI, onStr_map, onBl_map, onInt_map, intsD_len, Int.toNat_natCast, endsOf, startD_n, nones, w1, w2, pre2, wSl, wSet, wAug, seqAt, listAt, itemAt, wSeq, newLst, wipeD, List.map_cons, List.map_nil, List.length_cons, List.length_nil, List.nil_append, List.cons_append, List.set_cons_zero, List.set_cons_succ, List.getElem?_cons_zero, List.getElem?_cons_succ, List.append_nil, perm, List.getD_cons_zero, List.getD_cons_succ, Nat.reduceAdd, Nat.reduceSub, true_and, and_true, if_true, if_false, Bool.false_eq_true, decide_eq_true_eq, D.isNon, lstAt_end, atI_0, atI_1, atI_2, atI_3, atI_4, atI_5, ixN_0, ixN_1, ixN_2, Nat.reduceLT, Nat.reduceLeDiff, Int.reduceLT, Int.reduceLE, Int.reduceToNat, Int.reducePow, Int.reduceMul, Bool.not_true, Bool.not_false]
    exact q _ _ (Int.emod_nonneg _ (by omega)) (Int.emod_lt_of_pos _ h0) .set ⟨x / m, y, t, by rw [List.getElem?_set_self hl], Int.ediv_nonneg hx (by omega), hy, hy2, ht, by omega⟩
  · (try refine nx_in ?_); simp only [s_nil, nx_nil, s_cons, s_asg, s_setSub, s_augN, s_expr, s_ret, s_retN, s_ite, s_for, s_while, s_pass, s_brk, s_cont, e_con, e_var0, e_varS, e_tup, e_lst, e_op1, e_op2, e_cond, e_and, e_or, e_not, e_chain, e_sl, e_call, e_lc, es_nil, es_cons, o_no, o_some, wpI, onP_name, onP_nil, onP_cons, onB, onI, onStr_map, onBl_map, onInt_map, intsD_len, Int.toNat_natCast, endsOf, startD_n, nones, w1, w2, pre2, wSl, wSet, wAug, seqAt, listAt, itemAt, wSeq, newLst, wipeD, List.map_cons, List.map_nil, List.length_cons, List.length_nil, List.nil_append, List.cons_append, List.set_cons_zero, List.set_cons_succ, List.getElem?_cons_zero, List.getElem?_cons_succ, List.append_nil, perm, List.getD_cons_zero, List.getD_cons_succ, Nat.reduceAdd, Nat.reduceSub, true_and, and_true, if_true, if_false, Bool.false_eq_true, decide_eq_true_eq, D.isNon, lstAt_end, atI_0, atI_1, atI_2, atI_3, atI_4, atI_5, ixN_0, ixN_1, ixN_2, Nat.reduceLT, Nat.reduceLeDiff, Int.reduceLT, Int.reduceLE, Int.reduceToNat, Int.reducePow, Int.reduceMul, Bool.not_true, Bool.not_false]
    (try refine nx_in ?_); simp only [s_nil, nx_nil, s_cons, s_asg, s_setSub, s_augN, s_expr, s_ret, s_retN, s_ite, s_for, s_while, s_pass, s_brk, s_cont, e_con, e_var0, e_varS, e_tup, e_lst, e_op1, e_op2, e_cond, e_and, e_or, e_not, e_chain, e_sl, e_call, e_lc, es_nil, es_cons, o_no, o_some, wpI, onP_name, onP_nil, onP_cons, onB, onI, onStr_map, onBl_map, onInt_map, intsD_len, Int.toNat_natCast, endsOf, startD_n, nones, w1, w2, pre2, wSl, wSet, wAug, seqAt, listAt, itemAt, wSeq, newLst, wipeD, List.map_cons, List.map_nil, List.length_cons, List.length_nil, List.nil_append, List.cons_append, List.set_cons_zero, List.set_cons_succ, List.getElem?_cons_zero, List.getElem?_cons_succ, List.append_nil, perm, List.getD_cons_zero, List.getD_cons_succ, Nat.reduceAdd, Nat.reduceSub, true_and, and_true, if_true, if_false, Bool.false_eq_true, decide_eq_true_eq, D.isNon, lstAt_end, atI_0, atI_1, atI_2, atI_3, atI_4, atI_5, ixN_0, ixN_1, ixN_2, Nat.reduceLT, Nat.reduceLeDiff, Int.reduceLT, Int.reduceLE, Int.reduceToNat, Int.reducePow, Int.reduceMul, Bool.not_true, Bool.not_false, lstAt_of e]
    (try refine nx_in ?_); simp only [s_nil, nx_nil, s_cons, s_asg, s_setSub, s_augN, s_expr, s_ret, s_retN, s_ite, s_for, s_while, s_pass, s_brk, s_cont, e_con, e_var0, e_varS, e_tup, e_lst, e_op1, e_op2, e_cond, e_and, e_or, e_not, e_chain, e_sl, e_call, e_lc, es_nil, es_cons, o_no, o_some, wpI, onP_name, onP_nil, onP_cons, onB, onI, onStr_map, onBl_map, onInt_map, intsD_len, Int.toNat_natCast, endsOf, startD_n, nones, w1, w2, pre2, wSl, wSet, wAug, seqAt, listAt, itemAt, wSeq, newLst, wipeD, List.map_cons, List.map_nil, List.length_cons, List.length_nil, List.nil_append, List.cons_append, List.set_cons_zero, List.set_cons_succ, List.getElem?_cons_zero, List.getElem?_cons_succ, List.append_nil, perm, List.getD_cons_zero, List.getD_cons_succ, Nat.reduceAdd, Nat.reduceSub, true_and, and_true, if_true, if_false, Bool.false_eq_true, decide_eq_true_eq, D.isNon, lstAt_end, atI_0, atI_1, atI_2, atI_3, atI_4, atI_5, ixN_0, ixN_1, ixN_2, Nat.reduceLT, Nat.reduceLeDiff, Int.reduceLT, Int.reduceLE, Int.reduceToNat, Int.reducePow, Int.reduceMul, Bool.not_true, Bool.not_false, lstAt_of e]
    (try refine nx_in ?_); simp only [s_nil, nx_nil, s_cons, s_asg, s_setSub, s_augN, s_expr, s_ret, s_retN, s_ite, s_for, s_while, s_pass, s_brk, s_cont, e_con, e_var0, e_varS, e_tup, e_lst, e_op1, e_op2, e_cond, e_and, e_or, e_not, e_chain, e_sl, e_call, e_lc, es_nil, es_cons, o_no, o_some, wpI, onP_name, onP_nil, onP_cons, onB, onI, onStr_map, onBl_map, onInt_map, intsD_len, Int.toNat_natCast, endsOf, startD_n, nones, w1, w2, pre2, wSl, wSet, wAug, seqAt, listAt, itemAt, wSeq, newLst, wipeD, List.map_cons, List.map_nil, List.length_cons, List.length_nil, List.nil_append, List.cons_append, List.set_cons_zero, List.set_cons_succ, List.getElem?_cons_zero, List.getElem?_cons_succ, List.append_nil, perm, List.getD_cons_zero, List.getD_cons_succ, Nat.reduceAdd, Nat.reduceSub, true_and, and_true, if_true, if_false, Bool.false_eq_true, decide_eq_true_eq, D.isNon, lstAt_end, atI_0, atI_1, atI_2, atI_3, atI_4, atI_5, ixN_0, ixN_1, ixN_2, Nat.reduceLT, Nat.reduceLeDiff, Int.reduceLT, Int.reduceLE, Int.reduceToNat, Int.reducePow, Int.reduceMul, Bool.not_true, Bool.not_false]
    obtain ⟨v, ev, hv, _⟩ := atI_mem (xs := [D.int 2147483647, D.int 2147483629, D.int 2147483587, D.int 2147483579, D.int 2147483563, D.int 2147483549]) (i := (t + 1) % 6) (Int.emod_nonneg _ (by omega)) (by show (t + 1) % 6 < 6; omega)
    obtain ⟨p, rfl, hp⟩ : ∃ p : Int, v = .int p ∧ 0 < p ∧ p < 2 ^ 31 := by
      simp only [List.mem_cons, List.not_mem_nil, or_false] at hv
      rcases hv with rfl | rfl | rfl | rfl | rfl | rfl <;> exact ⟨_, rfl, by decide, by decide⟩
    have e2 : (List.set mu h (Cell.lst [D.int x, D.int y, D.int (t + 1)]) ++ [Cell.lst [D.int 2147483647, D.int 2147483629, D.int 2147483587, D.int 2147483579, D.int 2147483563, D.int 2147483549]])[h]? = some (.lst [D.int x, D.int y, D.int (t + 1)]) := by
      rw [List.getElem?_append_left (by rw [List.length_set]; exact hl), List.getElem?_set_self hl]
    have sq : (t + 1) * (t + 1) ≤ 2 ^ 40 * 2 ^ 40 := Int.mul_le_mul (by omega) (by omega) (by omega) (by decide)
    have sq0 : 0 ≤ (t + 1) * (t + 1) := Int.mul_nonneg (by omega) (by omega)
    have e3 : 65537 * (t + 1) * (t + 1) = 65537 * ((t + 1) * (t + 1)) := Int.mul_assoc _ _ _
    have big : Builtin.Int.intBits (y + 65537 * (t + 1) * (t + 1) + 31 * (t + 1)) ≤ 200 := bits_le (by rw [e3]; omega)
    rw [ev]
    refine ⟨size_le (by decide), ?_⟩
    (try refine nx_in ?_); simp only [s_nil, nx_nil, s_cons, s_asg, s_setSub, s_augN, s_expr, s_ret, s_retN, s_ite, s_for, s_while, s_pass, s_brk, s_cont, e_con, e_var0, e_varS, e_tup, e_lst, e_op1, e_op2, e_cond, e_and, e_or, e_not, e_chain, e_sl, e_call, e_lc, es_nil, es_cons, o_no, o_some, wpI, onP_name, onP_nil, onP_cons, onB, onI, onStr_map, onBl_map, onInt_map, intsD_len, Int.toNat_natCast, endsOf, startD_n, nones, w1, w2, pre2, wSl, wSet, wAug, seqAt, listAt, itemAt, wSeq, newLst, wipeD, List.map_cons, List.map_nil, List.length_cons, List.length_nil, List.nil_append, List.cons_append, List.set_cons_zero, List.set_cons_succ, List.getElem?_cons_zero, List.getElem?_cons_succ, List.append_nil, perm, List.getD_cons_zero, List.getD_cons_succ, Nat.reduceAdd, Nat.reduceSub, true_and, and_true, if_true, if_false, Bool.false_eq_true, decide_eq_true_eq, D.isNon, lstAt_end, atI_0, atI_1, atI_2, atI_3, atI_4, atI_5, ixN_0, ixN_1, ixN_2, Nat.reduceLT, Nat.reduceLeDiff, Int.reduceLT, Int.reduceLE, Int.reduceToNat, Int.reducePow, Int.reduceMul, Bool.not_true, Bool.not_false, lstAt_of e2]
    refine ⟨mulL (by decide) (by decide), mulR (by omega) (by omega), mulL (by decide) (by decide), by omega, hp.1, ?_⟩
    (try refine nx_in ?_); simp only [s_nil, nx_nil, s_cons, s_asg, s_setSub, s_augN, s_expr, s_ret, s_retN, s_ite, s_for, s_while, s_pass, s_brk, s_cont, e_con, e_var0, e_varS, e_tup, e_lst, e_op1, e_op2, e_cond, e_and, e_or, e_not, e_chain, e_sl, e_call, e_lc, es_nil, es_cons, o_no, o_some, wpI, onP_name, onP_nil, onP_cons, onB, onI, onStr_map, onBl_map, onInt_map, intsD_len, Int.toNat_natCast, endsOf, startD_n, nones, w1, w2, pre2, wSl, wSet, wAug, seqAt, listAt, itemAt, wSeq, newLst, wipeD, List.map_cons, List.map_nil, List.length_cons, List.length_nil, List.nil_append, List.cons_append, List.set_cons_zero, List.set_cons_succ, List.getElem?_cons_zero, List.getElem?_cons_succ, List.append_nil, perm, List.getD_cons_zero, List.getD_cons_succ, Nat.reduceAdd, Nat.reduceSub, true_and, and_true, if_true, if_false, Bool.false_eq_true, decide_eq_true_eq, D.isNon, lstAt_end, atI_0, atI_1, atI_2, atI_3, atI_4, atI_5, ixN_0, ixN_1, ixN_2, Nat.reduceLT, Nat.reduceLeDiff, Int.reduceLT, Int.reduceLE, Int.reduceToNat, Int.reducePow, Int.reduceMul, Bool.not_true, Bool.not_false]
    refine ⟨mulL (by decide) (by decide), ?_, h0, ?_⟩
    · have a1 := Int.emod_nonneg ((y + 65537 * (t + 1) * (t + 1) + 31 * (t + 1)) ^ 3 % p) (show (10007 : Int) ≠ 0 by decide)
      have a2 := Int.emod_lt_of_pos ((y + 65537 * (t + 1) * (t + 1) + 31 * (t + 1)) ^ 3 % p) (show (0 : Int) < 10007 by decide)
      exact mulR (by omega) (by omega)
    · refine q _ _ (Int.emod_nonneg _ (by omega)) (Int.emod_lt_of_pos _ h0) (Fr.set.trans .app) ⟨x, y, t + 1, e2, hx, hy, hy2, by omega, by omega⟩
def spOf : DSp := fun ds mu Q _ => ∃ h n d, ds = [.ref h, d] ∧ Hand mu h (n + 1) ∧
  ((∃ xs, (d = .tup xs ∨ ∃ m, m ≠ h ∧ d = .ref m ∧ mu[m]? = some (.lst xs)) ∧ xs ≠ [] ∧ xs.length < 2 ^ 30 ∧ ∀ r nu, r ∈ xs → Fr h mu nu → Hand nu h n → Q r nu) ∨
   ∃ z : Str, d = .str z ∧ z.cps.toList ≠ [] ∧ z.length < 2 ^ 19 ∧ ∀ c nu, c ∈ z.cps.toList → Fr h mu nu → Hand nu h n → Q (.str ⟨#[c]⟩) nu)
theorem w_of {G : Ctx} (g : G.fn i_law_take = spTake) {ds : List D} {mu : Store} {Q : QD} {E : QX} (s : spOf ds mu Q E) : wpSs G c_law_of (endsOf Q E) (startD ["_law_hand_here", "_law_some"] ds) mu := by
  obtain ⟨h, n, d, rfl, hh, s⟩ := s
  rcases s with ⟨xs, hd, h0, h1, q⟩ | ⟨z, rfl, h0, h1, q⟩
  · have pos : 0 < xs.length := len_pos h0
    rcases hd with rfl | ⟨m, hm, rfl, e⟩
    · (try refine nx_in ?_); simp only [s_nil, nx_nil, s_cons, s_asg, s_setSub, s_augN, s_expr, s_ret, s_retN, s_ite, s_for, s_while, s_pass, s_brk, s_cont, e_con, e_var0, e_varS, e_tup, e_lst, e_op1, e_op2, e_cond, e_and, e_or, e_not, e_chain, e_sl, e_call, e_lc, es_nil, es_cons, o_no, o_some, wpI, onP_name, onP_nil, onP_cons, onB, onI, onStr_map, onBl_map, onInt_map, intsD_len, Int.toNat_natCast, endsOf, startD_n, nones, w1, w2, pre2, wSl, wSet, wAug, seqAt, listAt, itemAt, wSeq, newLst, wipeD, List.map_cons, List.map_nil, List.length_cons, List.length_nil, List.nil_append, List.cons_append, List.set_cons_zero, List.set_cons_succ, List.getElem?_cons_zero, List.getElem?_cons_succ, List.append_nil, perm, List.getD_cons_zero, List.getD_cons_succ, Nat.reduceAdd, Nat.reduceSub, true_and, and_true, if_true, if_false, Bool.false_eq_true, decide_eq_true_eq, D.isNon, lstAt_end, atI_0, atI_1, atI_2, atI_3, atI_4, atI_5, ixN_0, ixN_1, ixN_2, Nat.reduceLT, Nat.reduceLeDiff, Int.reduceLT, Int.reduceLE, Int.reduceToNat, Int.reducePow, Int.reduceMul, Bool.not_true, Bool.not_false, c_law_of]
      refine call_to g ?_
      refine ⟨h, n, (xs.length : Int), rfl, by omega, by omega, hh, fun r nu a b f k => ?_⟩
      obtain ⟨v, ev, hv, _⟩ := atI_mem (xs := xs) a b
      (try refine nx_in ?_); simp only [s_nil, nx_nil, s_cons, s_asg, s_setSub, s_augN, s_expr, s_ret, s_retN, s_ite, s_for, s_while, s_pass, s_brk, s_cont, e_con, e_var0, e_varS, e_tup, e_lst, e_op1, e_op2, e_cond, e_and, e_or, e_not, e_chain, e_sl, e_call, e_lc, es_nil, es_cons, o_no, o_some, wpI, onP_name, onP_nil, onP_cons, onB, onI, onStr_map, onBl_map, onInt_map, intsD_len, Int.toNat_natCast, endsOf, startD_n, nones, w1, w2, pre2, wSl, wSet, wAug, seqAt, listAt, itemAt, wSeq, newLst, wipeD, List.map_cons, List.map_nil, List.length_cons, List.length_nil, List.nil_append, List.cons_append, List.set_cons_zero, List.set_cons_succ, List.getElem?_cons_zero, List.getElem?_cons_succ, List.append_nil, perm, List.getD_cons_zero, List.getD_cons_succ, Nat.reduceAdd, Nat.reduceSub, true_and, and_true, if_true, if_false, Bool.false_eq_true, decide_eq_true_eq, D.isNon, lstAt_end, atI_0, atI_1, atI_2, atI_3, atI_4, atI_5, ixN_0, ixN_1, ixN_2, Nat.reduceLT, Nat.reduceLeDiff, Int.reduceLT, Int.reduceLE, Int.reduceToNat, Int.reducePow, Int.reduceMul, Bool.not_true, Bool.not_false, ev]
      exact q v nu hv f k
    · (try refine nx_in ?_); simp only [s_nil, nx_nil, s_cons, s_asg, s_setSub, s_augN, s_expr, s_ret, s_retN, s_ite, s_for, s_while, s_pass, s_brk, s_cont, e_con, e_var0, e_varS, e_tup, e_lst, e_op1, e_op2, e_cond, e_and, e_or, e_not, e_chain, e_sl, e_call, e_lc, es_nil, es_cons, o_no, o_some, wpI, onP_name, onP_nil, onP_cons, onB, onI, onStr_map, onBl_map, onInt_map, intsD_len, Int.toNat_natCast, endsOf, startD_n, nones, w1, w2, pre2, wSl, wSet, wAug, seqAt, listAt, itemAt, wSeq, newLst, wipeD, List.map_cons, List.map_nil, List.length_cons, List.length_nil, List.nil_append, List.cons_append, List.set_cons_zero, List.set_cons_succ, List.getElem?_cons_zero, List.getElem?_cons_succ, List.append_nil, perm, List.getD_cons_zero, List.getD_cons_succ, Nat.reduceAdd, Nat.reduceSub, true_and, and_true, if_true, if_false, Bool.false_eq_true, decide_eq_true_eq, D.isNon, lstAt_end, atI_0, atI_1, atI_2, atI_3, atI_4, atI_5, ixN_0, ixN_1, ixN_2, Nat.reduceLT, Nat.reduceLeDiff, Int.reduceLT, Int.reduceLE, Int.reduceToNat, Int.reducePow, Int.reduceMul, Bool.not_true, Bool.not_false, c_law_of, lstAt_of e]
      refine call_to g ?_
      refine ⟨h, n, (xs.length : Int), rfl, by omega, by omega, hh, fun r nu a b f k => ?_⟩
      obtain ⟨v, ev, hv, _⟩ := atI_mem (xs := xs) a b
      (try refine nx_in ?_); simp only [s_nil, nx_nil, s_cons, s_asg, s_setSub, s_augN, s_expr, s_ret, s_retN, s_ite, s_for, s_while, s_pass, s_brk, s_cont, e_con, e_var0, e_varS, e_tup, e_lst, e_op1, e_op2, e_cond, e_and, e_or, e_not, e_chain, e_sl, e_call, e_lc, es_nil, es_cons, o_no, o_some, wpI, onP_name, onP_nil, onP_cons, onB, onI, onStr_map, onBl_map, onInt_map, intsD_len, Int.toNat_natCast, endsOf, startD_n, nones, w1, w2, pre2, wSl, wSet, wAug, seqAt, listAt, itemAt, wSeq, newLst, wipeD, List.map_cons, List.map_nil, List.length_cons, List.length_nil, List.nil_append, List.cons_append, List.set_cons_zero, List.set_cons_succ, List.getElem?_cons_zero, List.getElem?_cons_succ, List.append_nil, perm, List.getD_cons_zero, List.getD_cons_succ, Nat.reduceAdd, Nat.reduceSub, true_and, and_true, if_true, if_false, Bool.false_eq_true, decide_eq_true_eq, D.isNon, lstAt_end, atI_0, atI_1, atI_2, atI_3, atI_4, atI_5, ixN_0, ixN_1, ixN_2, Nat.reduceLT, Nat.reduceLeDiff, Int.reduceLT, Int.reduceLE, Int.reduceToNat, Int.reducePow, Int.reduceMul, Bool.not_true, Bool.not_false, lstAt_of (f.at_ hm e), ev]
      exact q v nu hv f k
  · have pos : 0 < z.length := by have := len_pos h0; simpa [Str.length] using this
    (try refine nx_in ?_); simp only [s_nil, nx_nil, s_cons, s_asg, s_setSub, s_augN, s_expr, s_ret, s_retN, s_ite, s_for, s_while, s_pass, s_brk, s_cont, e_con, e_var0, e_varS, e_tup, e_lst, e_op1, e_op2, e_cond, e_and, e_or, e_not, e_chain, e_sl, e_call, e_lc, es_nil, es_cons, o_no, o_some, wpI, onP_name, onP_nil, onP_cons, onB, onI, onStr_map, onBl_map, onInt_map, intsD_len, Int.toNat_natCast, endsOf, startD_n, nones, w1, w2, pre2, wSl, wSet, wAug, seqAt, listAt, itemAt, wSeq, newLst, wipeD, List.map_cons, List.map_nil, List.length_cons, List.length_nil, List.nil_append, List.cons_append, List.set_cons_zero, List.set_cons_succ, List.getElem?_cons_zero, List.getElem?_cons_succ, List.append_nil, perm, List.getD_cons_zero, List.getD_cons_succ, Nat.reduceAdd, Nat.reduceSub, true_and, and_true, if_true, if_false, Bool.false_eq_true, decide_eq_true_eq, D.isNon, lstAt_end, atI_0, atI_1, atI_2, atI_3, atI_4, atI_5, ixN_0, ixN_1, ixN_2, Nat.reduceLT, Nat.reduceLeDiff, Int.reduceLT, Int.reduceLE, Int.reduceToNat, Int.reducePow, Int.reduceMul, Bool.not_true, Bool.not_false, c_law_of]
    refine ⟨size_le (by omega), call_to g ?_⟩
    refine ⟨h, n, (z.length : Int), rfl, by omega, by omega, hh, fun r nu a b f k => ?_⟩
    obtain ⟨v, ev, hv, _⟩ := atI_mem (xs := z.cps.toList) a (by simpa [Str.length] using b)
    (try refine nx_in ?_); simp only [s_nil, nx_nil, s_cons, s_asg, s_setSub, s_augN, s_expr, s_ret, s_retN, s_ite, s_for, s_while, s_pass, s_brk, s_cont, e_con, e_var0, e_varS, e_tup, e_lst, e_op1, e_op2, e_cond, e_and, e_or, e_not, e_chain, e_sl, e_call, e_lc, es_nil, es_cons, o_no, o_some, wpI, onP_name, onP_nil, onP_cons, onB, onI, onStr_map, onBl_map, onInt_map, intsD_len, Int.toNat_natCast, endsOf, startD_n, nones, w1, w2, pre2, wSl, wSet, wAug, seqAt, listAt, itemAt, wSeq, newLst, wipeD, List.map_cons, List.map_nil, List.length_cons, List.length_nil, List.nil_append, List.cons_append, List.set_cons_zero, List.set_cons_succ, List.getElem?_cons_zero, List.getElem?_cons_succ, List.append_nil, perm, List.getD_cons_zero, List.getD_cons_succ, Nat.reduceAdd, Nat.reduceSub, true_and, and_true, if_true, if_false, Bool.false_eq_true, decide_eq_true_eq, D.isNon, lstAt_end, atI_0, atI_1, atI_2, atI_3, atI_4, atI_5, ixN_0, ixN_1, ixN_2, Nat.reduceLT, Nat.reduceLeDiff, Int.reduceLT, Int.reduceLE, Int.reduceToNat, Int.reducePow, Int.reduceMul, Bool.not_true, Bool.not_false, ev]
    exact ⟨size_le (by omega), q v nu hv f k⟩
def spHand : DSp := fun ds mu Q _ => ∃ (ns : List Int) (k : Int), ds = [.ro (ns.map D.int), .int k] ∧ 0 ≤ k ∧ k < 2 ^ 20 ∧ ∀ nu, Gr mu nu → Hand nu mu.length (2 ^ 39) → Q (.ref mu.length) nu
theorem w_hand {G : Ctx} {ds : List D} {mu : Store} {Q : QD} {E : QX} (s : spHand ds mu Q E) : wpSs G c_law_hand (endsOf Q E) (startD ["_law_script", "_law_k", "_law_cell", "_law_bound", "_law_great"] ds) mu := by
  obtain ⟨ns, k, rfl, h0, h1, q⟩ := s
  have p10 : (Builtin.Int.intBits 10 : Int) ≤ 4 := by exact_mod_cast bits_le (i := 10) (k := 4) (by decide)
  (try refine nx_in ?_); simp only [s_nil, nx_nil, s_cons, s_asg, s_setSub, s_augN, s_expr, s_ret, s_retN, s_ite, s_for, s_while, s_pass, s_brk, s_cont, e_con, e_var0, e_varS, e_tup, e_lst, e_op1, e_op2, e_cond, e_and, e_or, e_not, e_chain, e_sl, e_call, e_lc, es_nil, es_cons, o_no, o_some, wpI, onP_name, onP_nil, onP_cons, onB, onI, onStr_map, onBl_map, onInt_map, intsD_len, Int.toNat_natCast, endsOf, startD_n, nones, w1, w2, pre2, wSl, wSet, wAug, seqAt, listAt, itemAt, wSeq, newLst, wipeD, List.map_cons, List.map_nil, List.length_cons, List.length_nil, List.nil_append, List.cons_append, List.set_cons_zero, List.set_cons_succ, List.getElem?_cons_zero, List.getElem?_cons_succ, List.append_nil, perm, List.getD_cons_zero, List.getD_cons_succ, Nat.reduceAdd, Nat.reduceSub, true_and, and_true, if_true, if_false, Bool.false_eq_true, decide_eq_true_eq, D.isNon, lstAt_end, atI_0, atI_1, atI_2, atI_3, atI_4, atI_5, ixN_0, ixN_1, ixN_2, Nat.reduceLT, Nat.reduceLeDiff, Int.reduceLT, Int.reduceLE, Int.reduceToNat, Int.reducePow, Int.reduceMul, Bool.not_true, Bool.not_false, c_law_hand]
  refine ite_pos_neg (fun c => ?_) fun c => ?_
  · obtain ⟨v, ev, hv, _⟩ := atI_mem (xs := List.map D.int ns) h0 c
    obtain ⟨i, _, rfl⟩ := List.mem_map.mp hv
    rw [ev]
    (try refine nx_in ?_); simp only [s_nil, nx_nil, s_cons, s_asg, s_setSub, s_augN, s_expr, s_ret, s_retN, s_ite, s_for, s_while, s_pass, s_brk, s_cont, e_con, e_var0, e_varS, e_tup, e_lst, e_op1, e_op2, e_cond, e_and, e_or, e_not, e_chain, e_sl, e_call, e_lc, es_nil, es_cons, o_no, o_some, wpI, onP_name, onP_nil, onP_cons, onB, onI, onStr_map, onBl_map, onInt_map, intsD_len, Int.toNat_natCast, endsOf, startD_n, nones, w1, w2, pre2, wSl, wSet, wAug, seqAt, listAt, itemAt, wSeq, newLst, wipeD, List.map_cons, List.map_nil, List.length_cons, List.length_nil, List.nil_append, List.cons_append, List.set_cons_zero, List.set_cons_succ, List.getElem?_cons_zero, List.getElem?_cons_succ, List.append_nil, perm, List.getD_cons_zero, List.getD_cons_succ, Nat.reduceAdd, Nat.reduceSub, true_and, and_true, if_true, if_false, Bool.false_eq_true, decide_eq_true_eq, D.isNon, lstAt_end, atI_0, atI_1, atI_2, atI_3, atI_4, atI_5, ixN_0, ixN_1, ixN_2, Nat.reduceLT, Nat.reduceLeDiff, Int.reduceLT, Int.reduceLE, Int.reduceToNat, Int.reducePow, Int.reduceMul, Bool.not_true, Bool.not_false]
    refine ⟨by omega, by omega, mulLit (by decide +kernel), by omega, mulLit (by decide +kernel), by omega, mulLit (by decide +kernel), by omega, mulLit (by decide +kernel), ?_⟩
    (try refine nx_in ?_); simp only [s_nil, nx_nil, s_cons, s_asg, s_setSub, s_augN, s_expr, s_ret, s_retN, s_ite, s_for, s_while, s_pass, s_brk, s_cont, e_con, e_var0, e_varS, e_tup, e_lst, e_op1, e_op2, e_cond, e_and, e_or, e_not, e_chain, e_sl, e_call, e_lc, es_nil, es_cons, o_no, o_some, wpI, onP_name, onP_nil, onP_cons, onB, onI, onStr_map, onBl_map, onInt_map, intsD_len, Int.toNat_natCast, endsOf, startD_n, nones, w1, w2, pre2, wSl, wSet, wAug, seqAt, listAt, itemAt, wSeq, newLst, wipeD, List.map_cons, List.map_nil, List.length_cons, List.length_nil, List.nil_append, List.cons_append, List.set_cons_zero, List.set_cons_succ, List.getElem?_cons_zero, List.getElem?_cons_succ, List.append_nil, perm, List.getD_cons_zero, List.getD_cons_succ, Nat.reduceAdd, Nat.reduceSub, true_and, and_true, if_true, if_false, Bool.false_eq_true, decide_eq_true_eq, D.isNon, lstAt_end, atI_0, atI_1, atI_2, atI_3, atI_4, atI_5, ixN_0, ixN_1, ixN_2, Nat.reduceLT, Nat.reduceLeDiff, Int.reduceLT, Int.reduceLE, Int.reduceToNat, Int.reducePow, Int.reduceMul, Bool.not_true, Bool.not_false]
    refine ⟨by omega, mulR (bit_lo _) (bit_hi _), ?_⟩
    (try refine nx_in ?_); simp only [s_nil, nx_nil, s_cons, s_asg, s_setSub, s_augN, s_expr, s_ret, s_retN, s_ite, s_for, s_while, s_pass, s_brk, s_cont, e_con, e_var0, e_varS, e_tup, e_lst, e_op1, e_op2, e_cond, e_and, e_or, e_not, e_chain, e_sl, e_call, e_lc, es_nil, es_cons, o_no, o_some, wpI, onP_name, onP_nil, onP_cons, onB, onI, onStr_map, onBl_map, onInt_map, intsD_len, Int.toNat_natCast, endsOf, startD_n, nones, w1, w2, pre2, wSl, wSet, wAug, seqAt, listAt, itemAt, wSeq, newLst, wipeD, List.map_cons, List.map_nil, List.length_cons, List.length_nil, List.nil_append, List.cons_append, List.set_cons_zero, List.set_cons_succ, List.getElem?_cons_zero, List.getElem?_cons_succ, List.append_nil, perm, List.getD_cons_zero, List.getD_cons_succ, Nat.reduceAdd, Nat.reduceSub, true_and, and_true, if_true, if_false, Bool.false_eq_true, decide_eq_true_eq, D.isNon, lstAt_end, atI_0, atI_1, atI_2, atI_3, atI_4, atI_5, ixN_0, ixN_1, ixN_2, Nat.reduceLT, Nat.reduceLeDiff, Int.reduceLT, Int.reduceLE, Int.reduceToNat, Int.reducePow, Int.reduceMul, Bool.not_true, Bool.not_false]
    refine ⟨mulL (by decide) (by decide), mulR (by omega) (by omega), mulR (by decide) (by decide), size_le (by decide), ?_⟩
    exact q _ .app ⟨_, _, 0, by rw [List.getElem?_append_right (Nat.le_refl _), Nat.sub_self]; rfl, Int.mul_nonneg (Int.emod_nonneg _ (by decide)) (bit_nn _), Int.emod_nonneg _ (by decide), Int.lt_of_lt_of_le (Int.emod_lt_of_pos _ (by decide)) (by decide), by decide, by decide⟩
  · refine ⟨mulL (by decide) (by decide), ?_⟩
    (try refine nx_in ?_); simp only [s_nil, nx_nil, s_cons, s_asg, s_setSub, s_augN, s_expr, s_ret, s_retN, s_ite, s_for, s_while, s_pass, s_brk, s_cont, e_con, e_var0, e_varS, e_tup, e_lst, e_op1, e_op2, e_cond, e_and, e_or, e_not, e_chain, e_sl, e_call, e_lc, es_nil, es_cons, o_no, o_some, wpI, onP_name, onP_nil, onP_cons, onB, onI, onStr_map, onBl_map, onInt_map, intsD_len, Int.toNat_natCast, endsOf, startD_n, nones, w1, w2, pre2, wSl, wSet, wAug, seqAt, listAt, itemAt, wSeq, newLst, wipeD, List.map_cons, List.map_nil, List.length_cons, List.length_nil, List.nil_append, List.cons_append, List.set_cons_zero, List.set_cons_succ, List.getElem?_cons_zero, List.getElem?_cons_succ, List.append_nil, perm, List.getD_cons_zero, List.getD_cons_succ, Nat.reduceAdd, Nat.reduceSub, true_and, and_true, if_true, if_false, Bool.false_eq_true, decide_eq_true_eq, D.isNon, lstAt_end, atI_0, atI_1, atI_2, atI_3, atI_4, atI_5, ixN_0, ixN_1, ixN_2, Nat.reduceLT, Nat.reduceLeDiff, Int.reduceLT, Int.reduceLE, Int.reduceToNat, Int.reducePow, Int.reduceMul, Bool.not_true, Bool.not_false]
    refine ⟨by omega, by omega, mulLit (by decide +kernel), by omega, mulLit (by decide +kernel), by omega, mulLit (by decide +kernel), by omega, mulLit (by decide +kernel), ?_⟩
    (try refine nx_in ?_); simp only [s_nil, nx_nil, s_cons, s_asg, s_setSub, s_augN, s_expr, s_ret, s_retN, s_ite, s_for, s_while, s_pass, s_brk, s_cont, e_con, e_var0, e_varS, e_tup, e_lst, e_op1, e_op2, e_cond, e_and, e_or, e_not, e_chain, e_sl, e_call, e_lc, es_nil, es_cons, o_no, o_some, wpI, onP_name, onP_nil, onP_cons, onB, onI, onStr_map, onBl_map, onInt_map, intsD_len, Int.toNat_natCast, endsOf, startD_n, nones, w1, w2, pre2, wSl, wSet, wAug, seqAt, listAt, itemAt, wSeq, newLst, wipeD, List.map_cons, List.map_nil, List.length_cons, List.length_nil, List.nil_append, List.cons_append, List.set_cons_zero, List.set_cons_succ, List.getElem?_cons_zero, List.getElem?_cons_succ, List.append_nil, perm, List.getD_cons_zero, List.getD_cons_succ, Nat.reduceAdd, Nat.reduceSub, true_and, and_true, if_true, if_false, Bool.false_eq_true, decide_eq_true_eq, D.isNon, lstAt_end, atI_0, atI_1, atI_2, atI_3, atI_4, atI_5, ixN_0, ixN_1, ixN_2, Nat.reduceLT, Nat.reduceLeDiff, Int.reduceLT, Int.reduceLE, Int.reduceToNat, Int.reducePow, Int.reduceMul, Bool.not_true, Bool.not_false]
    refine ⟨by omega, mulR (bit_lo _) (bit_hi _), ?_⟩
    (try refine nx_in ?_); simp only [s_nil, nx_nil, s_cons, s_asg, s_setSub, s_augN, s_expr, s_ret, s_retN, s_ite, s_for, s_while, s_pass, s_brk, s_cont, e_con, e_var0, e_varS, e_tup, e_lst, e_op1, e_op2, e_cond, e_and, e_or, e_not, e_chain, e_sl, e_call, e_lc, es_nil, es_cons, o_no, o_some, wpI, onP_name, onP_nil, onP_cons, onB, onI, onStr_map, onBl_map, onInt_map, intsD_len, Int.toNat_natCast, endsOf, startD_n, nones, w1, w2, pre2, wSl, wSet, wAug, seqAt, listAt, itemAt, wSeq, newLst, wipeD, List.map_cons, List.map_nil, List.length_cons, List.length_nil, List.nil_append, List.cons_append, List.set_cons_zero, List.set_cons_succ, List.getElem?_cons_zero, List.getElem?_cons_succ, List.append_nil, perm, List.getD_cons_zero, List.getD_cons_succ, Nat.reduceAdd, Nat.reduceSub, true_and, and_true, if_true, if_false, Bool.false_eq_true, decide_eq_true_eq, D.isNon, lstAt_end, atI_0, atI_1, atI_2, atI_3, atI_4, atI_5, ixN_0, ixN_1, ixN_2, Nat.reduceLT, Nat.reduceLeDiff, Int.reduceLT, Int.reduceLE, Int.reduceToNat, Int.reducePow, Int.reduceMul, Bool.not_true, Bool.not_false]
    refine ⟨mulL (by decide) (by decide), mulR (by omega) (by omega), mulR (by decide) (by decide), size_le (by decide), ?_⟩
    exact q _ .app ⟨_, _, 0, by rw [List.getElem?_append_right (Nat.le_refl _), Nat.sub_self]; rfl, Int.mul_nonneg (Int.emod_nonneg _ (by decide)) (bit_nn _), Int.emod_nonneg _ (by decide), Int.lt_of_lt_of_le (Int.emod_lt_of_pos _ (by decide)) (by decide), by decide, by decide⟩
end MP

/-! MP: data that may be shown and compared -/
namespace MP
open PySem PySem.Spec PyProof.Rows L2

/-- no cell within, at most k deep, at most w long -/
def Fine (k w : Nat) (d : D) : Prop := d.pure = true ∧ d.py.canLay0 = true ∧ d.py.depth ≤ k ∧ d.py.bulk ≤ w ∧ d.py.leavesShort 13 = true ∧ d.py.showable = true
theorem Fine.mono {k w k' w' : Nat} {d : D} (h : Fine k w d) (a : k ≤ k') (b : w ≤ w') : Fine k' w' d := ⟨h.1, h.2.1, Nat.le_trans h.2.2.1 a, Nat.le_trans h.2.2.2.1 b, h.2.2.2.2⟩
theorem fine_non {k w : Nat} : Fine k w .non := ⟨rfl, rfl, Nat.zero_le _, Nat.zero_le _, rfl, rfl⟩
theorem fine_bl {k w : Nat} (b : Bool) : Fine k w (.bl b) := ⟨rfl, rfl, Nat.zero_le _, Nat.zero_le _, rfl, rfl⟩
theorem fine_int {k w : Nat} {i : Int} (h : i.natAbs < 10 ^ 12) : Fine k w (.int i) := by
  refine ⟨rfl, rfl, Nat.zero_le _, Nat.zero_le _, ?_, ?_⟩
  · show decide _ = true
    exact decide_eq_true (PyData.shown_int_le h)
  · show decide _ = true
    refine decide_eq_true ?_
    by_cases h0 : i.natAbs = 0
    · rw [h0]; decide
    · have : i.natAbs.log2 < 40 := (Nat.log2_lt h0).mpr (Nat.lt_trans h (by decide))
      omega
theorem fine_str {k w : Nat} {x : Str} (h : PyData.strOk x = true) (hl : x.length ≤ w) : Fine k w (.str x) := by
  refine ⟨rfl, h, Nat.zero_le _, hl, ?_, rfl⟩
  show (x.cps.toList.all fun c => decide (c < 16 ^ 8)) = true
  rw [List.all_eq_true]
  intro c hc
  have h0 : x.cps.all (· < 0x110000) = true := h
  have := (Array.all_eq_true_iff_forall_mem.mp h0) c (Array.mem_toList_iff.mp hc)
  have e : (16 : Nat) ^ 8 = 4294967296 := by decide
  simp only [decide_eq_true_eq] at this ⊢
  omega
theorem pys_fine {k w : Nat} : ∀ {xs : List D}, (∀ x ∈ xs, Fine k w x) → D.pures xs = true ∧ PyData.canLayAll0 (D.pys xs) = true ∧ PyData.depthAll (D.pys xs) ≤ k ∧ PyData.bulkAll (D.pys xs) ≤ xs.length * (w + 1) ∧ PyData.leavesShortAll 13 (D.pys xs) = true ∧ PyData.showableAll (D.pys xs) = true
  | [], _ => ⟨rfl, rfl, Nat.zero_le _, Nat.zero_le _, rfl, rfl⟩
  | x :: r, h => by
    obtain ⟨a1, a2, a3, a4, a5, a6⟩ := h x List.mem_cons_self
    obtain ⟨b1, b2, b3, b4, b5, b6⟩ := pys_fine (xs := r) fun y hy => h y (List.mem_cons_of_mem _ hy)
    simp only [D.pures, D.pys, PyData.canLayAll0, PyData.depthAll, PyData.bulkAll, PyData.leavesShortAll, PyData.showableAll, Bool.and_eq_true, List.length_cons, Nat.add_mul, Nat.one_mul]
    exact ⟨⟨a1, b1⟩, ⟨a2, b2⟩, Nat.max_le.mpr ⟨a3, b3⟩, by omega, ⟨a5, b5⟩, ⟨a6, b6⟩⟩
theorem fine_tup {k w n : Nat} {xs : List D} (h : ∀ x ∈ xs, Fine k w x) (hn : xs.length ≤ n) : Fine (k + 1) (n * (w + 1)) (.tup xs) := by
  obtain ⟨b1, b2, b3, b4, b5, b6⟩ := pys_fine h
  have := Nat.mul_le_mul_right (w + 1) hn
  exact ⟨by simpa only [D.pure] using b1, by simpa only [D.py, PyData.canLay0] using b2, by simp only [D.py, PyData.depth]; omega, by simp only [D.py, PyData.bulk]; omega, by simpa only [D.py, PyData.leavesShort] using b5, by simpa only [D.py, PyData.showable] using b6⟩
mutual
theorem deep_pure {mu : Store} : ∀ {d : D}, d.pure = true → Deep mu d d.py
  | .non, _ => .non
  | .bl b, _ => .bl b
  | .int i, _ => .int i
  | .str x, _ => .str x
  | .tup xs, h => .tup (deeps_pure (by simpa only [D.pure] using h))
  | .ref _, h => by simp only [D.pure] at h; cases h
  | .ro _, h => by simp only [D.pure] at h; cases h
theorem deeps_pure {mu : Store} : ∀ {xs : List D}, D.pures xs = true → Deeps mu xs (D.pys xs)
  | [], _ => .nil
  | x :: r, h => by
    simp only [D.pures, Bool.and_eq_true] at h
    exact .cons (deep_pure h.1) (deeps_pure h.2)
end
/-- repr of such data -/
theorem repr_fine {k w : Nat} {d : D} {mu : Store} {Q : QD} (h : Fine k w d) (hk : k ≤ 64) (hw : w ≤ 2 ^ 20) (q : Q (.str d.py.shown) mu) : ∃ p, Deep mu d p ∧ p.showable = true ∧ p.depth ≤ 64 ∧ sizeT p.shown.length ∧ Q (.str p.shown) mu :=
  ⟨d.py, deep_pure h.1, h.2.2.2.2.2, Nat.le_trans h.2.2.1 hk, PyData.shown_fits_bulk (by decide) (by decide) h.2.2.2.2.1 (Nat.le_trans h.2.2.2.1 hw), q⟩
theorem flat_fine {k w : Nat} {d : D} (h : Fine k w d) (hk : k ≤ 64) : d.flat = true := by
  unfold D.flat SeqAt.shaped
  rw [h.1, h.2.1]
  simp only [Bool.true_and, decide_eq_true_eq]
  exact Nat.le_trans h.2.2.1 hk
theorem eqP_refl {k w : Nat} {d : D} (h : Fine k w d) : eqP d d = true := SeqAt.eqv_refl _ h.2.1
theorem eqP_str (a b : Str) : eqP (.str a) (.str b) = decide (a = b) := by
  show (a == b) = _
  rw [Bool.beq_eq_decide_eq]
theorem eqP_int (a b : Int) : eqP (.int a) (.int b) = decide (a = b) := by
  show (a == b) = _
  rw [Bool.beq_eq_decide_eq]
theorem flat_int (i : Int) : (D.int i).flat = true := rfl
theorem flat_bl (i : Bool) : (D.bl i).flat = true := rfl
theorem flat_non : D.non.flat = true := rfl
theorem flat_str {x : Str} (h : PyData.strOk x = true) : (D.str x).flat = true := flat_fine (fine_str (k := 0) h (Nat.le_refl _)) (by decide)

/-! ### texts -/
theorem ok_iff {z : Str} : PyData.strOk z = true ↔ ∀ c ∈ z.cps.toList, c < 0x110000 := by
  unfold PyData.strOk
  rw [Array.all_eq_true_iff_forall_mem]
  simp
theorem ok_app {a b : Str} (ha : PyData.strOk a = true) (hb : PyData.strOk b = true) : PyData.strOk (a ++ b) = true := by
  rw [ok_iff] at ha hb ⊢
  intro c hc
  have hc : c ∈ (a.cps ++ b.cps).toList := hc
  rw [Array.toList_append, List.mem_append] at hc
  exact hc.elim (ha c) (hb c)
theorem ok_cut {a : Str} (lo hi : Option Int) (ha : PyData.strOk a = true) : PyData.strOk (cutS a lo hi) = true := by
  rw [ok_iff] at ha ⊢
  intro c hc
  exact ha c (List.mem_of_mem_drop (List.mem_of_mem_take hc))
theorem cut_len (a : Str) (lo hi : Option Int) : (cutS a lo hi).length ≤ a.length := by
  show (List.toArray _).size ≤ a.cps.size
  rw [List.size_toArray, List.length_take, List.length_drop, Array.length_toList]
  omega
theorem app_len (a b : Str) : (a ++ b).length = a.length + b.length := strLen_append a b
theorem one_len (c : Nat) : (⟨#[c]⟩ : Str).length = 1 := rfl
theorem str_ext {a b : Str} (h : a.cps.toList = b.cps.toList) : a = b := by
  obtain ⟨x⟩ := a
  obtain ⟨y⟩ := b
  have : x = y := Array.toList_inj.mp h
  rw [this]
theorem app_inj {a b : Str} {c d : Nat} (h : a ++ ⟨#[c]⟩ ++ b = a ++ ⟨#[d]⟩ ++ b) : c = d := by
  have : (a ++ ⟨#[c]⟩ ++ b).cps.toList = (a ++ ⟨#[d]⟩ ++ b).cps.toList := by rw [h]
  have e : ∀ c, (a ++ ⟨#[c]⟩ ++ b).cps.toList = (a.cps.toList ++ [c]) ++ b.cps.toList := fun c => by
    show ((a.cps ++ #[c]) ++ b.cps).toList = _
    rw [Array.toList_append, Array.toList_append]
  rw [e, e] at this
  have := List.append_cancel_right this
  have := List.append_cancel_left this
  simpa using this
theorem Hand.lt {mu : Store} {h n : Nat} (x : Hand mu h n) : h < mu.length := by
  obtain ⟨_, _, _, e, _⟩ := x
  exact (List.getElem?_eq_some_iff.mp e).1
theorem Hand.app {mu : Store} {h n : Nat} {l : List Cell} (x : Hand mu h n) : Hand (mu ++ l) h n := by
  have := x.lt
  obtain ⟨a, b, t, e, r⟩ := x
  exact ⟨a, b, t, by rw [List.getElem?_append_left this]; exact e, r⟩
theorem Hand.set {mu : Store} {h n m : Nat} {c : Cell} (x : Hand mu h n) (hm : m ≠ h) : Hand (mu.set m c) h n := by
  obtain ⟨a, b, t, e, r⟩ := x
  exact ⟨a, b, t, by rw [List.getElem?_set_ne hm]; exact e, r⟩
theorem Hand.less {mu : Store} {h n m : Nat} (x : Hand mu h n) (l : m ≤ n) : Hand mu h m := by
  obtain ⟨a, b, t, e, r1, r2, r3, r4, r5⟩ := x
  exact ⟨a, b, t, e, r1, r2, r3, r4, by omega⟩
theorem Kp.hand {mu nu : Store} {h n : Nat} (a : Kp mu nu) (x : Hand mu h n) : Hand nu h n := by
  obtain ⟨p, q, t, e, r⟩ := x
  exact ⟨p, q, t, a _ _ e, r⟩
theorem cutD_take {xs : List D} {k : Int} (h : 0 ≤ k) : cutD xs none (some k) = xs.take k.toNat := by
  obtain ⟨n, rfl⟩ := Int.eq_ofNat_of_zero_le h
  unfold cutD
  rw [show HT.sIx xs.length xs.length (some (n : Int)) = min n xs.length from HT.sIx_nat xs.length xs.length n, HT.sIx_none, List.drop_zero, Nat.sub_zero, Int.toNat_natCast]
  by_cases hn : n ≤ xs.length
  · rw [Nat.min_eq_left hn]
  · rw [Nat.min_eq_right (by omega), List.take_of_length_le (Nat.le_refl _), List.take_of_length_le (by omega)]
theorem repr_ok {k w : Nat} {d : D} (mu : Store) (h : Fine k w d) (hk : k ≤ 64) (hw : w ≤ 2 ^ 20) : Deep mu d d.py ∧ d.py.showable = true ∧ d.py.depth ≤ 64 ∧ sizeT d.py.shown.length :=
  ⟨deep_pure h.1, h.2.2.2.2.2, Nat.le_trans h.2.2.1 hk, PyData.shown_fits_bulk (by decide) (by decide) h.2.2.2.2.1 (Nat.le_trans h.2.2.2.1 hw)⟩
end MP

/-! MP: linking: one def after another -/
namespace MP
open PySem PySem.Spec PyProof.Rows L2

section
variable {P : Program} {w : World} {K : PySem.W.Frag} {mg : Str → Option Value} {base : Heap} {n n' : Nm} {G : Ctx} {CT : Nat → Addr} {k : Nat}
theorem FnsOk.mono (h : FnsOk P w K mg base n G CT k) {j : Nat} (l : k ≤ j) : FnsOk P w K mg base n G CT j := fun i x e => by
  obtain ⟨f, fd, ps, a, b, c, d⟩ := h i x e
  exact ⟨f, fd, ps, a, b, c.mono l, d⟩
theorem FnsOk.none (e : n.fns = []) : FnsOk P w K mg base n G CT k := fun i x h => by rw [e] at h; simp at h
theorem FnsOk.same (h : FnsOk P w K mg base n G CT k) (e : n'.fns = n.fns) (e2 : n'.kwp = n.kwp) : FnsOk P w K mg base n' G CT k := fun i x q => by
  rw [e] at q
  rw [e2]
  exact h i x q
/-- all calls of the i-th def give all its parameters by place -/
def posC (kwp : List (Nat × Nat × List Str × List Nat)) (i m : Nat) : Bool := kwp.all fun q => !decide (q.1 = i) || (decide (q.2.1 = m) && decide (q.2.2.1 = []) && decide (q.2.2.2 = List.range m))
theorem permU_range (us : List Value) : permU (List.range us.length) us = us := by
  unfold permU
  refine List.ext_getElem? fun i => ?_
  rw [List.getElem?_map]
  by_cases h : i < us.length
  · rw [List.getElem?_eq_getElem (by simpa using h), List.getElem_range, List.getElem?_eq_getElem h]
    simp [List.getD_eq_getElem?_getD, List.getElem?_eq_getElem h]
  · rw [List.getElem?_eq_none (by simpa using h), List.getElem?_eq_none (by omega)]; rfl
theorem bind_pos {i : Nat} {fd : FuncData} {ps : List Str} (B : Binds K fd ps []) (h : posC n.kwp i ps.length = true) :
    ∀ np ks pm, (i, np, ks, pm) ∈ n.kwp → pm.length = ps.length ∧ ∀ (s : Shared) (us ws : List Value), K.In s.heap → us.length = np → ws.length = ks.length → BindsTo s fd ⟨us, ks.zip ws⟩ (ps.zip (permU pm (us ++ ws))) := by
  intro np ks pm hm
  have q := List.all_eq_true.mp h _ hm
  simp only [Bool.or_eq_true, Bool.not_eq_true', decide_eq_false_iff_not, not_true_eq_false, false_or, Bool.and_eq_true, decide_eq_true_eq] at q
  obtain ⟨⟨rfl, rfl⟩, rfl⟩ := q
  refine ⟨List.length_range, fun s us ws kin hu hw => ?_⟩
  have : ws = [] := List.eq_nil_of_length_eq_zero hw
  subst this
  have e := B s us kin (by simpa using hu)
  rw [List.append_nil] at e ⊢
  rw [← hu, permU_range]
  exact e
theorem FnsOk.snoc (h : FnsOk P w K mg base n G CT k) {x : Str} (e : n'.fns = n.fns ++ [x]) (e2 : n'.kwp = n.kwp) {f : Addr} {fd : FuncData} {ps : List Str} (hm : mg x = some (.ref f)) (hk : PySem.W.keepIn K (.ref f) = true) (F : FnG P w K mg base k f fd ps (liftF K CT (G.fn n.fns.length)))
    (hb : ∀ np ks pm, (n.fns.length, np, ks, pm) ∈ n.kwp → pm.length = ps.length ∧ ∀ (s : Shared) (us ws : List Value), K.In s.heap → us.length = np → ws.length = ks.length → BindsTo s fd ⟨us, ks.zip ws⟩ (ps.zip (permU pm (us ++ ws)))) : FnsOk P w K mg base n' G CT k := fun i y q => by
  rw [e] at q
  rw [e2]
  by_cases hi : i < n.fns.length
  · rw [List.getElem?_append_left hi] at q
    exact h i y q
  · rw [List.getElem?_append_right (by omega)] at q
    have : i = n.fns.length := by
      have := (List.getElem?_eq_some_iff.mp q).1
      simp at this
      omega
    subst this
    rw [Nat.sub_self] at q
    cases q
    exact ⟨f, fd, ps, hm, hk, F, hb⟩
end
end MP

namespace MP
open PySem PySem.Spec PyProof.Rows L2
def c_step_of : CSs := (.cons (.for (.tup [(.name 3), (.name 4)]) (.seq (.op2 .ix (.op2 .ix (.var 0) (.var 1)) (.con (.int 1)))) (.cons (.ite (.op2 .eq (.var 3) (.var 2)) (.cons (.ret (.var 4)) .nil) .nil) .nil)) (.cons (.ret (.con .non)) .nil))
def N_step_of : List Str := ["machine", "state", "symbol", "sign", "target"]
def c_accepts (i_step_of : Nat) : CSs := (.cons (.asg (.name 2) (.con (.int 0))) (.cons (.for (.name 3) (.seq (.var 1)) (.cons (.asg (.name 2) (.call i_step_of [0, 1, 2] (.cons (.var 0) (.cons (.var 2) (.cons (.var 3) .nil))) .nil)) (.cons (.ite (.op1 .isN (.var 2)) (.cons (.ret (.con (.bl false))) .nil) .nil) .nil))) (.cons (.ret (.op2 .ix (.op2 .ix (.var 0) (.var 2)) (.con (.int 0)))) .nil)))
def N_accepts : List Str := ["machine", "word", "state", "symbol"]
def c_law_letters : CSs := (.cons (.asg (.name 2) (.con (.str "abcdefghijklmnopqrstuvwxyz"))) (.cons (.asg (.tup [(.name 3), (.name 4)]) (.tup (.cons (.call i_law_take [0, 1] (.cons (.var 0) (.cons (.con (.int 26)) .nil)) .nil) (.cons (.call i_law_of [0, 1] (.cons (.var 0) (.cons (.lst (.cons (.con (.int 1)) (.cons (.con (.int 3)) (.cons (.con (.int 5)) (.cons (.con (.int 7)) (.cons (.con (.int 9)) (.cons (.con (.int 11)) (.cons (.con (.int 25)) .nil)))))))) .nil)) .nil) .nil)))) (.cons (.asg (.name 5) (.op2 .mul (.call i_law_of [0, 1] (.cons (.var 0) (.cons (.var 2) .nil)) .nil) (.call i_law_of [0, 1] (.cons (.var 0) (.cons (.lst (.cons (.con (.int 0)) (.cons (.con (.int 0)) (.cons (.con (.int 0)) (.cons (.con (.int 1)) (.cons (.con (.int 3)) (.cons (.con (.int 7)) .nil))))))) .nil)) .nil))) (.cons (.asg (.name 6) (.call i_law_take [0, 1] (.cons (.var 0) (.cons (.op2 .add (.op1 .len (.var 5)) (.con (.int 1))) .nil)) .nil)) (.cons (.asg (.name 7) (.lst .nil)) (.cons (.for (.name 8) (.rng1 (.var 1)) (.cons (.asg (.name 9) (.op2 .ix (.var 2) (.op2 .mod (.op2 .add (.var 3) (.op2 .mul (.var 4) (.var 8))) (.con (.int 26))))) (.cons (.expr (.op2 .append (.var 7) (.op2 .add (.op2 .add (.sl (.var 5) .no (.some (.var 6))) (.var 9)) (.sl (.var 5) (.some (.var 6)) .no)))) .nil))) (.cons (.ret (.var 7)) .nil)))))))
def N_law_letters : List Str := ["_law_hand_here", "_law_count", "_law_letters_here", "_law_start", "_law_leap", "_law_stem", "_law_cut", "_law_found", "_law_nth", "_law_letter"]
def c_law_rows_of : CSs := (.cons (.asg (.name 3) (.lst .nil)) (.cons (.for (.name 4) (.rng1 (.var 2)) (.cons (.asg (.name 5) (.lc [6] (.name 6) (.seq (.op1 .sorted (.var 1))) (.op2 .gt (.call i_law_take [0, 1] (.cons (.var 0) (.cons (.con (.int 3)) .nil)) .nil) (.con (.int 0))) (.tup (.cons (.var 6) (.cons (.call i_law_take [0, 1] (.cons (.var 0) (.cons (.var 2) .nil)) .nil) .nil))))) (.cons (.expr (.op2 .append (.var 3) (.tup (.cons (.op2 .eq (.call i_law_take [0, 1] (.cons (.var 0) (.cons (.con (.int 3)) .nil)) .nil) (.con (.int 0))) (.cons (.op1 .tuple (.var 5)) .nil))))) .nil))) (.cons (.ret (.op1 .tuple (.var 3))) .nil)))
def N_law_rows_of : List Str := ["_law_hand_here", "_law_menu", "_law_count", "_law_found", "_law_state_here", "_law_moves", "_law_sign"]
def c_law_all_words : CSs := (.cons (.asg (.tup [(.name 2), (.name 3)]) (.tup (.cons (.lst (.cons (.tup .nil) .nil)) (.cons (.lst (.cons (.tup .nil) .nil)) .nil)))) (.cons (.for (.name 4) (.rng1 (.var 1)) (.cons (.asg (.name 5) (.lst .nil)) (.cons (.for (.name 6) (.seq (.var 3)) (.cons (.expr (.op2 .extend (.var 5) (.lc [7] (.name 7) (.seq (.var 0)) (.con (.bl true)) (.op2 .add (.var 6) (.tup (.cons (.var 7) .nil)))))) .nil)) (.cons (.expr (.op2 .extend (.var 2) (.var 5))) (.cons (.asg (.name 3) (.var 5)) .nil))))) (.cons (.ret (.var 2)) .nil)))
def N_law_all_words : List Str := ["_law_menu", "_law_most", "_law_found", "_law_last", "_law_turn", "_law_longer", "_law_row", "_law_sign"]
def c_law_goal : CSs := (.cons (.for (.tup [(.name 3), (.name 4)]) (.seq (.op2 .ix (.op2 .ix (.var 0) (.var 1)) (.con (.int 1)))) (.cons (.ite (.op2 .eq (.var 3) (.var 2)) (.cons (.ret (.var 4)) .nil) .nil) .nil)) (.cons (.ret (.con .non)) .nil))
def N_law_goal : List Str := ["_law_machine", "_law_state_here", "_law_sign", "_law_symbol", "_law_target"]
def c_law_state (i_law_goal : Nat) : CSs := (.cons (.asg (.name 2) (.con (.int 0))) (.cons (.for (.name 3) (.seq (.var 1)) (.cons (.asg (.name 2) (.cond (.op1 .isN (.var 2)) (.con .non) (.call i_law_goal [0, 1, 2] (.cons (.var 0) (.cons (.var 2) (.cons (.var 3) .nil))) .nil))) .nil)) (.cons (.ret (.var 2)) .nil)))
def N_law_state : List Str := ["_law_machine", "_law_word_here", "_law_state_here", "_law_sign"]
def c_law_takes (i_law_state : Nat) : CSs := (.cons (.asg (.name 2) (.call i_law_state [0, 1] (.cons (.var 0) (.cons (.var 1) .nil)) .nil)) (.cons (.ret (.and (.op1 .notN (.var 2)) (.op2 .ix (.op2 .ix (.var 0) (.var 2)) (.con (.int 0))))) .nil))
def N_law_takes : List Str := ["_law_machine", "_law_word_here", "_law_state_here"]
def c_law_counter : CSs := (.cons (.ret (.op1 .tuple (.lc [3] (.name 3) (.rng1 (.var 1)) (.con (.bl true)) (.tup (.cons (.op2 .eq (.var 3) (.var 2)) (.cons (.tup (.cons (.tup (.cons (.var 0) (.cons (.op2 .mod (.op2 .add (.var 3) (.con (.int 1))) (.var 1)) .nil))) .nil)) .nil)))))) .nil)
def N_law_counter : List Str := ["_law_sign", "_law_count", "_law_goal_here", "_law_state_here"]
def c_law_word : CSs := (.cons (.ret (.op1 .tuple (.lc [3] (.name 3) (.rng1 (.call i_law_take [0, 1] (.cons (.var 0) (.cons (.op2 .add (.var 2) (.con (.int 1))) .nil)) .nil)) (.con (.bl true)) (.call i_law_of [0, 1] (.cons (.var 0) (.cons (.var 1) .nil)) .nil)))) .nil)
def N_law_word : List Str := ["_law_hand_here", "_law_menu", "_law_most", "_law_turn"]
def c_law_right (i_accepts i_law_counter i_law_takes i_law_word i_law_all_words i_law_rows_of i_law_letters : Nat) : CSs := (.cons (.asg (.name 1) (.call i_law_letters [0, 1] (.cons (.var 0) (.cons (.con (.int 4)) .nil)) .nil)) (.cons (.for (.name 2) (.rng1 (.con (.int 3))) (.cons (.asg (.name 3) (.sl (.var 1) .no (.some (.op2 .add (.con (.int 1)) (.call i_law_take [0, 1] (.cons (.var 0) (.cons (.con (.int 3)) .nil)) .nil))))) (.cons (.asg (.name 4) (.call i_law_rows_of [0, 1, 2] (.cons (.var 0) (.cons (.var 3) (.cons (.op2 .add (.con (.int 1)) (.call i_law_take [0, 1] (.cons (.var 0) (.cons (.con (.int 8)) .nil)) .nil)) .nil))) .nil)) (.cons (.asg (.tup [(.name 5), (.name 6)]) (.tup (.cons (.op1 .repr (.var 4)) (.cons (.sl (.call i_law_all_words [0, 1] (.cons (.var 3) (.cons (.con (.int 4)) .nil)) .nil) .no (.some (.con (.int 90)))) .nil)))) (.cons (.asg (.name 6) (.op2 .add (.op2 .add (.var 6) (.lc [12] (.name 12) (.rng1 (.con (.int 10))) (.con (.bl true)) (.call i_law_word [0, 1, 2] (.cons (.var 0) (.cons (.var 1) (.cons (.con (.int 9)) .nil))) .nil))) (.lst (.cons (.call i_law_word [0, 1, 2] (.cons (.var 0) (.cons (.var 3) (.cons (.con (.int 200)) .nil))) .nil) .nil)))) (.cons (.for (.name 7) (.seq (.var 6)) (.cons (.ite (.op2 .ne (.op1 .repr (.call i_accepts [0, 1] (.cons (.var 4) (.cons (.var 7) .nil)) .nil)) (.op1 .repr (.call i_law_takes [0, 1] (.cons (.var 4) (.cons (.var 7) .nil)) .nil))) (.cons (.ret (.con (.bl false))) .nil) .nil) .nil)) (.cons (.ite (.op2 .ne (.op1 .repr (.var 4)) (.var 5)) (.cons (.ret (.con (.bl false))) .nil) .nil) .nil))))))) (.cons (.asg (.name 8) (.op2 .add (.con (.int 2)) (.call i_law_take [0, 1] (.cons (.var 0) (.cons (.con (.int 39)) .nil)) .nil))) (.cons (.asg (.tup [(.name 9), (.name 10)]) (.tup (.cons (.call i_law_take [0, 1] (.cons (.var 0) (.cons (.var 8) .nil)) .nil) (.cons (.call i_law_of [0, 1] (.cons (.var 0) (.cons (.lst (.cons (.call i_law_take [0, 1] (.cons (.var 0) (.cons (.con (.int 201)) .nil)) .nil) (.cons (.con (.int 200)) (.cons (.con (.int 0)) (.cons (.var 8) .nil))))) .nil)) .nil) .nil)))) (.cons (.asg (.name 11) (.call i_law_counter [0, 1, 2] (.cons (.op2 .ix (.var 1) (.con (.int 0))) (.cons (.var 8) (.cons (.var 9) .nil))) .nil)) (.cons (.ite (.op2 .ne (.op1 .repr (.call i_accepts [0, 1] (.cons (.var 11) (.cons (.op2 .mul (.tup (.cons (.op2 .ix (.var 1) (.con (.int 0))) .nil)) (.var 10)) .nil)) .nil)) (.op1 .repr (.op2 .eq (.op2 .mod (.var 10) (.var 8)) (.var 9)))) (.cons (.ret (.con (.bl false))) .nil) .nil) (.cons (.ret (.op1 .isF (.call i_accepts [0, 1] (.cons (.var 11) (.cons (.op2 .add (.op2 .mul (.tup (.cons (.op2 .ix (.var 1) (.con (.int 0))) .nil)) (.var 9)) (.tup (.cons (.op2 .ix (.var 1) (.con (.int 1))) .nil))) .nil)) .nil))) .nil)))))))
def N_law_right : List Str := ["_law_hand_here", "_law_menu", "_law_turn", "_law_some", "_law_machine", "_law_held", "_law_words", "_law_word_here", "_law_count", "_law_goal_here", "_law_length", "_law_wheel", "_law_again"]
def c_law (i_law_right : Nat) : CSs := (.cons (.ret (.op1 .all (.lc [1] (.name 1) (.rng1 (.op2 .max (.con (.int 1)) (.op2 .min (.con (.int 3)) (.op1 .len (.var 0))))) (.con (.bl true)) (.call i_law_right [0] (.cons (.call i_law_hand [0, 1] (.cons (.var 0) (.cons (.var 1) .nil)) .nil) .nil) .nil)))) .nil)
def N_law : List Str := ["_law_script", "_law_k"]

abbrev Row := Bool × List (Str × Nat)
abbrev Mach := List Row
def mvD (m : Str × Nat) : D := .tup [.str m.1, .int m.2]
def rowD (r : Row) : D := .tup [.bl r.1, .tup (r.2.map mvD)]
def machD (m : Mach) : D := .tup (m.map rowD)
def oD : Option Nat → D
  | none => .non
  | some n => .int n
def goal (mvs : List (Str × Nat)) (z : Str) : Option Nat := (mvs.find? fun p => decide (p.1 = z)).map (·.2)
/-- its targets are states, its signs texts -/
def WM (m : Mach) : Prop := ∀ r ∈ m, ∀ p ∈ r.2, p.2 < m.length ∧ PyData.strOk p.1 = true
def spGoal : DSp := fun ds mu Q _ => ∃ (m : Mach) (s : Nat) (z : Str) (r : Row), ds = [machD m, .int s, .str z] ∧ m[s]? = some r ∧ WM m ∧ PyData.strOk z = true ∧ Q (oD (goal r.2 z)) mu
theorem atI_map {α β : Type} {f : α → β} {xs : List α} {n : Nat} {x : α} (h : xs[n]? = some x) : atI (xs.map f) (n : Int) = some (f x) := by rw [atI_nat', List.getElem?_map, h]; rfl
theorem w_goal {G : Ctx} {ds : List D} {mu : Store} {Q : QD} {E : QX} (s : spGoal ds mu Q E) : wpSs G c_step_of (endsOf Q E) (startD N_step_of ds) mu := by
  obtain ⟨m, s, z, r, rfl, hr, wm, hz, q⟩ := s
  (try refine nx_in ?_); simp only [s_nil, nx_nil, s_cons, s_asg, s_setSub, s_augN, s_expr, s_ret, s_retN, s_ite, s_for, s_while, s_pass, s_brk, s_cont, e_con, e_var0, e_varS, e_tup, e_lst, e_op1, e_op2, e_cond, e_and, e_or, e_not, e_chain, e_sl, e_call, e_lc, es_nil, es_cons, o_no, o_some, wpI, onP_name, onP_nil, onP_cons, onB, onI, onStr_map, onBl_map, onInt_map, intsD_len, Int.toNat_natCast, endsOf, startD_n, nones, w1, w2, pre2, wSl, wSet, wAug, seqAt, listAt, itemAt, wSeq, newLst, wipeD, List.map_cons, List.map_nil, List.length_cons, List.length_nil, List.nil_append, List.cons_append, List.set_cons_zero, List.set_cons_succ, List.getElem?_cons_zero, List.getElem?_cons_succ, List.append_nil, perm, List.getD_cons_zero, List.getD_cons_succ, Nat.reduceAdd, Nat.reduceSub, true_and, and_true, if_true, if_false, Bool.false_eq_true, decide_eq_true_eq, D.isNon, lstAt_end, atI_0, atI_1, atI_2, atI_3, atI_4, atI_5, ixN_0, ixN_1, ixN_2, Nat.reduceLT, Nat.reduceLeDiff, Int.reduceLT, Int.reduceLE, Int.reduceToNat, Int.reducePow, Int.reduceMul, Bool.not_true, Bool.not_false, c_step_of, N_step_of, machD, atI_map hr, rowD, stay]
  refine forGo_inv (fun i rh nu => nu = mu ∧ ∃ a b, rh = [some (machD m), some (.int s), some (.str z), a, b] ∧ goal (r.2.drop i) z = goal r.2 z) ⟨rfl, _, _, rfl, rfl⟩ (fun _ _ _ _ => trivial) (fun i x rh nu k ex h hk => ?_) (fun rh nu h => ?_)
  · obtain ⟨rfl, a, b, rfl, hg⟩ := h
    rw [List.getElem?_map] at ex
    obtain ⟨p, ep, rfl⟩ := Option.map_eq_some_iff.mp ex
    have pm := List.mem_of_getElem? ep
    have hp := wm r (List.mem_of_getElem? hr) p pm
    (try refine nx_in ?_); simp only [s_nil, nx_nil, s_cons, s_asg, s_setSub, s_augN, s_expr, s_ret, s_retN, s_ite, s_for, s_while, s_pass, s_brk, s_cont, e_con, e_var0, e_varS, e_tup, e_lst, e_op1, e_op2, e_cond, e_and, e_or, e_not, e_chain, e_sl, e_call, e_lc, es_nil, es_cons, o_no, o_some, wpI, onP_name, onP_nil, onP_cons, onB, onI, onStr_map, onBl_map, onInt_map, intsD_len, Int.toNat_natCast, endsOf, startD_n, nones, w1, w2, pre2, wSl, wSet, wAug, seqAt, listAt, itemAt, wSeq, newLst, wipeD, List.map_cons, List.map_nil, List.length_cons, List.length_nil, List.nil_append, List.cons_append, List.set_cons_zero, List.set_cons_succ, List.getElem?_cons_zero, List.getElem?_cons_succ, List.append_nil, perm, List.getD_cons_zero, List.getD_cons_succ, Nat.reduceAdd, Nat.reduceSub, true_and, and_true, if_true, if_false, Bool.false_eq_true, decide_eq_true_eq, D.isNon, lstAt_end, atI_0, atI_1, atI_2, atI_3, atI_4, atI_5, ixN_0, ixN_1, ixN_2, Nat.reduceLT, Nat.reduceLeDiff, Int.reduceLT, Int.reduceLE, Int.reduceToNat, Int.reducePow, Int.reduceMul, Bool.not_true, Bool.not_false, mvD]
    obtain ⟨hl, el⟩ := List.getElem?_eq_some_iff.mp ep
    rw [List.drop_eq_getElem_cons hl, el] at hg
    unfold goal at hg
    rw [List.find?_cons] at hg
    refine ite_pos_neg (fun c => ?_) fun c => ?_
    · rw [decide_eq_true c] at hg
      have : goal r.2 z = some p.2 := hg.symm
      rw [this] at q
      exact q
    · rw [decide_eq_false c] at hg
      exact hk _ _ ⟨rfl, _, _, rfl, hg⟩
  · obtain ⟨rfl, a, b, rfl, hg⟩ := h
    rw [List.length_map, List.drop_length] at hg
    (try refine nx_in ?_); simp only [s_nil, nx_nil, s_cons, s_asg, s_setSub, s_augN, s_expr, s_ret, s_retN, s_ite, s_for, s_while, s_pass, s_brk, s_cont, e_con, e_var0, e_varS, e_tup, e_lst, e_op1, e_op2, e_cond, e_and, e_or, e_not, e_chain, e_sl, e_call, e_lc, es_nil, es_cons, o_no, o_some, wpI, onP_name, onP_nil, onP_cons, onB, onI, onStr_map, onBl_map, onInt_map, intsD_len, Int.toNat_natCast, endsOf, startD_n, nones, w1, w2, pre2, wSl, wSet, wAug, seqAt, listAt, itemAt, wSeq, newLst, wipeD, List.map_cons, List.map_nil, List.length_cons, List.length_nil, List.nil_append, List.cons_append, List.set_cons_zero, List.set_cons_succ, List.getElem?_cons_zero, List.getElem?_cons_succ, List.append_nil, perm, List.getD_cons_zero, List.getD_cons_succ, Nat.reduceAdd, Nat.reduceSub, true_and, and_true, if_true, if_false, Bool.false_eq_true, decide_eq_true_eq, D.isNon, lstAt_end, atI_0, atI_1, atI_2, atI_3, atI_4, atI_5, ixN_0, ixN_1, ixN_2, Nat.reduceLT, Nat.reduceLeDiff, Int.reduceLT, Int.reduceLE, Int.reduceToNat, Int.reducePow, Int.reduceMul, Bool.not_true, Bool.not_false]
    rw [← hg] at q
    exact q

theorem w_goal2 {G : Ctx} {ds : List D} {mu : Store} {Q : QD} {E : QX} (s : spGoal ds mu Q E) : wpSs G c_law_goal (endsOf Q E) (startD N_law_goal ds) mu := w_goal s
def run (m : Mach) : Nat → List Str → Option Nat
  | s, [] => some s
  | s, z :: w => match m[s]? with
    | some r => match goal r.2 z with
      | some t => run m t w
      | none => none
    | none => none
theorem run_cons {m : Mach} {s : Nat} {r : Row} {z : Str} {w : List Str} (h : m[s]? = some r) : run m s (z :: w) = (goal r.2 z).bind fun t => run m t w := by
  rw [run, h]
  show (match goal r.2 z with | some t => run m t w | none => none) = _
  cases goal r.2 z <;> rfl
def acc (m : Mach) (w : List Str) : Bool := match run m 0 w with
  | some s => (match m[s]? with
    | some r => r.1
    | none => false)
  | none => false
def wordD (w : List Str) : D := .tup (w.map .str)
def WW (w : List Str) : Prop := ∀ z ∈ w, PyData.strOk z = true
def spAcc : DSp := fun ds mu Q _ => ∃ m w, ds = [machD m, wordD w] ∧ WM m ∧ 0 < m.length ∧ WW w ∧ Q (.bl (acc m w)) mu
theorem goal_lt {m : Mach} {r : Row} {z : Str} {t : Nat} (wm : WM m) (hr : r ∈ m) (h : goal r.2 z = some t) : t < m.length := by
  unfold goal at h
  obtain ⟨p, hp, rfl⟩ := Option.map_eq_some_iff.mp h
  exact (wm r hr p (List.mem_of_find?_eq_some hp)).1
theorem get_of {α : Type} {xs : List α} {n : Nat} (h : n < xs.length) : ∃ x, xs[n]? = some x ∧ x ∈ xs := ⟨xs[n], List.getElem?_eq_getElem h, List.getElem_mem h⟩
theorem map_get {α β : Type} {f : α → β} {xs : List α} {i : Nat} {y : β} (h : (xs.map f)[i]? = some y) : ∃ x, xs[i]? = some x ∧ y = f x ∧ xs.drop i = x :: xs.drop (i + 1) := by
  rw [List.getElem?_map] at h
  obtain ⟨p, ep, rfl⟩ := Option.map_eq_some_iff.mp h
  obtain ⟨hl, el⟩ := List.getElem?_eq_some_iff.mp ep
  exact ⟨p, ep, rfl, by rw [List.drop_eq_getElem_cons hl, el]⟩
theorem w_accepts {G : Ctx} {i0 : Nat} (g : G.fn i0 = spGoal) {ds : List D} {mu : Store} {Q : QD} {E : QX} (s : spAcc ds mu Q E) : wpSs G (c_accepts i0) (endsOf Q E) (startD N_accepts ds) mu := by
  obtain ⟨m, w, rfl, wm, h0, ww, q⟩ := s
  (try refine nx_in ?_); simp only [s_nil, nx_nil, s_cons, s_asg, s_setSub, s_augN, s_expr, s_ret, s_retN, s_ite, s_for, s_while, s_pass, s_brk, s_cont, e_con, e_var0, e_varS, e_tup, e_lst, e_op1, e_op2, e_cond, e_and, e_or, e_not, e_chain, e_sl, e_call, e_lc, es_nil, es_cons, o_no, o_some, wpI, onP_name, onP_nil, onP_cons, onB, onI, onStr_map, onBl_map, onInt_map, intsD_len, Int.toNat_natCast, endsOf, startD_n, nones, w1, w2, pre2, wSl, wSet, wAug, seqAt, listAt, itemAt, wSeq, newLst, wipeD, List.map_cons, List.map_nil, List.length_cons, List.length_nil, List.nil_append, List.cons_append, List.set_cons_zero, List.set_cons_succ, List.getElem?_cons_zero, List.getElem?_cons_succ, List.append_nil, perm, List.getD_cons_zero, List.getD_cons_succ, Nat.reduceAdd, Nat.reduceSub, true_and, and_true, if_true, if_false, Bool.false_eq_true, decide_eq_true_eq, D.isNon, lstAt_end, atI_0, atI_1, atI_2, atI_3, atI_4, atI_5, ixN_0, ixN_1, ixN_2, Nat.reduceLT, Nat.reduceLeDiff, Int.reduceLT, Int.reduceLE, Int.reduceToNat, Int.reducePow, Int.reduceMul, Bool.not_true, Bool.not_false, c_accepts, N_accepts]
  (try refine nx_in ?_); simp only [s_nil, nx_nil, s_cons, s_asg, s_setSub, s_augN, s_expr, s_ret, s_retN, s_ite, s_for, s_while, s_pass, s_brk, s_cont, e_con, e_var0, e_varS, e_tup, e_lst, e_op1, e_op2, e_cond, e_and, e_or, e_not, e_chain, e_sl, e_call, e_lc, es_nil, es_cons, o_no, o_some, wpI, onP_name, onP_nil, onP_cons, onB, onI, onStr_map, onBl_map, onInt_map, intsD_len, Int.toNat_natCast, endsOf, startD_n, nones, w1, w2, pre2, wSl, wSet, wAug, seqAt, listAt, itemAt, wSeq, newLst, wipeD, List.map_cons, List.map_nil, List.length_cons, List.length_nil, List.nil_append, List.cons_append, List.set_cons_zero, List.set_cons_succ, List.getElem?_cons_zero, List.getElem?_cons_succ, List.append_nil, perm, List.getD_cons_zero, List.getD_cons_succ, Nat.reduceAdd, Nat.reduceSub, true_and, and_true, if_true, if_false, Bool.false_eq_true, decide_eq_true_eq, D.isNon, lstAt_end, atI_0, atI_1, atI_2, atI_3, atI_4, atI_5, ixN_0, ixN_1, ixN_2, Nat.reduceLT, Nat.reduceLeDiff, Int.reduceLT, Int.reduceLE, Int.reduceToNat, Int.reducePow, Int.reduceMul, Bool.not_true, Bool.not_false, wordD, stay]
  refine forGo_inv (fun i rh nu => nu = mu ∧ ∃ s a, rh = [some (machD m), some (wordD w), some (.int (s : Nat)), a] ∧ s < m.length ∧ run m s (w.drop i) = run m 0 w) ⟨rfl, 0, _, rfl, h0, rfl⟩ (fun _ _ _ _ => trivial) (fun i x rh nu k ex h hk => ?_) (fun rh nu h => ?_)
  · obtain ⟨rfl, s, a, rfl, hs, hg⟩ := h
    obtain ⟨z, ez, rfl, ed⟩ := map_get ex
    obtain ⟨r, er, rm⟩ := get_of hs
    (try refine nx_in ?_); simp only [s_nil, nx_nil, s_cons, s_asg, s_setSub, s_augN, s_expr, s_ret, s_retN, s_ite, s_for, s_while, s_pass, s_brk, s_cont, e_con, e_var0, e_varS, e_tup, e_lst, e_op1, e_op2, e_cond, e_and, e_or, e_not, e_chain, e_sl, e_call, e_lc, es_nil, es_cons, o_no, o_some, wpI, onP_name, onP_nil, onP_cons, onB, onI, onStr_map, onBl_map, onInt_map, intsD_len, Int.toNat_natCast, endsOf, startD_n, nones, w1, w2, pre2, wSl, wSet, wAug, seqAt, listAt, itemAt, wSeq, newLst, wipeD, List.map_cons, List.map_nil, List.length_cons, List.length_nil, List.nil_append, List.cons_append, List.set_cons_zero, List.set_cons_succ, List.getElem?_cons_zero, List.getElem?_cons_succ, List.append_nil, perm, List.getD_cons_zero, List.getD_cons_succ, Nat.reduceAdd, Nat.reduceSub, true_and, and_true, if_true, if_false, Bool.false_eq_true, decide_eq_true_eq, D.isNon, lstAt_end, atI_0, atI_1, atI_2, atI_3, atI_4, atI_5, ixN_0, ixN_1, ixN_2, Nat.reduceLT, Nat.reduceLeDiff, Int.reduceLT, Int.reduceLE, Int.reduceToNat, Int.reducePow, Int.reduceMul, Bool.not_true, Bool.not_false, forT]
    refine call_to g ⟨m, s, z, r, rfl, er, wm, ww z (List.mem_of_getElem? ez), ?_⟩
    rw [ed, run_cons er] at hg
    cases hz : goal r.2 z with
    | none =>
      rw [hz] at hg
      (try refine nx_in ?_); simp only [s_nil, nx_nil, s_cons, s_asg, s_setSub, s_augN, s_expr, s_ret, s_retN, s_ite, s_for, s_while, s_pass, s_brk, s_cont, e_con, e_var0, e_varS, e_tup, e_lst, e_op1, e_op2, e_cond, e_and, e_or, e_not, e_chain, e_sl, e_call, e_lc, es_nil, es_cons, o_no, o_some, wpI, onP_name, onP_nil, onP_cons, onB, onI, onStr_map, onBl_map, onInt_map, intsD_len, Int.toNat_natCast, endsOf, startD_n, nones, w1, w2, pre2, wSl, wSet, wAug, seqAt, listAt, itemAt, wSeq, newLst, wipeD, List.map_cons, List.map_nil, List.length_cons, List.length_nil, List.nil_append, List.cons_append, List.set_cons_zero, List.set_cons_succ, List.getElem?_cons_zero, List.getElem?_cons_succ, List.append_nil, perm, List.getD_cons_zero, List.getD_cons_succ, Nat.reduceAdd, Nat.reduceSub, true_and, and_true, if_true, if_false, Bool.false_eq_true, decide_eq_true_eq, D.isNon, lstAt_end, atI_0, atI_1, atI_2, atI_3, atI_4, atI_5, ixN_0, ixN_1, ixN_2, Nat.reduceLT, Nat.reduceLeDiff, Int.reduceLT, Int.reduceLE, Int.reduceToNat, Int.reducePow, Int.reduceMul, Bool.not_true, Bool.not_false, oD]
      have : acc m w = false := by unfold acc; rw [← hg]; rfl
      rw [this] at q
      exact q
    | some t =>
      rw [hz] at hg
      (try refine nx_in ?_); simp only [s_nil, nx_nil, s_cons, s_asg, s_setSub, s_augN, s_expr, s_ret, s_retN, s_ite, s_for, s_while, s_pass, s_brk, s_cont, e_con, e_var0, e_varS, e_tup, e_lst, e_op1, e_op2, e_cond, e_and, e_or, e_not, e_chain, e_sl, e_call, e_lc, es_nil, es_cons, o_no, o_some, wpI, onP_name, onP_nil, onP_cons, onB, onI, onStr_map, onBl_map, onInt_map, intsD_len, Int.toNat_natCast, endsOf, startD_n, nones, w1, w2, pre2, wSl, wSet, wAug, seqAt, listAt, itemAt, wSeq, newLst, wipeD, List.map_cons, List.map_nil, List.length_cons, List.length_nil, List.nil_append, List.cons_append, List.set_cons_zero, List.set_cons_succ, List.getElem?_cons_zero, List.getElem?_cons_succ, List.append_nil, perm, List.getD_cons_zero, List.getD_cons_succ, Nat.reduceAdd, Nat.reduceSub, true_and, and_true, if_true, if_false, Bool.false_eq_true, decide_eq_true_eq, D.isNon, lstAt_end, atI_0, atI_1, atI_2, atI_3, atI_4, atI_5, ixN_0, ixN_1, ixN_2, Nat.reduceLT, Nat.reduceLeDiff, Int.reduceLT, Int.reduceLE, Int.reduceToNat, Int.reducePow, Int.reduceMul, Bool.not_true, Bool.not_false, oD]
      exact hk _ _ ⟨rfl, t, _, rfl, goal_lt wm rm hz, hg⟩
  · obtain ⟨rfl, s, a, rfl, hs, hg⟩ := h
    rw [List.length_map, List.drop_length] at hg
    obtain ⟨r, er, rm⟩ := get_of hs
    (try refine nx_in ?_); simp only [s_nil, nx_nil, s_cons, s_asg, s_setSub, s_augN, s_expr, s_ret, s_retN, s_ite, s_for, s_while, s_pass, s_brk, s_cont, e_con, e_var0, e_varS, e_tup, e_lst, e_op1, e_op2, e_cond, e_and, e_or, e_not, e_chain, e_sl, e_call, e_lc, es_nil, es_cons, o_no, o_some, wpI, onP_name, onP_nil, onP_cons, onB, onI, onStr_map, onBl_map, onInt_map, intsD_len, Int.toNat_natCast, endsOf, startD_n, nones, w1, w2, pre2, wSl, wSet, wAug, seqAt, listAt, itemAt, wSeq, newLst, wipeD, List.map_cons, List.map_nil, List.length_cons, List.length_nil, List.nil_append, List.cons_append, List.set_cons_zero, List.set_cons_succ, List.getElem?_cons_zero, List.getElem?_cons_succ, List.append_nil, perm, List.getD_cons_zero, List.getD_cons_succ, Nat.reduceAdd, Nat.reduceSub, true_and, and_true, if_true, if_false, Bool.false_eq_true, decide_eq_true_eq, D.isNon, lstAt_end, atI_0, atI_1, atI_2, atI_3, atI_4, atI_5, ixN_0, ixN_1, ixN_2, Nat.reduceLT, Nat.reduceLeDiff, Int.reduceLT, Int.reduceLE, Int.reduceToNat, Int.reducePow, Int.reduceMul, Bool.not_true, Bool.not_false, machD, atI_map er, rowD]
    have : acc m w = r.1 := by unfold acc; rw [← hg]; show (match m[s]? with | some r => r.1 | none => false) = _; rw [er]
    rw [this] at q
    exact q
def spState : DSp := fun ds mu Q _ => ∃ m w, ds = [machD m, wordD w] ∧ WM m ∧ 0 < m.length ∧ WW w ∧ Q (oD (run m 0 w)) mu
theorem w_state {G : Ctx} {i0 : Nat} (g : G.fn i0 = spGoal) {ds : List D} {mu : Store} {Q : QD} {E : QX} (s : spState ds mu Q E) : wpSs G (c_law_state i0) (endsOf Q E) (startD N_law_state ds) mu := by
  obtain ⟨m, w, rfl, wm, h0, ww, q⟩ := s
  (try refine nx_in ?_); simp only [s_nil, nx_nil, s_cons, s_asg, s_setSub, s_augN, s_expr, s_ret, s_retN, s_ite, s_for, s_while, s_pass, s_brk, s_cont, e_con, e_var0, e_varS, e_tup, e_lst, e_op1, e_op2, e_cond, e_and, e_or, e_not, e_chain, e_sl, e_call, e_lc, es_nil, es_cons, o_no, o_some, wpI, onP_name, onP_nil, onP_cons, onB, onI, onStr_map, onBl_map, onInt_map, intsD_len, Int.toNat_natCast, endsOf, startD_n, nones, w1, w2, pre2, wSl, wSet, wAug, seqAt, listAt, itemAt, wSeq, newLst, wipeD, List.map_cons, List.map_nil, List.length_cons, List.length_nil, List.nil_append, List.cons_append, List.set_cons_zero, List.set_cons_succ, List.getElem?_cons_zero, List.getElem?_cons_succ, List.append_nil, perm, List.getD_cons_zero, List.getD_cons_succ, Nat.reduceAdd, Nat.reduceSub, true_and, and_true, if_true, if_false, Bool.false_eq_true, decide_eq_true_eq, D.isNon, lstAt_end, atI_0, atI_1, atI_2, atI_3, atI_4, atI_5, ixN_0, ixN_1, ixN_2, Nat.reduceLT, Nat.reduceLeDiff, Int.reduceLT, Int.reduceLE, Int.reduceToNat, Int.reducePow, Int.reduceMul, Bool.not_true, Bool.not_false, c_law_state, N_law_state]
  (try refine nx_in ?_); simp only [s_nil, nx_nil, s_cons, s_asg, s_setSub, s_augN, s_expr, s_ret, s_retN, s_ite, s_for, s_while, s_pass, s_brk, s_cont, e_con, e_var0, e_varS, e_tup, e_lst, e_op1, e_op2, e_cond, e_and, e_or, e_not, e_chain, e_sl, e_call, e_lc, es_nil, es_cons, o_no, o_some, wpI, onP_name, onP_nil, onP_cons, onB, onI, onStr_map, onBl_map, onInt_map, intsD_len, Int.toNat_natCast, endsOf, startD_n, nones, w1, w2, pre2, wSl, wSet, wAug, seqAt, listAt, itemAt, wSeq, newLst, wipeD, List.map_cons, List.map_nil, List.length_cons, List.length_nil, List.nil_append, List.cons_append, List.set_cons_zero, List.set_cons_succ, List.getElem?_cons_zero, List.getElem?_cons_succ, List.append_nil, perm, List.getD_cons_zero, List.getD_cons_succ, Nat.reduceAdd, Nat.reduceSub, true_and, and_true, if_true, if_false, Bool.false_eq_true, decide_eq_true_eq, D.isNon, lstAt_end, atI_0, atI_1, atI_2, atI_3, atI_4, atI_5, ixN_0, ixN_1, ixN_2, Nat.reduceLT, Nat.reduceLeDiff, Int.reduceLT, Int.reduceLE, Int.reduceToNat, Int.reducePow, Int.reduceMul, Bool.not_true, Bool.not_false, wordD, stay]
  refine forGo_inv (fun i rh nu => nu = mu ∧ ∃ (o : Option Nat) (a : Option D), rh = [some (machD m), some (wordD w), some (oD o), a] ∧ (∀ s, o = some s → s < m.length) ∧ (o.bind fun s => run m s (w.drop i)) = run m 0 w) ⟨rfl, some 0, _, rfl, fun s e => by cases e; exact h0, rfl⟩ (fun _ _ _ _ => trivial) (fun i x rh nu k ex h hk => ?_) (fun rh nu h => ?_)
  · obtain ⟨rfl, o, a, rfl, hs, hg⟩ := h
    obtain ⟨z, ez, rfl, ed⟩ := map_get ex
    (try refine nx_in ?_); simp only [s_nil, nx_nil, s_cons, s_asg, s_setSub, s_augN, s_expr, s_ret, s_retN, s_ite, s_for, s_while, s_pass, s_brk, s_cont, e_con, e_var0, e_varS, e_tup, e_lst, e_op1, e_op2, e_cond, e_and, e_or, e_not, e_chain, e_sl, e_call, e_lc, es_nil, es_cons, o_no, o_some, wpI, onP_name, onP_nil, onP_cons, onB, onI, onStr_map, onBl_map, onInt_map, intsD_len, Int.toNat_natCast, endsOf, startD_n, nones, w1, w2, pre2, wSl, wSet, wAug, seqAt, listAt, itemAt, wSeq, newLst, wipeD, List.map_cons, List.map_nil, List.length_cons, List.length_nil, List.nil_append, List.cons_append, List.set_cons_zero, List.set_cons_succ, List.getElem?_cons_zero, List.getElem?_cons_succ, List.append_nil, perm, List.getD_cons_zero, List.getD_cons_succ, Nat.reduceAdd, Nat.reduceSub, true_and, and_true, if_true, if_false, Bool.false_eq_true, decide_eq_true_eq, D.isNon, lstAt_end, atI_0, atI_1, atI_2, atI_3, atI_4, atI_5, ixN_0, ixN_1, ixN_2, Nat.reduceLT, Nat.reduceLeDiff, Int.reduceLT, Int.reduceLE, Int.reduceToNat, Int.reducePow, Int.reduceMul, Bool.not_true, Bool.not_false, forT]
    cases o with
    | none =>
      (try refine nx_in ?_); simp only [s_nil, nx_nil, s_cons, s_asg, s_setSub, s_augN, s_expr, s_ret, s_retN, s_ite, s_for, s_while, s_pass, s_brk, s_cont, e_con, e_var0, e_varS, e_tup, e_lst, e_op1, e_op2, e_cond, e_and, e_or, e_not, e_chain, e_sl, e_call, e_lc, es_nil, es_cons, o_no, o_some, wpI, onP_name, onP_nil, onP_cons, onB, onI, onStr_map, onBl_map, onInt_map, intsD_len, Int.toNat_natCast, endsOf, startD_n, nones, w1, w2, pre2, wSl, wSet, wAug, seqAt, listAt, itemAt, wSeq, newLst, wipeD, List.map_cons, List.map_nil, List.length_cons, List.length_nil, List.nil_append, List.cons_append, List.set_cons_zero, List.set_cons_succ, List.getElem?_cons_zero, List.getElem?_cons_succ, List.append_nil, perm, List.getD_cons_zero, List.getD_cons_succ, Nat.reduceAdd, Nat.reduceSub, true_and, and_true, if_true, if_false, Bool.false_eq_true, decide_eq_true_eq, D.isNon, lstAt_end, atI_0, atI_1, atI_2, atI_3, atI_4, atI_5, ixN_0, ixN_1, ixN_2, Nat.reduceLT, Nat.reduceLeDiff, Int.reduceLT, Int.reduceLE, Int.reduceToNat, Int.reducePow, Int.reduceMul, Bool.not_true, Bool.not_false, oD]
      exact hk _ _ ⟨rfl, none, _, rfl, (fun s e => by cases e), hg⟩
    | some s =>
      obtain ⟨r, er, rm⟩ := get_of (hs s rfl)
      (try refine nx_in ?_); simp only [s_nil, nx_nil, s_cons, s_asg, s_setSub, s_augN, s_expr, s_ret, s_retN, s_ite, s_for, s_while, s_pass, s_brk, s_cont, e_con, e_var0, e_varS, e_tup, e_lst, e_op1, e_op2, e_cond, e_and, e_or, e_not, e_chain, e_sl, e_call, e_lc, es_nil, es_cons, o_no, o_some, wpI, onP_name, onP_nil, onP_cons, onB, onI, onStr_map, onBl_map, onInt_map, intsD_len, Int.toNat_natCast, endsOf, startD_n, nones, w1, w2, pre2, wSl, wSet, wAug, seqAt, listAt, itemAt, wSeq, newLst, wipeD, List.map_cons, List.map_nil, List.length_cons, List.length_nil, List.nil_append, List.cons_append, List.set_cons_zero, List.set_cons_succ, List.getElem?_cons_zero, List.getElem?_cons_succ, List.append_nil, perm, List.getD_cons_zero, List.getD_cons_succ, Nat.reduceAdd, Nat.reduceSub, true_and, and_true, if_true, if_false, Bool.false_eq_true, decide_eq_true_eq, D.isNon, lstAt_end, atI_0, atI_1, atI_2, atI_3, atI_4, atI_5, ixN_0, ixN_1, ixN_2, Nat.reduceLT, Nat.reduceLeDiff, Int.reduceLT, Int.reduceLE, Int.reduceToNat, Int.reducePow, Int.reduceMul, Bool.not_true, Bool.not_false, oD]
      refine call_to g ⟨m, s, z, r, rfl, er, wm, ww z (List.mem_of_getElem? ez), ?_⟩
      (try refine nx_in ?_); simp only [s_nil, nx_nil, s_cons, s_asg, s_setSub, s_augN, s_expr, s_ret, s_retN, s_ite, s_for, s_while, s_pass, s_brk, s_cont, e_con, e_var0, e_varS, e_tup, e_lst, e_op1, e_op2, e_cond, e_and, e_or, e_not, e_chain, e_sl, e_call, e_lc, es_nil, es_cons, o_no, o_some, wpI, onP_name, onP_nil, onP_cons, onB, onI, onStr_map, onBl_map, onInt_map, intsD_len, Int.toNat_natCast, endsOf, startD_n, nones, w1, w2, pre2, wSl, wSet, wAug, seqAt, listAt, itemAt, wSeq, newLst, wipeD, List.map_cons, List.map_nil, List.length_cons, List.length_nil, List.nil_append, List.cons_append, List.set_cons_zero, List.set_cons_succ, List.getElem?_cons_zero, List.getElem?_cons_succ, List.append_nil, perm, List.getD_cons_zero, List.getD_cons_succ, Nat.reduceAdd, Nat.reduceSub, true_and, and_true, if_true, if_false, Bool.false_eq_true, decide_eq_true_eq, D.isNon, lstAt_end, atI_0, atI_1, atI_2, atI_3, atI_4, atI_5, ixN_0, ixN_1, ixN_2, Nat.reduceLT, Nat.reduceLeDiff, Int.reduceLT, Int.reduceLE, Int.reduceToNat, Int.reducePow, Int.reduceMul, Bool.not_true, Bool.not_false]
      have hg : run m s (w.drop i) = run m 0 w := hg
      rw [ed, run_cons er] at hg
      refine hk _ _ ⟨rfl, goal r.2 z, _, rfl, fun t ht => goal_lt wm rm ht, ?_⟩
      cases hz : goal r.2 z with
      | none => rw [hz] at hg; exact hg
      | some t => rw [hz] at hg; exact hg
  · obtain ⟨rfl, o, a, rfl, hs, hg⟩ := h
    rw [List.length_map, List.drop_length] at hg
    (try refine nx_in ?_); simp only [s_nil, nx_nil, s_cons, s_asg, s_setSub, s_augN, s_expr, s_ret, s_retN, s_ite, s_for, s_while, s_pass, s_brk, s_cont, e_con, e_var0, e_varS, e_tup, e_lst, e_op1, e_op2, e_cond, e_and, e_or, e_not, e_chain, e_sl, e_call, e_lc, es_nil, es_cons, o_no, o_some, wpI, onP_name, onP_nil, onP_cons, onB, onI, onStr_map, onBl_map, onInt_map, intsD_len, Int.toNat_natCast, endsOf, startD_n, nones, w1, w2, pre2, wSl, wSet, wAug, seqAt, listAt, itemAt, wSeq, newLst, wipeD, List.map_cons, List.map_nil, List.length_cons, List.length_nil, List.nil_append, List.cons_append, List.set_cons_zero, List.set_cons_succ, List.getElem?_cons_zero, List.getElem?_cons_succ, List.append_nil, perm, List.getD_cons_zero, List.getD_cons_succ, Nat.reduceAdd, Nat.reduceSub, true_and, and_true, if_true, if_false, Bool.false_eq_true, decide_eq_true_eq, D.isNon, lstAt_end, atI_0, atI_1, atI_2, atI_3, atI_4, atI_5, ixN_0, ixN_1, ixN_2, Nat.reduceLT, Nat.reduceLeDiff, Int.reduceLT, Int.reduceLE, Int.reduceToNat, Int.reducePow, Int.reduceMul, Bool.not_true, Bool.not_false]
    have : run m 0 w = o := by rw [← hg]; cases o <;> rfl
    rw [this] at q
    exact q
theorem run_lt {m : Mach} (wm : WM m) : ∀ (w : List Str) {s t : Nat}, s < m.length → run m s w = some t → t < m.length
  | [], s, t, h, e => by unfold run at e; cases e; exact h
  | z :: w, s, t, h, e => by
    obtain ⟨r, er, rm⟩ := get_of h
    rw [run_cons er] at e
    cases hz : goal r.2 z with
    | none => rw [hz] at e; cases e
    | some u => rw [hz] at e; exact run_lt wm w (goal_lt wm rm hz) e
theorem w_takes {G : Ctx} {i0 : Nat} (g : G.fn i0 = spState) {ds : List D} {mu : Store} {Q : QD} {E : QX} (s : spAcc ds mu Q E) : wpSs G (c_law_takes i0) (endsOf Q E) (startD N_law_takes ds) mu := by
  obtain ⟨m, w, rfl, wm, h0, ww, q⟩ := s
  (try refine nx_in ?_); simp only [s_nil, nx_nil, s_cons, s_asg, s_setSub, s_augN, s_expr, s_ret, s_retN, s_ite, s_for, s_while, s_pass, s_brk, s_cont, e_con, e_var0, e_varS, e_tup, e_lst, e_op1, e_op2, e_cond, e_and, e_or, e_not, e_chain, e_sl, e_call, e_lc, es_nil, es_cons, o_no, o_some, wpI, onP_name, onP_nil, onP_cons, onB, onI, onStr_map, onBl_map, onInt_map, intsD_len, Int.toNat_natCast, endsOf, startD_n, nones, w1, w2, pre2, wSl, wSet, wAug, seqAt, listAt, itemAt, wSeq, newLst, wipeD, List.map_cons, List.map_nil, List.length_cons, List.length_nil, List.nil_append, List.cons_append, List.set_cons_zero, List.set_cons_succ, List.getElem?_cons_zero, List.getElem?_cons_succ, List.append_nil, perm, List.getD_cons_zero, List.getD_cons_succ, Nat.reduceAdd, Nat.reduceSub, true_and, and_true, if_true, if_false, Bool.false_eq_true, decide_eq_true_eq, D.isNon, lstAt_end, atI_0, atI_1, atI_2, atI_3, atI_4, atI_5, ixN_0, ixN_1, ixN_2, Nat.reduceLT, Nat.reduceLeDiff, Int.reduceLT, Int.reduceLE, Int.reduceToNat, Int.reducePow, Int.reduceMul, Bool.not_true, Bool.not_false, c_law_takes, N_law_takes]
  refine call_to g ⟨m, w, rfl, wm, h0, ww, ?_⟩
  unfold acc at q
  cases e : run m 0 w with
  | none =>
    rw [e] at q
    (try refine nx_in ?_); simp only [s_nil, nx_nil, s_cons, s_asg, s_setSub, s_augN, s_expr, s_ret, s_retN, s_ite, s_for, s_while, s_pass, s_brk, s_cont, e_con, e_var0, e_varS, e_tup, e_lst, e_op1, e_op2, e_cond, e_and, e_or, e_not, e_chain, e_sl, e_call, e_lc, es_nil, es_cons, o_no, o_some, wpI, onP_name, onP_nil, onP_cons, onB, onI, onStr_map, onBl_map, onInt_map, intsD_len, Int.toNat_natCast, endsOf, startD_n, nones, w1, w2, pre2, wSl, wSet, wAug, seqAt, listAt, itemAt, wSeq, newLst, wipeD, List.map_cons, List.map_nil, List.length_cons, List.length_nil, List.nil_append, List.cons_append, List.set_cons_zero, List.set_cons_succ, List.getElem?_cons_zero, List.getElem?_cons_succ, List.append_nil, perm, List.getD_cons_zero, List.getD_cons_succ, Nat.reduceAdd, Nat.reduceSub, true_and, and_true, if_true, if_false, Bool.false_eq_true, decide_eq_true_eq, D.isNon, lstAt_end, atI_0, atI_1, atI_2, atI_3, atI_4, atI_5, ixN_0, ixN_1, ixN_2, Nat.reduceLT, Nat.reduceLeDiff, Int.reduceLT, Int.reduceLE, Int.reduceToNat, Int.reducePow, Int.reduceMul, Bool.not_true, Bool.not_false, oD]
    exact q
  | some s =>
    obtain ⟨r, er, rm⟩ := get_of (run_lt wm w h0 e)
    rw [e] at q
    simp only [er] at q
    (try refine nx_in ?_); simp only [s_nil, nx_nil, s_cons, s_asg, s_setSub, s_augN, s_expr, s_ret, s_retN, s_ite, s_for, s_while, s_pass, s_brk, s_cont, e_con, e_var0, e_varS, e_tup, e_lst, e_op1, e_op2, e_cond, e_and, e_or, e_not, e_chain, e_sl, e_call, e_lc, es_nil, es_cons, o_no, o_some, wpI, onP_name, onP_nil, onP_cons, onB, onI, onStr_map, onBl_map, onInt_map, intsD_len, Int.toNat_natCast, endsOf, startD_n, nones, w1, w2, pre2, wSl, wSet, wAug, seqAt, listAt, itemAt, wSeq, newLst, wipeD, List.map_cons, List.map_nil, List.length_cons, List.length_nil, List.nil_append, List.cons_append, List.set_cons_zero, List.set_cons_succ, List.getElem?_cons_zero, List.getElem?_cons_succ, List.append_nil, perm, List.getD_cons_zero, List.getD_cons_succ, Nat.reduceAdd, Nat.reduceSub, true_and, and_true, if_true, if_false, Bool.false_eq_true, decide_eq_true_eq, D.isNon, lstAt_end, atI_0, atI_1, atI_2, atI_3, atI_4, atI_5, ixN_0, ixN_1, ixN_2, Nat.reduceLT, Nat.reduceLeDiff, Int.reduceLT, Int.reduceLE, Int.reduceToNat, Int.reducePow, Int.reduceMul, Bool.not_true, Bool.not_false, oD, machD, atI_map er, rowD]
    exact q
end MP

namespace MP
open PySem PySem.Spec PyProof.Rows L2
/-- count different short words -/
def spLetters (c : Nat) : DSp := fun ds mu Q _ => ∃ h n, ds = [.ref h, .int c] ∧ Hand mu h (n + 5) ∧
  ∀ (ws : List Str) m nu, mu.length ≤ m → nu[m]? = some (.lst (ws.map .str)) → ws.length = c → ws.Nodup → (∀ z ∈ ws, PyData.strOk z = true ∧ z.length ≤ 16) → Fr h mu nu → Hand nu h n → Q (.ref m) nu
theorem abc_len : (Str.ofString "abcdefghijklmnopqrstuvwxyz").cps.toList.length = 26 := by decide +kernel
theorem abc_at : ∀ j < 26, (Str.ofString "abcdefghijklmnopqrstuvwxyz").cps.toList.getD j 0 = 97 + j := by decide +kernel
theorem w_letters {G : Ctx} (g1 : G.fn i_law_take = spTake) (g2 : G.fn i_law_of = spOf) {ds : List D} {mu : Store} {Q : QD} {E : QX} (s : spLetters 4 ds mu Q E) : wpSs G c_law_letters (endsOf Q E) (startD N_law_letters ds) mu := by
  obtain ⟨h, n, rfl, hh, q⟩ := s
  (try refine nx_in ?_); simp only [s_nil, nx_nil, s_cons, s_asg, s_setSub, s_augN, s_expr, s_ret, s_retN, s_ite, s_for, s_while, s_pass, s_brk, s_cont, e_con, e_var0, e_varS, e_tup, e_lst, e_op1, e_op2, e_cond, e_and, e_or, e_not, e_chain, e_sl, e_call, e_lc, es_nil, es_cons, o_no, o_some, wpI, onP_name, onP_nil, onP_cons, onB, onI, onStr_map, onBl_map, onInt_map, intsD_len, Int.toNat_natCast, endsOf, startD_n, nones, w1, w2, pre2, wSl, wSet, wAug, seqAt, listAt, itemAt, wSeq, newLst, wipeD, List.map_cons, List.map_nil, List.length_cons, List.length_nil, List.nil_append, List.cons_append, List.set_cons_zero, List.set_cons_succ, List.getElem?_cons_zero, List.getElem?_cons_succ, List.append_nil, perm, List.getD_cons_zero, List.getD_cons_succ, Nat.reduceAdd, Nat.reduceSub, true_and, and_true, if_true, if_false, Bool.false_eq_true, decide_eq_true_eq, D.isNon, lstAt_end, atI_0, atI_1, atI_2, atI_3, atI_4, atI_5, ixN_0, ixN_1, ixN_2, Nat.reduceLT, Nat.reduceLeDiff, Int.reduceLT, Int.reduceLE, Int.reduceToNat, Int.reducePow, Int.reduceMul, Bool.not_true, Bool.not_false, c_law_letters, N_law_letters]
  (try refine nx_in ?_); simp only [s_nil, nx_nil, s_cons, s_asg, s_setSub, s_augN, s_expr, s_ret, s_retN, s_ite, s_for, s_while, s_pass, s_brk, s_cont, e_con, e_var0, e_varS, e_tup, e_lst, e_op1, e_op2, e_cond, e_and, e_or, e_not, e_chain, e_sl, e_call, e_lc, es_nil, es_cons, o_no, o_some, wpI, onP_name, onP_nil, onP_cons, onB, onI, onStr_map, onBl_map, onInt_map, intsD_len, Int.toNat_natCast, endsOf, startD_n, nones, w1, w2, pre2, wSl, wSet, wAug, seqAt, listAt, itemAt, wSeq, newLst, wipeD, List.map_cons, List.map_nil, List.length_cons, List.length_nil, List.nil_append, List.cons_append, List.set_cons_zero, List.set_cons_succ, List.getElem?_cons_zero, List.getElem?_cons_succ, List.append_nil, perm, List.getD_cons_zero, List.getD_cons_succ, Nat.reduceAdd, Nat.reduceSub, true_and, and_true, if_true, if_false, Bool.false_eq_true, decide_eq_true_eq, D.isNon, lstAt_end, atI_0, atI_1, atI_2, atI_3, atI_4, atI_5, ixN_0, ixN_1, ixN_2, Nat.reduceLT, Nat.reduceLeDiff, Int.reduceLT, Int.reduceLE, Int.reduceToNat, Int.reducePow, Int.reduceMul, Bool.not_true, Bool.not_false]
  refine call_to g1 ⟨h, n + 4, _, rfl, by decide, by decide, hh, fun r1 m1 a1 b1 f1 hh1 => ?_⟩
  (try refine nx_in ?_); simp only [s_nil, nx_nil, s_cons, s_asg, s_setSub, s_augN, s_expr, s_ret, s_retN, s_ite, s_for, s_while, s_pass, s_brk, s_cont, e_con, e_var0, e_varS, e_tup, e_lst, e_op1, e_op2, e_cond, e_and, e_or, e_not, e_chain, e_sl, e_call, e_lc, es_nil, es_cons, o_no, o_some, wpI, onP_name, onP_nil, onP_cons, onB, onI, onStr_map, onBl_map, onInt_map, intsD_len, Int.toNat_natCast, endsOf, startD_n, nones, w1, w2, pre2, wSl, wSet, wAug, seqAt, listAt, itemAt, wSeq, newLst, wipeD, List.map_cons, List.map_nil, List.length_cons, List.length_nil, List.nil_append, List.cons_append, List.set_cons_zero, List.set_cons_succ, List.getElem?_cons_zero, List.getElem?_cons_succ, List.append_nil, perm, List.getD_cons_zero, List.getD_cons_succ, Nat.reduceAdd, Nat.reduceSub, true_and, and_true, if_true, if_false, Bool.false_eq_true, decide_eq_true_eq, D.isNon, lstAt_end, atI_0, atI_1, atI_2, atI_3, atI_4, atI_5, ixN_0, ixN_1, ixN_2, Nat.reduceLT, Nat.reduceLeDiff, Int.reduceLT, Int.reduceLE, Int.reduceToNat, Int.reducePow, Int.reduceMul, Bool.not_true, Bool.not_false]
  have l1 := hh1.lt
  refine ⟨size_le (by decide), call_to g2 ⟨h, n + 3, _, rfl, hh1.app, .inl ⟨_, .inr ⟨_, (by omega), rfl, by simp; rfl⟩, by simp, by simp, fun r2 m2 k2 f2 hh2 => ?_⟩⟩⟩
  (try refine nx_in ?_); simp only [s_nil, nx_nil, s_cons, s_asg, s_setSub, s_augN, s_expr, s_ret, s_retN, s_ite, s_for, s_while, s_pass, s_brk, s_cont, e_con, e_var0, e_varS, e_tup, e_lst, e_op1, e_op2, e_cond, e_and, e_or, e_not, e_chain, e_sl, e_call, e_lc, es_nil, es_cons, o_no, o_some, wpI, onP_name, onP_nil, onP_cons, onB, onI, onStr_map, onBl_map, onInt_map, intsD_len, Int.toNat_natCast, endsOf, startD_n, nones, w1, w2, pre2, wSl, wSet, wAug, seqAt, listAt, itemAt, wSeq, newLst, wipeD, List.map_cons, List.map_nil, List.length_cons, List.length_nil, List.nil_append, List.cons_append, List.set_cons_zero, List.set_cons_succ, List.getElem?_cons_zero, List.getElem?_cons_succ, List.append_nil, perm, List.getD_cons_zero, List.getD_cons_succ, Nat.reduceAdd, Nat.reduceSub, true_and, and_true, if_true, if_false, Bool.false_eq_true, decide_eq_true_eq, D.isNon, lstAt_end, atI_0, atI_1, atI_2, atI_3, atI_4, atI_5, ixN_0, ixN_1, ixN_2, Nat.reduceLT, Nat.reduceLeDiff, Int.reduceLT, Int.reduceLE, Int.reduceToNat, Int.reducePow, Int.reduceMul, Bool.not_true, Bool.not_false]
  refine ⟨size_le (by decide), ?_⟩
  obtain ⟨lp, rfl, hlp⟩ : ∃ lp : Int, r2 = .int lp ∧ lp ∈ ([1, 3, 5, 7, 9, 11, 25] : List Int) := by
    simp only [List.mem_cons, List.not_mem_nil, or_false] at k2 ⊢
    rcases k2 with rfl | rfl | rfl | rfl | rfl | rfl | rfl <;> exact ⟨_, rfl, by decide⟩
  (try refine nx_in ?_); simp only [s_nil, nx_nil, s_cons, s_asg, s_setSub, s_augN, s_expr, s_ret, s_retN, s_ite, s_for, s_while, s_pass, s_brk, s_cont, e_con, e_var0, e_varS, e_tup, e_lst, e_op1, e_op2, e_cond, e_and, e_or, e_not, e_chain, e_sl, e_call, e_lc, es_nil, es_cons, o_no, o_some, wpI, onP_name, onP_nil, onP_cons, onB, onI, onStr_map, onBl_map, onInt_map, intsD_len, Int.toNat_natCast, endsOf, startD_n, nones, w1, w2, pre2, wSl, wSet, wAug, seqAt, listAt, itemAt, wSeq, newLst, wipeD, List.map_cons, List.map_nil, List.length_cons, List.length_nil, List.nil_append, List.cons_append, List.set_cons_zero, List.set_cons_succ, List.getElem?_cons_zero, List.getElem?_cons_succ, List.append_nil, perm, List.getD_cons_zero, List.getD_cons_succ, Nat.reduceAdd, Nat.reduceSub, true_and, and_true, if_true, if_false, Bool.false_eq_true, decide_eq_true_eq, D.isNon, lstAt_end, atI_0, atI_1, atI_2, atI_3, atI_4, atI_5, ixN_0, ixN_1, ixN_2, Nat.reduceLT, Nat.reduceLeDiff, Int.reduceLT, Int.reduceLE, Int.reduceToNat, Int.reducePow, Int.reduceMul, Bool.not_true, Bool.not_false]
  refine call_to g2 ⟨h, n + 2, _, rfl, hh2, .inr ⟨_, rfl, by decide +kernel, by decide +kernel, fun r3 m3 k3 f3 hh3 => ?_⟩⟩
  (try refine nx_in ?_); simp only [s_nil, nx_nil, s_cons, s_asg, s_setSub, s_augN, s_expr, s_ret, s_retN, s_ite, s_for, s_while, s_pass, s_brk, s_cont, e_con, e_var0, e_varS, e_tup, e_lst, e_op1, e_op2, e_cond, e_and, e_or, e_not, e_chain, e_sl, e_call, e_lc, es_nil, es_cons, o_no, o_some, wpI, onP_name, onP_nil, onP_cons, onB, onI, onStr_map, onBl_map, onInt_map, intsD_len, Int.toNat_natCast, endsOf, startD_n, nones, w1, w2, pre2, wSl, wSet, wAug, seqAt, listAt, itemAt, wSeq, newLst, wipeD, List.map_cons, List.map_nil, List.length_cons, List.length_nil, List.nil_append, List.cons_append, List.set_cons_zero, List.set_cons_succ, List.getElem?_cons_zero, List.getElem?_cons_succ, List.append_nil, perm, List.getD_cons_zero, List.getD_cons_succ, Nat.reduceAdd, Nat.reduceSub, true_and, and_true, if_true, if_false, Bool.false_eq_true, decide_eq_true_eq, D.isNon, lstAt_end, atI_0, atI_1, atI_2, atI_3, atI_4, atI_5, ixN_0, ixN_1, ixN_2, Nat.reduceLT, Nat.reduceLeDiff, Int.reduceLT, Int.reduceLE, Int.reduceToNat, Int.reducePow, Int.reduceMul, Bool.not_true, Bool.not_false]
  refine ⟨size_le (by decide), call_to g2 ⟨h, n + 1, _, rfl, hh3.app, .inl ⟨_, .inr ⟨_, (by have := hh3.lt; omega), rfl, by simp; rfl⟩, by simp, by simp, fun r4 m4 k4 f4 hh4 => ?_⟩⟩⟩
  obtain ⟨kk, rfl, hkk⟩ : ∃ k : Int, r4 = .int k ∧ k ∈ ([0, 1, 3, 7] : List Int) := by
    simp only [List.mem_cons, List.not_mem_nil, or_false] at k4 ⊢
    rcases k4 with rfl | rfl | rfl | rfl | rfl | rfl <;> exact ⟨_, rfl, by decide⟩
  have hk7 : 0 ≤ kk ∧ kk ≤ 7 := by
    simp only [List.mem_cons, List.not_mem_nil, or_false] at hkk
    rcases hkk with rfl | rfl | rfl | rfl <;> decide
  have r3ok : r3 < 128 := by
    have : ∀ c ∈ (Str.ofString "abcdefghijklmnopqrstuvwxyz").cps.toList, c < 128 := by decide +kernel
    exact this r3 k3
  obtain ⟨stem, hst⟩ : ∃ stem : Str, stem = ⟨(List.replicate kk.toNat [r3]).flatten.toArray⟩ := ⟨_, rfl⟩
  have st_ok : PyData.strOk stem = true := by
    rw [ok_iff, hst]
    intro c hc
    have : c ∈ (List.replicate kk.toNat [r3]).flatten := hc
    obtain ⟨l, hl, hc⟩ := List.mem_flatten.mp this
    have := List.eq_of_mem_replicate hl
    subst this
    have : c = r3 := by simpa using hc
    omega
  have st_len : stem.length ≤ 7 := by
    rw [hst]
    show (List.toArray _).size ≤ 7
    rw [List.size_toArray, List.length_flatten, List.map_replicate, List.sum_replicate_nat]
    simp only [List.length_cons, List.length_nil]
    omega
  (try refine nx_in ?_); simp only [s_nil, nx_nil, s_cons, s_asg, s_setSub, s_augN, s_expr, s_ret, s_retN, s_ite, s_for, s_while, s_pass, s_brk, s_cont, e_con, e_var0, e_varS, e_tup, e_lst, e_op1, e_op2, e_cond, e_and, e_or, e_not, e_chain, e_sl, e_call, e_lc, es_nil, es_cons, o_no, o_some, wpI, onP_name, onP_nil, onP_cons, onB, onI, onStr_map, onBl_map, onInt_map, intsD_len, Int.toNat_natCast, endsOf, startD_n, nones, w1, w2, pre2, wSl, wSet, wAug, seqAt, listAt, itemAt, wSeq, newLst, wipeD, List.map_cons, List.map_nil, List.length_cons, List.length_nil, List.nil_append, List.cons_append, List.set_cons_zero, List.set_cons_succ, List.getElem?_cons_zero, List.getElem?_cons_succ, List.append_nil, perm, List.getD_cons_zero, List.getD_cons_succ, Nat.reduceAdd, Nat.reduceSub, true_and, and_true, if_true, if_false, Bool.false_eq_true, decide_eq_true_eq, D.isNon, lstAt_end, atI_0, atI_1, atI_2, atI_3, atI_4, atI_5, ixN_0, ixN_1, ixN_2, Nat.reduceLT, Nat.reduceLeDiff, Int.reduceLT, Int.reduceLE, Int.reduceToNat, Int.reducePow, Int.reduceMul, Bool.not_true, Bool.not_false]
  refine ⟨by omega, by omega, size_le (by show 1 * kk.toNat ≤ _; omega), ?_⟩
  rw [← hst]
  (try refine nx_in ?_); simp only [s_nil, nx_nil, s_cons, s_asg, s_setSub, s_augN, s_expr, s_ret, s_retN, s_ite, s_for, s_while, s_pass, s_brk, s_cont, e_con, e_var0, e_varS, e_tup, e_lst, e_op1, e_op2, e_cond, e_and, e_or, e_not, e_chain, e_sl, e_call, e_lc, es_nil, es_cons, o_no, o_some, wpI, onP_name, onP_nil, onP_cons, onB, onI, onStr_map, onBl_map, onInt_map, intsD_len, Int.toNat_natCast, endsOf, startD_n, nones, w1, w2, pre2, wSl, wSet, wAug, seqAt, listAt, itemAt, wSeq, newLst, wipeD, List.map_cons, List.map_nil, List.length_cons, List.length_nil, List.nil_append, List.cons_append, List.set_cons_zero, List.set_cons_succ, List.getElem?_cons_zero, List.getElem?_cons_succ, List.append_nil, perm, List.getD_cons_zero, List.getD_cons_succ, Nat.reduceAdd, Nat.reduceSub, true_and, and_true, if_true, if_false, Bool.false_eq_true, decide_eq_true_eq, D.isNon, lstAt_end, atI_0, atI_1, atI_2, atI_3, atI_4, atI_5, ixN_0, ixN_1, ixN_2, Nat.reduceLT, Nat.reduceLeDiff, Int.reduceLT, Int.reduceLE, Int.reduceToNat, Int.reducePow, Int.reduceMul, Bool.not_true, Bool.not_false]
  have hh4' := hh4
  refine ⟨size_le (by omega), call_to g1 ⟨h, n, _, rfl, by omega, by omega, hh4, fun r5 m5 a5 b5 f5 hh5 => ?_⟩⟩
  (try refine nx_in ?_); simp only [s_nil, nx_nil, s_cons, s_asg, s_setSub, s_augN, s_expr, s_ret, s_retN, s_ite, s_for, s_while, s_pass, s_brk, s_cont, e_con, e_var0, e_varS, e_tup, e_lst, e_op1, e_op2, e_cond, e_and, e_or, e_not, e_chain, e_sl, e_call, e_lc, es_nil, es_cons, o_no, o_some, wpI, onP_name, onP_nil, onP_cons, onB, onI, onStr_map, onBl_map, onInt_map, intsD_len, Int.toNat_natCast, endsOf, startD_n, nones, w1, w2, pre2, wSl, wSet, wAug, seqAt, listAt, itemAt, wSeq, newLst, wipeD, List.map_cons, List.map_nil, List.length_cons, List.length_nil, List.nil_append, List.cons_append, List.set_cons_zero, List.set_cons_succ, List.getElem?_cons_zero, List.getElem?_cons_succ, List.append_nil, perm, List.getD_cons_zero, List.getD_cons_succ, Nat.reduceAdd, Nat.reduceSub, true_and, and_true, if_true, if_false, Bool.false_eq_true, decide_eq_true_eq, D.isNon, lstAt_end, atI_0, atI_1, atI_2, atI_3, atI_4, atI_5, ixN_0, ixN_1, ixN_2, Nat.reduceLT, Nat.reduceLeDiff, Int.reduceLT, Int.reduceLE, Int.reduceToNat, Int.reducePow, Int.reduceMul, Bool.not_true, Bool.not_false]
  refine ⟨size_le (by decide), ?_⟩
  have l5 := hh5.lt
  -- the words
  let letter : Nat → Nat := fun i => (Str.ofString "abcdefghijklmnopqrstuvwxyz").cps.toList.getD ((r1 + lp * (i : Nat)) % 26).toNat 0
  let word : Nat → Str := fun i => cutS stem none (some r5) ++ ⟨#[letter i]⟩ ++ cutS stem (some r5) none
  (try refine nx_in ?_); simp only [s_nil, nx_nil, s_cons, s_asg, s_setSub, s_augN, s_expr, s_ret, s_retN, s_ite, s_for, s_while, s_pass, s_brk, s_cont, e_con, e_var0, e_varS, e_tup, e_lst, e_op1, e_op2, e_cond, e_and, e_or, e_not, e_chain, e_sl, e_call, e_lc, es_nil, es_cons, o_no, o_some, wpI, onP_name, onP_nil, onP_cons, onB, onI, onStr_map, onBl_map, onInt_map, intsD_len, Int.toNat_natCast, endsOf, startD_n, nones, w1, w2, pre2, wSl, wSet, wAug, seqAt, listAt, itemAt, wSeq, newLst, wipeD, List.map_cons, List.map_nil, List.length_cons, List.length_nil, List.nil_append, List.cons_append, List.set_cons_zero, List.set_cons_succ, List.getElem?_cons_zero, List.getElem?_cons_succ, List.append_nil, perm, List.getD_cons_zero, List.getD_cons_succ, Nat.reduceAdd, Nat.reduceSub, true_and, and_true, if_true, if_false, Bool.false_eq_true, decide_eq_true_eq, D.isNon, lstAt_end, atI_0, atI_1, atI_2, atI_3, atI_4, atI_5, ixN_0, ixN_1, ixN_2, Nat.reduceLT, Nat.reduceLeDiff, Int.reduceLT, Int.reduceLE, Int.reduceToNat, Int.reducePow, Int.reduceMul, Bool.not_true, Bool.not_false]
  refine ⟨⟨by omega, by omega⟩, ?_⟩
  refine forGo_inv (fun i rh nu => ∃ a b, rh = [some (.ref h), some (.int (4 : Nat)), some (.str "abcdefghijklmnopqrstuvwxyz"), some (.int r1), some (.int lp), some (.str stem), some (.int r5), some (.ref m5.length), a, b] ∧ nu = m5 ++ [.lst ((List.range i).map fun j => D.str (word j))]) ⟨_, _, rfl, rfl⟩ (fun _ _ _ _ => trivial) (fun i x rh nu k ex h2 hk => ?_) (fun rh nu h2 => ?_)
  · obtain ⟨a, b, rfl, rfl⟩ := h2
    have hi : i < 4 := by
      have := (List.getElem?_eq_some_iff.mp ex).1
      simpa [intsD] using this
    have ex' : x = .int (0 + (i : Nat)) := by
      have := (List.getElem?_eq_some_iff.mp ex).2
      rw [← this]
      simp [intsD]
    subst ex'
    rw [Int.zero_add]
    (try refine nx_in ?_); simp only [s_nil, nx_nil, s_cons, s_asg, s_setSub, s_augN, s_expr, s_ret, s_retN, s_ite, s_for, s_while, s_pass, s_brk, s_cont, e_con, e_var0, e_varS, e_tup, e_lst, e_op1, e_op2, e_cond, e_and, e_or, e_not, e_chain, e_sl, e_call, e_lc, es_nil, es_cons, o_no, o_some, wpI, onP_name, onP_nil, onP_cons, onB, onI, onStr_map, onBl_map, onInt_map, intsD_len, Int.toNat_natCast, endsOf, startD_n, nones, w1, w2, pre2, wSl, wSet, wAug, seqAt, listAt, itemAt, wSeq, newLst, wipeD, List.map_cons, List.map_nil, List.length_cons, List.length_nil, List.nil_append, List.cons_append, List.set_cons_zero, List.set_cons_succ, List.getElem?_cons_zero, List.getElem?_cons_succ, List.append_nil, perm, List.getD_cons_zero, List.getD_cons_succ, Nat.reduceAdd, Nat.reduceSub, true_and, and_true, if_true, if_false, Bool.false_eq_true, decide_eq_true_eq, D.isNon, lstAt_end, atI_0, atI_1, atI_2, atI_3, atI_4, atI_5, ixN_0, ixN_1, ixN_2, Nat.reduceLT, Nat.reduceLeDiff, Int.reduceLT, Int.reduceLE, Int.reduceToNat, Int.reducePow, Int.reduceMul, Bool.not_true, Bool.not_false, forT]
    have lpb : -100 < lp ∧ lp < 100 := by
      simp only [List.mem_cons, List.not_mem_nil, or_false] at hlp
      rcases hlp with rfl | rfl | rfl | rfl | rfl | rfl | rfl <;> decide
    obtain ⟨c, ec, hc, ec2⟩ := atI_mem (xs := (Str.ofString "abcdefghijklmnopqrstuvwxyz").cps.toList) (i := (r1 + lp * i) % 26) (Int.emod_nonneg _ (by decide)) (by rw [abc_len]; exact Int.emod_lt_of_pos _ (by decide))
    rw [ec]
    have lc : letter i = c := by
      show List.getD _ _ 0 = c
      rw [List.getD_eq_getElem?_getD, ec2]; rfl
    refine ⟨mulL (by omega) (by omega), size_le (by decide +kernel), ?_⟩
    (try refine nx_in ?_); simp only [s_nil, nx_nil, s_cons, s_asg, s_setSub, s_augN, s_expr, s_ret, s_retN, s_ite, s_for, s_while, s_pass, s_brk, s_cont, e_con, e_var0, e_varS, e_tup, e_lst, e_op1, e_op2, e_cond, e_and, e_or, e_not, e_chain, e_sl, e_call, e_lc, es_nil, es_cons, o_no, o_some, wpI, onP_name, onP_nil, onP_cons, onB, onI, onStr_map, onBl_map, onInt_map, intsD_len, Int.toNat_natCast, endsOf, startD_n, nones, w1, w2, pre2, wSl, wSet, wAug, seqAt, listAt, itemAt, wSeq, newLst, wipeD, List.map_cons, List.map_nil, List.length_cons, List.length_nil, List.nil_append, List.cons_append, List.set_cons_zero, List.set_cons_succ, List.getElem?_cons_zero, List.getElem?_cons_succ, List.append_nil, perm, List.getD_cons_zero, List.getD_cons_succ, Nat.reduceAdd, Nat.reduceSub, true_and, and_true, if_true, if_false, Bool.false_eq_true, decide_eq_true_eq, D.isNon, lstAt_end, atI_0, atI_1, atI_2, atI_3, atI_4, atI_5, ixN_0, ixN_1, ixN_2, Nat.reduceLT, Nat.reduceLeDiff, Int.reduceLT, Int.reduceLE, Int.reduceToNat, Int.reducePow, Int.reduceMul, Bool.not_true, Bool.not_false]
    have c1 := cut_len stem none (some r5)
    have c2 := cut_len stem (some r5) none
    have c3 : (cutS stem none (some r5) ++ (⟨#[c]⟩ : Str)).length = (cutS stem none (some r5)).length + 1 := app_len _ _
    refine ⟨size_le (by omega), size_le (by show (cutS stem none (some r5)).length + 1 ≤ _; omega), size_le (by omega), size_le (by omega), ?_, ?_⟩
    · rw [List.length_map, List.length_range]
      exact Nat.lt_of_lt_of_le hi (by decide)
    · refine hk _ _ ⟨_, _, rfl, ?_⟩
      rw [List.set_append_right _ _ (Nat.le_refl _), Nat.sub_self, List.range_succ, List.map_append]
      show _ = m5 ++ [Cell.lst (_ ++ [D.str (cutS stem none (some r5) ++ ⟨#[letter i]⟩ ++ cutS stem (some r5) none)])]
      rw [lc]
      rfl
  · obtain ⟨a, b, rfl, rfl⟩ := h2
    (try refine nx_in ?_); simp only [s_nil, nx_nil, s_cons, s_asg, s_setSub, s_augN, s_expr, s_ret, s_retN, s_ite, s_for, s_while, s_pass, s_brk, s_cont, e_con, e_var0, e_varS, e_tup, e_lst, e_op1, e_op2, e_cond, e_and, e_or, e_not, e_chain, e_sl, e_call, e_lc, es_nil, es_cons, o_no, o_some, wpI, onP_name, onP_nil, onP_cons, onB, onI, onStr_map, onBl_map, onInt_map, intsD_len, Int.toNat_natCast, endsOf, startD_n, nones, w1, w2, pre2, wSl, wSet, wAug, seqAt, listAt, itemAt, wSeq, newLst, wipeD, List.map_cons, List.map_nil, List.length_cons, List.length_nil, List.nil_append, List.cons_append, List.set_cons_zero, List.set_cons_succ, List.getElem?_cons_zero, List.getElem?_cons_succ, List.append_nil, perm, List.getD_cons_zero, List.getD_cons_succ, Nat.reduceAdd, Nat.reduceSub, true_and, and_true, if_true, if_false, Bool.false_eq_true, decide_eq_true_eq, D.isNon, lstAt_end, atI_0, atI_1, atI_2, atI_3, atI_4, atI_5, ixN_0, ixN_1, ixN_2, Nat.reduceLT, Nat.reduceLeDiff, Int.reduceLT, Int.reduceLE, Int.reduceToNat, Int.reducePow, Int.reduceMul, Bool.not_true, Bool.not_false]
    have le1 := f1.1
    have le2 := f2.1
    have le3 := f3.1
    have le4 := f4.1
    have le5 := f5.1
    rw [List.length_append] at le2 le4
    refine q ((List.range 4).map word) m5.length _ (by omega) (by rw [List.getElem?_append_right (Nat.le_refl _), Nat.sub_self, List.map_map]; rfl) (by simp) ?_ (fun z hz => ?_) ((((f1.trans (Fr.app.trans f2)).trans f3).trans (Fr.app.trans f4)).trans (f5.trans .app)) hh5.app
    · rw [List.Nodup, List.pairwise_map]
      refine List.Pairwise.imp_of_mem (fun {i j} hi hj lt e => ?_) (List.pairwise_lt_range (n := 4))
      have hi := List.mem_range.mp hi
      have hj := List.mem_range.mp hj
      have e2 : letter i = letter j := app_inj e
      have pos : ∀ i : Nat, ((r1 + lp * i) % 26).toNat < 26 ∧ (((r1 + lp * i) % 26).toNat : Int) = (r1 + lp * i) % 26 := fun i => by
        have a := Int.emod_nonneg (r1 + lp * i) (show (26 : Int) ≠ 0 by decide)
        have b := Int.emod_lt_of_pos (r1 + lp * i) (show (0 : Int) < 26 by decide)
        omega
      have e3 : (97 + ((r1 + lp * i) % 26).toNat) = 97 + ((r1 + lp * j) % 26).toNat := by
        rw [← abc_at _ (pos i).1, ← abc_at _ (pos j).1]
        exact e2
      have p1 := (pos i).2
      have p2 := (pos j).2
      have e4 : (r1 + lp * i) % 26 = (r1 + lp * j) % 26 := by omega
      clear e e2 e3 p1 p2 pos
      simp only [List.mem_cons, List.not_mem_nil, or_false] at hlp
      rcases hlp with rfl | rfl | rfl | rfl | rfl | rfl | rfl <;> omega
    · obtain ⟨j, hj, rfl⟩ := List.mem_map.mp hz
      have hl : letter j < 128 := by
        show List.getD _ _ 0 < 128
        rw [List.getD_eq_getElem?_getD]
        cases e : (Str.ofString "abcdefghijklmnopqrstuvwxyz").cps.toList[((r1 + lp * j) % 26).toNat]? with
        | none => decide
        | some c =>
          have : ∀ c ∈ (Str.ofString "abcdefghijklmnopqrstuvwxyz").cps.toList, c < 128 := by decide +kernel
          exact this c (List.mem_of_getElem? e)
      refine ⟨ok_app (ok_app (ok_cut _ _ st_ok) (ok_iff.mpr fun c hc => ?_)) (ok_cut _ _ st_ok), ?_⟩
      · have : c = letter j := by simpa using hc
        omega
      · rw [app_len, app_len, one_len]
        have c1 := cut_len stem none (some r5)
        have c2 := cut_len stem (some r5) none
        omega
end MP

namespace MP
open PySem PySem.Spec PyProof.Rows L2
/-- a small machine -/
def SM (k : Nat) (m : Mach) : Prop := ∀ r ∈ m, r.2.length ≤ k ∧ ∀ p ∈ r.2, p.1.length ≤ 16
def WsOk (ws : List Str) : Prop := ∀ z ∈ ws, PyData.strOk z = true ∧ z.length ≤ 16
def spRows : DSp := fun ds mu Q _ => ∃ (h m c n : Nat) (ws : List Str), ds = [.ref h, .ref m, .int c] ∧ m ≠ h ∧ mu[m]? = some (.lst (ws.map .str)) ∧ ws.length ≤ 10 ∧ WsOk ws ∧ 0 < c ∧ c ≤ 100 ∧ Hand mu h (n + c * 21) ∧
  ∀ mach nu, mach.length = c → WM mach → SM 10 mach → Fr h mu nu → Hand nu h n → Q (machD mach) nu
theorem w_rows {G : Ctx} (g1 : G.fn i_law_take = spTake) {ds : List D} {mu : Store} {Q : QD} {E : QX} (s : spRows ds mu Q E) : wpSs G c_law_rows_of (endsOf Q E) (startD N_law_rows_of ds) mu := by
  obtain ⟨h, m, c, n, ws, rfl, hm, em, hw, ok, h0, h1, hh, q⟩ := s
  have h_lt := hh.lt
  (try refine nx_in ?_); simp only [s_nil, nx_nil, s_cons, s_asg, s_setSub, s_augN, s_expr, s_ret, s_retN, s_ite, s_for, s_while, s_pass, s_brk, s_cont, e_con, e_var0, e_varS, e_tup, e_lst, e_op1, e_op2, e_cond, e_and, e_or, e_not, e_chain, e_sl, e_call, e_lc, es_nil, es_cons, o_no, o_some, wpI, onP_name, onP_nil, onP_cons, onB, onI, onStr_map, onBl_map, onInt_map, intsD_len, Int.toNat_natCast, endsOf, startD_n, nones, w1, w2, pre2, wSl, wSet, wAug, seqAt, listAt, itemAt, wSeq, newLst, wipeD, List.map_cons, List.map_nil, List.length_cons, List.length_nil, List.nil_append, List.cons_append, List.set_cons_zero, List.set_cons_succ, List.getElem?_cons_zero, List.getElem?_cons_succ, List.append_nil, perm, List.getD_cons_zero, List.getD_cons_succ, Nat.reduceAdd, Nat.reduceSub, true_and, and_true, if_true, if_false, Bool.false_eq_true, decide_eq_true_eq, D.isNon, lstAt_end, atI_0, atI_1, atI_2, atI_3, atI_4, atI_5, ixN_0, ixN_1, ixN_2, Nat.reduceLT, Nat.reduceLeDiff, Int.reduceLT, Int.reduceLE, Int.reduceToNat, Int.reducePow, Int.reduceMul, Bool.not_true, Bool.not_false, c_law_rows_of, N_law_rows_of]
  refine ⟨size_le (by decide), ?_⟩
  (try refine nx_in ?_); simp only [s_nil, nx_nil, s_cons, s_asg, s_setSub, s_augN, s_expr, s_ret, s_retN, s_ite, s_for, s_while, s_pass, s_brk, s_cont, e_con, e_var0, e_varS, e_tup, e_lst, e_op1, e_op2, e_cond, e_and, e_or, e_not, e_chain, e_sl, e_call, e_lc, es_nil, es_cons, o_no, o_some, wpI, onP_name, onP_nil, onP_cons, onB, onI, onStr_map, onBl_map, onInt_map, intsD_len, Int.toNat_natCast, endsOf, startD_n, nones, w1, w2, pre2, wSl, wSet, wAug, seqAt, listAt, itemAt, wSeq, newLst, wipeD, List.map_cons, List.map_nil, List.length_cons, List.length_nil, List.nil_append, List.cons_append, List.set_cons_zero, List.set_cons_succ, List.getElem?_cons_zero, List.getElem?_cons_succ, List.append_nil, perm, List.getD_cons_zero, List.getD_cons_succ, Nat.reduceAdd, Nat.reduceSub, true_and, and_true, if_true, if_false, Bool.false_eq_true, decide_eq_true_eq, D.isNon, lstAt_end, atI_0, atI_1, atI_2, atI_3, atI_4, atI_5, ixN_0, ixN_1, ixN_2, Nat.reduceLT, Nat.reduceLeDiff, Int.reduceLT, Int.reduceLE, Int.reduceToNat, Int.reducePow, Int.reduceMul, Bool.not_true, Bool.not_false]
  refine ⟨⟨by omega, by omega⟩, ?_⟩
  refine forGo_inv (fun i rh nu => ∃ a b mach, rh = [some (.ref h), some (.ref m), some (.int c), some (.ref mu.length), a, b, none] ∧ i ≤ c ∧ mach.length = i ∧ (∀ r ∈ mach, ∀ p ∈ r.2, p.2 < c ∧ PyData.strOk p.1 = true) ∧ SM 10 mach ∧ nu[mu.length]? = some (.lst (mach.map rowD)) ∧ Fr h mu nu ∧ Hand nu h (n + (c - i) * 21))
    ⟨_, _, [], rfl, Nat.zero_le _, rfl, nomem, nomem, by simp, .app, hh.app⟩ (fun _ _ _ _ => trivial) (fun i x rh nu k ex h2 hk => ?_) (fun rh nu h2 => ?_)
  · obtain ⟨a, b, mach, rfl, hi, ml, mw, ms, ef, fr, hd⟩ := h2
    obtain ⟨hi, rfl⟩ := intsD_get ex
    (try refine nx_in ?_); simp only [s_nil, nx_nil, s_cons, s_asg, s_setSub, s_augN, s_expr, s_ret, s_retN, s_ite, s_for, s_while, s_pass, s_brk, s_cont, e_con, e_var0, e_varS, e_tup, e_lst, e_op1, e_op2, e_cond, e_and, e_or, e_not, e_chain, e_sl, e_call, e_lc, es_nil, es_cons, o_no, o_some, wpI, onP_name, onP_nil, onP_cons, onB, onI, onStr_map, onBl_map, onInt_map, intsD_len, Int.toNat_natCast, endsOf, startD_n, nones, w1, w2, pre2, wSl, wSet, wAug, seqAt, listAt, itemAt, wSeq, newLst, wipeD, List.map_cons, List.map_nil, List.length_cons, List.length_nil, List.nil_append, List.cons_append, List.set_cons_zero, List.set_cons_succ, List.getElem?_cons_zero, List.getElem?_cons_succ, List.append_nil, perm, List.getD_cons_zero, List.getD_cons_succ, Nat.reduceAdd, Nat.reduceSub, true_and, and_true, if_true, if_false, Bool.false_eq_true, decide_eq_true_eq, D.isNon, lstAt_end, atI_0, atI_1, atI_2, atI_3, atI_4, atI_5, ixN_0, ixN_1, ixN_2, Nat.reduceLT, Nat.reduceLeDiff, Int.reduceLT, Int.reduceLE, Int.reduceToNat, Int.reducePow, Int.reduceMul, Bool.not_true, Bool.not_false, forT]
    rw [lstAt_of (fr.at_ hm em), onStr_map]
    refine ⟨by omega, fun ys yp ysrt => ?_⟩
    have yl := yp.length_eq
    have yok : ∀ z ∈ ys, PyData.strOk z = true ∧ z.length ≤ 16 := fun z hz => ok z (yp.mem_iff.mp hz)
    have nl : mu.length < nu.length := (List.getElem?_eq_some_iff.mp ef).1
    have hne : mu.length ≠ h := by omega
    have hne2 : nu.length ≠ h := by have := hd.lt; omega
    refine lcGo_inv (fun j acc xi => ∃ mvs : List (Str × Nat), acc = mvs.map mvD ∧ mvs.length ≤ j ∧ (∀ p ∈ mvs, (p.2 < c ∧ PyData.strOk p.1 = true) ∧ p.1.length ≤ 16) ∧ Fr h (nu ++ [Cell.lst (ys.map .str)]) xi ∧ Hand xi h (n + (c - (i + 1)) * 21 + 1 + (10 - j) * 2))
      ⟨[], rfl, Nat.zero_le _, nomem, .refl, hd.app.less (by omega)⟩
      (fun j acc xi h3 => ?_) (fun j y acc xi kk ey h3 hk3 => ?_) (fun acc xi h3 => ?_)
    · obtain ⟨mvs, _, _, _, f3, _⟩ := h3
      have := f3.at_ hne2 (c := .lst (ys.map .str)) (by simp)
      show lstAt xi nu.length _
      rw [lstAt_of this]
    · obtain ⟨mvs, rfl, mlen, mok, f3, hd3⟩ := h3
      obtain ⟨z, ez, rfl, _⟩ := map_get ey
      have jl : j < ys.length := (List.getElem?_eq_some_iff.mp ez).1
      have zok := yok z (List.mem_of_getElem? ez)
      (try refine nx_in ?_); simp only [s_nil, nx_nil, s_cons, s_asg, s_setSub, s_augN, s_expr, s_ret, s_retN, s_ite, s_for, s_while, s_pass, s_brk, s_cont, e_con, e_var0, e_varS, e_tup, e_lst, e_op1, e_op2, e_cond, e_and, e_or, e_not, e_chain, e_sl, e_call, e_lc, es_nil, es_cons, o_no, o_some, wpI, onP_name, onP_nil, onP_cons, onB, onI, onStr_map, onBl_map, onInt_map, intsD_len, Int.toNat_natCast, endsOf, startD_n, nones, w1, w2, pre2, wSl, wSet, wAug, seqAt, listAt, itemAt, wSeq, newLst, wipeD, List.map_cons, List.map_nil, List.length_cons, List.length_nil, List.nil_append, List.cons_append, List.set_cons_zero, List.set_cons_succ, List.getElem?_cons_zero, List.getElem?_cons_succ, List.append_nil, perm, List.getD_cons_zero, List.getD_cons_succ, Nat.reduceAdd, Nat.reduceSub, true_and, and_true, if_true, if_false, Bool.false_eq_true, decide_eq_true_eq, D.isNon, lstAt_end, atI_0, atI_1, atI_2, atI_3, atI_4, atI_5, ixN_0, ixN_1, ixN_2, Nat.reduceLT, Nat.reduceLeDiff, Int.reduceLT, Int.reduceLE, Int.reduceToNat, Int.reducePow, Int.reduceMul, Bool.not_true, Bool.not_false, lcT]
      refine call_to g1 ⟨h, _, _, rfl, by decide, by decide, (hd3.less (m := n + (c - (i + 1)) * 21 + 1 + (10 - (j + 1)) * 2 + 1 + 1) (by omega)), fun r1 x1 a1 b1 f4 hd4 => ?_⟩
      (try refine nx_in ?_); simp only [s_nil, nx_nil, s_cons, s_asg, s_setSub, s_augN, s_expr, s_ret, s_retN, s_ite, s_for, s_while, s_pass, s_brk, s_cont, e_con, e_var0, e_varS, e_tup, e_lst, e_op1, e_op2, e_cond, e_and, e_or, e_not, e_chain, e_sl, e_call, e_lc, es_nil, es_cons, o_no, o_some, wpI, onP_name, onP_nil, onP_cons, onB, onI, onStr_map, onBl_map, onInt_map, intsD_len, Int.toNat_natCast, endsOf, startD_n, nones, w1, w2, pre2, wSl, wSet, wAug, seqAt, listAt, itemAt, wSeq, newLst, wipeD, List.map_cons, List.map_nil, List.length_cons, List.length_nil, List.nil_append, List.cons_append, List.set_cons_zero, List.set_cons_succ, List.getElem?_cons_zero, List.getElem?_cons_succ, List.append_nil, perm, List.getD_cons_zero, List.getD_cons_succ, Nat.reduceAdd, Nat.reduceSub, true_and, and_true, if_true, if_false, Bool.false_eq_true, decide_eq_true_eq, D.isNon, lstAt_end, atI_0, atI_1, atI_2, atI_3, atI_4, atI_5, ixN_0, ixN_1, ixN_2, Nat.reduceLT, Nat.reduceLeDiff, Int.reduceLT, Int.reduceLE, Int.reduceToNat, Int.reducePow, Int.reduceMul, Bool.not_true, Bool.not_false]
      refine ite_pos_neg (fun cc => ?_) fun cc => ?_
      · refine call_to g1 ⟨h, _, _, rfl, by omega, by omega, hd4, fun r2 x2 a2 b2 f5 hd5 => ?_⟩
        (try refine nx_in ?_); simp only [s_nil, nx_nil, s_cons, s_asg, s_setSub, s_augN, s_expr, s_ret, s_retN, s_ite, s_for, s_while, s_pass, s_brk, s_cont, e_con, e_var0, e_varS, e_tup, e_lst, e_op1, e_op2, e_cond, e_and, e_or, e_not, e_chain, e_sl, e_call, e_lc, es_nil, es_cons, o_no, o_some, wpI, onP_name, onP_nil, onP_cons, onB, onI, onStr_map, onBl_map, onInt_map, intsD_len, Int.toNat_natCast, endsOf, startD_n, nones, w1, w2, pre2, wSl, wSet, wAug, seqAt, listAt, itemAt, wSeq, newLst, wipeD, List.map_cons, List.map_nil, List.length_cons, List.length_nil, List.nil_append, List.cons_append, List.set_cons_zero, List.set_cons_succ, List.getElem?_cons_zero, List.getElem?_cons_succ, List.append_nil, perm, List.getD_cons_zero, List.getD_cons_succ, Nat.reduceAdd, Nat.reduceSub, true_and, and_true, if_true, if_false, Bool.false_eq_true, decide_eq_true_eq, D.isNon, lstAt_end, atI_0, atI_1, atI_2, atI_3, atI_4, atI_5, ixN_0, ixN_1, ixN_2, Nat.reduceLT, Nat.reduceLeDiff, Int.reduceLT, Int.reduceLE, Int.reduceToNat, Int.reducePow, Int.reduceMul, Bool.not_true, Bool.not_false]
        refine ⟨size_le (by decide), hk3 _ _ ⟨mvs ++ [(z, r2.toNat)], ?_, by simp; omega, fun p hp => ?_, (f3.trans f4).trans f5, hd5⟩⟩
        · rw [List.map_append]
          show _ = _ ++ [mvD (z, r2.toNat)]
          unfold mvD
          rw [Int.toNat_of_nonneg a2]
          rfl
        · rcases List.mem_append.mp hp with hp | hp
          · exact mok p hp
          · have : p = (z, r2.toNat) := by simpa using hp
            subst this
            exact ⟨⟨by show r2.toNat < c; omega, zok.1⟩, zok.2⟩
      · exact hk3 _ _ ⟨mvs, by simp, by omega, mok, f3.trans f4, hd4.less (by omega)⟩
    · obtain ⟨mvs, rfl, mlen, mok, f3, hd3⟩ := h3
      rw [List.length_map, yl] at mlen
      (try refine nx_in ?_); simp only [s_nil, nx_nil, s_cons, s_asg, s_setSub, s_augN, s_expr, s_ret, s_retN, s_ite, s_for, s_while, s_pass, s_brk, s_cont, e_con, e_var0, e_varS, e_tup, e_lst, e_op1, e_op2, e_cond, e_and, e_or, e_not, e_chain, e_sl, e_call, e_lc, es_nil, es_cons, o_no, o_some, wpI, onP_name, onP_nil, onP_cons, onB, onI, onStr_map, onBl_map, onInt_map, intsD_len, Int.toNat_natCast, endsOf, startD_n, nones, w1, w2, pre2, wSl, wSet, wAug, seqAt, listAt, itemAt, wSeq, newLst, wipeD, List.map_cons, List.map_nil, List.length_cons, List.length_nil, List.nil_append, List.cons_append, List.set_cons_zero, List.set_cons_succ, List.getElem?_cons_zero, List.getElem?_cons_succ, List.append_nil, perm, List.getD_cons_zero, List.getD_cons_succ, Nat.reduceAdd, Nat.reduceSub, true_and, and_true, if_true, if_false, Bool.false_eq_true, decide_eq_true_eq, D.isNon, lstAt_end, atI_0, atI_1, atI_2, atI_3, atI_4, atI_5, ixN_0, ixN_1, ixN_2, Nat.reduceLT, Nat.reduceLeDiff, Int.reduceLT, Int.reduceLE, Int.reduceToNat, Int.reducePow, Int.reduceMul, Bool.not_true, Bool.not_false]
      have ef2 : xi[mu.length]? = some (.lst (mach.map rowD)) := f3.at_ hne (by rw [List.getElem?_append_left nl]; exact ef)
      have xl := (List.getElem?_eq_some_iff.mp ef2).1
      have ef3 : (xi ++ [Cell.lst (mvs.map mvD)])[mu.length]? = some (.lst (mach.map rowD)) := by rw [List.getElem?_append_left xl]; exact ef2
      have hxl := hd3.lt
      refine ⟨by rw [lstAt_of ef3]; trivial, call_to g1 ⟨h, n + (c - (i + 1)) * 21, _, rfl, by decide, by decide, hd3.app.less (by omega), fun r1 x1 a1 b1 f4 hd4 => ?_⟩⟩
      have e4 := f4.at_ hne ef3
      have e5 : x1[xi.length]? = some (.lst (mvs.map mvD)) := f4.at_ (by omega) (by simp)
      (try refine nx_in ?_); simp only [s_nil, nx_nil, s_cons, s_asg, s_setSub, s_augN, s_expr, s_ret, s_retN, s_ite, s_for, s_while, s_pass, s_brk, s_cont, e_con, e_var0, e_varS, e_tup, e_lst, e_op1, e_op2, e_cond, e_and, e_or, e_not, e_chain, e_sl, e_call, e_lc, es_nil, es_cons, o_no, o_some, wpI, onP_name, onP_nil, onP_cons, onB, onI, onStr_map, onBl_map, onInt_map, intsD_len, Int.toNat_natCast, endsOf, startD_n, nones, w1, w2, pre2, wSl, wSet, wAug, seqAt, listAt, itemAt, wSeq, newLst, wipeD, List.map_cons, List.map_nil, List.length_cons, List.length_nil, List.nil_append, List.cons_append, List.set_cons_zero, List.set_cons_succ, List.getElem?_cons_zero, List.getElem?_cons_succ, List.append_nil, perm, List.getD_cons_zero, List.getD_cons_succ, Nat.reduceAdd, Nat.reduceSub, true_and, and_true, if_true, if_false, Bool.false_eq_true, decide_eq_true_eq, D.isNon, lstAt_end, atI_0, atI_1, atI_2, atI_3, atI_4, atI_5, ixN_0, ixN_1, ixN_2, Nat.reduceLT, Nat.reduceLeDiff, Int.reduceLT, Int.reduceLE, Int.reduceToNat, Int.reducePow, Int.reduceMul, Bool.not_true, Bool.not_false, lstAt_of e5, lstAt_of e4]
      have nl2 : xi.length < x1.length := (List.getElem?_eq_some_iff.mp e5).1
      refine ⟨size_le (by decide), ?_, hk _ _ ⟨_, _, mach ++ [(decide (r1 = 0), mvs)], rfl, by omega, by simp [ml], fun r hr => ?_, fun r hr => ?_, ?_, ?_, ?_⟩⟩
      · rw [List.length_map, ml]
        exact Nat.lt_of_lt_of_le (show i < 100 by omega) (by decide)
      · rcases List.mem_append.mp hr with hr | hr
        · exact mw r hr
        · have : r = (decide (r1 = 0), mvs) := by simpa using hr
          subst this
          exact fun p hp => (mok p hp).1
      · rcases List.mem_append.mp hr with hr | hr
        · exact ms r hr
        · have : r = (decide (r1 = 0), mvs) := by simpa using hr
          subst this
          exact ⟨by show mvs.length ≤ 10; omega, fun p hp => (mok p hp).2⟩
      · rw [List.getElem?_set_self (by omega), List.map_append]
        rfl
      · refine ⟨by rw [List.length_set]; have := fr.1; have := f3.1; have := f4.1; rw [List.length_append] at *; omega, fun j hj hl => ?_⟩
        rw [List.getElem?_set_ne (by omega)]
        exact ((((fr.trans .app).trans f3).trans .app).trans f4).2 j hj hl
      · exact hd4.set hne
  · obtain ⟨a, b, mach, rfl, hi, ml, mw, ms, ef, fr, hd⟩ := h2
    (try refine nx_in ?_); simp only [s_nil, nx_nil, s_cons, s_asg, s_setSub, s_augN, s_expr, s_ret, s_retN, s_ite, s_for, s_while, s_pass, s_brk, s_cont, e_con, e_var0, e_varS, e_tup, e_lst, e_op1, e_op2, e_cond, e_and, e_or, e_not, e_chain, e_sl, e_call, e_lc, es_nil, es_cons, o_no, o_some, wpI, onP_name, onP_nil, onP_cons, onB, onI, onStr_map, onBl_map, onInt_map, intsD_len, Int.toNat_natCast, endsOf, startD_n, nones, w1, w2, pre2, wSl, wSet, wAug, seqAt, listAt, itemAt, wSeq, newLst, wipeD, List.map_cons, List.map_nil, List.length_cons, List.length_nil, List.nil_append, List.cons_append, List.set_cons_zero, List.set_cons_succ, List.getElem?_cons_zero, List.getElem?_cons_succ, List.append_nil, perm, List.getD_cons_zero, List.getD_cons_succ, Nat.reduceAdd, Nat.reduceSub, true_and, and_true, if_true, if_false, Bool.false_eq_true, decide_eq_true_eq, D.isNon, lstAt_end, atI_0, atI_1, atI_2, atI_3, atI_4, atI_5, ixN_0, ixN_1, ixN_2, Nat.reduceLT, Nat.reduceLeDiff, Int.reduceLT, Int.reduceLE, Int.reduceToNat, Int.reducePow, Int.reduceMul, Bool.not_true, Bool.not_false, lstAt_of ef]
    rw [intsD_len] at ml
    exact q mach nu ml (fun r hr p hp => by rw [ml]; exact mw r hr p hp) ms fr (hd.less (by omega))
end MP

namespace MP
open PySem PySem.Spec PyProof.Rows L2
def spAll : DSp := fun ds mu Q _ => ∃ (m : Nat) (ws : List Str), ds = [.ref m, .int 4] ∧ mu[m]? = some (.lst (ws.map .str)) ∧ ws.length ≤ 3 ∧ WsOk ws ∧
  ∀ (words : List (List Str)) f nu, mu.length ≤ f → nu[f]? = some (.lst (words.map wordD)) → words.length ≤ 1000 → (∀ w ∈ words, WsOk w ∧ w.length ≤ 4) → Kp mu nu → Q (.ref f) nu
theorem w_all {G : Ctx} {ds : List D} {mu : Store} {Q : QD} {E : QX} (s : spAll ds mu Q E) : wpSs G c_law_all_words (endsOf Q E) (startD N_law_all_words ds) mu := by
  obtain ⟨m, ws, rfl, em, hw, ok, q⟩ := s
  (try refine nx_in ?_); simp only [s_nil, nx_nil, s_cons, s_asg, s_setSub, s_augN, s_expr, s_ret, s_retN, s_ite, s_for, s_while, s_pass, s_brk, s_cont, e_con, e_var0, e_varS, e_tup, e_lst, e_op1, e_op2, e_cond, e_and, e_or, e_not, e_chain, e_sl, e_call, e_lc, es_nil, es_cons, o_no, o_some, wpI, onP_name, onP_nil, onP_cons, onB, onI, onStr_map, onBl_map, onInt_map, intsD_len, Int.toNat_natCast, endsOf, startD_n, nones, w1, w2, pre2, wSl, wSet, wAug, seqAt, listAt, itemAt, wSeq, newLst, wipeD, List.map_cons, List.map_nil, List.length_cons, List.length_nil, List.nil_append, List.cons_append, List.set_cons_zero, List.set_cons_succ, List.getElem?_cons_zero, List.getElem?_cons_succ, List.append_nil, perm, List.getD_cons_zero, List.getD_cons_succ, Nat.reduceAdd, Nat.reduceSub, true_and, and_true, if_true, if_false, Bool.false_eq_true, decide_eq_true_eq, D.isNon, lstAt_end, atI_0, atI_1, atI_2, atI_3, atI_4, atI_5, ixN_0, ixN_1, ixN_2, Nat.reduceLT, Nat.reduceLeDiff, Int.reduceLT, Int.reduceLE, Int.reduceToNat, Int.reducePow, Int.reduceMul, Bool.not_true, Bool.not_false, c_law_all_words, N_law_all_words]
  refine ⟨size_le (by decide), size_le (by decide), size_le (by decide), size_le (by decide), size_le (by decide), ?_⟩
  (try refine nx_in ?_); simp only [s_nil, nx_nil, s_cons, s_asg, s_setSub, s_augN, s_expr, s_ret, s_retN, s_ite, s_for, s_while, s_pass, s_brk, s_cont, e_con, e_var0, e_varS, e_tup, e_lst, e_op1, e_op2, e_cond, e_and, e_or, e_not, e_chain, e_sl, e_call, e_lc, es_nil, es_cons, o_no, o_some, wpI, onP_name, onP_nil, onP_cons, onB, onI, onStr_map, onBl_map, onInt_map, intsD_len, Int.toNat_natCast, endsOf, startD_n, nones, w1, w2, pre2, wSl, wSet, wAug, seqAt, listAt, itemAt, wSeq, newLst, wipeD, List.map_cons, List.map_nil, List.length_cons, List.length_nil, List.nil_append, List.cons_append, List.set_cons_zero, List.set_cons_succ, List.getElem?_cons_zero, List.getElem?_cons_succ, List.append_nil, perm, List.getD_cons_zero, List.getD_cons_succ, Nat.reduceAdd, Nat.reduceSub, true_and, and_true, if_true, if_false, Bool.false_eq_true, decide_eq_true_eq, D.isNon, lstAt_end, atI_0, atI_1, atI_2, atI_3, atI_4, atI_5, ixN_0, ixN_1, ixN_2, Nat.reduceLT, Nat.reduceLeDiff, Int.reduceLT, Int.reduceLE, Int.reduceToNat, Int.reducePow, Int.reduceMul, Bool.not_true, Bool.not_false]
  have s0 : ∀ w ∈ ([[]] : List (List Str)), WsOk w ∧ w.length ≤ 0 := fun w hw => by
    have : w = [] := by simpa using hw
    subst this
    exact ⟨nomem, Nat.le_refl _⟩
  refine forGo_inv (fun i rh nu => ∃ a b c d L fs ls, rh = [some (.ref m), some (.int 4), some (.ref mu.length), some (.ref L), a, b, c, d] ∧ Kp mu nu ∧ nu[mu.length]? = some (.lst (fs.map wordD)) ∧ mu.length < L ∧ nu[L]? = some (.lst (ls.map wordD)) ∧
      ls.length ≤ 3 ^ i ∧ fs.length ≤ 1 + 81 * i ∧ i ≤ 4 ∧ (∀ w ∈ fs, WsOk w ∧ w.length ≤ i) ∧ ∀ w ∈ ls, WsOk w ∧ w.length ≤ i)
    ⟨none, none, none, none, mu.length + 1, [[]], [[]], by simp, Kp.app.trans .app, by simp [wordD], by omega, by simp [wordD], by decide, by decide, by decide, s0, s0⟩ (fun _ _ _ _ => trivial) (fun i x rh nu k ex h2 hk => ?_) (fun rh nu h2 => ?_)
  · obtain ⟨a, b, c, d, L, fs, ls, rfl, kp, ef, hL, el, l1, l2, l3, okf, okl⟩ := h2
    obtain ⟨hi, rfl⟩ := intsD_get ex
    have hi : i < 4 := hi
    have p3 : 3 ^ i ≤ 27 := Nat.le_trans (Nat.pow_le_pow_right (by decide) (show i ≤ 3 by omega)) (by decide)
    have el0 := (Kp.app (mu := nu) (l := [Cell.lst []])) _ _ el
    have lL := (List.getElem?_eq_some_iff.mp el).1
    have lF := (List.getElem?_eq_some_iff.mp ef).1
    (try refine nx_in ?_); simp only [s_nil, nx_nil, s_cons, s_asg, s_setSub, s_augN, s_expr, s_ret, s_retN, s_ite, s_for, s_while, s_pass, s_brk, s_cont, e_con, e_var0, e_varS, e_tup, e_lst, e_op1, e_op2, e_cond, e_and, e_or, e_not, e_chain, e_sl, e_call, e_lc, es_nil, es_cons, o_no, o_some, wpI, onP_name, onP_nil, onP_cons, onB, onI, onStr_map, onBl_map, onInt_map, intsD_len, Int.toNat_natCast, endsOf, startD_n, nones, w1, w2, pre2, wSl, wSet, wAug, seqAt, listAt, itemAt, wSeq, newLst, wipeD, List.map_cons, List.map_nil, List.length_cons, List.length_nil, List.nil_append, List.cons_append, List.set_cons_zero, List.set_cons_succ, List.getElem?_cons_zero, List.getElem?_cons_succ, List.append_nil, perm, List.getD_cons_zero, List.getD_cons_succ, Nat.reduceAdd, Nat.reduceSub, true_and, and_true, if_true, if_false, Bool.false_eq_true, decide_eq_true_eq, D.isNon, lstAt_end, atI_0, atI_1, atI_2, atI_3, atI_4, atI_5, ixN_0, ixN_1, ixN_2, Nat.reduceLT, Nat.reduceLeDiff, Int.reduceLT, Int.reduceLE, Int.reduceToNat, Int.reducePow, Int.reduceMul, Bool.not_true, Bool.not_false, forT]
    refine ⟨size_le (by decide), ?_⟩
    (try refine nx_in ?_); simp only [s_nil, nx_nil, s_cons, s_asg, s_setSub, s_augN, s_expr, s_ret, s_retN, s_ite, s_for, s_while, s_pass, s_brk, s_cont, e_con, e_var0, e_varS, e_tup, e_lst, e_op1, e_op2, e_cond, e_and, e_or, e_not, e_chain, e_sl, e_call, e_lc, es_nil, es_cons, o_no, o_some, wpI, onP_name, onP_nil, onP_cons, onB, onI, onStr_map, onBl_map, onInt_map, intsD_len, Int.toNat_natCast, endsOf, startD_n, nones, w1, w2, pre2, wSl, wSet, wAug, seqAt, listAt, itemAt, wSeq, newLst, wipeD, List.map_cons, List.map_nil, List.length_cons, List.length_nil, List.nil_append, List.cons_append, List.set_cons_zero, List.set_cons_succ, List.getElem?_cons_zero, List.getElem?_cons_succ, List.append_nil, perm, List.getD_cons_zero, List.getD_cons_succ, Nat.reduceAdd, Nat.reduceSub, true_and, and_true, if_true, if_false, Bool.false_eq_true, decide_eq_true_eq, D.isNon, lstAt_end, atI_0, atI_1, atI_2, atI_3, atI_4, atI_5, ixN_0, ixN_1, ixN_2, Nat.reduceLT, Nat.reduceLeDiff, Int.reduceLT, Int.reduceLE, Int.reduceToNat, Int.reducePow, Int.reduceMul, Bool.not_true, Bool.not_false, lstAt_of el0]
    refine forGo_inv (fun j rh xi => ∃ c d gs, rh = [some (.ref m), some (.int 4), some (.ref mu.length), some (.ref L), some (.int (0 + (i : Nat))), some (.ref nu.length), c, d] ∧ Kp nu xi ∧ xi[nu.length]? = some (.lst (gs.map wordD)) ∧ gs.length ≤ 3 * j ∧ ∀ w ∈ gs, WsOk w ∧ w.length ≤ i + 1)
      ⟨_, _, [], rfl, .app, by simp, by decide, nomem⟩ (fun j rh xi h3 => ?_) (fun j y rh xi kk ey h3 hk3 => ?_) (fun rh xi h3 => ?_)
    · obtain ⟨c, d, gs, rfl, kp2, _⟩ := h3
      show lstAt xi L _
      rw [lstAt_of (kp2 _ _ el)]
    · obtain ⟨c, d, gs, rfl, kp2, eg, gl, gok⟩ := h3
      obtain ⟨row, er, rfl, _⟩ := map_get ey
      have rm := okl row (List.mem_of_getElem? er)
      have jl := (List.getElem?_eq_some_iff.mp er).1
      (try refine nx_in ?_); simp only [s_nil, nx_nil, s_cons, s_asg, s_setSub, s_augN, s_expr, s_ret, s_retN, s_ite, s_for, s_while, s_pass, s_brk, s_cont, e_con, e_var0, e_varS, e_tup, e_lst, e_op1, e_op2, e_cond, e_and, e_or, e_not, e_chain, e_sl, e_call, e_lc, es_nil, es_cons, o_no, o_some, wpI, onP_name, onP_nil, onP_cons, onB, onI, onStr_map, onBl_map, onInt_map, intsD_len, Int.toNat_natCast, endsOf, startD_n, nones, w1, w2, pre2, wSl, wSet, wAug, seqAt, listAt, itemAt, wSeq, newLst, wipeD, List.map_cons, List.map_nil, List.length_cons, List.length_nil, List.nil_append, List.cons_append, List.set_cons_zero, List.set_cons_succ, List.getElem?_cons_zero, List.getElem?_cons_succ, List.append_nil, perm, List.getD_cons_zero, List.getD_cons_succ, Nat.reduceAdd, Nat.reduceSub, true_and, and_true, if_true, if_false, Bool.false_eq_true, decide_eq_true_eq, D.isNon, lstAt_end, atI_0, atI_1, atI_2, atI_3, atI_4, atI_5, ixN_0, ixN_1, ixN_2, Nat.reduceLT, Nat.reduceLeDiff, Int.reduceLT, Int.reduceLE, Int.reduceToNat, Int.reducePow, Int.reduceMul, Bool.not_true, Bool.not_false, forT]
      have em2 := kp2 _ _ (kp _ _ em)
      (try refine nx_in ?_); simp only [s_nil, nx_nil, s_cons, s_asg, s_setSub, s_augN, s_expr, s_ret, s_retN, s_ite, s_for, s_while, s_pass, s_brk, s_cont, e_con, e_var0, e_varS, e_tup, e_lst, e_op1, e_op2, e_cond, e_and, e_or, e_not, e_chain, e_sl, e_call, e_lc, es_nil, es_cons, o_no, o_some, wpI, onP_name, onP_nil, onP_cons, onB, onI, onStr_map, onBl_map, onInt_map, intsD_len, Int.toNat_natCast, endsOf, startD_n, nones, w1, w2, pre2, wSl, wSet, wAug, seqAt, listAt, itemAt, wSeq, newLst, wipeD, List.map_cons, List.map_nil, List.length_cons, List.length_nil, List.nil_append, List.cons_append, List.set_cons_zero, List.set_cons_succ, List.getElem?_cons_zero, List.getElem?_cons_succ, List.append_nil, perm, List.getD_cons_zero, List.getD_cons_succ, Nat.reduceAdd, Nat.reduceSub, true_and, and_true, if_true, if_false, Bool.false_eq_true, decide_eq_true_eq, D.isNon, lstAt_end, atI_0, atI_1, atI_2, atI_3, atI_4, atI_5, ixN_0, ixN_1, ixN_2, Nat.reduceLT, Nat.reduceLeDiff, Int.reduceLT, Int.reduceLE, Int.reduceToNat, Int.reducePow, Int.reduceMul, Bool.not_true, Bool.not_false, lstAt_of eg, lstAt_of em2]
      refine lcGo_map (fun t => wordD (row ++ [ws.getD t Str.empty])) (by show lstAt xi m _; rw [lstAt_of em2]) (fun t y k2 ey hk2 => ?_) ?_
      · obtain ⟨z, ez, rfl, _⟩ := map_get ey
        have : ws.getD t Str.empty = z := by rw [List.getD_eq_getElem?_getD, ez]; rfl
        rw [this] at hk2
        (try refine nx_in ?_); simp only [s_nil, nx_nil, s_cons, s_asg, s_setSub, s_augN, s_expr, s_ret, s_retN, s_ite, s_for, s_while, s_pass, s_brk, s_cont, e_con, e_var0, e_varS, e_tup, e_lst, e_op1, e_op2, e_cond, e_and, e_or, e_not, e_chain, e_sl, e_call, e_lc, es_nil, es_cons, o_no, o_some, wpI, onP_name, onP_nil, onP_cons, onB, onI, onStr_map, onBl_map, onInt_map, intsD_len, Int.toNat_natCast, endsOf, startD_n, nones, w1, w2, pre2, wSl, wSet, wAug, seqAt, listAt, itemAt, wSeq, newLst, wipeD, List.map_cons, List.map_nil, List.length_cons, List.length_nil, List.nil_append, List.cons_append, List.set_cons_zero, List.set_cons_succ, List.getElem?_cons_zero, List.getElem?_cons_succ, List.append_nil, perm, List.getD_cons_zero, List.getD_cons_succ, Nat.reduceAdd, Nat.reduceSub, true_and, and_true, if_true, if_false, Bool.false_eq_true, decide_eq_true_eq, D.isNon, lstAt_end, atI_0, atI_1, atI_2, atI_3, atI_4, atI_5, ixN_0, ixN_1, ixN_2, Nat.reduceLT, Nat.reduceLeDiff, Int.reduceLT, Int.reduceLE, Int.reduceToNat, Int.reducePow, Int.reduceMul, Bool.not_true, Bool.not_false, lcT, wordD]
        refine ⟨size_le (by decide), size_le (by rw [List.length_map]; have := rm.2; omega), ?_⟩
        have e : wordD (row ++ [z]) = D.tup (row.map D.str ++ [D.str z]) := by unfold wordD; rw [List.map_append]; rfl
        rw [← e]
        exact hk2
      · have eg2 := (Kp.app (mu := xi) (l := [Cell.lst ((List.range (ws.map D.str).length).map fun t => wordD (row ++ [ws.getD t Str.empty]))])) _ _ eg
        have lG := (List.getElem?_eq_some_iff.mp eg).1
        rw [lstAt_of eg2]
        refine ⟨size_le (by rw [List.length_map, List.length_map, List.length_range, List.length_map]; omega), hk3 _ _ ⟨_, _, gs ++ (List.range ws.length).map fun t => row ++ [ws.getD t Str.empty], rfl, (kp2.trans .app).set (Nat.le_refl _), ?_, ?_, fun w hw2 => ?_⟩⟩
        · rw [List.getElem?_set_self (by rw [List.length_append]; omega), List.map_append, List.map_map, List.length_map]
          rfl
        · rw [List.length_append, List.length_map, List.length_range]
          omega
        · rcases List.mem_append.mp hw2 with hw2 | hw2
          · exact gok w hw2
          · obtain ⟨t, ht, rfl⟩ := List.mem_map.mp hw2
            have ht := List.mem_range.mp ht
            refine ⟨fun z hz => ?_, by rw [List.length_append]; have := rm.2; simp; omega⟩
            rcases List.mem_append.mp hz with hz | hz
            · exact rm.1 z hz
            · have : z = ws.getD t Str.empty := by simpa using hz
              subst this
              rw [List.getD_eq_getElem?_getD, List.getElem?_eq_getElem ht]
              exact ok _ (List.getElem_mem ht)
    · obtain ⟨c, d, gs, rfl, kp2, eg, gl, gok⟩ := h3
      rw [List.length_map] at gl
      have ef2 := kp2 _ _ ef
      (try refine nx_in ?_); simp only [s_nil, nx_nil, s_cons, s_asg, s_setSub, s_augN, s_expr, s_ret, s_retN, s_ite, s_for, s_while, s_pass, s_brk, s_cont, e_con, e_var0, e_varS, e_tup, e_lst, e_op1, e_op2, e_cond, e_and, e_or, e_not, e_chain, e_sl, e_call, e_lc, es_nil, es_cons, o_no, o_some, wpI, onP_name, onP_nil, onP_cons, onB, onI, onStr_map, onBl_map, onInt_map, intsD_len, Int.toNat_natCast, endsOf, startD_n, nones, w1, w2, pre2, wSl, wSet, wAug, seqAt, listAt, itemAt, wSeq, newLst, wipeD, List.map_cons, List.map_nil, List.length_cons, List.length_nil, List.nil_append, List.cons_append, List.set_cons_zero, List.set_cons_succ, List.getElem?_cons_zero, List.getElem?_cons_succ, List.append_nil, perm, List.getD_cons_zero, List.getD_cons_succ, Nat.reduceAdd, Nat.reduceSub, true_and, and_true, if_true, if_false, Bool.false_eq_true, decide_eq_true_eq, D.isNon, lstAt_end, atI_0, atI_1, atI_2, atI_3, atI_4, atI_5, ixN_0, ixN_1, ixN_2, Nat.reduceLT, Nat.reduceLeDiff, Int.reduceLT, Int.reduceLE, Int.reduceToNat, Int.reducePow, Int.reduceMul, Bool.not_true, Bool.not_false, lstAt_of ef2, lstAt_of eg]
      refine ⟨size_le (by rw [List.length_map, List.length_map]; omega), ?_⟩
      (try refine nx_in ?_); simp only [s_nil, nx_nil, s_cons, s_asg, s_setSub, s_augN, s_expr, s_ret, s_retN, s_ite, s_for, s_while, s_pass, s_brk, s_cont, e_con, e_var0, e_varS, e_tup, e_lst, e_op1, e_op2, e_cond, e_and, e_or, e_not, e_chain, e_sl, e_call, e_lc, es_nil, es_cons, o_no, o_some, wpI, onP_name, onP_nil, onP_cons, onB, onI, onStr_map, onBl_map, onInt_map, intsD_len, Int.toNat_natCast, endsOf, startD_n, nones, w1, w2, pre2, wSl, wSet, wAug, seqAt, listAt, itemAt, wSeq, newLst, wipeD, List.map_cons, List.map_nil, List.length_cons, List.length_nil, List.nil_append, List.cons_append, List.set_cons_zero, List.set_cons_succ, List.getElem?_cons_zero, List.getElem?_cons_succ, List.append_nil, perm, List.getD_cons_zero, List.getD_cons_succ, Nat.reduceAdd, Nat.reduceSub, true_and, and_true, if_true, if_false, Bool.false_eq_true, decide_eq_true_eq, D.isNon, lstAt_end, atI_0, atI_1, atI_2, atI_3, atI_4, atI_5, ixN_0, ixN_1, ixN_2, Nat.reduceLT, Nat.reduceLeDiff, Int.reduceLT, Int.reduceLE, Int.reduceToNat, Int.reducePow, Int.reduceMul, Bool.not_true, Bool.not_false]
      refine hk _ _ ⟨_, _, _, _, nu.length, fs ++ gs, gs, rfl, (kp.trans kp2).set (Nat.le_refl _), ?_, lF, ?_, ?_, ?_, hi, fun w hw2 => ?_, gok⟩
      · rw [List.getElem?_set_self (List.getElem?_eq_some_iff.mp ef2).1, List.map_append]
      · rw [List.getElem?_set_ne (by omega)]; exact eg
      · rw [Nat.pow_succ]; omega
      · rw [List.length_append]; omega
      · rcases List.mem_append.mp hw2 with hw2 | hw2
        · exact ⟨(okf w hw2).1, Nat.le_succ_of_le (okf w hw2).2⟩
        · exact gok w hw2
  · obtain ⟨a, b, c, d, L, fs, ls, rfl, kp, ef, hL, el, l1, l2, l3, okf, okl⟩ := h2
    (try refine nx_in ?_); simp only [s_nil, nx_nil, s_cons, s_asg, s_setSub, s_augN, s_expr, s_ret, s_retN, s_ite, s_for, s_while, s_pass, s_brk, s_cont, e_con, e_var0, e_varS, e_tup, e_lst, e_op1, e_op2, e_cond, e_and, e_or, e_not, e_chain, e_sl, e_call, e_lc, es_nil, es_cons, o_no, o_some, wpI, onP_name, onP_nil, onP_cons, onB, onI, onStr_map, onBl_map, onInt_map, intsD_len, Int.toNat_natCast, endsOf, startD_n, nones, w1, w2, pre2, wSl, wSet, wAug, seqAt, listAt, itemAt, wSeq, newLst, wipeD, List.map_cons, List.map_nil, List.length_cons, List.length_nil, List.nil_append, List.cons_append, List.set_cons_zero, List.set_cons_succ, List.getElem?_cons_zero, List.getElem?_cons_succ, List.append_nil, perm, List.getD_cons_zero, List.getD_cons_succ, Nat.reduceAdd, Nat.reduceSub, true_and, and_true, if_true, if_false, Bool.false_eq_true, decide_eq_true_eq, D.isNon, lstAt_end, atI_0, atI_1, atI_2, atI_3, atI_4, atI_5, ixN_0, ixN_1, ixN_2, Nat.reduceLT, Nat.reduceLeDiff, Int.reduceLT, Int.reduceLE, Int.reduceToNat, Int.reducePow, Int.reduceMul, Bool.not_true, Bool.not_false]
    exact q fs mu.length nu (Nat.le_refl _) ef (by omega) (fun w hw => ⟨(okf w hw).1, Nat.le_trans (okf w hw).2 l3⟩) kp
end MP

namespace MP
open PySem PySem.Spec PyProof.Rows L2
def wheel (z : Str) (c g : Nat) : Mach := (List.range c).map fun s => (decide (s = g), [(z, (s + 1) % c)])
theorem wheel_at {z : Str} {c g s : Nat} (h : s < c) : (wheel z c g)[s]? = some (decide (s = g), [(z, (s + 1) % c)]) := by
  unfold wheel
  rw [List.getElem?_map, List.getElem?_eq_getElem (by rw [List.length_range]; exact h), List.getElem_range]
  rfl
theorem wheel_len (z : Str) (c g : Nat) : (wheel z c g).length = c := by unfold wheel; rw [List.length_map, List.length_range]
theorem wheel_run {z : Str} {c g : Nat} (h0 : 0 < c) : ∀ (k : Nat) {s : Nat} {w : List Str}, s < c → run (wheel z c g) s (List.replicate k z ++ w) = run (wheel z c g) ((s + k) % c) w
  | 0, s, w, h => by rw [Nat.add_zero, Nat.mod_eq_of_lt h]; rfl
  | k + 1, s, w, h => by
    rw [List.replicate_succ, List.cons_append, run_cons (wheel_at h)]
    have : goal [(z, (s + 1) % c)] z = some ((s + 1) % c) := by simp [goal]
    rw [this]
    show run _ _ _ = _
    rw [wheel_run h0 k (Nat.mod_lt _ h0), Nat.mod_add_mod]
    congr 2
    omega
theorem wheel_wm {z : Str} {c g : Nat} (h0 : 0 < c) (hz : PyData.strOk z = true) : WM (wheel z c g) := fun r hr p hp => by
  unfold wheel at hr
  obtain ⟨s, hs, rfl⟩ := List.mem_map.mp hr
  have : p = (z, (s + 1) % c) := by simpa using hp
  subst this
  rw [wheel_len]
  exact ⟨Nat.mod_lt _ h0, hz⟩
theorem wheel_acc {z : Str} {c g : Nat} (h0 : 0 < c) (k : Nat) : acc (wheel z c g) (List.replicate k z) = decide (k % c = g) := by
  have e := wheel_run (z := z) (g := g) h0 k (s := 0) (w := []) h0
  rw [List.append_nil, Nat.zero_add] at e
  unfold acc
  rw [e]
  show (match (wheel z c g)[k % c]? with | some r => r.1 | none => false) = _
  rw [wheel_at (Nat.mod_lt _ h0)]
theorem wheel_no {z y : Str} {c g : Nat} (h0 : 0 < c) (hy : z ≠ y) (k : Nat) : acc (wheel z c g) (List.replicate k z ++ [y]) = false := by
  have e := wheel_run (z := z) (g := g) h0 k (s := 0) (w := [y]) h0
  unfold acc
  rw [e, run_cons (wheel_at (Nat.mod_lt _ h0))]
  have : goal [(z, ((0 + k) % c + 1) % c)] y = none := by simp [goal, hy]
  rw [this]
  rfl
def spCounter : DSp := fun ds mu Q _ => ∃ (z : Str) (c g : Nat), ds = [.str z, .int c, .int g] ∧ 0 < c ∧ c ≤ 100 ∧ ∀ nu, Kp mu nu → Q (machD (wheel z c g)) nu
theorem w_counter {G : Ctx} {ds : List D} {mu : Store} {Q : QD} {E : QX} (s : spCounter ds mu Q E) : wpSs G c_law_counter (endsOf Q E) (startD N_law_counter ds) mu := by
  obtain ⟨z, c, g, rfl, h0, h1, q⟩ := s
  (try refine nx_in ?_); simp only [s_nil, nx_nil, s_cons, s_asg, s_setSub, s_augN, s_expr, s_ret, s_retN, s_ite, s_for, s_while, s_pass, s_brk, s_cont, e_con, e_var0, e_varS, e_tup, e_lst, e_op1, e_op2, e_cond, e_and, e_or, e_not, e_chain, e_sl, e_call, e_lc, es_nil, es_cons, o_no, o_some, wpI, onP_name, onP_nil, onP_cons, onB, onI, onStr_map, onBl_map, onInt_map, intsD_len, Int.toNat_natCast, endsOf, startD_n, nones, w1, w2, pre2, wSl, wSet, wAug, seqAt, listAt, itemAt, wSeq, newLst, wipeD, List.map_cons, List.map_nil, List.length_cons, List.length_nil, List.nil_append, List.cons_append, List.set_cons_zero, List.set_cons_succ, List.getElem?_cons_zero, List.getElem?_cons_succ, List.append_nil, perm, List.getD_cons_zero, List.getD_cons_succ, Nat.reduceAdd, Nat.reduceSub, true_and, and_true, if_true, if_false, Bool.false_eq_true, decide_eq_true_eq, D.isNon, lstAt_end, atI_0, atI_1, atI_2, atI_3, atI_4, atI_5, ixN_0, ixN_1, ixN_2, Nat.reduceLT, Nat.reduceLeDiff, Int.reduceLT, Int.reduceLE, Int.reduceToNat, Int.reducePow, Int.reduceMul, Bool.not_true, Bool.not_false, c_law_counter, N_law_counter]
  refine ⟨⟨by omega, by omega⟩, ?_⟩
  refine lcGo_map (fun i => rowD (decide (i = g), [(z, (i + 1) % c)])) trivial (fun i x k ex hk => ?_) ?_
  · obtain ⟨hi, rfl⟩ := intsD_get ex
    (try refine nx_in ?_); simp only [s_nil, nx_nil, s_cons, s_asg, s_setSub, s_augN, s_expr, s_ret, s_retN, s_ite, s_for, s_while, s_pass, s_brk, s_cont, e_con, e_var0, e_varS, e_tup, e_lst, e_op1, e_op2, e_cond, e_and, e_or, e_not, e_chain, e_sl, e_call, e_lc, es_nil, es_cons, o_no, o_some, wpI, onP_name, onP_nil, onP_cons, onB, onI, onStr_map, onBl_map, onInt_map, intsD_len, Int.toNat_natCast, endsOf, startD_n, nones, w1, w2, pre2, wSl, wSet, wAug, seqAt, listAt, itemAt, wSeq, newLst, wipeD, List.map_cons, List.map_nil, List.length_cons, List.length_nil, List.nil_append, List.cons_append, List.set_cons_zero, List.set_cons_succ, List.getElem?_cons_zero, List.getElem?_cons_succ, List.append_nil, perm, List.getD_cons_zero, List.getD_cons_succ, Nat.reduceAdd, Nat.reduceSub, true_and, and_true, if_true, if_false, Bool.false_eq_true, decide_eq_true_eq, D.isNon, lstAt_end, atI_0, atI_1, atI_2, atI_3, atI_4, atI_5, ixN_0, ixN_1, ixN_2, Nat.reduceLT, Nat.reduceLeDiff, Int.reduceLT, Int.reduceLE, Int.reduceToNat, Int.reducePow, Int.reduceMul, Bool.not_true, Bool.not_false, lcT]
    refine ⟨by omega, size_le (by decide), size_le (by decide), size_le (by decide), ?_⟩
    have e1 : decide ((0 : Int) + (i : Nat) = (g : Nat)) = decide (i = g) := by
      by_cases e : i = g
      · rw [decide_eq_true e, decide_eq_true (by omega)]
      · rw [decide_eq_false e, decide_eq_false (by omega)]
    have e2 : ((0 : Int) + (i : Nat) + 1) % (c : Nat) = ((i + 1) % c : Nat) := by
      rw [Int.zero_add]
      norm_cast
    rw [e1, e2]
    exact hk
  · rw [intsD_len]
    have := q (mu ++ [Cell.lst (List.map (fun i => rowD (decide (i = g), [(z, (i + 1) % c)])) (List.range c))]) .app
    unfold machD wheel at this
    rw [List.map_map] at this
    exact this
def spWord : DSp := fun ds mu Q _ => ∃ (h m n k : Nat) (ws : List Str), ds = [.ref h, .ref m, .int k] ∧ m ≠ h ∧ mu[m]? = some (.lst (ws.map .str)) ∧ ws ≠ [] ∧ ws.length ≤ 10 ∧ WsOk ws ∧ k ≤ 300 ∧ Hand mu h (n + k + 1) ∧
  ∀ w nu, WsOk w → w.length ≤ k → Fr h mu nu → Hand nu h n → Q (wordD w) nu
theorem w_word {G : Ctx} (g1 : G.fn i_law_take = spTake) (g2 : G.fn i_law_of = spOf) {ds : List D} {mu : Store} {Q : QD} {E : QX} (s : spWord ds mu Q E) : wpSs G c_law_word (endsOf Q E) (startD N_law_word ds) mu := by
  obtain ⟨h, m, n, k, ws, rfl, hm, em, hne, hw, ok, hk, hh, q⟩ := s
  (try refine nx_in ?_); simp only [s_nil, nx_nil, s_cons, s_asg, s_setSub, s_augN, s_expr, s_ret, s_retN, s_ite, s_for, s_while, s_pass, s_brk, s_cont, e_con, e_var0, e_varS, e_tup, e_lst, e_op1, e_op2, e_cond, e_and, e_or, e_not, e_chain, e_sl, e_call, e_lc, es_nil, es_cons, o_no, o_some, wpI, onP_name, onP_nil, onP_cons, onB, onI, onStr_map, onBl_map, onInt_map, intsD_len, Int.toNat_natCast, endsOf, startD_n, nones, w1, w2, pre2, wSl, wSet, wAug, seqAt, listAt, itemAt, wSeq, newLst, wipeD, List.map_cons, List.map_nil, List.length_cons, List.length_nil, List.nil_append, List.cons_append, List.set_cons_zero, List.set_cons_succ, List.getElem?_cons_zero, List.getElem?_cons_succ, List.append_nil, perm, List.getD_cons_zero, List.getD_cons_succ, Nat.reduceAdd, Nat.reduceSub, true_and, and_true, if_true, if_false, Bool.false_eq_true, decide_eq_true_eq, D.isNon, lstAt_end, atI_0, atI_1, atI_2, atI_3, atI_4, atI_5, ixN_0, ixN_1, ixN_2, Nat.reduceLT, Nat.reduceLeDiff, Int.reduceLT, Int.reduceLE, Int.reduceToNat, Int.reducePow, Int.reduceMul, Bool.not_true, Bool.not_false, c_law_word, N_law_word]
  refine call_to g1 ⟨h, n + k, _, rfl, by omega, by omega, hh, fun r1 m1 a1 b1 f1 hh1 => ?_⟩
  (try refine nx_in ?_); simp only [s_nil, nx_nil, s_cons, s_asg, s_setSub, s_augN, s_expr, s_ret, s_retN, s_ite, s_for, s_while, s_pass, s_brk, s_cont, e_con, e_var0, e_varS, e_tup, e_lst, e_op1, e_op2, e_cond, e_and, e_or, e_not, e_chain, e_sl, e_call, e_lc, es_nil, es_cons, o_no, o_some, wpI, onP_name, onP_nil, onP_cons, onB, onI, onStr_map, onBl_map, onInt_map, intsD_len, Int.toNat_natCast, endsOf, startD_n, nones, w1, w2, pre2, wSl, wSet, wAug, seqAt, listAt, itemAt, wSeq, newLst, wipeD, List.map_cons, List.map_nil, List.length_cons, List.length_nil, List.nil_append, List.cons_append, List.set_cons_zero, List.set_cons_succ, List.getElem?_cons_zero, List.getElem?_cons_succ, List.append_nil, perm, List.getD_cons_zero, List.getD_cons_succ, Nat.reduceAdd, Nat.reduceSub, true_and, and_true, if_true, if_false, Bool.false_eq_true, decide_eq_true_eq, D.isNon, lstAt_end, atI_0, atI_1, atI_2, atI_3, atI_4, atI_5, ixN_0, ixN_1, ixN_2, Nat.reduceLT, Nat.reduceLeDiff, Int.reduceLT, Int.reduceLE, Int.reduceToNat, Int.reducePow, Int.reduceMul, Bool.not_true, Bool.not_false]
  refine ⟨⟨by omega, by omega⟩, ?_⟩
  have hr : r1.toNat ≤ k := by omega
  refine lcGo_inv (fun i acc nu => ∃ w : List Str, acc = w.map D.str ∧ w.length = i ∧ WsOk w ∧ i ≤ r1.toNat ∧ Fr h mu nu ∧ Hand nu h (n + (k - i))) ⟨[], rfl, rfl, nomem, Nat.zero_le _, f1, hh1⟩ (fun _ _ _ _ => trivial) (fun i x acc nu kk ex h2 hk2 => ?_) (fun acc nu h2 => ?_)
  · obtain ⟨w, rfl, wl, wok, hi, fr, hd⟩ := h2
    obtain ⟨hi, rfl⟩ := intsD_get ex
    (try refine nx_in ?_); simp only [s_nil, nx_nil, s_cons, s_asg, s_setSub, s_augN, s_expr, s_ret, s_retN, s_ite, s_for, s_while, s_pass, s_brk, s_cont, e_con, e_var0, e_varS, e_tup, e_lst, e_op1, e_op2, e_cond, e_and, e_or, e_not, e_chain, e_sl, e_call, e_lc, es_nil, es_cons, o_no, o_some, wpI, onP_name, onP_nil, onP_cons, onB, onI, onStr_map, onBl_map, onInt_map, intsD_len, Int.toNat_natCast, endsOf, startD_n, nones, w1, w2, pre2, wSl, wSet, wAug, seqAt, listAt, itemAt, wSeq, newLst, wipeD, List.map_cons, List.map_nil, List.length_cons, List.length_nil, List.nil_append, List.cons_append, List.set_cons_zero, List.set_cons_succ, List.getElem?_cons_zero, List.getElem?_cons_succ, List.append_nil, perm, List.getD_cons_zero, List.getD_cons_succ, Nat.reduceAdd, Nat.reduceSub, true_and, and_true, if_true, if_false, Bool.false_eq_true, decide_eq_true_eq, D.isNon, lstAt_end, atI_0, atI_1, atI_2, atI_3, atI_4, atI_5, ixN_0, ixN_1, ixN_2, Nat.reduceLT, Nat.reduceLeDiff, Int.reduceLT, Int.reduceLE, Int.reduceToNat, Int.reducePow, Int.reduceMul, Bool.not_true, Bool.not_false, lcT]
    refine call_to g2 ⟨h, n + (k - (i + 1)), _, rfl, hd.less (by omega), .inl ⟨_, .inr ⟨m, hm, rfl, fr.at_ hm em⟩, by simpa using hne, by rw [List.length_map]; omega, fun r nu k2 f2 hd2 => ?_⟩⟩
    obtain ⟨z, hz, rfl⟩ := List.mem_map.mp k2
    refine hk2 _ _ ⟨w ++ [z], by rw [List.map_append]; rfl, by simp [wl], fun y hy => ?_, by omega, fr.trans f2, hd2⟩
    rcases List.mem_append.mp hy with hy | hy
    · exact wok y hy
    · have : y = z := by simpa using hy
      subst this
      exact ok y hz
  · obtain ⟨w, rfl, wl, wok, hi, fr, hd⟩ := h2
    rw [intsD_len] at wl
    exact q w _ wok (by omega) (fr.trans .app) (hd.app.less (by omega))

theorem fine_mach {m : Mach} (wm : WM m) (sm : SM 10 m) (hl : m.length ≤ 100) : Fine 4 100000 (machD m) := by
  have f1 : ∀ r ∈ m, ∀ p ∈ r.2, Fine 1 34 (mvD p) := fun r hr p hp => by
    have a := wm r hr p hp
    have b := (sm r hr).2 p hp
    refine (fine_tup (k := 0) (w := 16) (n := 2) (fun x hx => ?_) (by simp)).mono (Nat.le_refl _) (by decide)
    simp only [List.mem_cons, List.not_mem_nil, or_false] at hx
    rcases hx with rfl | rfl
    · exact fine_str a.2 b
    · exact fine_int (by omega)
  have f2 : ∀ r ∈ m, Fine 3 800 (rowD r) := fun r hr => by
    have f : Fine 2 350 (.tup (r.2.map mvD)) := (fine_tup (k := 1) (w := 34) (n := 10) (fun x hx => by
      obtain ⟨p, hp, rfl⟩ := List.mem_map.mp hx
      exact f1 r hr p hp) (by rw [List.length_map]; exact (sm r hr).1)).mono (Nat.le_refl _) (by decide)
    refine (fine_tup (k := 2) (w := 350) (n := 2) (fun x hx => ?_) (by simp)).mono (Nat.le_refl _) (by decide)
    simp only [List.mem_cons, List.not_mem_nil, or_false] at hx
    rcases hx with rfl | rfl
    · exact fine_bl _
    · exact f
  exact (fine_tup (k := 3) (w := 800) (n := 100) (fun x hx => by
    obtain ⟨r, hr, rfl⟩ := List.mem_map.mp hx
    exact f2 r hr) (by rw [List.length_map]; exact hl)).mono (Nat.le_refl _) (by decide)
theorem rep_flat (k : Nat) (z : Str) : D.tup (List.replicate k [D.str z]).flatten = wordD (List.replicate k z) := by
  unfold wordD
  congr 1
  induction k with
  | zero => rfl
  | succ k ih => rw [List.replicate_succ, List.flatten_cons, ih, List.replicate_succ]; rfl
def spRight : DSp := fun ds mu Q _ => ∃ h, ds = [.ref h] ∧ Hand mu h 100000 ∧ ∀ nu, Fr h mu nu → Q (.bl true) nu
theorem w_right {G : Ctx} {ia ic it iw il ir ie : Nat} (g1 : G.fn i_law_take = spTake) (g2 : G.fn i_law_of = spOf) (ga : G.fn ia = spAcc) (gc : G.fn ic = spCounter) (gt : G.fn it = spAcc) (gw : G.fn iw = spWord) (gl : G.fn il = spAll) (gr : G.fn ir = spRows) (ge : G.fn ie = spLetters 4)
    {ds : List D} {mu : Store} {Q : QD} {E : QX} (s : spRight ds mu Q E) : wpSs G (c_law_right ia ic it iw il ir ie) (endsOf Q E) (startD N_law_right ds) mu := by
  obtain ⟨h, rfl, hh, q⟩ := s
  (try refine nx_in ?_); simp only [s_nil, nx_nil, s_cons, s_asg, s_setSub, s_augN, s_expr, s_ret, s_retN, s_ite, s_for, s_while, s_pass, s_brk, s_cont, e_con, e_var0, e_varS, e_tup, e_lst, e_op1, e_op2, e_cond, e_and, e_or, e_not, e_chain, e_sl, e_call, e_lc, es_nil, es_cons, o_no, o_some, wpI, onP_name, onP_nil, onP_cons, onB, onI, onStr_map, onBl_map, onInt_map, intsD_len, Int.toNat_natCast, endsOf, startD_n, nones, w1, w2, pre2, wSl, wSet, wAug, seqAt, listAt, itemAt, wSeq, newLst, wipeD, List.map_cons, List.map_nil, List.length_cons, List.length_nil, List.nil_append, List.cons_append, List.set_cons_zero, List.set_cons_succ, List.getElem?_cons_zero, List.getElem?_cons_succ, List.append_nil, perm, List.getD_cons_zero, List.getD_cons_succ, Nat.reduceAdd, Nat.reduceSub, true_and, and_true, if_true, if_false, Bool.false_eq_true, decide_eq_true_eq, D.isNon, lstAt_end, atI_0, atI_1, atI_2, atI_3, atI_4, atI_5, ixN_0, ixN_1, ixN_2, Nat.reduceLT, Nat.reduceLeDiff, Int.reduceLT, Int.reduceLE, Int.reduceToNat, Int.reducePow, Int.reduceMul, Bool.not_true, Bool.not_false, c_law_right, N_law_right]
  refine call_to ge ⟨h, 99995, rfl, hh, fun menu me m1 le1 eme ml mnd mok f1 hd1 => ?_⟩
  have mok : WsOk menu := mok
  have hlt := hh.lt
  have hme : me ≠ h := by omega
  (try refine nx_in ?_); simp only [s_nil, nx_nil, s_cons, s_asg, s_setSub, s_augN, s_expr, s_ret, s_retN, s_ite, s_for, s_while, s_pass, s_brk, s_cont, e_con, e_var0, e_varS, e_tup, e_lst, e_op1, e_op2, e_cond, e_and, e_or, e_not, e_chain, e_sl, e_call, e_lc, es_nil, es_cons, o_no, o_some, wpI, onP_name, onP_nil, onP_cons, onB, onI, onStr_map, onBl_map, onInt_map, intsD_len, Int.toNat_natCast, endsOf, startD_n, nones, w1, w2, pre2, wSl, wSet, wAug, seqAt, listAt, itemAt, wSeq, newLst, wipeD, List.map_cons, List.map_nil, List.length_cons, List.length_nil, List.nil_append, List.cons_append, List.set_cons_zero, List.set_cons_succ, List.getElem?_cons_zero, List.getElem?_cons_succ, List.append_nil, perm, List.getD_cons_zero, List.getD_cons_succ, Nat.reduceAdd, Nat.reduceSub, true_and, and_true, if_true, if_false, Bool.false_eq_true, decide_eq_true_eq, D.isNon, lstAt_end, atI_0, atI_1, atI_2, atI_3, atI_4, atI_5, ixN_0, ixN_1, ixN_2, Nat.reduceLT, Nat.reduceLeDiff, Int.reduceLT, Int.reduceLE, Int.reduceToNat, Int.reducePow, Int.reduceMul, Bool.not_true, Bool.not_false]
  refine forGo_inv (fun i rh nu => ∃ a b c d e f g, rh = [some (.ref h), some (.ref me), a, b, c, d, e, f, none, none, none, none, g] ∧ nu[me]? = some (.lst (menu.map .str)) ∧ Fr h mu nu ∧ Hand nu h (99995 - 1000 * i) ∧ i ≤ 3)
    ⟨_, _, _, _, _, _, _, rfl, eme, f1, hd1, by decide⟩ (fun _ _ _ _ => trivial) (fun i x rh nu k ex h2 hk => ?_) (fun rh nu h2 => ?_)
  · obtain ⟨a, b, c, d, e, f, gg, rfl, em, fr, hd, hi⟩ := h2
    obtain ⟨hi, rfl⟩ := intsD_get ex
    have hi : i < 3 := hi
    (try refine nx_in ?_); simp only [s_nil, nx_nil, s_cons, s_asg, s_setSub, s_augN, s_expr, s_ret, s_retN, s_ite, s_for, s_while, s_pass, s_brk, s_cont, e_con, e_var0, e_varS, e_tup, e_lst, e_op1, e_op2, e_cond, e_and, e_or, e_not, e_chain, e_sl, e_call, e_lc, es_nil, es_cons, o_no, o_some, wpI, onP_name, onP_nil, onP_cons, onB, onI, onStr_map, onBl_map, onInt_map, intsD_len, Int.toNat_natCast, endsOf, startD_n, nones, w1, w2, pre2, wSl, wSet, wAug, seqAt, listAt, itemAt, wSeq, newLst, wipeD, List.map_cons, List.map_nil, List.length_cons, List.length_nil, List.nil_append, List.cons_append, List.set_cons_zero, List.set_cons_succ, List.getElem?_cons_zero, List.getElem?_cons_succ, List.append_nil, perm, List.getD_cons_zero, List.getD_cons_succ, Nat.reduceAdd, Nat.reduceSub, true_and, and_true, if_true, if_false, Bool.false_eq_true, decide_eq_true_eq, D.isNon, lstAt_end, atI_0, atI_1, atI_2, atI_3, atI_4, atI_5, ixN_0, ixN_1, ixN_2, Nat.reduceLT, Nat.reduceLeDiff, Int.reduceLT, Int.reduceLE, Int.reduceToNat, Int.reducePow, Int.reduceMul, Bool.not_true, Bool.not_false, forT]
    refine call_to g1 ⟨h, 99995 - 1000 * i - 1, _, rfl, by decide, by decide, hd.less (by omega), fun r1 m2 a1 b1 f2 hd2 => ?_⟩
    have em2 := f2.at_ hme em
    (try refine nx_in ?_); simp only [s_nil, nx_nil, s_cons, s_asg, s_setSub, s_augN, s_expr, s_ret, s_retN, s_ite, s_for, s_while, s_pass, s_brk, s_cont, e_con, e_var0, e_varS, e_tup, e_lst, e_op1, e_op2, e_cond, e_and, e_or, e_not, e_chain, e_sl, e_call, e_lc, es_nil, es_cons, o_no, o_some, wpI, onP_name, onP_nil, onP_cons, onB, onI, onStr_map, onBl_map, onInt_map, intsD_len, Int.toNat_natCast, endsOf, startD_n, nones, w1, w2, pre2, wSl, wSet, wAug, seqAt, listAt, itemAt, wSeq, newLst, wipeD, List.map_cons, List.map_nil, List.length_cons, List.length_nil, List.nil_append, List.cons_append, List.set_cons_zero, List.set_cons_succ, List.getElem?_cons_zero, List.getElem?_cons_succ, List.append_nil, perm, List.getD_cons_zero, List.getD_cons_succ, Nat.reduceAdd, Nat.reduceSub, true_and, and_true, if_true, if_false, Bool.false_eq_true, decide_eq_true_eq, D.isNon, lstAt_end, atI_0, atI_1, atI_2, atI_3, atI_4, atI_5, ixN_0, ixN_1, ixN_2, Nat.reduceLT, Nat.reduceLeDiff, Int.reduceLT, Int.reduceLE, Int.reduceToNat, Int.reducePow, Int.reduceMul, Bool.not_true, Bool.not_false, lstAt_of em2]
    rw [cutD_take (by omega)]
    obtain ⟨sm, hsm⟩ : ∃ sm, sm = menu.take (1 + r1).toNat := ⟨_, rfl⟩
    rw [show (List.map D.str menu).take (1 + r1).toNat = sm.map .str by rw [hsm, List.map_take]]
    have sml : 0 < sm.length ∧ sm.length ≤ 3 := by rw [hsm, List.length_take, ml]; omega
    have smok : WsOk sm := fun z hz => mok z (List.mem_of_mem_take (by rw [← hsm]; exact hz))
    have esm : (m2 ++ [Cell.lst (sm.map .str)])[m2.length]? = some (.lst (sm.map .str)) := at_end _ _
    have l2 := hd2.lt
    (try refine nx_in ?_); simp only [s_nil, nx_nil, s_cons, s_asg, s_setSub, s_augN, s_expr, s_ret, s_retN, s_ite, s_for, s_while, s_pass, s_brk, s_cont, e_con, e_var0, e_varS, e_tup, e_lst, e_op1, e_op2, e_cond, e_and, e_or, e_not, e_chain, e_sl, e_call, e_lc, es_nil, es_cons, o_no, o_some, wpI, onP_name, onP_nil, onP_cons, onB, onI, onStr_map, onBl_map, onInt_map, intsD_len, Int.toNat_natCast, endsOf, startD_n, nones, w1, w2, pre2, wSl, wSet, wAug, seqAt, listAt, itemAt, wSeq, newLst, wipeD, List.map_cons, List.map_nil, List.length_cons, List.length_nil, List.nil_append, List.cons_append, List.set_cons_zero, List.set_cons_succ, List.getElem?_cons_zero, List.getElem?_cons_succ, List.append_nil, perm, List.getD_cons_zero, List.getD_cons_succ, Nat.reduceAdd, Nat.reduceSub, true_and, and_true, if_true, if_false, Bool.false_eq_true, decide_eq_true_eq, D.isNon, lstAt_end, atI_0, atI_1, atI_2, atI_3, atI_4, atI_5, ixN_0, ixN_1, ixN_2, Nat.reduceLT, Nat.reduceLeDiff, Int.reduceLT, Int.reduceLE, Int.reduceToNat, Int.reducePow, Int.reduceMul, Bool.not_true, Bool.not_false]
    refine call_to g1 ⟨h, 99995 - 1000 * i - 2, _, rfl, by decide, by decide, hd2.app.less (by omega), fun r2 m3 a2 b2 f3 hd3 => ?_⟩
    have esm3 := f3.at_ (by omega) esm
    (try refine nx_in ?_); simp only [s_nil, nx_nil, s_cons, s_asg, s_setSub, s_augN, s_expr, s_ret, s_retN, s_ite, s_for, s_while, s_pass, s_brk, s_cont, e_con, e_var0, e_varS, e_tup, e_lst, e_op1, e_op2, e_cond, e_and, e_or, e_not, e_chain, e_sl, e_call, e_lc, es_nil, es_cons, o_no, o_some, wpI, onP_name, onP_nil, onP_cons, onB, onI, onStr_map, onBl_map, onInt_map, intsD_len, Int.toNat_natCast, endsOf, startD_n, nones, w1, w2, pre2, wSl, wSet, wAug, seqAt, listAt, itemAt, wSeq, newLst, wipeD, List.map_cons, List.map_nil, List.length_cons, List.length_nil, List.nil_append, List.cons_append, List.set_cons_zero, List.set_cons_succ, List.getElem?_cons_zero, List.getElem?_cons_succ, List.append_nil, perm, List.getD_cons_zero, List.getD_cons_succ, Nat.reduceAdd, Nat.reduceSub, true_and, and_true, if_true, if_false, Bool.false_eq_true, decide_eq_true_eq, D.isNon, lstAt_end, atI_0, atI_1, atI_2, atI_3, atI_4, atI_5, ixN_0, ixN_1, ixN_2, Nat.reduceLT, Nat.reduceLeDiff, Int.reduceLT, Int.reduceLE, Int.reduceToNat, Int.reducePow, Int.reduceMul, Bool.not_true, Bool.not_false]
    refine call_to gr ⟨h, m2.length, (1 + r2).toNat, 99995 - 1000 * i - 300, sm, by rw [Int.toNat_of_nonneg (by omega)], by omega, esm3, by omega, smok, by omega, by omega, hd3.less (by omega), fun mach m4 mal wm msm f4 hd4 => ?_⟩
    have esm4 := f4.at_ (by omega) esm3
    have fm := fine_mach wm msm (by omega)
    (try refine nx_in ?_); simp only [s_nil, nx_nil, s_cons, s_asg, s_setSub, s_augN, s_expr, s_ret, s_retN, s_ite, s_for, s_while, s_pass, s_brk, s_cont, e_con, e_var0, e_varS, e_tup, e_lst, e_op1, e_op2, e_cond, e_and, e_or, e_not, e_chain, e_sl, e_call, e_lc, es_nil, es_cons, o_no, o_some, wpI, onP_name, onP_nil, onP_cons, onB, onI, onStr_map, onBl_map, onInt_map, intsD_len, Int.toNat_natCast, endsOf, startD_n, nones, w1, w2, pre2, wSl, wSet, wAug, seqAt, listAt, itemAt, wSeq, newLst, wipeD, List.map_cons, List.map_nil, List.length_cons, List.length_nil, List.nil_append, List.cons_append, List.set_cons_zero, List.set_cons_succ, List.getElem?_cons_zero, List.getElem?_cons_succ, List.append_nil, perm, List.getD_cons_zero, List.getD_cons_succ, Nat.reduceAdd, Nat.reduceSub, true_and, and_true, if_true, if_false, Bool.false_eq_true, decide_eq_true_eq, D.isNon, lstAt_end, atI_0, atI_1, atI_2, atI_3, atI_4, atI_5, ixN_0, ixN_1, ixN_2, Nat.reduceLT, Nat.reduceLeDiff, Int.reduceLT, Int.reduceLE, Int.reduceToNat, Int.reducePow, Int.reduceMul, Bool.not_true, Bool.not_false]
    have R := repr_ok m4 fm (by decide) (by decide)
    refine ⟨_, R.1, R.2.1, R.2.2.1, R.2.2.2, ?_⟩
    refine call_to gl ⟨m2.length, sm, rfl, esm4, sml.2, smok, fun words fw m5 lfw efw wl wok k5 => ?_⟩
    (try refine nx_in ?_); simp only [s_nil, nx_nil, s_cons, s_asg, s_setSub, s_augN, s_expr, s_ret, s_retN, s_ite, s_for, s_while, s_pass, s_brk, s_cont, e_con, e_var0, e_varS, e_tup, e_lst, e_op1, e_op2, e_cond, e_and, e_or, e_not, e_chain, e_sl, e_call, e_lc, es_nil, es_cons, o_no, o_some, wpI, onP_name, onP_nil, onP_cons, onB, onI, onStr_map, onBl_map, onInt_map, intsD_len, Int.toNat_natCast, endsOf, startD_n, nones, w1, w2, pre2, wSl, wSet, wAug, seqAt, listAt, itemAt, wSeq, newLst, wipeD, List.map_cons, List.map_nil, List.length_cons, List.length_nil, List.nil_append, List.cons_append, List.set_cons_zero, List.set_cons_succ, List.getElem?_cons_zero, List.getElem?_cons_succ, List.append_nil, perm, List.getD_cons_zero, List.getD_cons_succ, Nat.reduceAdd, Nat.reduceSub, true_and, and_true, if_true, if_false, Bool.false_eq_true, decide_eq_true_eq, D.isNon, lstAt_end, atI_0, atI_1, atI_2, atI_3, atI_4, atI_5, ixN_0, ixN_1, ixN_2, Nat.reduceLT, Nat.reduceLeDiff, Int.reduceLT, Int.reduceLE, Int.reduceToNat, Int.reducePow, Int.reduceMul, Bool.not_true, Bool.not_false, lstAt_of efw, cutD_take]
    refine ⟨size_le (by decide), ?_⟩
    obtain ⟨va, hva⟩ : ∃ va, va = words.take 90 := ⟨_, rfl⟩
    rw [show (List.map wordD words).take 90 = va.map wordD by rw [hva, List.map_take]]
    have val : va.length ≤ 90 := by rw [hva, List.length_take]; omega
    have vaok : ∀ w ∈ va, WsOk w := fun w hw => (wok w (List.mem_of_mem_take (by rw [← hva]; exact hw))).1
    have F5 := ((((fr.trans f2).trans .app).trans f3).trans f4).trans (k5.fr h)
    have hd5 := k5.hand hd4
    have hm5 := hd5.lt
    have em5 : (m5 ++ [Cell.lst (va.map wordD)])[me]? = some (.lst (menu.map .str)) := Kp.app _ _ (k5 _ _ (f4.at_ hme (f3.at_ hme (Kp.app _ _ em2))))
    have e65 : (m5 ++ [Cell.lst (va.map wordD)])[m5.length]? = some (.lst (va.map wordD)) := at_end _ _
    (try refine nx_in ?_); simp only [s_nil, nx_nil, s_cons, s_asg, s_setSub, s_augN, s_expr, s_ret, s_retN, s_ite, s_for, s_while, s_pass, s_brk, s_cont, e_con, e_var0, e_varS, e_tup, e_lst, e_op1, e_op2, e_cond, e_and, e_or, e_not, e_chain, e_sl, e_call, e_lc, es_nil, es_cons, o_no, o_some, wpI, onP_name, onP_nil, onP_cons, onB, onI, onStr_map, onBl_map, onInt_map, intsD_len, Int.toNat_natCast, endsOf, startD_n, nones, w1, w2, pre2, wSl, wSet, wAug, seqAt, listAt, itemAt, wSeq, newLst, wipeD, List.map_cons, List.map_nil, List.length_cons, List.length_nil, List.nil_append, List.cons_append, List.set_cons_zero, List.set_cons_succ, List.getElem?_cons_zero, List.getElem?_cons_succ, List.append_nil, perm, List.getD_cons_zero, List.getD_cons_succ, Nat.reduceAdd, Nat.reduceSub, true_and, and_true, if_true, if_false, Bool.false_eq_true, decide_eq_true_eq, D.isNon, lstAt_end, atI_0, atI_1, atI_2, atI_3, atI_4, atI_5, ixN_0, ixN_1, ixN_2, Nat.reduceLT, Nat.reduceLeDiff, Int.reduceLT, Int.reduceLE, Int.reduceToNat, Int.reducePow, Int.reduceMul, Bool.not_true, Bool.not_false]
    have esm5 : (m5 ++ [Cell.lst (va.map wordD)])[m2.length]? = some (.lst (sm.map .str)) := Kp.app _ _ (k5 _ _ esm4)
    have hm2 : m2.length ≠ h := by omega
    have hm5' : m5.length ≠ h := by omega
    refine lcGo_inv (fun t acc nu => ∃ vb : List (List Str), acc = vb.map wordD ∧ vb.length = t ∧ (∀ w ∈ vb, WsOk w) ∧ t ≤ 10 ∧ Fr h (m5 ++ [Cell.lst (va.map wordD)]) nu ∧ Hand nu h (99995 - 1000 * i - 300 - 10 * t))
      ⟨[], rfl, rfl, nomem, by decide, .refl, hd5.app⟩ (fun _ _ _ _ => trivial) (fun t y acc nu kk ey h3 hk3 => ?_) (fun acc nu h3 => ?_)
    · obtain ⟨vb, rfl, vbl, vbok, ht, f6, hd6⟩ := h3
      obtain ⟨ht, rfl⟩ := intsD_get ey
      have ht : t < 10 := ht
      (try refine nx_in ?_); simp only [s_nil, nx_nil, s_cons, s_asg, s_setSub, s_augN, s_expr, s_ret, s_retN, s_ite, s_for, s_while, s_pass, s_brk, s_cont, e_con, e_var0, e_varS, e_tup, e_lst, e_op1, e_op2, e_cond, e_and, e_or, e_not, e_chain, e_sl, e_call, e_lc, es_nil, es_cons, o_no, o_some, wpI, onP_name, onP_nil, onP_cons, onB, onI, onStr_map, onBl_map, onInt_map, intsD_len, Int.toNat_natCast, endsOf, startD_n, nones, w1, w2, pre2, wSl, wSet, wAug, seqAt, listAt, itemAt, wSeq, newLst, wipeD, List.map_cons, List.map_nil, List.length_cons, List.length_nil, List.nil_append, List.cons_append, List.set_cons_zero, List.set_cons_succ, List.getElem?_cons_zero, List.getElem?_cons_succ, List.append_nil, perm, List.getD_cons_zero, List.getD_cons_succ, Nat.reduceAdd, Nat.reduceSub, true_and, and_true, if_true, if_false, Bool.false_eq_true, decide_eq_true_eq, D.isNon, lstAt_end, atI_0, atI_1, atI_2, atI_3, atI_4, atI_5, ixN_0, ixN_1, ixN_2, Nat.reduceLT, Nat.reduceLeDiff, Int.reduceLT, Int.reduceLE, Int.reduceToNat, Int.reducePow, Int.reduceMul, Bool.not_true, Bool.not_false, lcT]
      refine call_to gw ⟨h, me, 99995 - 1000 * i - 300 - 10 * (t + 1), 9, menu, rfl, hme, f6.at_ hme em5, (by intro z; rw [z] at ml; cases ml), by omega, mok, by decide, hd6.less (by omega), fun w m7 wok7 wl7 f7 hd7 => ?_⟩
      refine hk3 _ _ ⟨vb ++ [w], by rw [List.map_append]; rfl, by simp [vbl], fun y hy => ?_, by omega, f6.trans f7, hd7⟩
      rcases List.mem_append.mp hy with hy | hy
      · exact vbok y hy
      · have : y = w := by simpa using hy
        subst this
        exact wok7
    · obtain ⟨vb, rfl, vbl, vbok, ht, f6, hd6⟩ := h3
      have ht : vb.length ≤ 10 := by omega
      have hd6 : Hand nu h (99995 - 1000 * i - 300 - 100) := hd6
      (try refine nx_in ?_); simp only [s_nil, nx_nil, s_cons, s_asg, s_setSub, s_augN, s_expr, s_ret, s_retN, s_ite, s_for, s_while, s_pass, s_brk, s_cont, e_con, e_var0, e_varS, e_tup, e_lst, e_op1, e_op2, e_cond, e_and, e_or, e_not, e_chain, e_sl, e_call, e_lc, es_nil, es_cons, o_no, o_some, wpI, onP_name, onP_nil, onP_cons, onB, onI, onStr_map, onBl_map, onInt_map, intsD_len, Int.toNat_natCast, endsOf, startD_n, nones, w1, w2, pre2, wSl, wSet, wAug, seqAt, listAt, itemAt, wSeq, newLst, wipeD, List.map_cons, List.map_nil, List.length_cons, List.length_nil, List.nil_append, List.cons_append, List.set_cons_zero, List.set_cons_succ, List.getElem?_cons_zero, List.getElem?_cons_succ, List.append_nil, perm, List.getD_cons_zero, List.getD_cons_succ, Nat.reduceAdd, Nat.reduceSub, true_and, and_true, if_true, if_false, Bool.false_eq_true, decide_eq_true_eq, D.isNon, lstAt_end, atI_0, atI_1, atI_2, atI_3, atI_4, atI_5, ixN_0, ixN_1, ixN_2, Nat.reduceLT, Nat.reduceLeDiff, Int.reduceLT, Int.reduceLE, Int.reduceToNat, Int.reducePow, Int.reduceMul, Bool.not_true, Bool.not_false, lstAt_of (Kp.app (mu := nu) (l := [Cell.lst (vb.map wordD)]) _ _ (f6.at_ hm5' e65))]
      refine ⟨size_le (by rw [List.length_map, List.length_map]; omega), ?_⟩
      obtain ⟨vc, hvc⟩ : ∃ vc, vc = va ++ vb := ⟨_, rfl⟩
      rw [show va.map wordD ++ vb.map wordD = vc.map wordD by rw [hvc, List.map_append]]
      have vcl : vc.length ≤ 100 := by rw [hvc, List.length_append]; omega
      have vcok : ∀ w ∈ vc, WsOk w := fun w hw => by
        rw [hvc] at hw
        exact (List.mem_append.mp hw).elim (vaok w) (vbok w)
      have K8 : Kp nu (nu ++ [Cell.lst (vb.map wordD)] ++ [Cell.lst (vc.map wordD)]) := Kp.app.trans .app
      refine call_to gw ⟨h, m2.length, 99995 - 1000 * i - 700, 200, sm, rfl, hm2, K8 _ _ (f6.at_ hm2 esm5), (by intro z; rw [z] at sml; simp at sml), by omega, smok, by decide, (K8.hand hd6).less (by omega), fun wz m8 wokz wlz f8 hd8 => ?_⟩
      have hnu : (nu ++ [Cell.lst (vb.map wordD)]).length ≠ h := by have := hd6.lt; rw [List.length_append]; omega
      have e8 := f8.at_ hnu (at_end (nu ++ [Cell.lst (vb.map wordD)]) (Cell.lst (vc.map wordD)))
      (try refine nx_in ?_); simp only [s_nil, nx_nil, s_cons, s_asg, s_setSub, s_augN, s_expr, s_ret, s_retN, s_ite, s_for, s_while, s_pass, s_brk, s_cont, e_con, e_var0, e_varS, e_tup, e_lst, e_op1, e_op2, e_cond, e_and, e_or, e_not, e_chain, e_sl, e_call, e_lc, es_nil, es_cons, o_no, o_some, wpI, onP_name, onP_nil, onP_cons, onB, onI, onStr_map, onBl_map, onInt_map, intsD_len, Int.toNat_natCast, endsOf, startD_n, nones, w1, w2, pre2, wSl, wSet, wAug, seqAt, listAt, itemAt, wSeq, newLst, wipeD, List.map_cons, List.map_nil, List.length_cons, List.length_nil, List.nil_append, List.cons_append, List.set_cons_zero, List.set_cons_succ, List.getElem?_cons_zero, List.getElem?_cons_succ, List.append_nil, perm, List.getD_cons_zero, List.getD_cons_succ, Nat.reduceAdd, Nat.reduceSub, true_and, and_true, if_true, if_false, Bool.false_eq_true, decide_eq_true_eq, D.isNon, lstAt_end, atI_0, atI_1, atI_2, atI_3, atI_4, atI_5, ixN_0, ixN_1, ixN_2, Nat.reduceLT, Nat.reduceLeDiff, Int.reduceLT, Int.reduceLE, Int.reduceToNat, Int.reducePow, Int.reduceMul, Bool.not_true, Bool.not_false, lstAt_of (Kp.app (mu := m8) (l := [Cell.lst [wordD wz]]) _ _ e8)]
      refine ⟨size_le (by decide), size_le (by rw [List.length_map]; omega), ?_⟩
      obtain ⟨vs, hvs⟩ : ∃ vs, vs = vc ++ [wz] := ⟨_, rfl⟩
      rw [show vc.map wordD ++ [wordD wz] = vs.map wordD by rw [hvs, List.map_append]; rfl]
      have vsok : ∀ w ∈ vs, WsOk w := fun w hw => by
        rw [hvs] at hw
        rcases List.mem_append.mp hw with hw | hw
        · exact vcok w hw
        · have : w = wz := by simpa using hw
          subst this
          exact wokz
      obtain ⟨xi, hxi⟩ : ∃ xi, xi = m8 ++ [Cell.lst [wordD wz]] ++ [Cell.lst (vs.map wordD)] := ⟨_, rfl⟩
      rw [← hxi]
      have ev : xi[(m8 ++ [Cell.lst [wordD wz]]).length]? = some (.lst (vs.map wordD)) := by rw [hxi]; exact at_end _ _
      have K9 : Kp m8 xi := by rw [hxi]; exact Kp.app.trans .app
      (try refine nx_in ?_); simp only [s_nil, nx_nil, s_cons, s_asg, s_setSub, s_augN, s_expr, s_ret, s_retN, s_ite, s_for, s_while, s_pass, s_brk, s_cont, e_con, e_var0, e_varS, e_tup, e_lst, e_op1, e_op2, e_cond, e_and, e_or, e_not, e_chain, e_sl, e_call, e_lc, es_nil, es_cons, o_no, o_some, wpI, onP_name, onP_nil, onP_cons, onB, onI, onStr_map, onBl_map, onInt_map, intsD_len, Int.toNat_natCast, endsOf, startD_n, nones, w1, w2, pre2, wSl, wSet, wAug, seqAt, listAt, itemAt, wSeq, newLst, wipeD, List.map_cons, List.map_nil, List.length_cons, List.length_nil, List.nil_append, List.cons_append, List.set_cons_zero, List.set_cons_succ, List.getElem?_cons_zero, List.getElem?_cons_succ, List.append_nil, perm, List.getD_cons_zero, List.getD_cons_succ, Nat.reduceAdd, Nat.reduceSub, true_and, and_true, if_true, if_false, Bool.false_eq_true, decide_eq_true_eq, D.isNon, lstAt_end, atI_0, atI_1, atI_2, atI_3, atI_4, atI_5, ixN_0, ixN_1, ixN_2, Nat.reduceLT, Nat.reduceLeDiff, Int.reduceLT, Int.reduceLE, Int.reduceToNat, Int.reducePow, Int.reduceMul, Bool.not_true, Bool.not_false, lstAt_of ev]
      refine forGo_inv (fun t rh om => om = xi ∧ ∃ p, rh = [some (.ref h), some (.ref me), some (.int (0 + (i : Nat))), some (.ref m2.length), some (machD mach), some (.str (machD mach).py.shown), some (.ref (m8 ++ [Cell.lst [wordD wz]]).length), p, none, none, none, none, gg])
        ⟨rfl, _, rfl⟩ (fun t rh om h4 => by show lstAt om _ _; rw [h4.1, lstAt_of ev]) (fun t y rh om kk ey h4 hk4 => ?_) (fun rh om h4 => ?_)
      · obtain ⟨rfl, p, rfl⟩ := h4
        obtain ⟨w, ew, rfl, _⟩ := map_get ey
        have wm' := vsok w (List.mem_of_getElem? ew)
        (try refine nx_in ?_); simp only [s_nil, nx_nil, s_cons, s_asg, s_setSub, s_augN, s_expr, s_ret, s_retN, s_ite, s_for, s_while, s_pass, s_brk, s_cont, e_con, e_var0, e_varS, e_tup, e_lst, e_op1, e_op2, e_cond, e_and, e_or, e_not, e_chain, e_sl, e_call, e_lc, es_nil, es_cons, o_no, o_some, wpI, onP_name, onP_nil, onP_cons, onB, onI, onStr_map, onBl_map, onInt_map, intsD_len, Int.toNat_natCast, endsOf, startD_n, nones, w1, w2, pre2, wSl, wSet, wAug, seqAt, listAt, itemAt, wSeq, newLst, wipeD, List.map_cons, List.map_nil, List.length_cons, List.length_nil, List.nil_append, List.cons_append, List.set_cons_zero, List.set_cons_succ, List.getElem?_cons_zero, List.getElem?_cons_succ, List.append_nil, perm, List.getD_cons_zero, List.getD_cons_succ, Nat.reduceAdd, Nat.reduceSub, true_and, and_true, if_true, if_false, Bool.false_eq_true, decide_eq_true_eq, D.isNon, lstAt_end, atI_0, atI_1, atI_2, atI_3, atI_4, atI_5, ixN_0, ixN_1, ixN_2, Nat.reduceLT, Nat.reduceLeDiff, Int.reduceLT, Int.reduceLE, Int.reduceToNat, Int.reducePow, Int.reduceMul, Bool.not_true, Bool.not_false, forT]
        refine call_to ga ⟨mach, w, rfl, wm, by omega, fun z hz => (wm' z hz).1, ?_⟩
        have R2 := repr_ok om (fine_bl (k := 0) (w := 0) (acc mach w)) (by decide) (by decide)
        refine ⟨_, R2.1, R2.2.1, R2.2.2.1, R2.2.2.2, ?_⟩
        refine call_to gt ⟨mach, w, rfl, wm, by omega, fun z hz => (wm' z hz).1, ?_⟩
        refine ⟨_, R2.1, R2.2.1, R2.2.2.1, R2.2.2.2, ?_⟩
        (try refine nx_in ?_); simp only [s_nil, nx_nil, s_cons, s_asg, s_setSub, s_augN, s_expr, s_ret, s_retN, s_ite, s_for, s_while, s_pass, s_brk, s_cont, e_con, e_var0, e_varS, e_tup, e_lst, e_op1, e_op2, e_cond, e_and, e_or, e_not, e_chain, e_sl, e_call, e_lc, es_nil, es_cons, o_no, o_some, wpI, onP_name, onP_nil, onP_cons, onB, onI, onStr_map, onBl_map, onInt_map, intsD_len, Int.toNat_natCast, endsOf, startD_n, nones, w1, w2, pre2, wSl, wSet, wAug, seqAt, listAt, itemAt, wSeq, newLst, wipeD, List.map_cons, List.map_nil, List.length_cons, List.length_nil, List.nil_append, List.cons_append, List.set_cons_zero, List.set_cons_succ, List.getElem?_cons_zero, List.getElem?_cons_succ, List.append_nil, perm, List.getD_cons_zero, List.getD_cons_succ, Nat.reduceAdd, Nat.reduceSub, true_and, and_true, if_true, if_false, Bool.false_eq_true, decide_eq_true_eq, D.isNon, lstAt_end, atI_0, atI_1, atI_2, atI_3, atI_4, atI_5, ixN_0, ixN_1, ixN_2, Nat.reduceLT, Nat.reduceLeDiff, Int.reduceLT, Int.reduceLE, Int.reduceToNat, Int.reducePow, Int.reduceMul, Bool.not_true, Bool.not_false, decide_true]
        exact hk4 _ _ ⟨rfl, _, rfl⟩
      · obtain ⟨rfl, p, rfl⟩ := h4
        have R3 := repr_ok om fm (by decide) (by decide)
        (try refine nx_in ?_); simp only [s_nil, nx_nil, s_cons, s_asg, s_setSub, s_augN, s_expr, s_ret, s_retN, s_ite, s_for, s_while, s_pass, s_brk, s_cont, e_con, e_var0, e_varS, e_tup, e_lst, e_op1, e_op2, e_cond, e_and, e_or, e_not, e_chain, e_sl, e_call, e_lc, es_nil, es_cons, o_no, o_some, wpI, onP_name, onP_nil, onP_cons, onB, onI, onStr_map, onBl_map, onInt_map, intsD_len, Int.toNat_natCast, endsOf, startD_n, nones, w1, w2, pre2, wSl, wSet, wAug, seqAt, listAt, itemAt, wSeq, newLst, wipeD, List.map_cons, List.map_nil, List.length_cons, List.length_nil, List.nil_append, List.cons_append, List.set_cons_zero, List.set_cons_succ, List.getElem?_cons_zero, List.getElem?_cons_succ, List.append_nil, perm, List.getD_cons_zero, List.getD_cons_succ, Nat.reduceAdd, Nat.reduceSub, true_and, and_true, if_true, if_false, Bool.false_eq_true, decide_eq_true_eq, D.isNon, lstAt_end, atI_0, atI_1, atI_2, atI_3, atI_4, atI_5, ixN_0, ixN_1, ixN_2, Nat.reduceLT, Nat.reduceLeDiff, Int.reduceLT, Int.reduceLE, Int.reduceToNat, Int.reducePow, Int.reduceMul, Bool.not_true, Bool.not_false]
        refine ⟨_, R3.1, R3.2.1, R3.2.2.1, R3.2.2.2, ?_⟩
        (try refine nx_in ?_); simp only [s_nil, nx_nil, s_cons, s_asg, s_setSub, s_augN, s_expr, s_ret, s_retN, s_ite, s_for, s_while, s_pass, s_brk, s_cont, e_con, e_var0, e_varS, e_tup, e_lst, e_op1, e_op2, e_cond, e_and, e_or, e_not, e_chain, e_sl, e_call, e_lc, es_nil, es_cons, o_no, o_some, wpI, onP_name, onP_nil, onP_cons, onB, onI, onStr_map, onBl_map, onInt_map, intsD_len, Int.toNat_natCast, endsOf, startD_n, nones, w1, w2, pre2, wSl, wSet, wAug, seqAt, listAt, itemAt, wSeq, newLst, wipeD, List.map_cons, List.map_nil, List.length_cons, List.length_nil, List.nil_append, List.cons_append, List.set_cons_zero, List.set_cons_succ, List.getElem?_cons_zero, List.getElem?_cons_succ, List.append_nil, perm, List.getD_cons_zero, List.getD_cons_succ, Nat.reduceAdd, Nat.reduceSub, true_and, and_true, if_true, if_false, Bool.false_eq_true, decide_eq_true_eq, D.isNon, lstAt_end, atI_0, atI_1, atI_2, atI_3, atI_4, atI_5, ixN_0, ixN_1, ixN_2, Nat.reduceLT, Nat.reduceLeDiff, Int.reduceLT, Int.reduceLE, Int.reduceToNat, Int.reducePow, Int.reduceMul, Bool.not_true, Bool.not_false, decide_true]
        refine hk _ _ ⟨_, _, _, _, _, _, _, rfl, K9 _ _ (f8.at_ hme (K8 _ _ (f6.at_ hme em5))), ((((F5.trans .app).trans f6).trans (K8.fr h)).trans f8).trans (K9.fr h), (K9.hand hd8).less (by omega), by omega⟩
  · obtain ⟨a, b, c, d, e, f, gg, rfl, em, fr, hd, hi⟩ := h2
    obtain ⟨z0, z1, z2, z3, rfl⟩ : ∃ z0 z1 z2 z3, menu = [z0, z1, z2, z3] := by
      match menu, ml with
      | [a, b, c, d], _ => exact ⟨a, b, c, d, rfl⟩
    have zne : z0 ≠ z1 := by
      have := mnd
      simp only [List.nodup_cons, List.mem_cons, not_or] at this
      exact this.1.1
    have z0k := mok z0 (by simp)
    have z1k := mok z1 (by simp)
    have hd : Hand nu h 96000 := hd.less (by rw [intsD_len]; decide)
    (try refine nx_in ?_); simp only [s_nil, nx_nil, s_cons, s_asg, s_setSub, s_augN, s_expr, s_ret, s_retN, s_ite, s_for, s_while, s_pass, s_brk, s_cont, e_con, e_var0, e_varS, e_tup, e_lst, e_op1, e_op2, e_cond, e_and, e_or, e_not, e_chain, e_sl, e_call, e_lc, es_nil, es_cons, o_no, o_some, wpI, onP_name, onP_nil, onP_cons, onB, onI, onStr_map, onBl_map, onInt_map, intsD_len, Int.toNat_natCast, endsOf, startD_n, nones, w1, w2, pre2, wSl, wSet, wAug, seqAt, listAt, itemAt, wSeq, newLst, wipeD, List.map_cons, List.map_nil, List.length_cons, List.length_nil, List.nil_append, List.cons_append, List.set_cons_zero, List.set_cons_succ, List.getElem?_cons_zero, List.getElem?_cons_succ, List.append_nil, perm, List.getD_cons_zero, List.getD_cons_succ, Nat.reduceAdd, Nat.reduceSub, true_and, and_true, if_true, if_false, Bool.false_eq_true, decide_eq_true_eq, D.isNon, lstAt_end, atI_0, atI_1, atI_2, atI_3, atI_4, atI_5, ixN_0, ixN_1, ixN_2, Nat.reduceLT, Nat.reduceLeDiff, Int.reduceLT, Int.reduceLE, Int.reduceToNat, Int.reducePow, Int.reduceMul, Bool.not_true, Bool.not_false]
    refine call_to g1 ⟨h, 95999, _, rfl, by decide, by decide, hd, fun r1 m2 a1 b1 f2 hd2 => ?_⟩
    have em2 := f2.at_ hme em
    (try refine nx_in ?_); simp only [s_nil, nx_nil, s_cons, s_asg, s_setSub, s_augN, s_expr, s_ret, s_retN, s_ite, s_for, s_while, s_pass, s_brk, s_cont, e_con, e_var0, e_varS, e_tup, e_lst, e_op1, e_op2, e_cond, e_and, e_or, e_not, e_chain, e_sl, e_call, e_lc, es_nil, es_cons, o_no, o_some, wpI, onP_name, onP_nil, onP_cons, onB, onI, onStr_map, onBl_map, onInt_map, intsD_len, Int.toNat_natCast, endsOf, startD_n, nones, w1, w2, pre2, wSl, wSet, wAug, seqAt, listAt, itemAt, wSeq, newLst, wipeD, List.map_cons, List.map_nil, List.length_cons, List.length_nil, List.nil_append, List.cons_append, List.set_cons_zero, List.set_cons_succ, List.getElem?_cons_zero, List.getElem?_cons_succ, List.append_nil, perm, List.getD_cons_zero, List.getD_cons_succ, Nat.reduceAdd, Nat.reduceSub, true_and, and_true, if_true, if_false, Bool.false_eq_true, decide_eq_true_eq, D.isNon, lstAt_end, atI_0, atI_1, atI_2, atI_3, atI_4, atI_5, ixN_0, ixN_1, ixN_2, Nat.reduceLT, Nat.reduceLeDiff, Int.reduceLT, Int.reduceLE, Int.reduceToNat, Int.reducePow, Int.reduceMul, Bool.not_true, Bool.not_false]
    refine call_to g1 ⟨h, 95998, _, rfl, by omega, by omega, hd2, fun r2 m3 a2 b2 f3 hd3 => ?_⟩
    have em3 := f3.at_ hme em2
    (try refine nx_in ?_); simp only [s_nil, nx_nil, s_cons, s_asg, s_setSub, s_augN, s_expr, s_ret, s_retN, s_ite, s_for, s_while, s_pass, s_brk, s_cont, e_con, e_var0, e_varS, e_tup, e_lst, e_op1, e_op2, e_cond, e_and, e_or, e_not, e_chain, e_sl, e_call, e_lc, es_nil, es_cons, o_no, o_some, wpI, onP_name, onP_nil, onP_cons, onB, onI, onStr_map, onBl_map, onInt_map, intsD_len, Int.toNat_natCast, endsOf, startD_n, nones, w1, w2, pre2, wSl, wSet, wAug, seqAt, listAt, itemAt, wSeq, newLst, wipeD, List.map_cons, List.map_nil, List.length_cons, List.length_nil, List.nil_append, List.cons_append, List.set_cons_zero, List.set_cons_succ, List.getElem?_cons_zero, List.getElem?_cons_succ, List.append_nil, perm, List.getD_cons_zero, List.getD_cons_succ, Nat.reduceAdd, Nat.reduceSub, true_and, and_true, if_true, if_false, Bool.false_eq_true, decide_eq_true_eq, D.isNon, lstAt_end, atI_0, atI_1, atI_2, atI_3, atI_4, atI_5, ixN_0, ixN_1, ixN_2, Nat.reduceLT, Nat.reduceLeDiff, Int.reduceLT, Int.reduceLE, Int.reduceToNat, Int.reducePow, Int.reduceMul, Bool.not_true, Bool.not_false]
    refine call_to g1 ⟨h, 95997, _, rfl, by decide, by decide, hd3, fun r3 m4 a3 b3 f4 hd4 => ?_⟩
    have em4 := f4.at_ hme em3
    have hl4 := hd4.lt
    (try refine nx_in ?_); simp only [s_nil, nx_nil, s_cons, s_asg, s_setSub, s_augN, s_expr, s_ret, s_retN, s_ite, s_for, s_while, s_pass, s_brk, s_cont, e_con, e_var0, e_varS, e_tup, e_lst, e_op1, e_op2, e_cond, e_and, e_or, e_not, e_chain, e_sl, e_call, e_lc, es_nil, es_cons, o_no, o_some, wpI, onP_name, onP_nil, onP_cons, onB, onI, onStr_map, onBl_map, onInt_map, intsD_len, Int.toNat_natCast, endsOf, startD_n, nones, w1, w2, pre2, wSl, wSet, wAug, seqAt, listAt, itemAt, wSeq, newLst, wipeD, List.map_cons, List.map_nil, List.length_cons, List.length_nil, List.nil_append, List.cons_append, List.set_cons_zero, List.set_cons_succ, List.getElem?_cons_zero, List.getElem?_cons_succ, List.append_nil, perm, List.getD_cons_zero, List.getD_cons_succ, Nat.reduceAdd, Nat.reduceSub, true_and, and_true, if_true, if_false, Bool.false_eq_true, decide_eq_true_eq, D.isNon, lstAt_end, atI_0, atI_1, atI_2, atI_3, atI_4, atI_5, ixN_0, ixN_1, ixN_2, Nat.reduceLT, Nat.reduceLeDiff, Int.reduceLT, Int.reduceLE, Int.reduceToNat, Int.reducePow, Int.reduceMul, Bool.not_true, Bool.not_false]
    refine ⟨size_le (by decide), call_to g2 ⟨h, 95996, _, rfl, hd4.app, .inl ⟨_, .inr ⟨_, (by omega), rfl, at_end _ _⟩, by simp, by simp, fun r4 m5 k4 f5 hd5 => ?_⟩⟩⟩
    have em5 := f5.at_ hme (Kp.app (mu := m4) (l := [Cell.lst [D.int r3, D.int 200, D.int 0, D.int (2 + r1)]]) _ _ em4)
    obtain ⟨ln, rfl, hln⟩ : ∃ ln : Int, r4 = .int ln ∧ 0 ≤ ln ∧ ln ≤ 201 := by
      simp only [List.mem_cons, List.not_mem_nil, or_false] at k4
      rcases k4 with rfl | rfl | rfl | rfl
      · exact ⟨_, rfl, by omega, by omega⟩
      · exact ⟨_, rfl, by omega, by omega⟩
      · exact ⟨_, rfl, by omega, by omega⟩
      · exact ⟨_, rfl, by omega, by omega⟩
    obtain ⟨L, rfl⟩ := Int.eq_ofNat_of_zero_le hln.1
    obtain ⟨g, rfl⟩ := Int.eq_ofNat_of_zero_le a2
    obtain ⟨c', ec⟩ := Int.eq_ofNat_of_zero_le (show 0 ≤ 2 + r1 by omega)
    have c0 : 0 < c' := by omega
    have c1 : c' ≤ 100 := by omega
    have gc' : g < c' := by omega
    (try refine nx_in ?_); simp only [s_nil, nx_nil, s_cons, s_asg, s_setSub, s_augN, s_expr, s_ret, s_retN, s_ite, s_for, s_while, s_pass, s_brk, s_cont, e_con, e_var0, e_varS, e_tup, e_lst, e_op1, e_op2, e_cond, e_and, e_or, e_not, e_chain, e_sl, e_call, e_lc, es_nil, es_cons, o_no, o_some, wpI, onP_name, onP_nil, onP_cons, onB, onI, onStr_map, onBl_map, onInt_map, intsD_len, Int.toNat_natCast, endsOf, startD_n, nones, w1, w2, pre2, wSl, wSet, wAug, seqAt, listAt, itemAt, wSeq, newLst, wipeD, List.map_cons, List.map_nil, List.length_cons, List.length_nil, List.nil_append, List.cons_append, List.set_cons_zero, List.set_cons_succ, List.getElem?_cons_zero, List.getElem?_cons_succ, List.append_nil, perm, List.getD_cons_zero, List.getD_cons_succ, Nat.reduceAdd, Nat.reduceSub, true_and, and_true, if_true, if_false, Bool.false_eq_true, decide_eq_true_eq, D.isNon, lstAt_end, atI_0, atI_1, atI_2, atI_3, atI_4, atI_5, ixN_0, ixN_1, ixN_2, Nat.reduceLT, Nat.reduceLeDiff, Int.reduceLT, Int.reduceLE, Int.reduceToNat, Int.reducePow, Int.reduceMul, Bool.not_true, Bool.not_false]
    refine ⟨size_le (by decide), ?_⟩
    rw [ec]
    (try refine nx_in ?_); simp only [s_nil, nx_nil, s_cons, s_asg, s_setSub, s_augN, s_expr, s_ret, s_retN, s_ite, s_for, s_while, s_pass, s_brk, s_cont, e_con, e_var0, e_varS, e_tup, e_lst, e_op1, e_op2, e_cond, e_and, e_or, e_not, e_chain, e_sl, e_call, e_lc, es_nil, es_cons, o_no, o_some, wpI, onP_name, onP_nil, onP_cons, onB, onI, onStr_map, onBl_map, onInt_map, intsD_len, Int.toNat_natCast, endsOf, startD_n, nones, w1, w2, pre2, wSl, wSet, wAug, seqAt, listAt, itemAt, wSeq, newLst, wipeD, List.map_cons, List.map_nil, List.length_cons, List.length_nil, List.nil_append, List.cons_append, List.set_cons_zero, List.set_cons_succ, List.getElem?_cons_zero, List.getElem?_cons_succ, List.append_nil, perm, List.getD_cons_zero, List.getD_cons_succ, Nat.reduceAdd, Nat.reduceSub, true_and, and_true, if_true, if_false, Bool.false_eq_true, decide_eq_true_eq, D.isNon, lstAt_end, atI_0, atI_1, atI_2, atI_3, atI_4, atI_5, ixN_0, ixN_1, ixN_2, Nat.reduceLT, Nat.reduceLeDiff, Int.reduceLT, Int.reduceLE, Int.reduceToNat, Int.reducePow, Int.reduceMul, Bool.not_true, Bool.not_false, lstAt_of em5]
    refine call_to gc ⟨z0, c', g, rfl, c0, c1, fun m6 k6 => ?_⟩
    have em6 := k6 _ _ em5
    (try refine nx_in ?_); simp only [s_nil, nx_nil, s_cons, s_asg, s_setSub, s_augN, s_expr, s_ret, s_retN, s_ite, s_for, s_while, s_pass, s_brk, s_cont, e_con, e_var0, e_varS, e_tup, e_lst, e_op1, e_op2, e_cond, e_and, e_or, e_not, e_chain, e_sl, e_call, e_lc, es_nil, es_cons, o_no, o_some, wpI, onP_name, onP_nil, onP_cons, onB, onI, onStr_map, onBl_map, onInt_map, intsD_len, Int.toNat_natCast, endsOf, startD_n, nones, w1, w2, pre2, wSl, wSet, wAug, seqAt, listAt, itemAt, wSeq, newLst, wipeD, List.map_cons, List.map_nil, List.length_cons, List.length_nil, List.nil_append, List.cons_append, List.set_cons_zero, List.set_cons_succ, List.getElem?_cons_zero, List.getElem?_cons_succ, List.append_nil, perm, List.getD_cons_zero, List.getD_cons_succ, Nat.reduceAdd, Nat.reduceSub, true_and, and_true, if_true, if_false, Bool.false_eq_true, decide_eq_true_eq, D.isNon, lstAt_end, atI_0, atI_1, atI_2, atI_3, atI_4, atI_5, ixN_0, ixN_1, ixN_2, Nat.reduceLT, Nat.reduceLeDiff, Int.reduceLT, Int.reduceLE, Int.reduceToNat, Int.reducePow, Int.reduceMul, Bool.not_true, Bool.not_false, lstAt_of em6]
    refine ⟨size_le (by decide), by omega, by omega, size_le (by show 1 * L ≤ _; omega), ?_⟩
    rw [rep_flat]
    have W := wheel_wm (g := g) c0 z0k.1
    have rok : WW (List.replicate L z0) := fun z hz => by rw [List.eq_of_mem_replicate hz]; exact z0k.1
    refine call_to ga ⟨_, _, rfl, W, by rw [wheel_len]; exact c0, rok, ?_⟩
    have R2 := repr_ok m6 (fine_bl (k := 0) (w := 0) (acc (wheel z0 c' g) (List.replicate L z0))) (by decide) (by decide)
    refine ⟨_, R2.1, R2.2.1, R2.2.2.1, R2.2.2.2, by omega, ?_⟩
    rw [wheel_acc c0] at *
    have eqd : decide (((L : Int) % (c' : Int)) = (g : Int)) = decide (L % c' = g) := by
      by_cases e : L % c' = g
      · rw [decide_eq_true e, decide_eq_true (by rw [← e]; norm_cast)]
      · rw [decide_eq_false e, decide_eq_false (fun z => e (by norm_cast at z))]
    rw [eqd]
    refine ⟨_, R2.1, R2.2.1, R2.2.2.1, R2.2.2.2, ?_⟩
    (try refine nx_in ?_); simp only [s_nil, nx_nil, s_cons, s_asg, s_setSub, s_augN, s_expr, s_ret, s_retN, s_ite, s_for, s_while, s_pass, s_brk, s_cont, e_con, e_var0, e_varS, e_tup, e_lst, e_op1, e_op2, e_cond, e_and, e_or, e_not, e_chain, e_sl, e_call, e_lc, es_nil, es_cons, o_no, o_some, wpI, onP_name, onP_nil, onP_cons, onB, onI, onStr_map, onBl_map, onInt_map, intsD_len, Int.toNat_natCast, endsOf, startD_n, nones, w1, w2, pre2, wSl, wSet, wAug, seqAt, listAt, itemAt, wSeq, newLst, wipeD, List.map_cons, List.map_nil, List.length_cons, List.length_nil, List.nil_append, List.cons_append, List.set_cons_zero, List.set_cons_succ, List.getElem?_cons_zero, List.getElem?_cons_succ, List.append_nil, perm, List.getD_cons_zero, List.getD_cons_succ, Nat.reduceAdd, Nat.reduceSub, true_and, and_true, if_true, if_false, Bool.false_eq_true, decide_eq_true_eq, D.isNon, lstAt_end, atI_0, atI_1, atI_2, atI_3, atI_4, atI_5, ixN_0, ixN_1, ixN_2, Nat.reduceLT, Nat.reduceLeDiff, Int.reduceLT, Int.reduceLE, Int.reduceToNat, Int.reducePow, Int.reduceMul, Bool.not_true, Bool.not_false, decide_true]
    (try refine nx_in ?_); simp only [s_nil, nx_nil, s_cons, s_asg, s_setSub, s_augN, s_expr, s_ret, s_retN, s_ite, s_for, s_while, s_pass, s_brk, s_cont, e_con, e_var0, e_varS, e_tup, e_lst, e_op1, e_op2, e_cond, e_and, e_or, e_not, e_chain, e_sl, e_call, e_lc, es_nil, es_cons, o_no, o_some, wpI, onP_name, onP_nil, onP_cons, onB, onI, onStr_map, onBl_map, onInt_map, intsD_len, Int.toNat_natCast, endsOf, startD_n, nones, w1, w2, pre2, wSl, wSet, wAug, seqAt, listAt, itemAt, wSeq, newLst, wipeD, List.map_cons, List.map_nil, List.length_cons, List.length_nil, List.nil_append, List.cons_append, List.set_cons_zero, List.set_cons_succ, List.getElem?_cons_zero, List.getElem?_cons_succ, List.append_nil, perm, List.getD_cons_zero, List.getD_cons_succ, Nat.reduceAdd, Nat.reduceSub, true_and, and_true, if_true, if_false, Bool.false_eq_true, decide_eq_true_eq, D.isNon, lstAt_end, atI_0, atI_1, atI_2, atI_3, atI_4, atI_5, ixN_0, ixN_1, ixN_2, Nat.reduceLT, Nat.reduceLeDiff, Int.reduceLT, Int.reduceLE, Int.reduceToNat, Int.reducePow, Int.reduceMul, Bool.not_true, Bool.not_false, lstAt_of em6]
    have e9 : D.tup ((List.replicate g [D.str z0]).flatten ++ [D.str z1]) = wordD (List.replicate g z0 ++ [z1]) := by
      have := rep_flat g z0
      unfold wordD at this ⊢
      injection this with this
      rw [this, List.map_append]
      rfl
    have e10 : (List.replicate g [D.str z0]).flatten.length = g := by
      have := rep_flat g z0
      unfold wordD at this
      injection this with this
      rw [this, List.length_map, List.length_replicate]
    refine ⟨size_le (by decide), by omega, by omega, size_le (by show 1 * g ≤ _; omega), size_le (by decide), size_le (by rw [e10]; omega), ?_⟩
    rw [e9]
    refine call_to ga ⟨_, _, rfl, W, by rw [wheel_len]; exact c0, fun z hz => ?_, ?_⟩
    · rcases List.mem_append.mp hz with hz | hz
      · rw [List.eq_of_mem_replicate hz]; exact z0k.1
      · have : z = z1 := by simpa using hz
        subst this
        exact z1k.1
    · rw [wheel_no c0 zne]
      (try refine nx_in ?_); simp only [s_nil, nx_nil, s_cons, s_asg, s_setSub, s_augN, s_expr, s_ret, s_retN, s_ite, s_for, s_while, s_pass, s_brk, s_cont, e_con, e_var0, e_varS, e_tup, e_lst, e_op1, e_op2, e_cond, e_and, e_or, e_not, e_chain, e_sl, e_call, e_lc, es_nil, es_cons, o_no, o_some, wpI, onP_name, onP_nil, onP_cons, onB, onI, onStr_map, onBl_map, onInt_map, intsD_len, Int.toNat_natCast, endsOf, startD_n, nones, w1, w2, pre2, wSl, wSet, wAug, seqAt, listAt, itemAt, wSeq, newLst, wipeD, List.map_cons, List.map_nil, List.length_cons, List.length_nil, List.nil_append, List.cons_append, List.set_cons_zero, List.set_cons_succ, List.getElem?_cons_zero, List.getElem?_cons_succ, List.append_nil, perm, List.getD_cons_zero, List.getD_cons_succ, Nat.reduceAdd, Nat.reduceSub, true_and, and_true, if_true, if_false, Bool.false_eq_true, decide_eq_true_eq, D.isNon, lstAt_end, atI_0, atI_1, atI_2, atI_3, atI_4, atI_5, ixN_0, ixN_1, ixN_2, Nat.reduceLT, Nat.reduceLeDiff, Int.reduceLT, Int.reduceLE, Int.reduceToNat, Int.reducePow, Int.reduceMul, Bool.not_true, Bool.not_false]
      exact q _ (((((fr.trans f2).trans f3).trans f4).trans (Fr.app.trans f5)).trans (k6.fr h))
end MP

namespace MP
open PySem PySem.Spec PyProof.Rows L2
def spLaw : DSp := fun ds mu Q _ => ∃ ns : List Int, ds = [.ro (ns.map D.int)] ∧ ns.length ≤ 63 ∧ ∀ nu, Q (.bl true) nu
theorem w_law {G : Ctx} {ir : Nat} (g0 : G.fn i_law_hand = spHand) (gr : G.fn ir = spRight) {ds : List D} {mu : Store} {Q : QD} {E : QX} (s : spLaw ds mu Q E) : wpSs G (c_law ir) (endsOf Q E) (startD N_law ds) mu := by
  obtain ⟨ns, rfl, hl, q⟩ := s
  (try refine nx_in ?_); simp only [s_nil, nx_nil, s_cons, s_asg, s_setSub, s_augN, s_expr, s_ret, s_retN, s_ite, s_for, s_while, s_pass, s_brk, s_cont, e_con, e_var0, e_varS, e_tup, e_lst, e_op1, e_op2, e_cond, e_and, e_or, e_not, e_chain, e_sl, e_call, e_lc, es_nil, es_cons, o_no, o_some, wpI, onP_name, onP_nil, onP_cons, onB, onI, onStr_map, onBl_map, onInt_map, intsD_len, Int.toNat_natCast, endsOf, startD_n, nones, w1, w2, pre2, wSl, wSet, wAug, seqAt, listAt, itemAt, wSeq, newLst, wipeD, List.map_cons, List.map_nil, List.length_cons, List.length_nil, List.nil_append, List.cons_append, List.set_cons_zero, List.set_cons_succ, List.getElem?_cons_zero, List.getElem?_cons_succ, List.append_nil, perm, List.getD_cons_zero, List.getD_cons_succ, Nat.reduceAdd, Nat.reduceSub, true_and, and_true, if_true, if_false, Bool.false_eq_true, decide_eq_true_eq, D.isNon, lstAt_end, atI_0, atI_1, atI_2, atI_3, atI_4, atI_5, ixN_0, ixN_1, ixN_2, Nat.reduceLT, Nat.reduceLeDiff, Int.reduceLT, Int.reduceLE, Int.reduceToNat, Int.reducePow, Int.reduceMul, Bool.not_true, Bool.not_false, c_law, N_law]
  rw [List.length_map]
  obtain ⟨t, ht, hb⟩ : ∃ t : Int, t = (if (if (ns.length : Int) < 3 then (ns.length : Int) else 3) > 1 then (if (ns.length : Int) < 3 then (ns.length : Int) else 3) else 1) ∧ 0 < t ∧ t ≤ 3 := by
    refine ⟨_, rfl, ?_⟩
    split <;> split <;> omega
  rw [← ht]
  refine ⟨⟨by omega, by omega⟩, ?_⟩
  refine lcGo_inv (fun i acc nu => acc = (List.replicate i true).map D.bl) rfl (fun _ _ _ _ => trivial) (fun i x acc nu k ex h hk => ?_) (fun acc nu h => ?_)
  · subst h
    obtain ⟨hi, rfl⟩ := intsD_get ex
    (try refine nx_in ?_); simp only [s_nil, nx_nil, s_cons, s_asg, s_setSub, s_augN, s_expr, s_ret, s_retN, s_ite, s_for, s_while, s_pass, s_brk, s_cont, e_con, e_var0, e_varS, e_tup, e_lst, e_op1, e_op2, e_cond, e_and, e_or, e_not, e_chain, e_sl, e_call, e_lc, es_nil, es_cons, o_no, o_some, wpI, onP_name, onP_nil, onP_cons, onB, onI, onStr_map, onBl_map, onInt_map, intsD_len, Int.toNat_natCast, endsOf, startD_n, nones, w1, w2, pre2, wSl, wSet, wAug, seqAt, listAt, itemAt, wSeq, newLst, wipeD, List.map_cons, List.map_nil, List.length_cons, List.length_nil, List.nil_append, List.cons_append, List.set_cons_zero, List.set_cons_succ, List.getElem?_cons_zero, List.getElem?_cons_succ, List.append_nil, perm, List.getD_cons_zero, List.getD_cons_succ, Nat.reduceAdd, Nat.reduceSub, true_and, and_true, if_true, if_false, Bool.false_eq_true, decide_eq_true_eq, D.isNon, lstAt_end, atI_0, atI_1, atI_2, atI_3, atI_4, atI_5, ixN_0, ixN_1, ixN_2, Nat.reduceLT, Nat.reduceLeDiff, Int.reduceLT, Int.reduceLE, Int.reduceToNat, Int.reducePow, Int.reduceMul, Bool.not_true, Bool.not_false, lcT]
    refine call_to g0 ⟨ns, _, rfl, by omega, by omega, fun nu1 f1 h1 => ?_⟩
    refine call_to gr ⟨_, rfl, h1.less (by decide), fun nu2 f2 => hk _ _ ?_⟩
    rw [List.replicate_succ', List.map_append]
    rfl
  · subst h
    rw [onBl_map]
    have : (List.replicate (intsD 0 t.toNat).length true).all id = true := by
      rw [List.all_eq_true]
      intro x hx
      rw [List.eq_of_mem_replicate hx]
      rfl
    rw [this]
    exact q _
end MP

namespace MPL
open PySem PySem.Spec PyProof.Rows L2 MP
def top (i : Nat) : Stmt := PySem.Challenge.pw_surenext_k14_words_accepted.main.body.getD i (.Pass ⟨0, 0, 0, 0⟩)
abbrev i_step_of : Nat := 3
abbrev i_accepts : Nat := 4
abbrev i_law_letters : Nat := 5
abbrev i_law_rows_of : Nat := 6
abbrev i_law_all_words : Nat := 7
abbrev i_law_goal : Nat := 8
abbrev i_law_state : Nat := 9
abbrev i_law_takes : Nat := 10
abbrev i_law_counter : Nat := 11
abbrev i_law_word : Nat := 12
abbrev i_law_right : Nat := 13
abbrev i_law : Nat := 14
def fns : List Str := ["_law_hand", "_law_take", "_law_of", "step_of", "accepts", "_law_letters", "_law_rows_of", "_law_all_words", "_law_goal", "_law_state", "_law_takes", "_law_counter", "_law_word", "_law_right", "law"]
def blts : List Str := ["abs", "all", "int", "len", "max", "min", "range", "repr", "sorted", "tuple"]
def kwp : List (Nat × Nat × List Str × List Nat) := [(0, 2, [], [0, 1]), (1, 2, [], [0, 1]), (2, 2, [], [0, 1]), (3, 3, [], [0, 1, 2]), (4, 2, [], [0, 1]), (5, 2, [], [0, 1]), (6, 3, [], [0, 1, 2]), (7, 2, [], [0, 1]), (8, 3, [], [0, 1, 2]), (9, 2, [], [0, 1]), (10, 2, [], [0, 1]), (11, 3, [], [0, 1, 2]), (12, 3, [], [0, 1, 2]), (13, 1, [], [0])]
def cons : List (Str × D) := []
def nm (N : List Str) (j : Nat) : Nm := { N := N, fns := fns.take j, cons := cons, blts := blts, kwp := kwp }
def G : MP.Ctx := ⟨fun i => [spHand, spTake, spOf, spGoal, spAcc, (spLetters 4), spRows, spAll, spGoal, spState, spAcc, spCounter, spWord, spRight, spLaw].getD i (fun _ _ _ _ => False)⟩
def N_law_hand : List Str := ["_law_script", "_law_k", "_law_cell", "_law_bound", "_law_great"]
def t_law_hand : CSs := (c_law_hand)
theorem m_law_hand : mSs (nm N_law_hand 0) t_law_hand (defScope (top 4)) (defScope (top 4)) (defBody (top 4)) = true := by decide +kernel
theorem q_law_hand : FnScope N_law_hand ["_law_script", "_law_k"] (defScope (top 4)) := ⟨rfl, rfl, rfl, by decide +kernel, by decide +kernel, by decide +kernel, by decide +kernel⟩
theorem v_law_hand {ds : List D} {mu : Store} {Q : QD} {E : QX} (s : spHand ds mu Q E) : wpSs G t_law_hand (endsOf Q E) (startD N_law_hand ds) mu := w_hand s
def N_law_take : List Str := ["_law_hand_here", "_law_many", "_law_digit", "_law_turn", "_law_prime", "_law_mixed"]
def t_law_take : CSs := (c_law_take)
theorem m_law_take : mSs (nm N_law_take 1) t_law_take (defScope (top 5)) (defScope (top 5)) (defBody (top 5)) = true := by decide +kernel
theorem q_law_take : FnScope N_law_take ["_law_hand_here", "_law_many"] (defScope (top 5)) := ⟨rfl, rfl, rfl, by decide +kernel, by decide +kernel, by decide +kernel, by decide +kernel⟩
theorem v_law_take {ds : List D} {mu : Store} {Q : QD} {E : QX} (s : spTake ds mu Q E) : wpSs G t_law_take (endsOf Q E) (startD N_law_take ds) mu := w_take s
def N_law_of : List Str := ["_law_hand_here", "_law_some"]
def t_law_of : CSs := (c_law_of)
theorem m_law_of : mSs (nm N_law_of 2) t_law_of (defScope (top 6)) (defScope (top 6)) (defBody (top 6)) = true := by decide +kernel
theorem q_law_of : FnScope N_law_of ["_law_hand_here", "_law_some"] (defScope (top 6)) := ⟨rfl, rfl, rfl, by decide +kernel, by decide +kernel, by decide +kernel, by decide +kernel⟩
theorem v_law_of {ds : List D} {mu : Store} {Q : QD} {E : QX} (s : spOf ds mu Q E) : wpSs G t_law_of (endsOf Q E) (startD N_law_of ds) mu := w_of rfl s
def t_step_of : CSs := (c_step_of)
theorem m_step_of : mSs (nm N_step_of 3) t_step_of (defScope (top 1)) (defScope (top 1)) (defBody (top 1)) = true := by decide +kernel
theorem q_step_of : FnScope N_step_of ["machine", "state", "symbol"] (defScope (top 1)) := ⟨rfl, rfl, rfl, by decide +kernel, by decide +kernel, by decide +kernel, by decide +kernel⟩
theorem v_step_of {ds : List D} {mu : Store} {Q : QD} {E : QX} (s : spGoal ds mu Q E) : wpSs G t_step_of (endsOf Q E) (startD N_step_of ds) mu := w_goal s
def t_accepts : CSs := (c_accepts i_step_of)
theorem m_accepts : mSs (nm N_accepts 4) t_accepts (defScope (top 2)) (defScope (top 2)) (defBody (top 2)) = true := by decide +kernel
theorem q_accepts : FnScope N_accepts ["machine", "word"] (defScope (top 2)) := ⟨rfl, rfl, rfl, by decide +kernel, by decide +kernel, by decide +kernel, by decide +kernel⟩
theorem v_accepts {ds : List D} {mu : Store} {Q : QD} {E : QX} (s : spAcc ds mu Q E) : wpSs G t_accepts (endsOf Q E) (startD N_accepts ds) mu := w_accepts rfl s
def t_law_letters : CSs := (c_law_letters)
theorem m_law_letters : mSs (nm N_law_letters 5) t_law_letters (defScope (top 7)) (defScope (top 7)) (defBody (top 7)) = true := by decide +kernel
theorem q_law_letters : FnScope N_law_letters ["_law_hand_here", "_law_count"] (defScope (top 7)) := ⟨rfl, rfl, rfl, by decide +kernel, by decide +kernel, by decide +kernel, by decide +kernel⟩
theorem v_law_letters {ds : List D} {mu : Store} {Q : QD} {E : QX} (s : (spLetters 4) ds mu Q E) : wpSs G t_law_letters (endsOf Q E) (startD N_law_letters ds) mu := w_letters rfl rfl s
def t_law_rows_of : CSs := (c_law_rows_of)
theorem m_law_rows_of : mSs (nm N_law_rows_of 6) t_law_rows_of (defScope (top 8)) (defScope (top 8)) (defBody (top 8)) = true := by decide +kernel
theorem q_law_rows_of : FnScope N_law_rows_of ["_law_hand_here", "_law_menu", "_law_count"] (defScope (top 8)) := ⟨rfl, rfl, rfl, by decide +kernel, by decide +kernel, by decide +kernel, by decide +kernel⟩
theorem v_law_rows_of {ds : List D} {mu : Store} {Q : QD} {E : QX} (s : spRows ds mu Q E) : wpSs G t_law_rows_of (endsOf Q E) (startD N_law_rows_of ds) mu := w_rows rfl s
def t_law_all_words : CSs := (c_law_all_words)
theorem m_law_all_words : mSs (nm N_law_all_words 7) t_law_all_words (defScope (top 9)) (defScope (top 9)) (defBody (top 9)) = true := by decide +kernel
theorem q_law_all_words : FnScope N_law_all_words ["_law_menu", "_law_most"] (defScope (top 9)) := ⟨rfl, rfl, rfl, by decide +kernel, by decide +kernel, by decide +kernel, by decide +kernel⟩
theorem v_law_all_words {ds : List D} {mu : Store} {Q : QD} {E : QX} (s : spAll ds mu Q E) : wpSs G t_law_all_words (endsOf Q E) (startD N_law_all_words ds) mu := w_all s
def t_law_goal : CSs := (c_law_goal)
theorem m_law_goal : mSs (nm N_law_goal 8) t_law_goal (defScope (top 10)) (defScope (top 10)) (defBody (top 10)) = true := by decide +kernel
theorem q_law_goal : FnScope N_law_goal ["_law_machine", "_law_state_here", "_law_sign"] (defScope (top 10)) := ⟨rfl, rfl, rfl, by decide +kernel, by decide +kernel, by decide +kernel, by decide +kernel⟩
theorem v_law_goal {ds : List D} {mu : Store} {Q : QD} {E : QX} (s : spGoal ds mu Q E) : wpSs G t_law_goal (endsOf Q E) (startD N_law_goal ds) mu := w_goal2 s
def t_law_state : CSs := (c_law_state i_law_goal)
theorem m_law_state : mSs (nm N_law_state 9) t_law_state (defScope (top 11)) (defScope (top 11)) (defBody (top 11)) = true := by decide +kernel
theorem q_law_state : FnScope N_law_state ["_law_machine", "_law_word_here"] (defScope (top 11)) := ⟨rfl, rfl, rfl, by decide +kernel, by decide +kernel, by decide +kernel, by decide +kernel⟩
theorem v_law_state {ds : List D} {mu : Store} {Q : QD} {E : QX} (s : spState ds mu Q E) : wpSs G t_law_state (endsOf Q E) (startD N_law_state ds) mu := w_state rfl s
def t_law_takes : CSs := (c_law_takes i_law_state)
theorem m_law_takes : mSs (nm N_law_takes 10) t_law_takes (defScope (top 12)) (defScope (top 12)) (defBody (top 12)) = true := by decide +kernel
theorem q_law_takes : FnScope N_law_takes ["_law_machine", "_law_word_here"] (defScope (top 12)) := ⟨rfl, rfl, rfl, by decide +kernel, by decide +kernel, by decide +kernel, by decide +kernel⟩
theorem v_law_takes {ds : List D} {mu : Store} {Q : QD} {E : QX} (s : spAcc ds mu Q E) : wpSs G t_law_takes (endsOf Q E) (startD N_law_takes ds) mu := w_takes rfl s
def t_law_counter : CSs := (c_law_counter)
theorem m_law_counter : mSs (nm N_law_counter 11) t_law_counter (defScope (top 13)) (defScope (top 13)) (defBody (top 13)) = true := by decide +kernel
theorem q_law_counter : FnScope N_law_counter ["_law_sign", "_law_count", "_law_goal_here"] (defScope (top 13)) := ⟨rfl, rfl, rfl, by decide +kernel, by decide +kernel, by decide +kernel, by decide +kernel⟩
theorem v_law_counter {ds : List D} {mu : Store} {Q : QD} {E : QX} (s : spCounter ds mu Q E) : wpSs G t_law_counter (endsOf Q E) (startD N_law_counter ds) mu := w_counter s
def t_law_word : CSs := (c_law_word)
theorem m_law_word : mSs (nm N_law_word 12) t_law_word (defScope (top 14)) (defScope (top 14)) (defBody (top 14)) = true := by decide +kernel
theorem q_law_word : FnScope N_law_word ["_law_hand_here", "_law_menu", "_law_most"] (defScope (top 14)) := ⟨rfl, rfl, rfl, by decide +kernel, by decide +kernel, by decide +kernel, by decide +kernel⟩
theorem v_law_word {ds : List D} {mu : Store} {Q : QD} {E : QX} (s : spWord ds mu Q E) : wpSs G t_law_word (endsOf Q E) (startD N_law_word ds) mu := w_word rfl rfl s
def t_law_right : CSs := (c_law_right i_accepts i_law_counter i_law_takes i_law_word i_law_all_words i_law_rows_of i_law_letters)
theorem m_law_right : mSs (nm N_law_right 13) t_law_right (defScope (top 15)) (defScope (top 15)) (defBody (top 15)) = true := by decide +kernel
theorem q_law_right : FnScope N_law_right ["_law_hand_here"] (defScope (top 15)) := ⟨rfl, rfl, rfl, by decide +kernel, by decide +kernel, by decide +kernel, by decide +kernel⟩
theorem v_law_right {ds : List D} {mu : Store} {Q : QD} {E : QX} (s : spRight ds mu Q E) : wpSs G t_law_right (endsOf Q E) (startD N_law_right ds) mu := w_right rfl rfl rfl rfl rfl rfl rfl rfl rfl s
def t_law : CSs := (c_law i_law_right)
theorem m_law : mSs (nm N_law 14) t_law (defScope (top 16)) (defScope (top 16)) (defBody (top 16)) = true := by decide +kernel
theorem q_law : FnScope N_law ["_law_script"] (defScope (top 16)) := ⟨rfl, rfl, rfl, by decide +kernel, by decide +kernel, by decide +kernel, by decide +kernel⟩
theorem v_law {ds : List D} {mu : Store} {Q : QD} {E : QX} (s : spLaw ds mu Q E) : wpSs G t_law (endsOf Q E) (startD N_law ds) mu := w_law rfl rfl s
theorem all_mk {l : PySem.W.OpenLaw} {w : World} {K : PySem.W.Frag} {h : Heap} {mg : Str → Option Value} {fa f0 f1 f2 f3 f4 f5 f6 f7 f8 f9 f10 f11 f12 f13 f14 : Addr} {od0 an0 od1 an1 od2 an2 od3 an3 od4 an4 od5 an5 od6 an6 od7 an7 od8 an8 od9 an9 od10 an10 od11 an11 od12 an12 od13 an13 od14 an14 : Option Addr} {sl0 sl1 sl2 sl3 sl4 sl5 sl6 sl7 sl8 sl9 sl10 sl11 sl12 sl13 sl14 : Array (Option Value)} {oc0 kV0 dc0 pm0 cd0 ct0 oc1 kV1 dc1 pm1 cd1 ct1 oc2 kV2 dc2 pm2 cd2 ct2 oc3 kV3 dc3 pm3 cd3 ct3 oc4 kV4 dc4 pm4 cd4 ct4 oc5 kV5 dc5 pm5 cd5 ct5 oc6 kV6 dc6 pm6 cd6 ct6 oc7 kV7 dc7 pm7 cd7 ct7 oc8 kV8 dc8 pm8 cd8 ct8 oc9 kV9 dc9 pm9 cd9 ct9 oc10 kV10 dc10 pm10 cd10 ct10 oc11 kV11 dc11 pm11 cd11 ct11 oc12 kV12 dc12 pm12 cd12 ct12 oc13 kV13 dc13 pm13 cd13 ct13 oc14 kV14 dc14 pm14 cd14 ct14 : Value} (X : K.In h) (NG : h.Ns mainGlobals mg) (hfa : mg "law" = some (.ref fa))
    (a0 : PySem.W.nsIn K mainGlobals "_law_hand" = some (some (.ref f0))) (l0 : K.lookup f0 = some ⟨oc0, od0, .func (PySem.W.fnOf "_law_hand" "_law_hand" (defArgs (top 4)) (defBody (top 4)) (defScope (top 4)) .none kV0 dc0 pm0 an0 cd0 ct0), sl0⟩) (c0 : PySem.W.codeIn K cd0 "_law_hand" = true) (k0 : PySem.W.keepIn K (.ref f0) = true)
    (a1 : PySem.W.nsIn K mainGlobals "_law_take" = some (some (.ref f1))) (l1 : K.lookup f1 = some ⟨oc1, od1, .func (PySem.W.fnOf "_law_take" "_law_take" (defArgs (top 5)) (defBody (top 5)) (defScope (top 5)) .none kV1 dc1 pm1 an1 cd1 ct1), sl1⟩) (c1 : PySem.W.codeIn K cd1 "_law_take" = true) (k1 : PySem.W.keepIn K (.ref f1) = true)
    (a2 : PySem.W.nsIn K mainGlobals "_law_of" = some (some (.ref f2))) (l2 : K.lookup f2 = some ⟨oc2, od2, .func (PySem.W.fnOf "_law_of" "_law_of" (defArgs (top 6)) (defBody (top 6)) (defScope (top 6)) .none kV2 dc2 pm2 an2 cd2 ct2), sl2⟩) (c2 : PySem.W.codeIn K cd2 "_law_of" = true) (k2 : PySem.W.keepIn K (.ref f2) = true)
    (a3 : PySem.W.nsIn K mainGlobals "step_of" = some (some (.ref f3))) (l3 : K.lookup f3 = some ⟨oc3, od3, .func (PySem.W.fnOf "step_of" "step_of" (defArgs (top 1)) (defBody (top 1)) (defScope (top 1)) .none kV3 dc3 pm3 an3 cd3 ct3), sl3⟩) (c3 : PySem.W.codeIn K cd3 "step_of" = true) (k3 : PySem.W.keepIn K (.ref f3) = true)
    (a4 : PySem.W.nsIn K mainGlobals "accepts" = some (some (.ref f4))) (l4 : K.lookup f4 = some ⟨oc4, od4, .func (PySem.W.fnOf "accepts" "accepts" (defArgs (top 2)) (defBody (top 2)) (defScope (top 2)) .none kV4 dc4 pm4 an4 cd4 ct4), sl4⟩) (c4 : PySem.W.codeIn K cd4 "accepts" = true) (k4 : PySem.W.keepIn K (.ref f4) = true)
    (a5 : PySem.W.nsIn K mainGlobals "_law_letters" = some (some (.ref f5))) (l5 : K.lookup f5 = some ⟨oc5, od5, .func (PySem.W.fnOf "_law_letters" "_law_letters" (defArgs (top 7)) (defBody (top 7)) (defScope (top 7)) .none kV5 dc5 pm5 an5 cd5 ct5), sl5⟩) (c5 : PySem.W.codeIn K cd5 "_law_letters" = true) (k5 : PySem.W.keepIn K (.ref f5) = true)
    (a6 : PySem.W.nsIn K mainGlobals "_law_rows_of" = some (some (.ref f6))) (l6 : K.lookup f6 = some ⟨oc6, od6, .func (PySem.W.fnOf "_law_rows_of" "_law_rows_of" (defArgs (top 8)) (defBody (top 8)) (defScope (top 8)) .none kV6 dc6 pm6 an6 cd6 ct6), sl6⟩) (c6 : PySem.W.codeIn K cd6 "_law_rows_of" = true) (k6 : PySem.W.keepIn K (.ref f6) = true)
    (a7 : PySem.W.nsIn K mainGlobals "_law_all_words" = some (some (.ref f7))) (l7 : K.lookup f7 = some ⟨oc7, od7, .func (PySem.W.fnOf "_law_all_words" "_law_all_words" (defArgs (top 9)) (defBody (top 9)) (defScope (top 9)) .none kV7 dc7 pm7 an7 cd7 ct7), sl7⟩) (c7 : PySem.W.codeIn K cd7 "_law_all_words" = true) (k7 : PySem.W.keepIn K (.ref f7) = true)
    (a8 : PySem.W.nsIn K mainGlobals "_law_goal" = some (some (.ref f8))) (l8 : K.lookup f8 = some ⟨oc8, od8, .func (PySem.W.fnOf "_law_goal" "_law_goal" (defArgs (top 10)) (defBody (top 10)) (defScope (top 10)) .none kV8 dc8 pm8 an8 cd8 ct8), sl8⟩) (c8 : PySem.W.codeIn K cd8 "_law_goal" = true) (k8 : PySem.W.keepIn K (.ref f8) = true)
    (a9 : PySem.W.nsIn K mainGlobals "_law_state" = some (some (.ref f9))) (l9 : K.lookup f9 = some ⟨oc9, od9, .func (PySem.W.fnOf "_law_state" "_law_state" (defArgs (top 11)) (defBody (top 11)) (defScope (top 11)) .none kV9 dc9 pm9 an9 cd9 ct9), sl9⟩) (c9 : PySem.W.codeIn K cd9 "_law_state" = true) (k9 : PySem.W.keepIn K (.ref f9) = true)
    (a10 : PySem.W.nsIn K mainGlobals "_law_takes" = some (some (.ref f10))) (l10 : K.lookup f10 = some ⟨oc10, od10, .func (PySem.W.fnOf "_law_takes" "_law_takes" (defArgs (top 12)) (defBody (top 12)) (defScope (top 12)) .none kV10 dc10 pm10 an10 cd10 ct10), sl10⟩) (c10 : PySem.W.codeIn K cd10 "_law_takes" = true) (k10 : PySem.W.keepIn K (.ref f10) = true)
    (a11 : PySem.W.nsIn K mainGlobals "_law_counter" = some (some (.ref f11))) (l11 : K.lookup f11 = some ⟨oc11, od11, .func (PySem.W.fnOf "_law_counter" "_law_counter" (defArgs (top 13)) (defBody (top 13)) (defScope (top 13)) .none kV11 dc11 pm11 an11 cd11 ct11), sl11⟩) (c11 : PySem.W.codeIn K cd11 "_law_counter" = true) (k11 : PySem.W.keepIn K (.ref f11) = true)
    (a12 : PySem.W.nsIn K mainGlobals "_law_word" = some (some (.ref f12))) (l12 : K.lookup f12 = some ⟨oc12, od12, .func (PySem.W.fnOf "_law_word" "_law_word" (defArgs (top 14)) (defBody (top 14)) (defScope (top 14)) .none kV12 dc12 pm12 an12 cd12 ct12), sl12⟩) (c12 : PySem.W.codeIn K cd12 "_law_word" = true) (k12 : PySem.W.keepIn K (.ref f12) = true)
    (a13 : PySem.W.nsIn K mainGlobals "_law_right" = some (some (.ref f13))) (l13 : K.lookup f13 = some ⟨oc13, od13, .func (PySem.W.fnOf "_law_right" "_law_right" (defArgs (top 15)) (defBody (top 15)) (defScope (top 15)) .none kV13 dc13 pm13 an13 cd13 ct13), sl13⟩) (c13 : PySem.W.codeIn K cd13 "_law_right" = true) (k13 : PySem.W.keepIn K (.ref f13) = true)
    (a14 : PySem.W.nsIn K mainGlobals "law" = some (some (.ref f14))) (l14 : K.lookup f14 = some ⟨oc14, od14, .func (PySem.W.fnOf "law" "law" (defArgs (top 16)) (defBody (top 16)) (defScope (top 16)) .none kV14 dc14 pm14 an14 cd14 ct14), sl14⟩) (c14 : PySem.W.codeIn K cd14 "law" = true) (k14 : PySem.W.keepIn K (.ref f14) = true)
    (z0 : PySem.W.nsIn K mainGlobals "abs" = some none)
    (z1 : PySem.W.nsIn K mainGlobals "all" = some none)
    (z2 : PySem.W.nsIn K mainGlobals "int" = some none)
    (z3 : PySem.W.nsIn K mainGlobals "len" = some none)
    (z4 : PySem.W.nsIn K mainGlobals "max" = some none)
    (z5 : PySem.W.nsIn K mainGlobals "min" = some none)
    (z6 : PySem.W.nsIn K mainGlobals "range" = some none)
    (z7 : PySem.W.nsIn K mainGlobals "repr" = some none)
    (z8 : PySem.W.nsIn K mainGlobals "sorted" = some none)
    (z9 : PySem.W.nsIn K mainGlobals "tuple" = some none)
    : ∃ (fd : FuncData) (CT : Nat → Addr), (∀ (s : Shared) (v : Value), BindsTo s fd ⟨[v], []⟩ [("_law_script", v)]) ∧ ∀ base : Heap, K.In base → base.Ns mainGlobals mg → FnG l.prog w K mg base 15 fa fd ["_law_script"] (liftF K CT spLaw) := by
  have e := hfa.symm.trans (PySem.W.mg_of X NG a14)
  cases e
  have GB : ∀ (N : List Str) (j : Nat), GlbOk K mg (nm N j) := by
    intro N j
    refine ⟨fun x hx => ?_, fun p hp => ?_⟩
    · have hx : x ∈ blts := hx
      simp only [blts, List.mem_cons, List.not_mem_nil, or_false] at hx
      rcases hx with rfl | rfl | rfl | rfl | rfl | rfl | rfl | rfl | rfl | rfl
      · exact PySem.W.mg_none_of X NG z0
      · exact PySem.W.mg_none_of X NG z1
      · exact PySem.W.mg_none_of X NG z2
      · exact PySem.W.mg_none_of X NG z3
      · exact PySem.W.mg_none_of X NG z4
      · exact PySem.W.mg_none_of X NG z5
      · exact PySem.W.mg_none_of X NG z6
      · exact PySem.W.mg_none_of X NG z7
      · exact PySem.W.mg_none_of X NG z8
      · exact PySem.W.mg_none_of X NG z9
    · have hp : p ∈ cons := hp
      exact absurd hp List.not_mem_nil
  have F0 := fun_mk (st := top 4) l0 c0 k0
  have b0 := F0.binds (ps := ["_law_script", "_law_k"]) fun _ _ _ _ _ _ us hl => match us, hl with | [_, _], _ => rfl
  have F1 := fun_mk (st := top 5) l1 c1 k1
  have b1 := F1.binds (ps := ["_law_hand_here", "_law_many"]) fun _ _ _ _ _ _ us hl => match us, hl with | [_, _], _ => rfl
  have F2 := fun_mk (st := top 6) l2 c2 k2
  have b2 := F2.binds (ps := ["_law_hand_here", "_law_some"]) fun _ _ _ _ _ _ us hl => match us, hl with | [_, _], _ => rfl
  have F3 := fun_mk (st := top 1) l3 c3 k3
  have b3 := F3.binds (ps := ["machine", "state", "symbol"]) fun _ _ _ _ _ _ us hl => match us, hl with | [_, _, _], _ => rfl
  have F4 := fun_mk (st := top 2) l4 c4 k4
  have b4 := F4.binds (ps := ["machine", "word"]) fun _ _ _ _ _ _ us hl => match us, hl with | [_, _], _ => rfl
  have F5 := fun_mk (st := top 7) l5 c5 k5
  have b5 := F5.binds (ps := ["_law_hand_here", "_law_count"]) fun _ _ _ _ _ _ us hl => match us, hl with | [_, _], _ => rfl
  have F6 := fun_mk (st := top 8) l6 c6 k6
  have b6 := F6.binds (ps := ["_law_hand_here", "_law_menu", "_law_count"]) fun _ _ _ _ _ _ us hl => match us, hl with | [_, _, _], _ => rfl
  have F7 := fun_mk (st := top 9) l7 c7 k7
  have b7 := F7.binds (ps := ["_law_menu", "_law_most"]) fun _ _ _ _ _ _ us hl => match us, hl with | [_, _], _ => rfl
  have F8 := fun_mk (st := top 10) l8 c8 k8
  have b8 := F8.binds (ps := ["_law_machine", "_law_state_here", "_law_sign"]) fun _ _ _ _ _ _ us hl => match us, hl with | [_, _, _], _ => rfl
  have F9 := fun_mk (st := top 11) l9 c9 k9
  have b9 := F9.binds (ps := ["_law_machine", "_law_word_here"]) fun _ _ _ _ _ _ us hl => match us, hl with | [_, _], _ => rfl
  have F10 := fun_mk (st := top 12) l10 c10 k10
  have b10 := F10.binds (ps := ["_law_machine", "_law_word_here"]) fun _ _ _ _ _ _ us hl => match us, hl with | [_, _], _ => rfl
  have F11 := fun_mk (st := top 13) l11 c11 k11
  have b11 := F11.binds (ps := ["_law_sign", "_law_count", "_law_goal_here"]) fun _ _ _ _ _ _ us hl => match us, hl with | [_, _, _], _ => rfl
  have F12 := fun_mk (st := top 14) l12 c12 k12
  have b12 := F12.binds (ps := ["_law_hand_here", "_law_menu", "_law_most"]) fun _ _ _ _ _ _ us hl => match us, hl with | [_, _, _], _ => rfl
  have F13 := fun_mk (st := top 15) l13 c13 k13
  have b13 := F13.binds (ps := ["_law_hand_here"]) fun _ _ _ _ _ _ us hl => match us, hl with | [_], _ => rfl
  have F14 := fun_mk (st := top 16) l14 c14 k14
  let CT : Nat → Addr := fun _ => 0
  refine ⟨PySem.W.fnOf "law" "law" (defArgs (top 16)) (defBody (top 16)) (defScope (top 16)) .none kV14 dc14 pm14 an14 cd14 ct14, CT, fun s v => .of_eq rfl, fun base _ _ => ?_⟩
  have S0 : FnsOk l.prog w K mg base (nm [] 0) G CT 0 := .none rfl
  have R0 : FnG l.prog w K mg base 1 f0 _ ["_law_script", "_law_k"] (liftF K CT spHand) := fng_of (n := nm N_law_hand 0) (body := t_law_hand) F0 q_law_hand rfl m_law_hand (S0.same rfl rfl) (GB _ _) (fun _ _ _ _ _ s => v_law_hand s)
  have S1 : FnsOk l.prog w K mg base (nm [] 1) G CT 1 := (S0.mono (by decide)).snoc (x := "_law_hand") rfl rfl (PySem.W.mg_of X NG a0) k0 R0 (bind_pos b0 (by decide +kernel))
  have R1 : FnG l.prog w K mg base 2 f1 _ ["_law_hand_here", "_law_many"] (liftF K CT spTake) := fng_of (n := nm N_law_take 1) (body := t_law_take) F1 q_law_take rfl m_law_take (S1.same rfl rfl) (GB _ _) (fun _ _ _ _ _ s => v_law_take s)
  have S2 : FnsOk l.prog w K mg base (nm [] 2) G CT 2 := (S1.mono (by decide)).snoc (x := "_law_take") rfl rfl (PySem.W.mg_of X NG a1) k1 R1 (bind_pos b1 (by decide +kernel))
  have R2 : FnG l.prog w K mg base 3 f2 _ ["_law_hand_here", "_law_some"] (liftF K CT spOf) := fng_of (n := nm N_law_of 2) (body := t_law_of) F2 q_law_of rfl m_law_of (S2.same rfl rfl) (GB _ _) (fun _ _ _ _ _ s => v_law_of s)
  have S3 : FnsOk l.prog w K mg base (nm [] 3) G CT 3 := (S2.mono (by decide)).snoc (x := "_law_of") rfl rfl (PySem.W.mg_of X NG a2) k2 R2 (bind_pos b2 (by decide +kernel))
  have R3 : FnG l.prog w K mg base 4 f3 _ ["machine", "state", "symbol"] (liftF K CT spGoal) := fng_of (n := nm N_step_of 3) (body := t_step_of) F3 q_step_of rfl m_step_of (S3.same rfl rfl) (GB _ _) (fun _ _ _ _ _ s => v_step_of s)
  have S4 : FnsOk l.prog w K mg base (nm [] 4) G CT 4 := (S3.mono (by decide)).snoc (x := "step_of") rfl rfl (PySem.W.mg_of X NG a3) k3 R3 (bind_pos b3 (by decide +kernel))
  have R4 : FnG l.prog w K mg base 5 f4 _ ["machine", "word"] (liftF K CT spAcc) := fng_of (n := nm N_accepts 4) (body := t_accepts) F4 q_accepts rfl m_accepts (S4.same rfl rfl) (GB _ _) (fun _ _ _ _ _ s => v_accepts s)
  have S5 : FnsOk l.prog w K mg base (nm [] 5) G CT 5 := (S4.mono (by decide)).snoc (x := "accepts") rfl rfl (PySem.W.mg_of X NG a4) k4 R4 (bind_pos b4 (by decide +kernel))
  have R5 : FnG l.prog w K mg base 6 f5 _ ["_law_hand_here", "_law_count"] (liftF K CT (spLetters 4)) := fng_of (n := nm N_law_letters 5) (body := t_law_letters) F5 q_law_letters rfl m_law_letters (S5.same rfl rfl) (GB _ _) (fun _ _ _ _ _ s => v_law_letters s)
  have S6 : FnsOk l.prog w K mg base (nm [] 6) G CT 6 := (S5.mono (by decide)).snoc (x := "_law_letters") rfl rfl (PySem.W.mg_of X NG a5) k5 R5 (bind_pos b5 (by decide +kernel))
  have R6 : FnG l.prog w K mg base 7 f6 _ ["_law_hand_here", "_law_menu", "_law_count"] (liftF K CT spRows) := fng_of (n := nm N_law_rows_of 6) (body := t_law_rows_of) F6 q_law_rows_of rfl m_law_rows_of (S6.same rfl rfl) (GB _ _) (fun _ _ _ _ _ s => v_law_rows_of s)
  have S7 : FnsOk l.prog w K mg base (nm [] 7) G CT 7 := (S6.mono (by decide)).snoc (x := "_law_rows_of") rfl rfl (PySem.W.mg_of X NG a6) k6 R6 (bind_pos b6 (by decide +kernel))
  have R7 : FnG l.prog w K mg base 8 f7 _ ["_law_menu", "_law_most"] (liftF K CT spAll) := fng_of (n := nm N_law_all_words 7) (body := t_law_all_words) F7 q_law_all_words rfl m_law_all_words (S7.same rfl rfl) (GB _ _) (fun _ _ _ _ _ s => v_law_all_words s)
  have S8 : FnsOk l.prog w K mg base (nm [] 8) G CT 8 := (S7.mono (by decide)).snoc (x := "_law_all_words") rfl rfl (PySem.W.mg_of X NG a7) k7 R7 (bind_pos b7 (by decide +kernel))
  have R8 : FnG l.prog w K mg base 9 f8 _ ["_law_machine", "_law_state_here", "_law_sign"] (liftF K CT spGoal) := fng_of (n := nm N_law_goal 8) (body := t_law_goal) F8 q_law_goal rfl m_law_goal (S8.same rfl rfl) (GB _ _) (fun _ _ _ _ _ s => v_law_goal s)
  have S9 : FnsOk l.prog w K mg base (nm [] 9) G CT 9 := (S8.mono (by decide)).snoc (x := "_law_goal") rfl rfl (PySem.W.mg_of X NG a8) k8 R8 (bind_pos b8 (by decide +kernel))
  have R9 : FnG l.prog w K mg base 10 f9 _ ["_law_machine", "_law_word_here"] (liftF K CT spState) := fng_of (n := nm N_law_state 9) (body := t_law_state) F9 q_law_state rfl m_law_state (S9.same rfl rfl) (GB _ _) (fun _ _ _ _ _ s => v_law_state s)
  have S10 : FnsOk l.prog w K mg base (nm [] 10) G CT 10 := (S9.mono (by decide)).snoc (x := "_law_state") rfl rfl (PySem.W.mg_of X NG a9) k9 R9 (bind_pos b9 (by decide +kernel))
  have R10 : FnG l.prog w K mg base 11 f10 _ ["_law_machine", "_law_word_here"] (liftF K CT spAcc) := fng_of (n := nm N_law_takes 10) (body := t_law_takes) F10 q_law_takes rfl m_law_takes (S10.same rfl rfl) (GB _ _) (fun _ _ _ _ _ s => v_law_takes s)
  have S11 : FnsOk l.prog w K mg base (nm [] 11) G CT 11 := (S10.mono (by decide)).snoc (x := "_law_takes") rfl rfl (PySem.W.mg_of X NG a10) k10 R10 (bind_pos b10 (by decide +kernel))
  have R11 : FnG l.prog w K mg base 12 f11 _ ["_law_sign", "_law_count", "_law_goal_here"] (liftF K CT spCounter) := fng_of (n := nm N_law_counter 11) (body := t_law_counter) F11 q_law_counter rfl m_law_counter (S11.same rfl rfl) (GB _ _) (fun _ _ _ _ _ s => v_law_counter s)
  have S12 : FnsOk l.prog w K mg base (nm [] 12) G CT 12 := (S11.mono (by decide)).snoc (x := "_law_counter") rfl rfl (PySem.W.mg_of X NG a11) k11 R11 (bind_pos b11 (by decide +kernel))
  have R12 : FnG l.prog w K mg base 13 f12 _ ["_law_hand_here", "_law_menu", "_law_most"] (liftF K CT spWord) := fng_of (n := nm N_law_word 12) (body := t_law_word) F12 q_law_word rfl m_law_word (S12.same rfl rfl) (GB _ _) (fun _ _ _ _ _ s => v_law_word s)
  have S13 : FnsOk l.prog w K mg base (nm [] 13) G CT 13 := (S12.mono (by decide)).snoc (x := "_law_word") rfl rfl (PySem.W.mg_of X NG a12) k12 R12 (bind_pos b12 (by decide +kernel))
  have R13 : FnG l.prog w K mg base 14 f13 _ ["_law_hand_here"] (liftF K CT spRight) := fng_of (n := nm N_law_right 13) (body := t_law_right) F13 q_law_right rfl m_law_right (S13.same rfl rfl) (GB _ _) (fun _ _ _ _ _ s => v_law_right s)
  have S14 : FnsOk l.prog w K mg base (nm [] 14) G CT 14 := (S13.mono (by decide)).snoc (x := "_law_right") rfl rfl (PySem.W.mg_of X NG a13) k13 R13 (bind_pos b13 (by decide +kernel))
  have R14 : FnG l.prog w K mg base 15 fa _ ["_law_script"] (liftF K CT spLaw) := fng_of (n := nm N_law 14) (body := t_law) F14 q_law rfl m_law (S14.same rfl rfl) (GB _ _) (fun _ _ _ _ _ s => v_law s)
  exact R14
end MPL
open PySem PySem.W PyProof.Rows
set_option maxHeartbeats 0 in
theorem PySem.Challenge.cw_surenext_k14_words_accepted_holds : PySem.Challenge.rw_surenext_k14_words_accepted.Holds := by
  w_on
  o_law
  k_head
  (case hw => w_witness2)
  k_fill
  refine MP.walk_law (l := PySem.Challenge.rw_surenext_k14_words_accepted) (sp := MP.spLaw) (k := 15) (n := 63) (x := "_law_script") rfl (by decide) rfl ⟨rfl, by decide, by decide⟩ (fun w h Y => PySem.W.kIn_of Y) (fun ns hl => ⟨ns, rfl, hl, fun _ => rfl⟩) ?F
  case F =>
    intro w mg fa h KX G hmg
    refine' MPL.all_mk KX G hmg ?a0 ?l0 ?c0 ?k0 ?a1 ?l1 ?c1 ?k1 ?a2 ?l2 ?c2 ?k2 ?a3 ?l3 ?c3 ?k3 ?a4 ?l4 ?c4 ?k4 ?a5 ?l5 ?c5 ?k5 ?a6 ?l6 ?c6 ?k6 ?a7 ?l7 ?c7 ?k7 ?a8 ?l8 ?c8 ?k8 ?a9 ?l9 ?c9 ?k9 ?a10 ?l10 ?c10 ?k10 ?a11 ?l11 ?c11 ?k11 ?a12 ?l12 ?c12 ?k12 ?a13 ?l13 ?c13 ?k13 ?a14 ?l14 ?c14 ?k14 ?z0 ?z1 ?z2 ?z3 ?z4 ?z5 ?z6 ?z7 ?z8 ?z9
    (case a0 => k_is); (case l0 => k_is); (case c0 => k_is); (case k0 => k_is)
    (case a1 => k_is); (case l1 => k_is); (case c1 => k_is); (case k1 => k_is)
    (case a2 => k_is); (case l2 => k_is); (case c2 => k_is); (case k2 => k_is)
    (case a3 => k_is); (case l3 => k_is); (case c3 => k_is); (case k3 => k_is)
    (case a4 => k_is); (case l4 => k_is); (case c4 => k_is); (case k4 => k_is)
    (case a5 => k_is); (case l5 => k_is); (case c5 => k_is); (case k5 => k_is)
    (case a6 => k_is); (case l6 => k_is); (case c6 => k_is); (case k6 => k_is)
    (case a7 => k_is); (case l7 => k_is); (case c7 => k_is); (case k7 => k_is)
    (case a8 => k_is); (case l8 => k_is); (case c8 => k_is); (case k8 => k_is)
    (case a9 => k_is); (case l9 => k_is); (case c9 => k_is); (case k9 => k_is)
    (case a10 => k_is); (case l10 => k_is); (case c10 => k_is); (case k10 => k_is)
    (case a11 => k_is); (case l11 => k_is); (case c11 => k_is); (case k11 => k_is)
    (case a12 => k_is); (case l12 => k_is); (case c12 => k_is); (case k12 => k_is)
    (case a13 => k_is); (case l13 => k_is); (case c13 => k_is); (case k13 => k_is)
    (case a14 => k_is); (case l14 => k_is); (case c14 => k_is); (case k14 => k_is)
    (case z0 => k_is)
    (case z1 => k_is)
    (case z2 => k_is)
    (case z3 => k_is)
    (case z4 => k_is)
    (case z5 => k_is)
    (case z6 => k_is)
    (case z7 => k_is)
    (case z8 => k_is)
    (case z9 => k_is)

