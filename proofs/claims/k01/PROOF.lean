import PyProof.Rows.All
import Wide.All
import OpenK.AllK
import Wide.FinOn
import HandS.ExcInit
import HandS.ExcIs
import HandS.TryOnly
import HandS.ForMost
import HandS.Exc
import HandS.WordsExc
import KE.KeyNested
import KE.KDictKeyed
import KE.SortData
import HandS.Iter
import HandS.IsInst
import HandS.Wide
import HandS.TupMul
import HandS.TupAny
import HandS.Style
import HandS.Deep
import PyProof.Rows.IntBool
import HandS.SetKeys
import HandS.ListItems
import HandS.Conv
import PyProof.ReprRoads
import HandS.More
import KE.DataFind
import HandS.Text
import HandS.Set
import HandS.SetFor
import HandS.Strs
import KE.GoesMore
import HandS.Zip
import HandS.DictComp
import HandS.Words
import HandS.Ends
import PyProof.FitsReplace
import PySem.Challenge.RW_surenext_k01_symbols_and_words_of_any_va
set_option Elab.async false
set_option linter.all false
set_option maxRecDepth 100000
set_option maxHeartbeats 4000001
namespace MPK
open PySem PySem.Spec PyProof.Rows L2
/-- an exception of the class C at a; its dict at d -/
def exk (a C : Addr) (d : Option Addr) : HO := .ext fun h => ∃ oe vs, h.get? a = some oe ∧ Zc (.ref C) d oe ∧ oe.data = .fields vs
theorem exk_at {P : Program} {w : World} {H : Hp} {h : Heap} {a C : Addr} {d : Option Addr} (hok : HOk P w H h) (e : H a = some (exk a C d)) : ∃ oe vs, h.get? a = some oe ∧ Zc (.ref C) d oe ∧ oe.data = .fields vs := by
  have x : ObjOk P w H h a (.ext fun h => ∃ oe vs, h.get? a = some oe ∧ Zc (.ref C) d oe ∧ oe.data = .fields vs) := hok a _ e
  exact x.1
theorem exk_ok {P : Program} {w : World} {H : Hp} {h : Heap} {a C : Addr} {d : Option Addr} {oe : Obj} {vs : Array Value} (e : h.get? a = some oe) (hz : Zc (.ref C) d oe) (hd : oe.data = .fields vs) : ObjOk P w H h a (exk a C d) :=
  ⟨⟨oe, vs, e, hz, hd⟩, ⟨oe, e⟩, fun h1 h2 ⟨o, v, q1, q2, q3⟩ k => ⟨o, v, k _ q1, q2, q3⟩⟩
section
variable {X : Cx} {pins : List (Addr × Obj)} {σ : L2.St} {H : Hp} {s : Shared}
theorem adopt {a : Addr} {o : HO} {oe : Obj} {vs : Array Value} (I : Inv X pins σ H s) (ha : s.heap.get? a = some oe) (hd : oe.data = .fields vs) (ok : ∀ H', ObjOk X.prog X.w H' s.heap a o)
    (na : H a = none) (nL : a ≠ X.env.locals) (np : ∀ p ∈ X.pn ++ pins, p.1 ≠ a) (nb : ∀ u, X.s_0.heap.get? a = some u → a ∈ X.ex) : Inv X pins σ (upd H a o) s := by
  have ne : ∀ {b : Addr} {u : HO}, H b = some u → b ≠ a := fun {b u} e z => by rw [z, na] at e; cases e
  refine ⟨I.ok, I.os, I.bare, ⟨I.base.keep, I.base.slot, fun b u e n hx => ?_, I.base.there, fun b xs e => ?_, fun b u v e => ?_, fun b ps e => ?_⟩, I.loc, I.cell, ?_, fun x c e => ?_, fun p hp => ?_, fun b u e => ?_, I.len⟩
  · have : b ≠ a := fun z => hx (by rw [z]; exact nb u (z ▸ e))
    rw [upd_ne this]; exact I.base.free b u e n hx
  · have q := I.base.tups b xs e
    rw [upd_ne (ne q)]; exact q
  · have q := I.base.frzs b u v e
    rw [upd_ne (ne q)]; exact q
  · obtain ⟨more, q⟩ := I.base.tbls b ps e
    exact ⟨more, by rw [upd_ne (ne q)]; exact q⟩
  · rw [upd_ne (Ne.symm nL)]; exact I.free
  · have hc : c ≠ a := fun z => by
      obtain ⟨v, o', e1, e2⟩ := I.cell x c e
      rw [z, ha] at e1
      cases e1
      first
        | (rw [hd] at e2; cases e2)
        | (obtain ⟨e2, _⟩ := e2; rw [hd] at e2; cases e2)
    rw [upd_ne hc]; exact I.freeC x c e
  · obtain ⟨a1, a2, a3⟩ := I.pin p hp
    exact ⟨a1, by rw [upd_ne (np p hp)]; exact a2, a3⟩
  · by_cases hb : b = a
    · subst hb
      rw [upd_same] at e
      cases e
      exact ok _
    · rw [upd_ne hb] at e
      refine (I.hok b u e).stay (fun c v hc y => y) (fun c hc => by rw [upd_ne (ne hc)]; exact hc) fun c xs hc => by rw [upd_ne (ne hc)]; exact hc
theorem suite0 (I : Inv X pins σ H s) (a : Addr) : Inv (X.suite a (X.pn ++ pins)) [] σ H s :=
  ⟨I.ok.suite _ _, I.os, I.bare, I.base, I.loc, I.cell, I.free, I.freeC, fun p hp => I.pin p (by rw [List.append_nil] at hp; exact hp), I.hok, I.len⟩
theorem unsuite0 {a : Addr} {pn' : List (Addr × Obj)} (I : Inv (X.suite a (X.pn ++ pins)) pn' σ H s) (ok : X.Ok) : Inv X pins σ H s :=
  ⟨ok, I.os, I.bare, I.base, I.loc, I.cell, I.free, I.freeC, fun p hp => I.pin p (List.mem_append_left _ hp), I.hok, I.len⟩
end
/-- what the clause wishes: the exception is in the ledger -/
def wKept (K : PySem.W.Frag) (c : Value) (i : Nat) (ts : Addr → TS) (Wout : WX) (D : Ends) : WX := fun cls d σ H =>
  ∃ b, PySem.W.exmOne K cls c = some b ∧ (b = true → ∃ C, cls = .ref C ∧ ∀ a, H a = none → i < σ.length → ts a { nx := fun σ' H' => D.nx (σ'.set i none) H', rt := D.rt, bk := fun σ' H' => D.bk (σ'.set i none) H', ct := fun σ' H' => D.ct (σ'.set i none) H' } (σ.set i (some (.ref a))) (upd H a (exk a C d))) ∧
    (b = false → Wout cls d σ H)
section
variable {X : Cx} {x n : Str} {c : Value} {i : Nat} {body suite : List Stmt} {b₀ : Stmt} {np pos pos' : Pos} {tb : WX → TS} {ts : Addr → TS} {Wout : WX}
theorem ps_try_kept (hs : X.stack = X.env :: X.outer) (hf : X.env.frame = some X.env.locals) (hN : X.N.Nodup) (hi : X.N[i]? = some n) (hln : X.env.kindOf n = some .local) (hc : Names X x c) (tk : Takes X Wout)
    (hb : ∀ (W : WX) (pn : List (Addr × Obj)) (xe : Value → Shared → Prop), Takes (X.tr pn xe) W → PassesOwn (model X.prog X.w) X.A X.env xe → PSs (X.tr pn xe) body (tb W))
    (hsu : ∀ (a : Addr) (pn : List (Addr × Obj)), PSs (X.suite a pn) (b₀ :: suite) (ts a)) :
    PS X (.Try body [.ExceptHandler (some (.Name x np)) (some n) (b₀ :: suite) pos'] [] [] pos) (fun D σ H => tb (wKept X.K c i ts Wout D) D σ H) := by
  refine ⟨fun pins s σ H D I h => ?_⟩
  have ok := I.ok
  have hfr : X.A.frames = some (X.env :: X.outer) := by rw [ok.frames, hs]
  have hloc : Loc X.env.scope n := .inl hln
  refine wpAny_Try_except ?_
  refine wpAny_mono ((hb (wKept X.K c i ts Wout D) (X.pn ++ pins) (fun e s₁ => wpAny (model X.prog X.w) X.A (noteFrame e X.env) (fun _ s₂ => wpAny (model X.prog X.w) X.A (setFlight e none) (fun _ s₃ =>
    wpAny (model X.prog X.w) X.A (handleBy e X.env [.ExceptHandler (some (.Name x np)) (some n) (b₀ :: suite) pos']) (SP X pins D) X.xe s₃) X.xe s₂) X.xe s₁) (fun u s' xx => ?_) PassesOwn.looking).run [] s σ H D (I.toTry _) h) (fun f s1 hsp => ?_) (fun e s1 he => he)
  · obtain ⟨a, B, sI, pins', σ', H', cls, d, rfl, J', nb, up, sky, na, os, ag, b, hb1, hyes, hno⟩ := xx
    have J : Inv X pins σ' H' sI := J'.ofTry ok
    have sky' : Sky B (X.env :: X.outer) a (Zc cls d) X.env.locals s'.heap := by rw [← hs]; exact sky
    show wpAny (model X.prog X.w) X.A (noteFrame (.ref a) X.env) _ _ _
    refine Sky.land Zc.steady hfr hf sky' fun h3 fl3 up3 => ?_
    have J3 : Inv X pins σ' H' { s' with heap := h3 } := J.landed nb fl3.1 (up.trans up3) os ag
    obtain ⟨oe3, vs3, he3, hz3, hd3⟩ := fl3.there
    have notFr : ∀ {h : Heap} {o : Obj} {vs : Array Value}, h.FunFrames B (X.env :: X.outer) → h.get? a = some o → o.data = .fields vs → a ∉ frs (X.env :: X.outer) := fun {h o vs} ff e dd hm => by
      obtain ⟨_, o', e', hnf⟩ := ff.mem hm
      rw [e] at e'; cases e'
      exact hnf _ dd
    have nfr := notFr fl3.2.2.1 he3 hd3
    have nL : a ≠ X.env.locals := fun z => nfr (List.mem_filterMap.mpr ⟨X.env, List.mem_cons_self, by rw [hf, z]⟩)
    have nF : a ∉ X.fs := fun hm => by
      obtain ⟨e, he, q⟩ := List.mem_filterMap.mp hm
      exact nfr (List.mem_filterMap.mpr ⟨e, List.mem_cons_of_mem _ he, q⟩)
    have nI : ∀ o, sI.heap.get? a ≠ some o := fun o e => by
      have := nb a o e (by rw [hs]; exact nfr)
      rw [fl3.2.1] at this; cases this
    have nP : ∀ p ∈ X.pn ++ pins, p.1 ≠ a := fun p hp z => nI _ (z ▸ (J.pin p hp).1)
    have nB : ∀ u, X.s_0.heap.get? a = some u → a ∈ X.ex := fun u e => by
      refine Classical.byContradiction fun hx => ?_
      obtain ⟨o', e'⟩ := J.base.there a u e hx
      exact nI _ e'
    have S3 := J3.suite he3 hd3 na nL nF
    refine wpAny_handleBy_cons (codeAny_handlers_test ?_) (by intro q; cases q)
    have LT : PySem.W.Looks (model X.prog X.w) h3 (typeOf (.ref a)) cls := fun A Q E s k q => wpAny_typeOf_ref (k _ _ he3) (by rw [hz3.1]; exact q)
    have LM := PySem.W.exm_one (M := model X.prog X.w) (J3.kIn) LT hb1
    have test : ∀ {Q : Value → Shared → Prop} {E : Value → Shared → Prop}, Q c { s' with heap := h3 } → wpAny (model X.prog X.w) (X.A.mark (some (.ref a))) (eval (.Name x np) X.env) Q E { s' with heap := h3 } := fun {Q E} q => by
      obtain ⟨hg, hdbg, hm | ⟨hm, hv, hnn⟩⟩ := hc
      · exact ld_glob (X := X.suite a ((a, oe3) :: (X.pn ++ pins))) S3 hg hm q hdbg
      · exact ld_blt (X := X.suite a ((a, oe3) :: (X.pn ++ pins))) S3 hg hm hv q hnn hdbg
    refine test (LM.here ?_)
    cases b with
    | true =>
      obtain ⟨C, rfl, hy⟩ := hyes rfl
      refine codeAny_handlers_suite_as ?_
      refine HandSPX.lands_againZ fl3 fun h4 fl4 up4 => ?_
      have J4 : Inv X pins σ' H' { s' with heap := h4 } := J.landed nb fl4.1 ((up.trans up3).trans up4) os ag
      obtain ⟨oe4, vs4, he4, hz4, hd4⟩ := fl4.there
      have A4 : Inv X pins σ' (upd H' a (exk a C d)) { s' with heap := h4 } := adopt J4 he4 hd4 (fun _ => exk_ok he4 hz4 hd4) na nL nP nB
      have S4 := suite0 A4 a
      refine store_ok (X := X.suite a (X.pn ++ pins)) (v := .ref a) S4 hN hi hloc rfl (fun s5 S5 => ?_) (.inr hln)
      refine wpAny_mono ((hsu a (X.pn ++ pins)).run [] s5 _ _ _ S5 (hy a na (by rw [J4.len]; exact (List.getElem?_eq_some_iff.mp hi).1))) (fun f s6 hsp => ?_) (fun _ _ z => False.elim z)
      have end_ : ∀ {σ6 : L2.St} {H6 : Hp} {Q : Shared → Prop}, Inv (X.suite a (X.pn ++ pins)) [] σ6 H6 s6 → (∀ s7, Inv X pins (σ6.set i none) H6 s7 → Q s7) →
          wpAny (model X.prog X.w) X.A (do bindName X.env n .none; unbindBehindTheSuite X.env n pos') (fun _ s7 => Q s7) X.xe s6 := fun {σ6 H6 Q} S6 hq => gone_ok (unsuite0 S6 ok) hN hi hln hq
      cases f with
      | next =>
        obtain ⟨σ6, H6, S6, q6⟩ := hsp
        exact end_ S6 fun s7 J7 => ⟨_, _, J7, q6⟩
      | brk =>
        obtain ⟨σ6, H6, S6, q6⟩ := hsp
        exact end_ S6 fun s7 J7 => ⟨_, _, J7, q6⟩
      | cont =>
        obtain ⟨σ6, H6, S6, q6⟩ := hsp
        exact end_ S6 fun s7 J7 => ⟨_, _, J7, q6⟩
      | ret u =>
        obtain ⟨v6, σ6, H6, S6, r6, q6⟩ := hsp
        exact end_ S6 fun s7 J7 => ⟨_, _, _, J7, r6, q6⟩
    | false =>
      show wpAny _ X.A (handleBy (.ref a) X.env []) _ _ _
      refine wpAny_handleBy_nil ?_
      obtain ⟨k1, k2, k3, oe, vs, T, oT, ts', he, hz, hd, h1, hr⟩ := id fl3
      unfold PySem.passOn
      refine wpAny_bind (wpAny_field he hd h1 ?_)
      rw [if_neg (show ¬ ((Value.ref T == Value.none) = true) from by simp)]
      have fin : wpAny (model X.prog X.w) X.A (setFlight (.ref a) X.env.frame) (fun _ s4 => wpAny (model X.prog X.w) X.A (throw (.ref a) : Sem Flow) (SP X pins D) X.xe s4) X.xe { s' with heap := h3 } := by
        rw [hf]
        refine HandSPX.setFlight_upZ fl3 fun h4 hh4 up4 => wpAny_throw (tk _ _ ?_)
        exact ⟨a, B, sI, pins, σ', H', cls, d, rfl, J, nb, (up.trans up3).trans up4, .inr (.inr (by rw [hs]; exact hh4)), na, os, ag, hno rfl⟩
      first
        | exact wpAny_bind (wpAny_pure (wpAny_bind fin))
        | exact wpAny_bind fin
  · cases f with
    | next =>
      obtain ⟨σ', H', J', q⟩ := hsp
      exact wpAny_execs_nil ⟨σ', H', J'.ofTry ok, q⟩
    | brk =>
      obtain ⟨σ', H', J', q⟩ := hsp
      exact ⟨σ', H', J'.ofTry ok, q⟩
    | cont =>
      obtain ⟨σ', H', J', q⟩ := hsp
      exact ⟨σ', H', J'.ofTry ok, q⟩
    | ret u =>
      obtain ⟨v, σ', H', J', r, q⟩ := hsp
      exact ⟨v, σ', H', J'.ofTry ok, r, q⟩
end
end MPK
namespace MP
open PySem PySem.Spec PyProof.Rows L2
/-- a value without addresses: tuples are trees, mutable objects are numbers of cells -/
inductive D where
  | non | bl (b : Bool) | int (i : Int) | str (x : Str) | tup (xs : List D) | ref (n : Nat)
  /-- a list that is only read: the script -/
  | ro (xs : List D)
def kD : Key → D
  | .inl i => .int i
  | .inr x => .str x
abbrev NK := NestedKey
mutual
/-- a nested key as data -/
def nkD : NK → D
  | .none => .non
  | .num i => .int i
  | .text x => .str x
  | .tup ks => .tup (nkDs ks)
def nkDs : List NK → List D
  | [] => []
  | k :: ks => nkD k :: nkDs ks
end
/-- where the classes stand; the world (the hashes of texts) -/
structure Cls where
  c : Nat → Addr
  P : Program
  w : World
inductive Cell where
  | lst (xs : List D)
  | dct (kvs : List (Key × D)) (lk : Bool)
  /-- a dict whose keys are tuples -/
  | dtk (kvs : List (NK × D))
  | ins (c : Nat) (fs : List (Str × D))
  /-- an exception that is kept -/
  | exn (c : Nat) (fs : List (Str × D))
abbrev Store := List Cell
/-- a list that is only read: the script -/
def RoL (K : PySem.W.Frag) (H : Hp) (a : Addr) (vs : List V) : Prop :=
  (∃ o, H a = some (.frz o (.lst vs))) ∨
    ∃ (o : Obj) (its : Array Value) (n : Nat), K.lookup a = some o ∧ o.cls = .type "list" ∧ o.dict = none ∧ o.data = .seq its n ∧ its.size ≤ sizeLine ∧ Vals vs its.toList
theorem RoL.sq {K : PySem.W.Frag} {H : Hp} {a : Addr} {vs : List V} (h : RoL K H a vs) : SqL K H a vs := by
  rcases h with ⟨o, h⟩ | h
  · exact .inl (.inr ⟨o, h⟩)
  · exact .inr h
mutual
def IsD (K : PySem.W.Frag) (H : Hp) (be : List Addr) : D → V → Prop
  | .non, v => v = .non
  | .bl b, v => v = .bl b
  | .int i, v => v = .int i
  | .str x, v => v = .str x
  | .tup xs, v => ∃ a vs, v = .ref a ∧ SqT K H a vs ∧ IsDs K H be xs vs
  | .ref n, v => ∃ a, be[n]? = some a ∧ v = .ref a
  | .ro xs, v => ∃ a vs, v = .ref a ∧ RoL K H a vs ∧ IsDs K H be xs vs
def IsDs (K : PySem.W.Frag) (H : Hp) (be : List Addr) : List D → List V → Prop
  | [], vs => vs = []
  | x :: r, vs => ∃ v w, vs = v :: w ∧ IsD K H be x v ∧ IsDs K H be r w
end
mutual
/-- all cells that it names are below n -/
def D.cl (n : Nat) : D → Prop
  | .tup xs => D.cls n xs
  | .ref m => m < n
  | .ro xs => D.cls n xs
  | _ => True
def D.cls (n : Nat) : List D → Prop
  | [] => True
  | x :: r => D.cl n x ∧ D.cls n r
end
def Cell.cl (n : Nat) : Cell → Prop
  | .lst xs => D.cls n xs
  | .dct kvs _ => D.cls n (kvs.map (·.2))
  | .dtk kvs => D.cls n (kvs.map (·.2))
  | .ins _ fs => D.cls n (fs.map (·.2))
  | .exn _ fs => D.cls n (fs.map (·.2))
/-- no cell names a cell that is not there -/
def WF (mu : Store) : Prop := ∀ (n : Nat) (c : Cell), mu[n]? = some c → c.cl mu.length
section
variable {K : PySem.W.Frag} {H H' : Hp} {be be' : List Addr}
theorem IsDs.len : ∀ {xs : List D} {vs : List V}, IsDs K H be xs vs → xs.length = vs.length
  | [], vs, h => by simp only [IsDs] at h; subst h; rfl
  | x :: r, vs, h => by
    simp only [IsDs] at h
    obtain ⟨v, w, rfl, _, h2⟩ := h
    simp [IsDs.len h2]
theorem IsDs.get : ∀ {xs : List D} {vs : List V} {i : Nat} {x : D}, IsDs K H be xs vs → xs[i]? = some x → ∃ v, vs[i]? = some v ∧ IsD K H be x v
  | [], _, _, _, _, e => by simp at e
  | x :: r, vs, 0, y, h, e => by
    simp only [IsDs] at h
    obtain ⟨v, w, rfl, h1, _⟩ := h
    simp at e; subst e
    exact ⟨v, rfl, h1⟩
  | x :: r, vs, i + 1, y, h, e => by
    simp only [IsDs] at h
    obtain ⟨v, w, rfl, _, h2⟩ := h
    obtain ⟨u, q1, q2⟩ := IsDs.get (i := i) (x := y) h2 (by simpa using e)
    exact ⟨u, by simpa using q1, q2⟩
theorem IsDs.get' {xs : List D} {vs : List V} {i : Nat} {v : V} (h : IsDs K H be xs vs) (e : vs[i]? = some v) : ∃ x, xs[i]? = some x ∧ IsD K H be x v := by
  have hl := h.len
  have hi : i < xs.length := by
    have := (List.getElem?_eq_some_iff.mp e).1
    omega
  obtain ⟨u, q1, q2⟩ := h.get (List.getElem?_eq_getElem hi)
  rw [e] at q1; cases q1
  exact ⟨_, List.getElem?_eq_getElem hi, q2⟩
theorem IsDs.append : ∀ {xs ys : List D} {vs ws : List V}, IsDs K H be xs vs → IsDs K H be ys ws → IsDs K H be (xs ++ ys) (vs ++ ws)
  | [], _, vs, _, h, h2 => by simp only [IsDs] at h; subst h; exact h2
  | x :: r, _, vs, _, h, h2 => by
    simp only [IsDs] at h
    obtain ⟨v, w, rfl, h1, h3⟩ := h
    show IsDs K H be (x :: (r ++ _)) (v :: (w ++ _))
    simp only [IsDs]
    exact ⟨v, _, rfl, h1, IsDs.append h3 h2⟩
theorem IsDs.nil : IsDs K H be [] [] := by simp only [IsDs]
theorem IsDs.cons {x : D} {r : List D} {v : V} {w : List V} (h : IsD K H be x v) (h2 : IsDs K H be r w) : IsDs K H be (x :: r) (v :: w) := by
  simp only [IsDs]
  exact ⟨v, w, rfl, h, h2⟩
theorem IsDs.one {x : D} {v : V} (h : IsD K H be x v) : IsDs K H be [x] [v] := .cons h .nil
theorem IsDs.take : ∀ (n : Nat) {xs : List D} {vs : List V}, IsDs K H be xs vs → IsDs K H be (xs.take n) (vs.take n)
  | 0, _, _, _ => by simpa using IsDs.nil
  | _ + 1, [], vs, h => by simp only [IsDs] at h; subst h; simpa using IsDs.nil
  | n + 1, x :: r, vs, h => by
    simp only [IsDs] at h
    obtain ⟨v, w, rfl, h1, h3⟩ := h
    exact .cons h1 (IsDs.take n h3)
theorem IsDs.drop : ∀ (n : Nat) {xs : List D} {vs : List V}, IsDs K H be xs vs → IsDs K H be (xs.drop n) (vs.drop n)
  | 0, _, _, h => by simpa using h
  | _ + 1, [], vs, h => by simp only [IsDs] at h; subst h; simpa using IsDs.nil
  | n + 1, x :: r, vs, h => by
    simp only [IsDs] at h
    obtain ⟨v, w, rfl, h1, h3⟩ := h
    exact IsDs.drop n h3
theorem IsDs.set : ∀ (i : Nat) {xs : List D} {vs : List V} {x : D} {v : V}, IsDs K H be xs vs → IsD K H be x v → IsDs K H be (xs.set i x) (vs.set i v)
  | _, [], vs, _, _, h, _ => by simp only [IsDs] at h; subst h; simpa using IsDs.nil
  | 0, x :: r, vs, _, _, h, q => by
    simp only [IsDs] at h
    obtain ⟨v, w, rfl, h1, h3⟩ := h
    exact .cons q h3
  | i + 1, x :: r, vs, _, _, h, q => by
    simp only [IsDs] at h
    obtain ⟨v, w, rfl, h1, h3⟩ := h
    exact .cons h1 (IsDs.set i h3 q)
theorem IsDs.rev {xs : List D} {vs : List V} (h : IsDs K H be xs vs) : IsDs K H be xs.reverse vs.reverse := by
  induction xs generalizing vs with
  | nil => simp only [IsDs] at h; subst h; simpa using IsDs.nil
  | cons x r ih =>
    simp only [IsDs] at h
    obtain ⟨v, w, rfl, h1, h3⟩ := h
    rw [List.reverse_cons, List.reverse_cons]
    exact (ih h3).append (.one h1)
theorem IsDs.erase : ∀ (i : Nat) {xs : List D} {vs : List V}, IsDs K H be xs vs → IsDs K H be (xs.eraseIdx i) (vs.eraseIdx i)
  | _, [], vs, h => by simp only [IsDs] at h; subst h; simpa using IsDs.nil
  | 0, x :: r, vs, h => by
    simp only [IsDs] at h
    obtain ⟨v, w, rfl, h1, h3⟩ := h
    exact h3
  | i + 1, x :: r, vs, h => by
    simp only [IsDs] at h
    obtain ⟨v, w, rfl, h1, h3⟩ := h
    exact .cons h1 (IsDs.erase i h3)
mutual
theorem IsD.cl : ∀ {d : D} {v : V}, IsD K H be d v → d.cl be.length
  | .non, _, _ => trivial
  | .bl _, _, _ => trivial
  | .int _, _, _ => trivial
  | .str _, _, _ => trivial
  | .tup xs, v, h => by
    simp only [IsD] at h
    obtain ⟨a, vs, _, _, h⟩ := h
    simp only [D.cl]
    exact IsDs.cl h
  | .ref n, v, h => by
    simp only [IsD] at h
    obtain ⟨a, h, _⟩ := h
    simp only [D.cl]
    exact (List.getElem?_eq_some_iff.mp h).1
  | .ro xs, v, h => by
    simp only [IsD] at h
    obtain ⟨a, vs, _, _, h⟩ := h
    simp only [D.cl]
    exact IsDs.cl h
theorem IsDs.cl : ∀ {xs : List D} {vs : List V}, IsDs K H be xs vs → D.cls be.length xs
  | [], _, _ => trivial
  | x :: r, vs, h => by
    simp only [IsDs] at h
    obtain ⟨v, w, rfl, h1, h2⟩ := h
    simp only [D.cls]
    exact ⟨IsD.cl h1, IsDs.cl h2⟩
end
mutual
/-- carried to another heap and more cells -/
theorem IsD.on (ht : ∀ a xs, SqT K H a xs → SqT K H' a xs) (hr : ∀ a xs, RoL K H a xs → RoL K H' a xs) : ∀ {d : D} {v : V}, (∀ n a, n < be.length → be[n]? = some a → be'[n]? = some a) → IsD K H be d v → IsD K H' be' d v
  | .non, _, _, h => by simpa only [IsD] using h
  | .bl _, _, _, h => by simpa only [IsD] using h
  | .int _, _, _, h => by simpa only [IsD] using h
  | .str _, _, _, h => by simpa only [IsD] using h
  | .tup xs, v, hb, h => by
    simp only [IsD] at h ⊢
    obtain ⟨a, vs, e, q, h⟩ := h
    exact ⟨a, vs, e, ht a vs q, IsDs.on ht hr hb h⟩
  | .ref n, v, hb, h => by
    simp only [IsD] at h ⊢
    obtain ⟨a, h, e⟩ := h
    exact ⟨a, hb n a (List.getElem?_eq_some_iff.mp h).1 h, e⟩
  | .ro xs, v, hb, h => by
    simp only [IsD] at h ⊢
    obtain ⟨a, vs, e, q, h⟩ := h
    exact ⟨a, vs, e, hr a vs q, IsDs.on ht hr hb h⟩
theorem IsDs.on (ht : ∀ a xs, SqT K H a xs → SqT K H' a xs) (hr : ∀ a xs, RoL K H a xs → RoL K H' a xs) : ∀ {xs : List D} {vs : List V}, (∀ n a, n < be.length → be[n]? = some a → be'[n]? = some a) → IsDs K H be xs vs → IsDs K H' be' xs vs
  | [], _, _, h => by simpa only [IsDs] using h
  | x :: r, vs, hb, h => by
    simp only [IsDs] at h ⊢
    obtain ⟨v, w, e, h1, h2⟩ := h
    exact ⟨v, w, e, IsD.on ht hr hb h1, IsDs.on ht hr hb h2⟩
end
mutual
/-- fewer cells, where it names none of the others -/
theorem IsD.less {n : Nat} : ∀ {d : D} {v : V}, d.cl n → IsD K H be d v → IsD K H (be.take n) d v
  | .non, _, _, h => by simpa only [IsD] using h
  | .bl _, _, _, h => by simpa only [IsD] using h
  | .int _, _, _, h => by simpa only [IsD] using h
  | .str _, _, _, h => by simpa only [IsD] using h
  | .tup xs, v, c, h => by
    simp only [IsD] at h ⊢
    simp only [D.cl] at c
    obtain ⟨a, vs, e, q, h⟩ := h
    exact ⟨a, vs, e, q, IsDs.less c h⟩
  | .ref m, v, c, h => by
    simp only [IsD] at h ⊢
    simp only [D.cl] at c
    obtain ⟨a, h, e⟩ := h
    exact ⟨a, by rw [List.getElem?_take_of_lt c]; exact h, e⟩
  | .ro xs, v, c, h => by
    simp only [IsD] at h ⊢
    simp only [D.cl] at c
    obtain ⟨a, vs, e, q, h⟩ := h
    exact ⟨a, vs, e, q, IsDs.less c h⟩
theorem IsDs.less {n : Nat} : ∀ {xs : List D} {vs : List V}, D.cls n xs → IsDs K H be xs vs → IsDs K H (be.take n) xs vs
  | [], _, _, h => by simpa only [IsDs] using h
  | x :: r, vs, c, h => by
    simp only [IsDs] at h ⊢
    simp only [D.cls] at c
    obtain ⟨v, w, e, h1, h2⟩ := h
    exact ⟨v, w, e, IsD.less c.1 h1, IsDs.less c.2 h2⟩
end
end
def IsFs (K : PySem.W.Frag) (H : Hp) (be : List Addr) (fs : List (Str × D)) (gs : List (Str × V)) : Prop :=
  fs.map (·.1) = gs.map (·.1) ∧ IsDs K H be (fs.map (·.2)) (gs.map (·.2))
def IsKs (K : PySem.W.Frag) (H : Hp) (be : List Addr) (fs : List (Key × D)) (gs : List (Key × V)) : Prop :=
  fs.map (·.1) = gs.map (·.1) ∧ IsDs K H be (fs.map (·.2)) (gs.map (·.2))
/-- the dict's entries as they lie -/
def TkO (CT : Cls) (a : Addr) (xs : List (NK × Addr × Value)) : HO := .ext fun h => ∃ o es ep, h.get? a = some o ∧ o.ExactDict ∧ o.data = .dict es ep ∧ es.toList = xs.map (entryOfKey (nestedKind CT.P CT.w)) ∧ (xs.map (·.1)).Nodup ∧ (a == sysModules) = false
def IsTk (K : PySem.W.Frag) (H : Hp) (be : List Addr) (kvs : List (NK × D)) (xs : List (NK × Addr × Value)) : Prop :=
  kvs.map (·.1) = xs.map (·.1) ∧ xs.length ≤ sizeLine ∧ (∃ vs, IsDs K H be (kvs.map (·.2)) vs ∧ Vals vs (xs.map (·.2.2))) ∧ ∀ x ∈ xs, x.1.depth ≤ 8 ∧ IsD K H [] (nkD x.1) (.ref x.2.1)
/-- the cell stands at a; CT: where the classes stand -/
def IsC (K : PySem.W.Frag) (CT : Cls) (H : Hp) (be : List Addr) : Cell → Addr → Prop
  | .lst xs, a => ∃ vs, H a = some (.lst vs) ∧ IsDs K H be xs vs
  | .dct kvs false, a => ∃ gs, H a = some (.dK gs) ∧ IsKs K H be kvs gs
  | .dct kvs true, a => ∃ gs o, H a = some (.frz o (.dK gs)) ∧ IsKs K H be kvs gs
  | .dtk kvs, a => ∃ xs, H a = some (TkO CT a xs) ∧ IsTk K H be kvs xs
  | .ins c fs, a => ∃ dx gs, H a = some (.ins (CT.c c) dx gs) ∧ IsFs K H be fs gs
  | .exn c fs, a => ∃ d, H a = some (MPK.exk a (CT.c c) d) ∧ ((fs = [] ∧ d = none) ∨ ∃ dx gs, d = some dx ∧ H dx = some (.xd gs) ∧ IsFs K H be fs gs)
structure RepS (K : PySem.W.Frag) (CT : Cls) (H : Hp) (be : List Addr) (mu : Store) : Prop where
  len : be.length = mu.length
  at_ : ∀ (n : Nat) (c : Cell), mu[n]? = some c → ∃ a, be[n]? = some a ∧ IsC K CT H be c a
  nd : be.Nodup
/-- the names' values -/
abbrev Sl := List (Option D)
structure RepL (K : PySem.W.Frag) (H : Hp) (be : List Addr) (rh : Sl) (sg : L2.St) : Prop where
  len : rh.length = sg.length
  at_ : ∀ (i : Nat) (d : D), rh[i]? = some (some d) → ∃ v, sg[i]? = some (some v) ∧ IsD K H be d v
def imm0 : HO → Bool
  | .tup _ => true
  | .frz _ (.lst _) => true
  | .frz _ (.tup _) => true
  | .xd _ => true
  | _ => false
/-- what stays: tuples, the script, a dict that is walked -/
def imm : HO → Bool
  | .tup _ => true
  | .frz _ (.lst _) => true
  | .frz _ (.tup _) => true
  | .frz _ (.dK _) => true
  | .xd _ => true
  | _ => false
/-- from one heap with its cells to a later one -/
structure Ext (H H' : Hp) (be be' : List Addr) : Prop where
  pre : be <+: be'
  fr : ∀ b o, H b = some o → (b ∉ be ∨ imm o = true) → H' b = some o
  new : ∀ b ∈ be', b ∈ be ∨ H b = none
section
variable {K : PySem.W.Frag} {CT : Cls} {H H1 H2 H' : Hp} {be be1 be2 be' : List Addr} {mu : Store} {rh : Sl} {sg : L2.St}
theorem Ext.refl : Ext H H be be := ⟨List.prefix_refl _, fun _ _ e _ => e, fun _ h => .inl h⟩
theorem Ext.trans (a : Ext H H1 be be1) (b : Ext H1 H2 be1 be2) : Ext H H2 be be2 where
  pre := a.pre.trans b.pre
  fr := fun c o e h => by
    have e1 := a.fr c o e h
    refine b.fr c o e1 ?_
    rcases h with h | h
    · by_cases hc : c ∈ be1
      · rcases a.new c hc with z | z
        · exact absurd z h
        · rw [e] at z; cases z
      · exact .inl hc
    · exact .inr h
  new := fun c hc => by
    rcases b.new c hc with z | z
    · exact a.new c z
    · cases q : H c with
      | none => exact .inr rfl
      | some o =>
        by_cases hb : c ∈ be
        · exact .inl hb
        · rw [a.fr c o q (.inl hb)] at z; cases z
theorem Ext.tup (x : Ext H H' be be') : ∀ a xs, SqT K H a xs → SqT K H' a xs := fun a xs h => by
  rcases h with (h | ⟨o, h⟩) | h
  · exact .inl (.inl (x.fr _ _ h (.inr rfl)))
  · exact .inl (.inr ⟨o, x.fr _ _ h (.inr rfl)⟩)
  · exact .inr h
theorem Ext.rol (x : Ext H H' be be') : ∀ a xs, RoL K H a xs → RoL K H' a xs := fun a xs h => by
  rcases h with ⟨o, h⟩ | h
  · exact .inl ⟨o, x.fr _ _ h (.inr rfl)⟩
  · exact .inr h
theorem Ext.get (x : Ext H H' be be') : ∀ n a, n < be.length → be[n]? = some a → be'[n]? = some a := fun n a _ e => by
  obtain ⟨r, rfl⟩ := x.pre
  rw [List.getElem?_append_left (List.getElem?_eq_some_iff.mp e).1]
  exact e
theorem Ext.at_ (x : Ext H H' be be') {n : Nat} {a : Addr} (e : be[n]? = some a) : be'[n]? = some a := x.get n a (List.getElem?_eq_some_iff.mp e).1 e
theorem IsD.mono {d : D} {v : V} (x : Ext H H' be be') (h : IsD K H be d v) : IsD K H' be' d v := h.on x.tup x.rol x.get
theorem IsDs.mono {d : List D} {v : List V} (x : Ext H H' be be') (h : IsDs K H be d v) : IsDs K H' be' d v := h.on x.tup x.rol x.get
theorem RepL.mono (x : Ext H H' be be') (h : RepL K H be rh sg) : RepL K H' be' rh sg :=
  ⟨h.len, fun i d e => let ⟨v, e1, e2⟩ := h.at_ i d e; ⟨v, e1, e2.mono x⟩⟩
theorem RepL.set {i : Nat} {d : D} {v : V} (h : RepL K H be rh sg) (q : IsD K H be d v) : RepL K H be (rh.set i (some d)) (sg.set i (some v)) := by
  refine ⟨by rw [List.length_set, List.length_set]; exact h.len, fun j e hj => ?_⟩
  by_cases hji : i = j
  · subst hji
    have hl : i < rh.length := by
      have := (List.getElem?_eq_some_iff.mp hj).1
      rw [List.length_set] at this
      exact this
    rw [List.getElem?_set_self hl] at hj
    cases hj
    exact ⟨v, List.getElem?_set_self (by rw [← h.len]; exact hl), q⟩
  · rw [List.getElem?_set_ne hji] at hj
    obtain ⟨u, h1, h2⟩ := h.at_ j e hj
    exact ⟨u, by rw [List.getElem?_set_ne hji]; exact h1, h2⟩
theorem RepL.setNone {i : Nat} (h : RepL K H be rh sg) : RepL K H be (rh.set i none) (sg.set i none) := by
  refine ⟨by rw [List.length_set, List.length_set]; exact h.len, fun j e hj => ?_⟩
  by_cases hji : i = j
  · subst hji
    have hl : i < rh.length := by
      have := (List.getElem?_eq_some_iff.mp hj).1
      rw [List.length_set] at this
      exact this
    rw [List.getElem?_set_self hl] at hj
    cases hj
  · rw [List.getElem?_set_ne hji] at hj
    obtain ⟨u, h1, h2⟩ := h.at_ j e hj
    exact ⟨u, by rw [List.getElem?_set_ne hji]; exact h1, h2⟩
theorem xd_upd0 {p : Addr} {o u : HO} (hp : H p = some u) (hi : imm0 u = false) : ∀ a fs, H a = some (.xd fs) → upd H p o a = some (.xd fs) := fun a fs h => by
  rw [upd_ne (by rintro rfl; rw [hp] at h; cases h; cases hi)]; exact h
theorem IsTk.on {kvs : List (NK × D)} {xs : List (NK × Addr × Value)} (ht : ∀ a xs, SqT K H a xs → SqT K H' a xs) (hr : ∀ a xs, RoL K H a xs → RoL K H' a xs) (hb : ∀ n a, n < be.length → be[n]? = some a → be'[n]? = some a) (h : IsTk K H be kvs xs) : IsTk K H' be' kvs xs := by
  obtain ⟨a, b, ⟨vs, c, d⟩, e⟩ := h
  exact ⟨a, b, ⟨vs, c.on ht hr hb, d⟩, fun x hx => ⟨(e x hx).1, (e x hx).2.on (be := []) (be' := []) ht hr fun n a hn _ => absurd hn (Nat.not_lt_zero n)⟩⟩
theorem IsTk.mono {kvs : List (NK × D)} {xs : List (NK × Addr × Value)} (x : Ext H H' be be') (h : IsTk K H be kvs xs) : IsTk K H' be' kvs xs := h.on x.tup x.rol x.get
theorem _root_.L2.SqT.upd0 {a p : Addr} {o u : HO} {xs : List V} (h : SqT K H a xs) (hp : H p = some u) (hi : imm0 u = false) : SqT K (upd H p o) a xs := by
  rcases h with (h | ⟨w, h⟩) | h
  · refine .inl (.inl ?_)
    rw [upd_ne (by rintro rfl; rw [hp] at h; cases h; cases hi)]; exact h
  · refine .inl (.inr ⟨w, ?_⟩)
    rw [upd_ne (by rintro rfl; rw [hp] at h; cases h; cases hi)]; exact h
  · exact .inr h
theorem RoL.upd0 {a p : Addr} {o u : HO} {xs : List V} (h : RoL K H a xs) (hp : H p = some u) (hi : imm0 u = false) : RoL K (upd H p o) a xs := by
  rcases h with ⟨w, h⟩ | h
  · refine .inl ⟨w, ?_⟩
    rw [upd_ne (by rintro rfl; rw [hp] at h; cases h; cases hi)]; exact h
  · exact .inr h
/-- a cell whose own object is as it was, the tuples as they were -/
theorem IsC.keep {c : Cell} {a : Addr} (ht : ∀ a xs, SqT K H a xs → SqT K H' a xs) (hr : ∀ a xs, RoL K H a xs → RoL K H' a xs) (hx : ∀ a fs, H a = some (.xd fs) → H' a = some (.xd fs)) (e : ∀ o, H a = some o → H' a = some o) (h : IsC K CT H be c a) : IsC K CT H' be c a := by
  have on1 : ∀ {xs : List D} {vs : List V}, IsDs K H be xs vs → IsDs K H' be xs vs := fun h => h.on ht hr fun _ _ _ q => q
  cases c with
  | lst xs => obtain ⟨vs, h1, h2⟩ := h; exact ⟨vs, e _ h1, on1 h2⟩
  | dct kvs lk =>
    cases lk with
    | false => obtain ⟨gs, h1, h2, h3⟩ := h; exact ⟨gs, e _ h1, h2, on1 h3⟩
    | true => obtain ⟨gs, o, h1, h2, h3⟩ := h; exact ⟨gs, o, e _ h1, h2, on1 h3⟩
  | dtk kvs => obtain ⟨xs, h1, h2⟩ := h; exact ⟨xs, e _ h1, h2.on ht hr fun _ _ _ q => q⟩
  | ins c fs => obtain ⟨dx, gs, h1, h2, h3⟩ := h; exact ⟨dx, gs, e _ h1, h2, on1 h3⟩
  | exn c fs => obtain ⟨d, h1, h2⟩ := h; exact ⟨d, e _ h1, h2.imp id fun ⟨dx, gs, q1, q2, q3, q4⟩ => ⟨dx, gs, q1, hx _ _ q2, q3, on1 q4⟩⟩
/-- a cell whose own object is as it was -/
theorem IsC.mono {c : Cell} {a : Addr} (x : Ext H H' be be') (e : ∀ o, H a = some o → H' a = some o) (h : IsC K CT H be c a) : IsC K CT H' be' c a := by
  cases c with
  | lst xs => obtain ⟨vs, h1, h2⟩ := h; exact ⟨vs, e _ h1, h2.mono x⟩
  | dct kvs lk =>
    cases lk with
    | false => obtain ⟨gs, h1, h2, h3⟩ := h; exact ⟨gs, e _ h1, h2, h3.mono x⟩
    | true => obtain ⟨gs, o, h1, h2, h3⟩ := h; exact ⟨gs, o, e _ h1, h2, h3.mono x⟩
  | dtk kvs => obtain ⟨xs, h1, h2⟩ := h; exact ⟨xs, e _ h1, h2.mono x⟩
  | ins c fs => obtain ⟨dx, gs, h1, h2, h3⟩ := h; exact ⟨dx, gs, e _ h1, h2, h3.mono x⟩
  | exn c fs => obtain ⟨d, h1, h2⟩ := h; exact ⟨d, e _ h1, h2.imp id fun ⟨dx, gs, q1, q2, q3, q4⟩ => ⟨dx, gs, q1, x.fr _ _ q2 (.inr rfl), q3, q4.mono x⟩⟩
theorem IsC.held {c : Cell} {a : Addr} (h : IsC K CT H be c a) : ∃ o, H a = some o := by
  cases c with
  | lst xs => obtain ⟨vs, h1, h2⟩ := h; exact ⟨_, h1⟩
  | dct kvs lk =>
    cases lk with
    | false => obtain ⟨gs, h1, h2, h3⟩ := h; exact ⟨_, h1⟩
    | true => obtain ⟨gs, o, h1, h2, h3⟩ := h; exact ⟨_, h1⟩
  | dtk kvs => obtain ⟨xs, h1, h2⟩ := h; exact ⟨_, h1⟩
  | ins c fs => obtain ⟨dx, gs, h1, h2, h3⟩ := h; exact ⟨_, h1⟩
  | exn c fs => obtain ⟨d, h1, h2⟩ := h; exact ⟨_, h1⟩
theorem RepS.mem (S : RepS K CT H be mu) {a : Addr} (h : a ∈ be) : ∃ o, H a = some o := by
  obtain ⟨n, hn⟩ := List.getElem?_of_mem h
  have hl : n < mu.length := by rw [← S.len]; exact (List.getElem?_eq_some_iff.mp hn).1
  obtain ⟨b, h1, h2⟩ := S.at_ n _ (List.getElem?_eq_getElem hl)
  rw [hn] at h1; cases h1
  exact h2.held
theorem RepS.out (S : RepS K CT H be mu) {p : Addr} (hp : H p = none) : p ∉ be := fun h => by
  obtain ⟨o, e⟩ := S.mem h
  rw [hp] at e; cases e
theorem RepS.get (S : RepS K CT H be mu) {n : Nat} {a : Addr} {c : Cell} (hb : be[n]? = some a) (hc : mu[n]? = some c) : IsC K CT H be c a := by
  obtain ⟨b, e, h⟩ := S.at_ n c hc
  rw [hb] at e; cases e
  exact h
/-- a new object that is no cell -/
theorem Ext.fresh {p : Addr} {o : HO} (hp : H p = none) : Ext H (upd H p o) be be :=
  ⟨List.prefix_refl _, fun b u e _ => by rw [upd_ne (ne_of_none e hp)]; exact e, fun _ h => .inl h⟩
theorem RepS.fresh {p : Addr} {o : HO} (S : RepS K CT H be mu) (hp : H p = none) : RepS K CT (upd H p o) be mu :=
  ⟨S.len, fun n c e => let ⟨a, e1, e2⟩ := S.at_ n c e; ⟨a, e1, e2.mono (.fresh hp) fun u q => by rw [upd_ne (ne_of_none q hp)]; exact q⟩, S.nd⟩
/-- an object that is no cell becomes one -/
theorem RepS.adopt {p : Addr} {c : Cell} (S : RepS K CT H be mu) (hp : p ∉ be) (hc : IsC K CT H (be ++ [p]) c p) : RepS K CT H (be ++ [p]) (mu ++ [c]) := by
  have x : Ext H H be (be ++ [p]) → True := fun _ => trivial
  have gt : ∀ n a, n < be.length → be[n]? = some a → (be ++ [p])[n]? = some a := fun n a hn e => by rw [List.getElem?_append_left hn]; exact e
  refine ⟨by simp [S.len], fun n e h => ?_, ?_⟩
  · by_cases hn : n < mu.length
    · rw [List.getElem?_append_left hn] at h
      obtain ⟨a, e1, e2⟩ := S.at_ n e h
      refine ⟨a, gt n a (List.getElem?_eq_some_iff.mp e1).1 e1, ?_⟩
      have on1 : ∀ {xs : List D} {vs : List V}, IsDs K H be xs vs → IsDs K H (be ++ [p]) xs vs := fun h => h.on (fun _ _ q => q) (fun _ _ q => q) gt
      cases e with
      | lst xs => obtain ⟨vs, h1, h2⟩ := e2; exact ⟨vs, h1, on1 h2⟩
      | dct kvs lk =>
        cases lk with
        | false => obtain ⟨gs, h1, h2, h3⟩ := e2; exact ⟨gs, h1, h2, on1 h3⟩
        | true => obtain ⟨gs, o, h1, h2, h3⟩ := e2; exact ⟨gs, o, h1, h2, on1 h3⟩
      | dtk kvs => obtain ⟨xs, h1, h2⟩ := e2; exact ⟨xs, h1, h2.on (fun _ _ q => q) (fun _ _ q => q) gt⟩
      | ins c fs => obtain ⟨dx, gs, h1, h2, h3⟩ := e2; exact ⟨dx, gs, h1, h2, on1 h3⟩
      | exn c fs => obtain ⟨d, h1, h2⟩ := e2; exact ⟨d, h1, h2.imp id fun ⟨dx, gs, q1, q2, q3, q4⟩ => ⟨dx, gs, q1, q2, q3, on1 q4⟩⟩
    · rw [List.getElem?_append_right (by omega)] at h
      have hl := (List.getElem?_eq_some_iff.mp h).1
      simp at hl
      have e0 : n - mu.length = 0 := by omega
      rw [e0] at h
      simp at h
      subst h
      refine ⟨p, ?_, hc⟩
      have : n = be.length := by rw [S.len]; omega
      rw [this]; simp
  · rw [List.nodup_append]
    refine ⟨S.nd, by simp, fun a ha b hb => ?_⟩
    have e : b = p := by simpa using hb
    rw [e]
    exact fun z => hp (z ▸ ha)
/-- a new cell -/
theorem Ext.cell {p : Addr} {o : HO} (hp : H p = none) : Ext H (upd H p o) be (be ++ [p]) :=
  ⟨List.prefix_append _ _, fun b u e _ => by rw [upd_ne (ne_of_none e hp)]; exact e, fun b h => by
    rcases List.mem_append.mp h with h | h
    · exact .inl h
    · have e : b = p := by simpa using h
      rw [e]; exact .inr hp⟩
theorem RepS.cell {p : Addr} {o : HO} {c : Cell} (S : RepS K CT H be mu) (hp : H p = none) (hc : IsC K CT (upd H p o) (be ++ [p]) c p) : RepS K CT (upd H p o) (be ++ [p]) (mu ++ [c]) :=
  (S.fresh hp).adopt (S.out hp) hc
/-- a cell is written -/
theorem Ext.write {n : Nat} {p : Addr} {o u : HO} (hb : be[n]? = some p) (hp : H p = some u) (hi : imm u = false) : Ext H (upd H p o) be be :=
  ⟨List.prefix_refl _, fun b w e h => by
    have hne : b ≠ p := by
      rintro rfl
      rcases h with h | h
      · exact h (List.mem_of_getElem? hb)
      · rw [e] at hp; cases hp; rw [hi] at h; cases h
    rw [upd_ne hne]; exact e, fun _ h => .inl h⟩
theorem RepS.write {n : Nat} {p : Addr} {o u : HO} {c : Cell} (S : RepS K CT H be mu) (hb : be[n]? = some p) (hp : H p = some u) (hi : imm0 u = false) (hc : IsC K CT (upd H p o) be c p) :
    RepS K CT (upd H p o) be (mu.set n c) := by
  have tp : ∀ a xs, SqT K H a xs → SqT K (upd H p o) a xs := fun a xs h => h.upd0 hp hi
  have rp : ∀ a xs, RoL K H a xs → RoL K (upd H p o) a xs := fun a xs h => h.upd0 hp hi
  have hl : n < mu.length := by rw [← S.len]; exact (List.getElem?_eq_some_iff.mp hb).1
  refine ⟨by simp [S.len], fun m e h => ?_, S.nd⟩
  by_cases hm : m = n
  · subst hm
    rw [List.getElem?_set_self hl] at h
    cases h
    exact ⟨p, hb, hc⟩
  · rw [List.getElem?_set_ne (Ne.symm hm)] at h
    obtain ⟨a, z1, z2⟩ := S.at_ m e h
    have hap : a ≠ p := fun z => hm (by
      rw [z] at z1
      exact nd_ix S.nd z1 hb)
    exact ⟨a, z1, z2.keep tp rp (xd_upd0 hp hi) fun w q => by rw [upd_ne hap]; exact q⟩
/-- an object that is no cell, and no tuple, is written -/
theorem RepS.beside {p : Addr} {o u : HO} (S : RepS K CT H be mu) (hb : p ∉ be) (hp : H p = some u) (hi : imm0 u = false) : RepS K CT (upd H p o) be mu := by
  refine ⟨S.len, fun n c e => ?_, S.nd⟩
  obtain ⟨a, e1, e2⟩ := S.at_ n c e
  have na : a ≠ p := fun z => hb (z ▸ List.mem_of_getElem? e1)
  exact ⟨a, e1, e2.keep (fun a xs h => h.upd0 hp hi) (fun a xs h => h.upd0 hp hi) (xd_upd0 hp hi) fun w q => by rw [upd_ne na]; exact q⟩
theorem IsDs.beside {p : Addr} {o u : HO} {xs : List D} {vs : List V} (hp : H p = some u) (hi : imm0 u = false) (h : IsDs K H be xs vs) : IsDs K (upd H p o) be xs vs :=
  h.on (fun a xs h => h.upd0 hp hi) (fun a xs h => h.upd0 hp hi) fun _ _ _ q => q
theorem IsC.cl {c : Cell} {a : Addr} (h : IsC K CT H be c a) : c.cl be.length := by
  cases c with
  | lst xs => obtain ⟨vs, h1, h2⟩ := h; exact h2.cl
  | dct kvs lk =>
    cases lk with
    | false => obtain ⟨gs, h1, h2, h3⟩ := h; exact h3.cl
    | true => obtain ⟨gs, o, h1, h2, h3⟩ := h; exact h3.cl
  | dtk kvs => obtain ⟨xs, h1, h2, _, ⟨vs, h3, _⟩, _⟩ := h; exact h3.cl
  | ins c fs => obtain ⟨dx, gs, h1, h2, h3⟩ := h; exact h3.cl
  | exn c fs =>
    obtain ⟨d, h1, h2⟩ := h
    rcases h2 with ⟨rfl, _⟩ | ⟨dx, gs, q1, q2, q3, q4⟩
    · exact True.intro
    · exact q4.cl
theorem RepS.wf (S : RepS K CT H be mu) : WF mu := fun n c e => by
  obtain ⟨a, _, h⟩ := S.at_ n c e
  rw [← S.len]
  exact h.cl
theorem IsC.less {n : Nat} {c : Cell} {a : Addr} (hc : c.cl n) (h : IsC K CT H be c a) : IsC K CT H (be.take n) c a := by
  cases c with
  | lst xs => obtain ⟨vs, h1, h2⟩ := h; exact ⟨vs, h1, h2.less hc⟩
  | dct kvs lk =>
    cases lk with
    | false => obtain ⟨gs, h1, h2, h3⟩ := h; exact ⟨gs, h1, h2, h3.less hc⟩
    | true => obtain ⟨gs, o, h1, h2, h3⟩ := h; exact ⟨gs, o, h1, h2, h3.less hc⟩
  | dtk kvs => obtain ⟨xs, h1, h2, h4, ⟨vs, h3, h5⟩, h6⟩ := h; exact ⟨xs, h1, h2, h4, ⟨vs, h3.less hc, h5⟩, h6⟩
  | ins c fs => obtain ⟨dx, gs, h1, h2, h3⟩ := h; exact ⟨dx, gs, h1, h2, h3.less hc⟩
  | exn c fs => obtain ⟨d, h1, h2⟩ := h; exact ⟨d, h1, h2.imp id fun ⟨dx, gs, q1, q2, q3, q4⟩ => ⟨dx, gs, q1, q2, q3, q4.less hc⟩⟩
/-- the later cells forgotten -/
theorem RepS.forget {nu : Store} (S : RepS K CT H be mu) (hp : nu <+: mu) (hw : WF nu) : RepS K CT H (be.take nu.length) nu := by
  obtain ⟨g, rfl⟩ := hp
  refine ⟨?_, fun n c e => ?_, S.nd.sublist (List.take_sublist _ _)⟩
  · rw [List.length_take, S.len, List.length_append]; omega
  · have gt : (nu ++ g)[n]? = some c := by rw [List.getElem?_append_left (List.getElem?_eq_some_iff.mp e).1]; exact e
    obtain ⟨a, e1, e2⟩ := S.at_ n c gt
    exact ⟨a, by rw [List.getElem?_take_of_lt (List.getElem?_eq_some_iff.mp e).1]; exact e1, e2.less (hw n c e)⟩
theorem Ext.forget {n : Nat} (x : Ext H H' be be') (hn : be.length ≤ n) : Ext H H' be (be'.take n) where
  pre := by
    obtain ⟨r, rfl⟩ := x.pre
    rw [List.take_append]
    rw [List.take_of_length_le hn]
    exact List.prefix_append _ _
  fr := x.fr
  new := fun b h => x.new b (List.mem_of_mem_take h)
end
end MP
namespace MP
open PySem PySem.Spec PyProof.Rows L2
/-- an exception of the program's own: its class, its fields -/
structure Exc where
  c : Nat
  fs : List (Str × D)
abbrev QD := D → Store → Prop
abbrev QX := Exc → Store → Prop
/-- a def's promise -/
abbrev DSp := List D → Store → QD → QX → Prop
/-- types that isinstance asks for -/
inductive Ty where
  | int | str | bool | tuple | list | dict
  deriving DecidableEq
inductive O1 where
  | neg | len | abs | int | str | tuple | list | all | any | sum | repr | isinst (t : Ty) | isN | notN | isF | isT | upper | sorted | pop | lenset | sortset | lrng | trng | rev | rev0 | dictc | isx (ans : List Bool) | fld (f : Str) (k : Nat) | isv (k : Nat) | isxt (ans : List Bool) | sortd | reprd
  deriving DecidableEq
inductive O2 where
  | add | sub | mul | fdiv | mod | pow | eq | ne | lt | le | gt | ge | inn | nin | max | min | ix | join | append | extend | popAt | shl | band | bor | eqd | ned | lrng | trng | get1 | update | index | count | split | ind | nind
  deriving DecidableEq
inductive O3 where
  | get2 | setd
  deriving DecidableEq
def D.isNon : D → Bool
  | .non => true
  | _ => false
mutual
/-- as PyData, where it names no cell -/
def D.py : D → PyData
  | .non => .none
  | .bl b => .bool b
  | .int i => .int i
  | .str x => .str x
  | .tup xs => .tuple (D.pys xs)
  | .ref _ => .none
  | .ro _ => .none
def D.pys : List D → List PyData
  | [] => []
  | x :: r => D.py x :: D.pys r
end
mutual
/-- it names no cell -/
def D.pure : D → Bool
  | .tup xs => D.pures xs
  | .ref _ => false
  | .ro _ => false
  | _ => true
def D.pures : List D → Bool
  | [] => true
  | x :: r => D.pure x && D.pures r
end
/-- data that may be compared: no cell, not too deep -/
def D.flat (d : D) : Bool := d.pure && SeqAt.shaped d.py
def eqP (x y : D) : Bool := PyData.eqv x.py y.py
mutual
/-- data through the cells -/
inductive Deep (mu : Store) : D → PyData → Prop
  | non : Deep mu .non .none
  | bl (b : Bool) : Deep mu (.bl b) (.bool b)
  | int (i : Int) : Deep mu (.int i) (.int i)
  | str (x : Str) : Deep mu (.str x) (.str x)
  | tup {xs : List D} {ps : List PyData} : Deeps mu xs ps → Deep mu (.tup xs) (.tuple ps)
  | lst {n : Nat} {xs : List D} {ps : List PyData} : mu[n]? = some (.lst xs) → Deeps mu xs ps → Deep mu (.ref n) (.list ps)
  | ro {xs : List D} {ps : List PyData} : Deeps mu xs ps → Deep mu (.ro xs) (.list ps)
inductive Deeps (mu : Store) : List D → List PyData → Prop
  | nil : Deeps mu [] []
  | cons {x : D} {p : PyData} {xs : List D} {ps : List PyData} : Deep mu x p → Deeps mu xs ps → Deeps mu (x :: xs) (p :: ps)
end
/-- a key as data -/
def keyP : Key → PyData
  | .inl i => .int i
  | .inr x => .str x
mutual
/-- data through the cells, dicts too -/
inductive DeepK (mu : Store) : D → PyData → Prop
  | non : DeepK mu .non .none
  | bl (b : Bool) : DeepK mu (.bl b) (.bool b)
  | int (i : Int) : DeepK mu (.int i) (.int i)
  | str (x : Str) : DeepK mu (.str x) (.str x)
  | tup {xs : List D} {ps : List PyData} : DeepsK mu xs ps → DeepK mu (.tup xs) (.tuple ps)
  | lst {n : Nat} {xs : List D} {ps : List PyData} : mu[n]? = some (.lst xs) → DeepsK mu xs ps → DeepK mu (.ref n) (.list ps)
  | ro {xs : List D} {ps : List PyData} : DeepsK mu xs ps → DeepK mu (.ro xs) (.list ps)
  | dct {n : Nat} {kvs : List (Key × D)} {lk : Bool} {ps : List PyData} : mu[n]? = some (.dct kvs lk) → DeepsK mu (kvs.map (·.2)) ps → DeepK mu (.ref n) (.dict ((kvs.map fun p => keyP p.1).zip ps))
inductive DeepsK (mu : Store) : List D → List PyData → Prop
  | nil : DeepsK mu [] []
  | cons {x : D} {p : PyData} {xs : List D} {ps : List PyData} : DeepK mu x p → DeepsK mu xs ps → DeepsK mu (x :: xs) (p :: ps)
end
/-- keys -/
def keyOf : D → Option Key
  | .int i => some (.inl i)
  | .str x => some (.inr x)
  | _ => none
mutual
def nkOf : D → Option NK
  | .non => some .none
  | .int i => some (.num i)
  | .str x => some (.text x)
  | .tup xs => (nkOfs xs).map .tup
  | _ => none
def nkOfs : List D → Option (List NK)
  | [] => some []
  | x :: r => match nkOf x with
    | some k => (nkOfs r).map (k :: ·)
    | none => none
end
/-- a tuple as a key -/
def tkOf : D → Option NK
  | .tup xs => match nkOf (.tup xs) with
    | some k => if k.depth ≤ 8 then some k else none
    | none => none
  | _ => none
def valD {κ : Type} [DecidableEq κ] (kvs : List (κ × D)) (k : κ) : Option D := (kvs.find? fun p => decide (p.1 = k)).map (·.2)
def putD {κ : Type} [DecidableEq κ] (kvs : List (κ × D)) (k : κ) (v : D) : List (κ × D) := if kvs.any (fun p => decide (p.1 = k)) then kvs.map fun p => if p.1 = k then (p.1, v) else p else kvs ++ [(k, v)]
def mergeD {κ : Type} [DecidableEq κ] (kvs more : List (κ × D)) : List (κ × D) := more.foldl (fun m p => putD m p.1 p.2) kvs
def onKey (d : D) (k : Key → Prop) : Prop := match keyOf d with
  | some x => k x
  | none => False
def onNK (d : D) (k : NK → Prop) : Prop := match tkOf d with
  | some x => k x
  | none => False
/-- what a dict that stands in a cell holds at a key -/
def getAt (mu : Store) (n : Nat) (y : D) (Q : Option D → Prop) : Prop := match mu[n]? with
  | some (.dct kvs _) => onKey y fun k => Q (valD kvs k)
  | some (.dtk kvs) => onNK y fun k => Q (valD kvs k)
  | _ => False
/-- a dict in a cell is written -/
def putAt (mu : Store) (n : Nat) (y v : D) (Q : Store → Prop) : Prop := match mu[n]? with
  | some (.dct kvs false) => onKey y fun k => kvs.length < sizeLine ∧ Q (mu.set n (.dct (putD kvs k v) false))
  | some (.dtk kvs) => onNK y fun k => kvs.length < sizeLine ∧ Q (mu.set n (.dtk (putD kvs k v)))
  | _ => False
def dctAt (mu : Store) (n : Nat) (Q : List (Key × D) → Bool → Prop) : Prop := match mu[n]? with
  | some (.dct kvs lk) => Q kvs lk
  | _ => False
def onSome (o : Option D) (k : D → Prop) : Prop := match o with
  | some v => k v
  | none => False
/-- the items of a list that stands in a cell -/
def lstAt (mu : Store) (n : Nat) (Q : List D → Prop) : Prop :=
  match mu[n]? with
  | some (.lst xs) => Q xs
  | _ => False
/-- the items of a list -/
def listAt (d : D) (mu : Store) (Q : List D → Prop) : Prop :=
  match d with
  | .ref n => lstAt mu n Q
  | .ro xs => Q xs
  | _ => False
/-- the items of a list or a tuple -/
def seqAt (d : D) (mu : Store) (Q : List D → Prop) : Prop :=
  match d with
  | .tup xs => Q xs
  | .ref n => lstAt mu n Q
  | .ro xs => Q xs
  | _ => False
def newLst (xs : List D) (mu : Store) (Q : QD) : Prop := Q (.ref mu.length) (mu ++ [.lst xs])
/-- small numbers -/
def small (j : Int) : Prop := -(2 ^ 20) < j ∧ j < 2 ^ 20
def sizeT (n : Nat) : Prop := n ≤ sizeLine
def cpsLt (x y : Str) : Bool := decide (x.cps.toList < y.cps.toList)
def isTy : Ty → D → Store → (Bool → Prop) → Prop
  | .int, .int _, _, k => k true
  | .int, .bl _, _, k => k true
  | .bool, .bl _, _, k => k true
  | .str, .str _, _, k => k true
  | .tuple, .tup _, _, k => k true
  | t, .ref n, mu, k => match mu[n]? with
    | some (.lst _) => k (t == .list)
    | some (.dct _ _) => k (t == .dict)
    | _ => False
  | t, .ro _, _, k => k (t == .list)
  | _, _, _, k => k false
def allBl : List D → Option (List Bool)
  | [] => some []
  | .bl b :: r => (allBl r).map (b :: ·)
  | _ :: _ => none
def allInt : List D → Option (List Int)
  | [] => some []
  | .int b :: r => (allInt r).map (b :: ·)
  | _ :: _ => none
def allStr : List D → Option (List Str)
  | [] => some []
  | .str b :: r => (allStr r).map (b :: ·)
  | _ :: _ => none
def onBl (xs : List D) (k : List Bool → Prop) : Prop := match allBl xs with
  | some bs => k bs
  | none => False
def onInt (xs : List D) (k : List Int → Prop) : Prop := match allInt xs with
  | some bs => k bs
  | none => False
def onStr (xs : List D) (k : List Str → Prop) : Prop := match allStr xs with
  | some bs => k bs
  | none => False
/-- a truth value, an int -/
def onB (d : D) (k : Bool → Prop) : Prop := match d with
  | .bl b => k b
  | _ => False
def onI (d : D) (k : Int → Prop) : Prop := match d with
  | .int i => k i
  | _ => False
def pairOf : D → Option (Key × D)
  | .tup [k, v] => (keyOf k).map fun k => (k, v)
  | _ => none
def allPair : List D → Option (List (Key × D))
  | [] => some []
  | x :: r => match pairOf x with
    | some p => (allPair r).map (p :: ·)
    | none => none
def onPairs (xs : List D) (k : List (Key × D) → Prop) : Prop := match allPair xs with
  | some bs => k bs
  | none => False
/-- a display's keys and values, one by one -/
def dispOf : List D → Option (List (Key × D))
  | [] => some []
  | k :: v :: r => match keyOf k with
    | some x => (dispOf r).map ((x, v) :: ·)
    | none => none
  | _ => none
def onDisp (xs : List D) (k : List (Key × D) → Prop) : Prop := match dispOf xs with
  | some bs => k bs
  | none => False
/-- data that may be sorted -/
def SortOk (xs : List D) : Prop := xs.length ≤ sizeLine ∧ D.pures xs = true ∧ PySem.W.AllAlike (D.pys xs) ∧ PySem.W.Sortable (D.pys xs) ∧ PyData.depthAll (D.pys xs) ≤ 64
def sortD (xs : List D) : List D := xs.mergeSort (PySem.W.dataLe false D.py)
def intsD (lo : Int) (n : Nat) : List D := (List.range n).map fun i => .int (lo + (i : Nat))
def w1 (o : O1) (x : D) (mu : Store) (Q : QD) : Prop :=
  match o with
  | .neg => match x with
    | .int i => Q (.int (-i)) mu
    | _ => False
  | .len => match x with
    | .str z => sizeT z.length ∧ Q (.int z.length) mu
    | .tup xs => Q (.int xs.length) mu
    | .ro xs => Q (.int xs.length) mu
    | .ref n => match mu[n]? with
      | some (.lst xs) => Q (.int xs.length) mu
      | some (.dct kvs _) => Q (.int kvs.length) mu
      | some (.dtk kvs) => Q (.int kvs.length) mu
      | _ => False
    | _ => False
  | .abs => match x with
    | .int i => Q (.int (if i < 0 then -i else i)) mu
    | _ => False
  | .int => match x with
    | .int i => Q (.int i) mu
    | .bl b => Q (.int (if b then 1 else 0)) mu
    | _ => False
  | .str => match x with
    | .int i => i.natAbs.log2 < 1920 ∧ Q (.str (toString i)) mu
    | .bl b => Q (.str (if b then "True" else "False")) mu
    | _ => False
  | .tuple => seqAt x mu fun xs => Q (.tup xs) mu
  | .list => seqAt x mu fun xs => newLst xs mu Q
  | .all => listAt x mu fun xs => onBl xs fun bs => Q (.bl (bs.all id)) mu
  | .any => listAt x mu fun xs => onBl xs fun bs => Q (.bl (bs.any id)) mu
  | .sum => listAt x mu fun xs => onInt xs fun ns => Q (.int ns.sum) mu
  | .repr => ∃ p, Deep mu x p ∧ p.showable = true ∧ p.depth ≤ 64 ∧ sizeT p.shown.length ∧ Q (.str p.shown) mu
  | .reprd => ∃ p, DeepK mu x p ∧ p.showable = true ∧ p.depth ≤ 64 ∧ sizeT p.shown.length ∧ Q (.str p.shown) mu
  | .isinst t => isTy t x mu fun b => Q (.bl b) mu
  | .isN => Q (.bl x.isNon) mu
  | .notN => Q (.bl (!x.isNon)) mu
  | .isF => match x with
    | .bl b => Q (.bl (!b)) mu
    | _ => False
  | .isT => match x with
    | .bl b => Q (.bl b) mu
    | _ => False
  | .upper => match x with
    | .str z => z.length ≤ 5592405 ∧ Q (.str (Txt.upper z)) mu
    | _ => False
  | .sorted => listAt x mu fun xs => SortOk xs ∧ newLst (sortD xs) mu Q
  | .pop => match x with
    | .ref n => lstAt mu n fun xs => ∃ y, xs[xs.length - 1]? = some y ∧ Q y (mu.set n (.lst xs.dropLast))
    | _ => False
  | .lenset => seqAt x mu fun xs => ∃ zs : List Str, xs = zs.map .str ∧ zs.length < 63 ∧ ∀ ys : List Str, ys.Nodup → (∀ z, z ∈ ys ↔ z ∈ zs) → Q (.int (ys.length : Nat)) mu
  | .sortset => seqAt x mu fun xs => ∃ zs : List Str, xs = zs.map .str ∧ zs.length < 63 ∧ ∀ ys : List Str, sortedS ys = true → ys.Nodup → (∀ z, z ∈ ys ↔ z ∈ zs) → newLst (ys.map .str) mu Q
  | .isx ans => match x with
    | .ref n => match mu[n]? with
      | some (.exn c _) => match ans[c]? with
        | some b => Q (.bl b) mu
        | none => False
      | _ => False
    | _ => False
  | .isv k => match x with
    | .ref n => match mu[n]? with
      | some (.exn c _) => c < k ∧ Q (.bl true) mu
      | _ => False
    | _ => False
  | .isxt ans => match x with
    | .ref n => match mu[n]? with
      | some (.exn c _) => match ans[c]? with
        | some b => Q (.bl b) mu
        | none => False
      | _ => False
    | _ => False
  | .sortd => match x with
    | .ref n => dctAt mu n fun kvs _ => ∃ ks : List Str, kvs.map (·.1) = ks.map Sum.inr ∧ ks.length < 64 ∧ ∀ ys : List Str, ys.Perm ks → sortedS ys = true → newLst (ys.map .str) mu Q
    | _ => False
  | .fld f k => match x with
    | .ref n => match mu[n]? with
      | some (.exn c fs) => match fs.lookup f with
        | some d => c < k ∧ Q d mu
        | none => False
      | _ => False
    | _ => False
  | .lrng => match x with
    | .int j => small j ∧ newLst (intsD 0 j.toNat) mu Q
    | _ => False
  | .trng => match x with
    | .int j => small j ∧ Q (.tup (intsD 0 j.toNat)) mu
    | _ => False
  | .rev => match x with
    | .tup xs => Q (.tup xs.reverse) mu
    | .ref n => lstAt mu n fun xs => newLst xs.reverse mu Q
    | _ => False
  | .rev0 => match x with
    | .tup xs => Q (.tup (xs.drop 1).reverse) mu
    | _ => False
  | .dictc => match x with
    | .ref n => match mu[n]? with
      | some (.dct kvs _) => Q (.ref mu.length) (mu ++ [.dct kvs false])
      | some (.lst xs) => onPairs xs fun kvs => Q (.ref mu.length) (mu ++ [.dct (mergeD [] kvs) false])
      | _ => False
    | _ => False
/-- the item at an int place -/
def itemAt (xs : List D) (i : Int) (k : D → Prop) : Prop := match atI xs i with
  | some v => k v
  | none => False
def w2 (o : O2) (x y : D) (mu : Store) (Q : QD) : Prop :=
  match o with
  | .add => match x, y with
    | .int i, .int j => Q (.int (i + j)) mu
    | .bl b, .int j => Q (.int ((if b = true then 1 else 0) + j)) mu
    | .str a, .str b => sizeT (a.length + b.length) ∧ Q (.str (a ++ b)) mu
    | .tup a, .tup b => sizeT (a.length + b.length) ∧ Q (.tup (a ++ b)) mu
    | .ref n, .ref m => lstAt mu n fun xs => lstAt mu m fun ys => sizeT (xs.length + ys.length) ∧ newLst (xs ++ ys) mu Q
    | _, _ => False
  | .sub => match x, y with
    | .int i, .int j => Q (.int (i - j)) mu
    | .bl b, .int j => Q (.int ((if b = true then 1 else 0) - j)) mu
    | _, _ => False
  | .mul => match x, y with
    | .int i, .int j => IntMulOk i j ∧ Q (.int (i * j)) mu
    | .str a, .int k => small k ∧ sizeT (a.length * k.toNat) ∧ Q (.str ⟨(List.replicate k.toNat a.cps.toList).flatten.toArray⟩) mu
    | .tup a, .int k => small k ∧ sizeT (a.length * k.toNat) ∧ Q (.tup (List.replicate k.toNat a).flatten) mu
    | .ref n, .int k => lstAt mu n fun xs => small k ∧ sizeT (xs.length * k.toNat) ∧ newLst (List.replicate k.toNat xs).flatten mu Q
    | _, _ => False
  | .fdiv => match x, y with
    | .int i, .int j => (0 < j ∧ j < 2 ^ 30) ∧ Q (.int (i / j)) mu
    | _, _ => False
  | .mod => match x, y with
    | .int i, .int j => 0 < j ∧ Q (.int (i % j)) mu
    | _, _ => False
  | .pow => match x, y with
    | .int i, .int j => (0 ≤ j ∧ (Builtin.Int.intBits i : Int) * j ≤ 2 ^ 27) ∧ Q (.int (i ^ j.toNat)) mu
    | _, _ => False
  | .eq => match x, y with
    | .str a, .str b => Q (.bl (decide (a = b))) mu
    | .int i, .int j => Q (.bl (decide (i = j))) mu
    | .tup xs, .tup [] => Q (.bl xs.isEmpty) mu
    | .ref n, .ref m => lstAt mu n fun xs => lstAt mu m fun ys => (D.tup xs).flat = true ∧ (D.tup ys).flat = true ∧ Q (.bl (eqP (.tup xs) (.tup ys))) mu
    | x, y => x.flat = true ∧ y.flat = true ∧ Q (.bl (eqP x y)) mu
  | .ne => match x, y with
    | .str a, .str b => Q (.bl (!decide (a = b))) mu
    | .int i, .int j => Q (.bl (!decide (i = j))) mu
    | .tup xs, .tup [] => Q (.bl (!xs.isEmpty)) mu
    | .ref n, .ref m => lstAt mu n fun xs => lstAt mu m fun ys => (D.tup xs).flat = true ∧ (D.tup ys).flat = true ∧ Q (.bl (!eqP (.tup xs) (.tup ys))) mu
    | x, y => x.flat = true ∧ y.flat = true ∧ Q (.bl (!eqP x y)) mu
  | .lt => match x, y with
    | .int i, .int j => Q (.bl (decide (i < j))) mu
    | .str a, .str b => Q (.bl (cpsLt a b)) mu
    | _, _ => False
  | .le => match x, y with
    | .int i, .int j => Q (.bl (decide (i ≤ j))) mu
    | .str a, .str b => Q (.bl (!cpsLt b a)) mu
    | _, _ => False
  | .gt => match x, y with
    | .int i, .int j => Q (.bl (decide (j < i))) mu
    | .str a, .str b => Q (.bl (cpsLt b a)) mu
    | _, _ => False
  | .ge => match x, y with
    | .int i, .int j => Q (.bl (decide (j ≤ i))) mu
    | .str a, .str b => Q (.bl (!cpsLt a b)) mu
    | _, _ => False
  | .inn => match x, y with
    | .str a, .str b => ∃ c, a = ⟨#[c]⟩ ∧ Q (.bl (decide (c ∈ b.cps.toList))) mu
    | x, .ref n => match mu[n]? with
      | some (.lst ys) => x.flat = true ∧ (D.tup ys).flat = true ∧ Q (.bl (ys.any fun z => eqP z x)) mu
      | _ => getAt mu n x fun o => Q (.bl o.isSome) mu
    | x, y => seqAt y mu fun ys => x.flat = true ∧ (D.tup ys).flat = true ∧ Q (.bl (ys.any fun z => eqP z x)) mu
  | .nin => match x, y with
    | .str a, .str b => ∃ c, a = ⟨#[c]⟩ ∧ Q (.bl (!decide (c ∈ b.cps.toList))) mu
    | x, .ref n => match mu[n]? with
      | some (.lst ys) => x.flat = true ∧ (D.tup ys).flat = true ∧ Q (.bl (!ys.any fun z => eqP z x)) mu
      | _ => getAt mu n x fun o => Q (.bl (!o.isSome)) mu
    | x, y => seqAt y mu fun ys => x.flat = true ∧ (D.tup ys).flat = true ∧ Q (.bl (!ys.any fun z => eqP z x)) mu
  | .max => match x, y with
    | .int i, .int j => Q (.int (if j > i then j else i)) mu
    | _, _ => False
  | .min => match x, y with
    | .int i, .int j => Q (.int (if j < i then j else i)) mu
    | _, _ => False
  | .ix => match x, y with
    | .str z, .int i => sizeT z.length ∧ match atI z.cps.toList i with
      | some c => Q (.str ⟨#[c]⟩) mu
      | none => False
    | .tup xs, .int i => itemAt xs i fun v => Q v mu
    | .ro xs, .int i => itemAt xs i fun v => Q v mu
    | .ref n, y => match mu[n]? with
      | some (.lst xs) => onI y fun i => itemAt xs i fun v => Q v mu
      | _ => getAt mu n y fun o => onSome o fun v => Q v mu
    | _, _ => False
  | .join => match x with
    | .str z => seqAt y mu fun xs => onStr xs fun ss => sizeT ((ss.map Str.length).sum + z.length * ss.length) ∧ Q (.str (Txt.join z ss)) mu
    | _ => False
  | .append => match x with
    | .ref n => lstAt mu n fun xs => xs.length < sizeLine ∧ Q .non (mu.set n (.lst (xs ++ [y])))
    | _ => False
  | .extend => match x, y with
    | .ref n, .ref m => lstAt mu n fun xs => lstAt mu m fun ys => sizeT (xs.length + ys.length) ∧ Q .non (mu.set n (.lst (xs ++ ys)))
    | _, _ => False
  | .popAt => match x, y with
    | .ref n, .int i => lstAt mu n fun xs => match ixN xs.length i with
      | some m => Q (xs.getD m .non) (mu.set n (.lst (xs.eraseIdx m)))
      | none => False
    | _, _ => False
  | .get1 => match x with
    | .ref n => getAt mu n y fun o => Q (o.getD .non) mu
    | _ => False
  | .update => match x, y with
    | .ref n, .ref m => n ≠ m ∧ dctAt mu n fun kvs lk => lk = false ∧ dctAt mu m fun ks _ => kvs.length + ks.length ≤ sizeLine ∧ Q .non (mu.set n (.dct (mergeD kvs ks) false))
    | _, _ => False
  | .eqd => ∃ p q, Deep mu x p ∧ Deep mu y q ∧ SeqAt.shaped p = true ∧ SeqAt.shaped q = true ∧ Q (.bl (PyData.eqv p q)) mu
  | .ned => ∃ p q, Deep mu x p ∧ Deep mu y q ∧ SeqAt.shaped p = true ∧ SeqAt.shaped q = true ∧ Q (.bl (!PyData.eqv p q)) mu
  | .index => ∃ p ps j z, Deep mu y p ∧ Deep mu x (.list ps) ∧ SeqAt.shaped p = true ∧ SeqAt.shaped (.list ps) = true ∧ ps[j]? = some z ∧ PyData.eqv z p = true ∧ (∀ (m : Nat) (z' : PyData), m < j → ps[m]? = some z' → PyData.eqv z' p = false) ∧ Q (.int (j : Nat)) mu
  | .count => ∃ p ps, Deep mu y p ∧ Deep mu x (.list ps) ∧ SeqAt.shaped p = true ∧ SeqAt.shaped (.list ps) = true ∧ Q (.int ((ps.countP fun z => PyData.eqv z p : Nat) : Int)) mu
  | .ind => ∃ p ps, Deep mu x p ∧ Deep mu y (.list ps) ∧ SeqAt.shaped p = true ∧ SeqAt.shaped (.list ps) = true ∧ Q (.bl (ps.any fun z => PyData.eqv z p)) mu
  | .nind => ∃ p ps, Deep mu x p ∧ Deep mu y (.list ps) ∧ SeqAt.shaped p = true ∧ SeqAt.shaped (.list ps) = true ∧ Q (.bl (!ps.any fun z => PyData.eqv z p)) mu
  | .split => False
  | .shl => False
  | .band => False
  | .bor => False
  | .lrng => match x, y with
    | .int i, .int j => (small i ∧ small j) ∧ newLst (intsD i (j - i).toNat) mu Q
    | _, _ => False
  | .trng => match x, y with
    | .int i, .int j => (small i ∧ small j) ∧ Q (.tup (intsD i (j - i).toNat)) mu
    | _, _ => False
def isDct (mu : Store) (n : Nat) : Prop := match mu[n]? with
  | some (.dct _ _) => True
  | some (.dtk _) => True
  | _ => False
def w3 (o : O3) (x y z : D) (mu : Store) (Q : QD) : Prop :=
  match o with
  | .get2 => match x with
    | .ref n => getAt mu n y fun o => Q (o.getD z) mu
    | _ => False
  | .setd => match x with
    | .ref n => getAt mu n y fun o => match o with
      | some v => Q v mu
      | none => putAt mu n y z fun nu => Q z nu
    | _ => False
def pre3 (o : O3) (x : D) (mu : Store) : Prop := match x with
  | .ref n => isDct mu n
  | _ => False
/-- the receiver of a method, ahead of its argument -/
def pre2 (o : O2) (x : D) (mu : Store) : Prop :=
  match o with
  | .append => match x with
    | .ref n => lstAt mu n fun _ => True
    | _ => False
  | .extend => match x with
    | .ref n => lstAt mu n fun _ => True
    | _ => False
  | .popAt => match x with
    | .ref n => lstAt mu n fun _ => True
    | _ => False
  | .get1 => match x with
    | .ref n => isDct mu n
    | _ => False
  | .update => match x with
    | .ref n => isDct mu n
    | _ => False
  | .join => match x with
    | .str _ => True
    | _ => False
  | .index => match x with
    | .ref n => lstAt mu n fun _ => True
    | _ => False
  | .count => match x with
    | .ref n => lstAt mu n fun _ => True
    | _ => False
  | _ => True
/-- a part of a slice -/
def cutD (xs : List D) (lo hi : Option Int) : List D := (xs.drop (HT.sIx xs.length 0 lo)).take (HT.sIx xs.length xs.length hi - HT.sIx xs.length 0 lo)
def wSl (x : D) (lo hi : Option Int) (mu : Store) (Q : QD) : Prop :=
  match x with
  | .str z => sizeT z.length ∧ Q (.str (cutS z lo hi)) mu
  | .tup xs => Q (.tup (cutD xs lo hi)) mu
  | .ref n => lstAt mu n fun xs => newLst (cutD xs lo hi) mu Q
  | _ => False
/-- names bound by a target -/
inductive CP where
  | name (i : Nat)
  | tup (ps : List CP)
mutual
def CP.bind : CP → D → Sl → Option Sl
  | .name i, d, rh => some (rh.set i (some d))
  | .tup ps, .tup xs, rh => CP.binds ps xs rh
  | .tup _, _, _ => none
def CP.binds : List CP → List D → Sl → Option Sl
  | [], [], rh => some rh
  | p :: ps, x :: xs, rh => match CP.bind p x rh with
    | some r => CP.binds ps xs r
    | none => none
  | _, _, _ => none
end
def onP (p : CP) (d : D) (rh : Sl) (k : Sl → Prop) : Prop := match p.bind d rh with
  | some r => k r
  | none => False
def wipeD (rh : Sl) : List Nat → Sl
  | [] => rh
  | v :: vs => (wipeD rh vs).set v none
mutual
inductive CE where
  | con (d : D)
  | var (i : Nat)
  | tup (es : CEs)
  | lst (es : CEs)
  | op1 (o : O1) (a : CE)
  | op2 (o : O2) (a b : CE)
  | op3 (o : O3) (a b c : CE)
  | dnew (t : Bool)
  | disp (es : CEs)
  | cond (t a b : CE)
  | and (a b : CE)
  | or (a b : CE)
  | not (a : CE)
  | chain (o p : O2) (a b c : CE)
  | sl (e : CE) (lo hi : CO)
  | call (f : Nat) (perm : List Nat) (es ks : CEs)
  | lc (own : List Nat) (p : CP) (it : CI) (c : CE) (e : CE)
  | dc (own : List Nat) (p : CP) (it : CI) (c : CE) (k e : CE)
  | gc (e : CE)
inductive CEs where
  | nil
  | cons (e : CE) (r : CEs)
inductive CO where
  | no
  | some (e : CE)
inductive CI where
  | seq (e : CE)
  | rng1 (e : CE)
  | rng2 (a b : CE)
  | rng3 (a b c : CE)
  | enum (e : CE)
  | zip (a b : CE)
  | items (e : CE)
  | vals (e : CE)
end
/-- the turns of a comprehension -/
def dcGo (turn : D → Store → (Option (Key × D) → Store → Prop) → Prop) (still : Store → Prop) (fin : List (Key × D) → Store → Prop) : List D → List (Key × D) → Store → Prop
  | [], acc, mu => still mu ∧ fin acc mu
  | x :: xs, acc, mu => still mu ∧ turn x mu fun o mu1 => match o with
    | some d => dcGo turn still fin xs (putD acc d.1 d.2) mu1
    | none => dcGo turn still fin xs acc mu1
def lcGo (turn : D → Store → (Option D → Store → Prop) → Prop) (still : Store → Prop) (fin : List D → Store → Prop) : List D → List D → Store → Prop
  | [], acc, mu => still mu ∧ fin acc mu
  | x :: xs, acc, mu => still mu ∧ turn x mu fun o mu1 => match o with
    | some d => lcGo turn still fin xs (acc ++ [d]) mu1
    | none => lcGo turn still fin xs acc mu1
/-- back from a walk -/
abbrev Post := Store → (Store → Prop) → Prop
def post0 : Post := fun mu k => k mu
/-- back from the walk of a dict -/
def unlk (n : Nat) (kvs : List (Key × D)) : Post := fun mu k => mu[n]? = some (.dct kvs true) ∧ k (mu.set n (.dct kvs false))
/-- a dict is walked -/
def wLock (d : D) (f : Key × D → D) (mu : Store) (R : List D → (Store → Prop) → Post → Store → Prop) : Prop := match d with
  | .ref n => dctAt mu n fun kvs lk => lk = false ∧ kvs.length ≤ sizeLine ∧ R (kvs.map f) (fun _ => True) (unlk n kvs) (mu.set n (.dct kvs true))
  | _ => False
def stay (d : D) (xs : List D) : Store → Prop := fun mu => match d with
  | .ref n => lstAt mu n fun ys => ys = xs
  | _ => True
def chars (z : Str) : List D := z.cps.toList.map fun c => .str ⟨#[c]⟩
def wSeq (d : D) (mu : Store) (R : List D → (Store → Prop) → Post → Store → Prop) : Prop :=
  match d with
  | .str z => sizeT z.length ∧ R (chars z) (fun _ => True) post0 mu
  | .tup xs => R xs (fun _ => True) post0 mu
  | .ro xs => R xs (fun _ => True) post0 mu
  | .ref n => match mu[n]? with
    | some (.lst xs) => R xs (stay (.ref n) xs) post0 mu
    | _ => wLock (.ref n) (fun p => kD p.1) mu R
  | _ => False
/-- both are tuples, or none is -/
def zipOk : D → D → Bool
  | .tup _, .tup _ => true
  | .tup _, _ => false
  | _, .tup _ => false
  | _, _ => true
def pairs : List D → List D → List D
  | x :: xs, y :: ys => .tup [x, y] :: pairs xs ys
  | _, _ => []
structure Ctx where
  fn : Nat → DSp
  /-- which class is beneath which; how many they are; their fields -/
  sub : Nat → Nat → Bool := fun _ _ => false
  nex : Nat := 0
  fld : Nat → List Str := fun _ => []
/-- the values in the parameters' order -/
def perm (ps : List Nat) (xs : List D) : List D := ps.map fun i => xs.getD i .non
mutual
def wpE (G : Ctx) : CE → QX → Sl → Store → QD → Prop
  | .con d, _, _, mu, Q => Q d mu
  | .var i, _, rh, mu, Q => match rh[i]? with
    | some (some d) => Q d mu
    | _ => False
  | .tup es, E, rh, mu, Q => wpEs G es E rh mu fun xs mu1 => sizeT xs.length ∧ Q (.tup xs) mu1
  | .lst es, E, rh, mu, Q => wpEs G es E rh mu fun xs mu1 => sizeT xs.length ∧ newLst xs mu1 Q
  | .op1 o a, E, rh, mu, Q => wpE G a E rh mu fun x mu1 => w1 o x mu1 Q
  | .op2 o a b, E, rh, mu, Q => wpE G a E rh mu fun x mu1 => pre2 o x mu1 ∧ wpE G b E rh mu1 fun y mu2 => w2 o x y mu2 Q
  | .op3 o a b c, E, rh, mu, Q => wpE G a E rh mu fun x mu1 => pre3 o x mu1 ∧ wpE G b E rh mu1 fun y mu2 => wpE G c E rh mu2 fun z mu3 => w3 o x y z mu3 Q
  | .dnew t, _, _, mu, Q => Q (.ref mu.length) (mu ++ [if t = true then .dtk [] else .dct [] false])
  | .disp es, E, rh, mu, Q => wpEs G es E rh mu fun ds mu1 => onDisp ds fun kvs => kvs.length ≤ 15 ∧ Q (.ref mu1.length) (mu1 ++ [.dct (mergeD [] kvs) false])
  | .cond t a b, E, rh, mu, Q => wpE G t E rh mu fun x mu1 => onB x fun c => if c = true then wpE G a E rh mu1 Q else wpE G b E rh mu1 Q
  | .and a b, E, rh, mu, Q => wpE G a E rh mu fun x mu1 => onB x fun c => if c = true then wpE G b E rh mu1 Q else Q (.bl false) mu1
  | .or a b, E, rh, mu, Q => wpE G a E rh mu fun x mu1 => onB x fun c => if c = true then Q (.bl true) mu1 else wpE G b E rh mu1 Q
  | .not a, E, rh, mu, Q => wpE G a E rh mu fun x mu1 => onB x fun c => Q (.bl (!c)) mu1
  | .chain o p a b c, E, rh, mu, Q => wpE G a E rh mu fun x mu1 => wpE G b E rh mu1 fun y mu2 => w2 o x y mu2 fun z mu3 => onB z fun k => if k = true then wpE G c E rh mu3 fun u mu4 => w2 p y u mu4 Q else Q (.bl false) mu3
  | .sl e lo hi, E, rh, mu, Q => wpE G e E rh mu fun x mu1 => wpO G lo E rh mu1 fun l mu2 => wpO G hi E rh mu2 fun h mu3 => wSl x l h mu3 Q
  | .call f ps es ks, E, rh, mu, Q => wpEs G es E rh mu fun xs mu1 => wpEs G ks E rh mu1 fun ys mu2 => ∃ (Q0 : QD) (E0 : QX), G.fn f (perm ps (xs ++ ys)) mu2 Q0 E0 ∧ (∀ d nu, Q0 d nu → Q d nu) ∧ ∀ x nu, E0 x nu → E x nu
  | .dc own p it c k e, E, rh, mu, Q => wpI G it E rh mu fun xs still post mu1 =>
      dcGo (fun x mu2 kk => onP p x (wipeD rh own) fun rh1 => wpE G c (fun _ _ => False) rh1 mu2 fun y mu3 => onB y fun b => if b = true then wpE G k (fun _ _ => False) rh1 mu3 fun kd mu4 => wpE G e (fun _ _ => False) rh1 mu4 fun d mu5 => onKey kd fun ky => kk (some (ky, d)) mu5 else kk none mu3)
        still (fun acc mu2 => post mu2 fun mu3 => Q (.ref mu3.length) (mu3 ++ [.dct acc false])) xs [] mu1
  | .lc own p it c e, E, rh, mu, Q => wpI G it E rh mu fun xs still post mu1 =>
      lcGo (fun x mu2 k => onP p x (wipeD rh own) fun rh1 => wpE G c (fun _ _ => False) rh1 mu2 fun y mu3 => onB y fun b => if b = true then wpE G e (fun _ _ => False) rh1 mu3 fun d mu4 => k (some d) mu4 else k none mu3)
        still (fun acc mu2 => post mu2 fun mu3 => newLst acc mu3 Q) xs [] mu1
  | .gc e, E, rh, mu, Q => wpE G e E rh mu fun d mu1 => ∃ nu, nu <+: mu1 ∧ nu.length = mu.length ∧ (WF mu → WF nu) ∧ d.cl mu.length ∧ Q d nu
def wpEs (G : Ctx) : CEs → QX → Sl → Store → (List D → Store → Prop) → Prop
  | .nil, _, _, mu, Q => Q [] mu
  | .cons e r, E, rh, mu, Q => wpE G e E rh mu fun x mu1 => wpEs G r E rh mu1 fun xs mu2 => Q (x :: xs) mu2
/-- a part of a slice -/
def wpO (G : Ctx) : CO → QX → Sl → Store → (Option Int → Store → Prop) → Prop
  | .no, _, _, mu, Q => Q none mu
  | .some e, E, rh, mu, Q => wpE G e E rh mu fun x mu1 => onI x fun i => Q (some i) mu1
/-- what is walked -/
def wpI (G : Ctx) : CI → QX → Sl → Store → (List D → (Store → Prop) → Post → Store → Prop) → Prop
  | .seq e, E, rh, mu, R => wpE G e E rh mu fun x mu1 => wSeq x mu1 R
  | .rng1 e, E, rh, mu, R => wpE G e E rh mu fun x mu1 => onI x fun j => small j ∧ R (intsD 0 j.toNat) (fun _ => True) post0 mu1
  | .rng2 a b, E, rh, mu, R => wpE G a E rh mu fun x mu1 => wpE G b E rh mu1 fun y mu2 => onI x fun i => onI y fun j => (small i ∧ small j) ∧ R (intsD i (j - i).toNat) (fun _ => True) post0 mu2
  | .rng3 a b c, E, rh, mu, R => wpE G a E rh mu fun x mu1 => wpE G b E rh mu1 fun y mu2 => wpE G c E rh mu2 fun z mu3 => onI x fun i => onI y fun j => onI z fun k => ∃ n, RgC i j k n ∧ n ≤ sizeLine ∧ R ((List.range n).map fun t => D.int (i + (t : Nat) * k)) (fun _ => True) post0 mu3
  | .enum e, E, rh, mu, R => wpE G e E rh mu fun x mu1 => seqAt x mu1 fun xs => R (pairs (intsD 0 xs.length) xs) (stay x xs) post0 mu1
  | .zip a b, E, rh, mu, R => wpE G a E rh mu fun x mu1 => wpE G b E rh mu1 fun y mu2 => zipOk x y = true ∧ seqAt x mu2 fun xs => seqAt y mu2 fun ys => R (pairs xs ys) (fun nu => stay x xs nu ∧ stay y ys nu) post0 mu2
  | .items e, E, rh, mu, R => wpE G e E rh mu fun x mu1 => wLock x (fun p => .tup [kD p.1, p.2]) mu1 R
  | .vals e, E, rh, mu, R => wpE G e E rh mu fun x mu1 => wLock x (fun p => p.2) mu1 R
end
/-- a test -/
def wpT (G : Ctx) (c : CE) (E : QX) (rh : Sl) (mu : Store) (Q : Bool → Store → Prop) : Prop := wpE G c E rh mu fun x nu => onB x fun b => Q b nu
/-- what is wanted behind a statement -/
structure CEnds where
  nx : Sl → Store → Prop
  rt : D → Store → Prop
  bk : Sl → Store → Prop
  ct : Sl → Store → Prop
  ex : Exc → Sl → Store → Prop
mutual
inductive CS where
  | asg (p : CP) (e : CE)
  | setSub (o i e : CE)
  | augN (i : Nat) (o : O2) (e : CE)
  | expr (e : CE)
  | ret (e : CE)
  | retN
  | ite (c : CE) (a b : CSs)
  | for (p : CP) (it : CI) (b : CSs)
  | while (c : CE) (b : CSs)
  | pass
  | brk
  | cont
  /-- del o[i] -/
  | del (o i : CE)
  /-- the statement; then its new cells that nothing names any more are forgotten -/
  | gcb (s : CS)
  /-- never reached -/
  | fail
  /-- a try whose body raises nothing -/
  | thru (b : CSs)
  /-- try: b except the class c: s -/
  | tryO (b : CSs) (c : Nat) (s : CS)
  /-- try: b except the class c as the i-th name: the j-th name = it -/
  | tryK (b : CSs) (c i j : Nat)
  /-- raise c(es) -/
  | raise (c : Nat) (es : CEs)
inductive CSs where
  | nil
  | cons (s : CS) (r : CSs)
end
/-- the turns of a for -/
def forGo (turn : D → Sl → Store → (Sl → Store → Prop) → Prop) (still : Store → Prop) (fin : Sl → Store → Prop) : List D → Sl → Store → Prop
  | [], rh, mu => still mu ∧ fin rh mu
  | x :: xs, rh, mu => still mu ∧ turn x rh mu (forGo turn still fin xs)
/-- the turns of a while, n of them at most -/
def whileGo (turn : Sl → Store → (Sl → Store → Prop) → Prop) : Nat → Sl → Store → Prop
  | 0, _, _ => False
  | n + 1, rh, mu => turn rh mu (whileGo turn n)
def wSet (o i v : D) (mu : Store) (k : Store → Prop) : Prop :=
  match o, i with
  | .ref n, i => match mu[n]? with
    | some (.lst xs) => onI i fun j => match ixN xs.length j with
      | some m => k (mu.set n (.lst (xs.set m v)))
      | none => False
    | _ => putAt mu n i v k
  | _, _ => False
def wAug : O2 → D → D → Store → QD → Prop
  | .add, .int i, .int j, mu, Q => Q (.int (i + j)) mu
  | .sub, .int i, .int j, mu, Q => Q (.int (i - j)) mu
  | _, _, _, _, _ => False
def dropD {κ : Type} [DecidableEq κ] (kvs : List (κ × D)) (k : κ) : List (κ × D) := kvs.filter fun p => !decide (p.1 = k)
def wDel (o i : D) (mu : Store) (k : Store → Prop) : Prop :=
  match o with
  | .ref n => dctAt mu n fun kvs lk => lk = false ∧ onKey i fun ky => (valD kvs ky).isSome = true ∧ k (mu.set n (.dct (dropD kvs ky) false))
  | _ => False
mutual
def wpS (G : Ctx) : CS → CEnds → Sl → Store → Prop
  | .asg p e, D, rh, mu => wpE G e (fun x nu => D.ex x rh nu) rh mu fun d mu1 => onP p d rh fun rh1 => D.nx rh1 mu1
  | .setSub o i e, D, rh, mu => wpE G e (fun x nu => D.ex x rh nu) rh mu fun v mu1 => wpE G o (fun x nu => D.ex x rh nu) rh mu1 fun od mu2 => wpE G i (fun x nu => D.ex x rh nu) rh mu2 fun id mu3 => wSet od id v mu3 fun mu4 => D.nx rh mu4
  | .augN i o e, D, rh, mu => match rh[i]? with
    | some (some x) => wpE G e (fun x nu => D.ex x rh nu) rh mu fun y mu1 => wAug o x y mu1 fun z mu2 => D.nx (rh.set i (some z)) mu2
    | _ => False
  | .expr e, D, rh, mu => wpE G e (fun x nu => D.ex x rh nu) rh mu fun _ mu1 => D.nx rh mu1
  | .ret e, D, rh, mu => wpE G e (fun x nu => D.ex x rh nu) rh mu fun d mu1 => D.rt d mu1
  | .retN, D, _, mu => D.rt .non mu
  | .ite c a b, D, rh, mu => wpT G c (fun x nu => D.ex x rh nu) rh mu fun k mu1 => if k = true then wpSs G a D rh mu1 else wpSs G b D rh mu1
  | .for p it b, D, rh, mu => wpI G it (fun x nu => D.ex x rh nu) rh mu fun xs still post mu1 =>
      forGo (fun x rh1 mu2 k => onP p x rh1 fun rh2 => wpSs G b { D with nx := k, ct := k, bk := fun r nu => post nu (D.nx r), rt := fun d nu => post nu (D.rt d) } rh2 mu2) still (fun r nu => post nu (D.nx r)) xs rh mu1
  | .while c b, D, rh, mu => ∃ n, whileGo (fun rh1 mu1 k => wpT G c (fun x nu => D.ex x rh1 nu) rh1 mu1 fun t mu2 => if t = true then wpSs G b { D with nx := k, ct := k, bk := D.nx } rh1 mu2 else D.nx rh1 mu2) n rh mu
  | .pass, D, rh, mu => D.nx rh mu
  | .brk, D, rh, mu => D.bk rh mu
  | .cont, D, rh, mu => D.ct rh mu
  | .del o i, D, rh, mu => wpE G o (fun x nu => D.ex x rh nu) rh mu fun od mu1 => wpE G i (fun x nu => D.ex x rh nu) rh mu1 fun id mu2 => wDel od id mu2 fun mu3 => D.nx rh mu3
  | .gcb s, D, rh, mu => wpS G s { D with nx := fun rh1 nu => D.nx rh1 nu ∨ ∃ xi, xi <+: nu ∧ mu.length ≤ xi.length ∧ (WF mu → WF nu → WF xi) ∧ (∀ (i : Nat) (d : MP.D), rh1[i]? = some (some d) → d.cl xi.length) ∧ D.nx rh1 xi } rh mu
  | .fail, _, _, _ => False
  | .thru b, D, rh, mu => wpSs G b { D with ex := fun _ _ _ => False } rh mu
  | .tryK b c i j, D, rh, mu => wpSs G b { D with ex := fun x rh1 nu => x.c < G.nex ∧ (if G.sub x.c c = true then D.nx ((rh1.set j (some (.ref nu.length))).set i none) (nu ++ [.exn x.c x.fs]) else D.ex x rh1 nu) } rh mu
  | .tryO b c s, D, rh, mu => wpSs G b { D with ex := fun x rh1 nu => x.c < G.nex ∧ (if G.sub x.c c = true then wpS G s D rh1 nu else D.ex x rh1 nu) } rh mu
  | .raise c es, D, rh, mu => wpEs G es (fun x nu => D.ex x rh nu) rh mu fun ds nu => ds.length = (G.fld c).length ∧ D.ex ⟨c, (G.fld c).zip ds⟩ rh nu
def wpSs (G : Ctx) : CSs → CEnds → Sl → Store → Prop
  | .nil, D, rh, mu => D.nx rh mu
  | .cons s r, D, rh, mu => wpS G s { D with nx := wpSs G r D } rh mu
end
end MP
namespace MP
open PySem PySem.Spec PyProof.Rows L2
theorem lstAt_mono {mu : Store} {n : Nat} {Q Q' : List D → Prop} (h : ∀ xs, Q xs → Q' xs) (q : lstAt mu n Q) : lstAt mu n Q' := by
  unfold lstAt at q ⊢
  split <;> simp_all
theorem seqAt_mono {d : D} {mu : Store} {Q Q' : List D → Prop} (h : ∀ xs, Q xs → Q' xs) (q : seqAt d mu Q) : seqAt d mu Q' := by
  cases d <;> simp only [seqAt] at q ⊢
  · exact h _ q
  · exact lstAt_mono h q
  · exact h _ q
theorem listAt_mono {d : D} {mu : Store} {Q Q' : List D → Prop} (h : ∀ xs, Q xs → Q' xs) (q : listAt d mu Q) : listAt d mu Q' := by
  cases d <;> simp only [listAt] at q ⊢
  · exact lstAt_mono h q
  · exact h _ q
theorem onBl_mono {xs : List D} {k k' : List Bool → Prop} (h : ∀ b, k b → k' b) (q : onBl xs k) : onBl xs k' := by
  unfold onBl at q ⊢
  split <;> simp_all
theorem onInt_mono {xs : List D} {k k' : List Int → Prop} (h : ∀ b, k b → k' b) (q : onInt xs k) : onInt xs k' := by
  unfold onInt at q ⊢
  split <;> simp_all
theorem onStr_mono {xs : List D} {k k' : List Str → Prop} (h : ∀ b, k b → k' b) (q : onStr xs k) : onStr xs k' := by
  unfold onStr at q ⊢
  split <;> simp_all
theorem isTy_mono {t : Ty} {d : D} {mu : Store} {k k' : Bool → Prop} (h : ∀ b, k b → k' b) (q : isTy t d mu k) : isTy t d mu k' := by
  cases d <;> cases t <;> simp only [isTy] at q ⊢ <;> first | exact h _ q | (split <;> first | exact h _ (by simpa only [*] using q) | simp_all)
theorem itemAt_mono {xs : List D} {i : Int} {k k' : D → Prop} (h : ∀ b, k b → k' b) (q : itemAt xs i k) : itemAt xs i k' := by
  unfold itemAt at q ⊢
  split <;> simp_all
theorem onKey_mono {d : D} {k k' : Key → Prop} (h : ∀ b, k b → k' b) (q : onKey d k) : onKey d k' := by
  unfold onKey at q ⊢
  split <;> simp_all
theorem onNK_mono {d : D} {k k' : NK → Prop} (h : ∀ b, k b → k' b) (q : onNK d k) : onNK d k' := by
  unfold onNK at q ⊢
  split <;> simp_all
theorem getAt_mono {mu : Store} {n : Nat} {y : D} {Q Q' : Option D → Prop} (h : ∀ b, Q b → Q' b) (q : getAt mu n y Q) : getAt mu n y Q' := by
  unfold getAt at q ⊢
  split
  · rename_i e; simp only [e] at q; exact onKey_mono (fun b p => h _ p) q
  · rename_i e; simp only [e] at q; exact onNK_mono (fun b p => h _ p) q
  · split at q <;> simp_all
theorem putAt_mono {mu : Store} {n : Nat} {y v : D} {Q Q' : Store → Prop} (h : ∀ b, Q b → Q' b) (q : putAt mu n y v Q) : putAt mu n y v Q' := by
  unfold putAt at q ⊢
  split
  · rename_i e; simp only [e] at q; exact onKey_mono (fun b p => ⟨p.1, h _ p.2⟩) q
  · rename_i e; simp only [e] at q; exact onNK_mono (fun b p => ⟨p.1, h _ p.2⟩) q
  · split at q <;> simp_all
theorem dctAt_mono {mu : Store} {n : Nat} {Q Q' : List (Key × D) → Bool → Prop} (h : ∀ a b, Q a b → Q' a b) (q : dctAt mu n Q) : dctAt mu n Q' := by
  unfold dctAt at q ⊢
  split at q
  · exact h _ _ q
  · exact q.elim
theorem onSome_mono {o : Option D} {k k' : D → Prop} (h : ∀ b, k b → k' b) (q : onSome o k) : onSome o k' := by
  unfold onSome at q ⊢
  split <;> simp_all
theorem onPairs_mono {xs : List D} {k k' : List (Key × D) → Prop} (h : ∀ b, k b → k' b) (q : onPairs xs k) : onPairs xs k' := by
  unfold onPairs at q ⊢
  split <;> simp_all
theorem onDisp_mono {xs : List D} {k k' : List (Key × D) → Prop} (h : ∀ b, k b → k' b) (q : onDisp xs k) : onDisp xs k' := by
  unfold onDisp at q ⊢
  split <;> simp_all
theorem onI_mono' {d : D} {k k' : Int → Prop} (h : ∀ b, k b → k' b) (q : onI d k) : onI d k' := by
  cases d <;> simp only [onI] at q ⊢
  exact h _ q
theorem onB_mono {d : D} {k k' : Bool → Prop} (h : ∀ b, k b → k' b) (q : onB d k) : onB d k' := by
  cases d <;> simp only [onB] at q ⊢
  exact h _ q
theorem onI_mono {d : D} {k k' : Int → Prop} (h : ∀ b, k b → k' b) (q : onI d k) : onI d k' := by
  cases d <;> simp only [onI] at q ⊢
  exact h _ q
theorem w1_mono {o : O1} {x : D} {mu : Store} {Q Q' : QD} (h : ∀ d nu, Q d nu → Q' d nu) (q : w1 o x mu Q) : w1 o x mu Q' := by
  cases o <;> simp only [w1] at q ⊢
  case neg => split <;> simp_all
  case len =>
    split at q <;> first | exact ⟨q.1, h _ _ q.2⟩ | exact h _ _ q | (split at q <;> first | exact h _ _ q | exact q.elim) | exact q.elim
  case rev =>
    split at q <;> first | exact h _ _ q | exact lstAt_mono (fun xs p => h _ _ p) q | exact q.elim
  case rev0 => split at q <;> first | exact h _ _ q | exact q.elim
  case dictc =>
    split at q
    · split at q
      · exact h _ _ q
      · exact onPairs_mono (fun b p => h _ _ p) q
      · exact q.elim
    · exact q.elim
  case abs => split <;> simp_all
  case int => split <;> simp_all
  case str => split <;> simp_all
  case tuple => exact seqAt_mono (fun xs p => h _ _ p) q
  case list => exact seqAt_mono (fun xs p => h _ _ p) q
  case all => exact listAt_mono (fun xs p => onBl_mono (fun b r => h _ _ r) p) q
  case any => exact listAt_mono (fun xs p => onBl_mono (fun b r => h _ _ r) p) q
  case sum => exact listAt_mono (fun xs p => onInt_mono (fun b r => h _ _ r) p) q
  case repr =>
    obtain ⟨p, a, b, c, d, e⟩ := q
    exact ⟨p, a, b, c, d, h _ _ e⟩
  case reprd =>
    obtain ⟨p, a, b, c, d, e⟩ := q
    exact ⟨p, a, b, c, d, h _ _ e⟩
  case isinst t => exact isTy_mono (fun b p => h _ _ p) q
  case isN => exact h _ _ q
  case notN => exact h _ _ q
  case isF => split <;> simp_all
  case isT => split <;> simp_all
  case upper => split <;> simp_all
  case sorted => exact listAt_mono (fun xs p => ⟨p.1, h _ _ p.2⟩) q
  case pop =>
    split <;> simp_all
    exact lstAt_mono (fun xs ⟨y, a, b⟩ => ⟨y, a, h _ _ b⟩) q
  case lenset => exact seqAt_mono (fun xs ⟨zs, a, b, c⟩ => ⟨zs, a, b, fun ys d e => h _ _ (c ys d e)⟩) q
  case sortset => exact seqAt_mono (fun xs ⟨zs, a, b, c⟩ => ⟨zs, a, b, fun ys d e f => h _ _ (c ys d e f)⟩) q
  case isx =>
    split at q
    · split at q
      · split at q
        · simp_all
        · exact q.elim
      · exact q.elim
    · exact q.elim
  case fld =>
    split at q
    · split at q
      · split at q
        · simp_all
        · exact q.elim
      · exact q.elim
    · exact q.elim
  case isv =>
    split at q
    · split at q
      · exact ⟨q.1, h _ _ q.2⟩
      · exact q.elim
    · exact q.elim
  case isxt =>
    split at q
    · split at q
      · split at q
        · simp_all
        · exact q.elim
      · exact q.elim
    · exact q.elim
  case sortd =>
    split at q
    · exact dctAt_mono (fun kvs lk ⟨ks, a, b, c⟩ => ⟨ks, a, b, fun ys d e => h _ _ (c ys d e)⟩) q
    · exact q.elim
  case lrng => split <;> simp_all [newLst]
  case trng => split <;> simp_all
theorem w2_mono {o : O2} {x y : D} {mu : Store} {Q Q' : QD} (h : ∀ d nu, Q d nu → Q' d nu) (q : w2 o x y mu Q) : w2 o x y mu Q' := by
  cases o <;> simp only [w2] at q ⊢
  case add =>
    split <;> simp_all
    exact lstAt_mono (fun xs p => lstAt_mono (fun ys r => ⟨r.1, h _ _ r.2⟩) p) q
  case sub => split <;> simp_all
  case mul =>
    split <;> simp_all
    exact lstAt_mono (fun xs p => ⟨p.1, p.2.1, h _ _ p.2.2⟩) q
  case fdiv => split <;> simp_all
  case mod => split <;> simp_all
  case pow => split <;> simp_all
  case eq =>
    split <;> simp_all
    exact lstAt_mono (fun xs p => lstAt_mono (fun ys r => ⟨r.1, r.2.1, h _ _ r.2.2⟩) p) q
  case ne =>
    split <;> simp_all
    exact lstAt_mono (fun xs p => lstAt_mono (fun ys r => ⟨r.1, r.2.1, h _ _ r.2.2⟩) p) q
  case eqd =>
    obtain ⟨p, r, a, b, c, d, e⟩ := q
    exact ⟨p, r, a, b, c, d, h _ _ e⟩
  case ned =>
    obtain ⟨p, r, a, b, c, d, e⟩ := q
    exact ⟨p, r, a, b, c, d, h _ _ e⟩
  case lt => split <;> simp_all
  case le => split <;> simp_all
  case gt => split <;> simp_all
  case ge => split <;> simp_all
  case inn =>
    split at q
    · obtain ⟨c, e, r⟩ := q
      exact ⟨c, e, h _ _ r⟩
    · split at q
      · exact ⟨q.1, q.2.1, h _ _ q.2.2⟩
      · exact getAt_mono (fun b p => h _ _ p) q
    · exact seqAt_mono (fun xs p => ⟨p.1, p.2.1, h _ _ p.2.2⟩) q
  case nin =>
    split at q
    · obtain ⟨c, e, r⟩ := q
      exact ⟨c, e, h _ _ r⟩
    · split at q
      · exact ⟨q.1, q.2.1, h _ _ q.2.2⟩
      · exact getAt_mono (fun b p => h _ _ p) q
    · exact seqAt_mono (fun xs p => ⟨p.1, p.2.1, h _ _ p.2.2⟩) q
  case max => split <;> simp_all
  case min => split <;> simp_all
  case ix =>
    split at q
    · refine ⟨q.1, ?_⟩
      have q := q.2
      split <;> simp_all
    · exact itemAt_mono (fun v r => h _ _ r) q
    · exact itemAt_mono (fun v r => h _ _ r) q
    · split at q
      · exact onI_mono' (fun i p => itemAt_mono (fun v r => h _ _ r) p) q
      · exact getAt_mono (fun b p => onSome_mono (fun v r => h _ _ r) p) q
    · exact q.elim
  case join =>
    split <;> simp_all
    exact seqAt_mono (fun xs p => onStr_mono (fun v r => ⟨r.1, h _ _ r.2⟩) p) q
  case append =>
    split <;> simp_all
    exact lstAt_mono (fun xs p => ⟨p.1, h _ _ p.2⟩) q
  case extend =>
    split <;> simp_all
    exact lstAt_mono (fun xs p => lstAt_mono (fun ys r => ⟨r.1, h _ _ r.2⟩) p) q
  case lrng => split <;> simp_all [newLst]
  case trng => split <;> simp_all
  case index =>
    obtain ⟨p, ps, j, z, a1, a2, a3, a4, a5, a6, a7, q⟩ := q
    exact ⟨p, ps, j, z, a1, a2, a3, a4, a5, a6, a7, h _ _ q⟩
  case count =>
    obtain ⟨p, ps, a1, a2, a3, a4, q⟩ := q
    exact ⟨p, ps, a1, a2, a3, a4, h _ _ q⟩
  case ind =>
    obtain ⟨p, ps, a1, a2, a3, a4, q⟩ := q
    exact ⟨p, ps, a1, a2, a3, a4, h _ _ q⟩
  case nind =>
    obtain ⟨p, ps, a1, a2, a3, a4, q⟩ := q
    exact ⟨p, ps, a1, a2, a3, a4, h _ _ q⟩
  case popAt =>
    split at q
    · refine lstAt_mono (fun xs p => ?_) q
      split <;> simp_all
    · exact q.elim
  case get1 =>
    split at q
    · exact getAt_mono (fun b p => h _ _ p) q
    · exact q.elim
  case update =>
    split at q
    · exact ⟨q.1, dctAt_mono (fun a b p => ⟨p.1, dctAt_mono (fun c d r => ⟨r.1, h _ _ r.2⟩) p.2⟩) q.2⟩
    · exact q.elim
theorem w3_mono {o : O3} {x y z : D} {mu : Store} {Q Q' : QD} (h : ∀ d nu, Q d nu → Q' d nu) (q : w3 o x y z mu Q) : w3 o x y z mu Q' := by
  cases o <;> simp only [w3] at q ⊢
  case get2 =>
    split at q
    · exact getAt_mono (fun b p => h _ _ p) q
    · exact q.elim
  case setd =>
    split at q
    · refine getAt_mono (fun b p => ?_) q
      cases b with
      | none => exact putAt_mono (fun b p => h _ _ p) p
      | some v => exact h _ _ p
    · exact q.elim
theorem wSl_mono {x : D} {lo hi : Option Int} {mu : Store} {Q Q' : QD} (h : ∀ d nu, Q d nu → Q' d nu) (q : wSl x lo hi mu Q) : wSl x lo hi mu Q' := by
  cases x <;> simp only [wSl] at q ⊢ <;> first | exact ⟨q.1, h _ _ q.2⟩ | exact h _ _ q | exact lstAt_mono (fun xs p => h _ _ p) q
theorem onP_mono {p : CP} {d : D} {rh : Sl} {k k' : Sl → Prop} (h : ∀ r, k r → k' r) (q : onP p d rh k) : onP p d rh k' := by
  unfold onP at q ⊢
  split <;> simp_all
theorem lcGo_mono {turn turn' : D → Store → (Option D → Store → Prop) → Prop} {still : Store → Prop} {fin fin' : List D → Store → Prop}
    (ht : ∀ x mu k k', (∀ o nu, k o nu → k' o nu) → turn x mu k → turn' x mu k') (hf : ∀ a nu, fin a nu → fin' a nu) :
    ∀ xs acc mu, lcGo turn still fin xs acc mu → lcGo turn' still fin' xs acc mu
  | [], acc, mu, h => ⟨h.1, hf _ _ h.2⟩
  | x :: xs, acc, mu, h => ⟨h.1, ht _ _ _ _ (fun o nu p => by
      cases o with
      | none => exact lcGo_mono ht hf xs acc nu p
      | some d => exact lcGo_mono ht hf xs (acc ++ [d]) nu p) h.2⟩
theorem dcGo_mono {turn turn' : D → Store → (Option (Key × D) → Store → Prop) → Prop} {still : Store → Prop} {fin fin' : List (Key × D) → Store → Prop}
    (ht : ∀ x mu k k', (∀ o nu, k o nu → k' o nu) → turn x mu k → turn' x mu k') (hf : ∀ a nu, fin a nu → fin' a nu) :
    ∀ xs acc mu, dcGo turn still fin xs acc mu → dcGo turn' still fin' xs acc mu
  | [], acc, mu, h => ⟨h.1, hf _ _ h.2⟩
  | x :: xs, acc, mu, h => ⟨h.1, ht _ _ _ _ (fun o nu p => by
      cases o with
      | none => exact dcGo_mono ht hf xs acc nu p
      | some d => exact dcGo_mono ht hf xs (putD acc d.1 d.2) nu p) h.2⟩
/-- the ways back that are there -/
def PostM (p : Post) : Prop := ∀ mu (k k' : Store → Prop), (∀ nu, k nu → k' nu) → p mu k → p mu k'
theorem post0_m : PostM post0 := fun _ _ _ h q => h _ q
theorem unlk_m {n : Nat} {kvs : List (Key × D)} : PostM (unlk n kvs) := fun _ _ _ h q => ⟨q.1, h _ q.2⟩
theorem wLock_mono {d : D} {f : Key × D → D} {mu : Store} {R R' : List D → (Store → Prop) → Post → Store → Prop} (h : ∀ xs st po nu, PostM po → R xs st po nu → R' xs st po nu) (q : wLock d f mu R) : wLock d f mu R' := by
  cases d <;> simp only [wLock] at q ⊢
  exact dctAt_mono (fun a b p => ⟨p.1, p.2.1, h _ _ _ _ unlk_m p.2.2⟩) q
theorem wSeq_mono {d : D} {mu : Store} {R R' : List D → (Store → Prop) → Post → Store → Prop} (h : ∀ xs st po nu, PostM po → R xs st po nu → R' xs st po nu) (q : wSeq d mu R) : wSeq d mu R' := by
  cases d <;> simp only [wSeq] at q ⊢
  · exact ⟨q.1, h _ _ _ _ post0_m q.2⟩
  · exact h _ _ _ _ post0_m q
  · split at q
    · exact h _ _ _ _ post0_m q
    · exact wLock_mono h q
  · exact h _ _ _ _ post0_m q
mutual
theorem wpE_mono {G : Ctx} : ∀ (c : CE) {E E' : QX} {rh : Sl} {mu : Store} {Q Q' : QD}, (∀ x nu, E x nu → E' x nu) → (∀ d nu, Q d nu → Q' d nu) → wpE G c E rh mu Q → wpE G c E' rh mu Q'
  | .con d, _, _, _, _, _, _, _, hq, h => hq _ _ h
  | .var i, _, _, _, _, _, _, _, hq, h => by
    simp only [wpE] at h ⊢
    split <;> simp_all
  | .tup es, _, _, _, _, _, _, he, hq, h => by
    simp only [wpE] at h ⊢
    exact wpEs_mono es he (fun xs nu p => ⟨p.1, hq _ _ p.2⟩) h
  | .lst es, _, _, _, _, _, _, he, hq, h => by
    simp only [wpE] at h ⊢
    exact wpEs_mono es he (fun xs nu p => ⟨p.1, hq _ _ p.2⟩) h
  | .op1 o a, _, _, _, _, _, _, he, hq, h => by
    simp only [wpE] at h ⊢
    exact wpE_mono a he (fun x nu p => w1_mono hq p) h
  | .op2 o a b, _, _, _, _, _, _, he, hq, h => by
    simp only [wpE] at h ⊢
    exact wpE_mono a he (fun x nu p => ⟨p.1, wpE_mono b he (fun y nu r => w2_mono hq r) p.2⟩) h
  | .op3 o a b c, _, _, _, _, _, _, he, hq, h => by
    simp only [wpE] at h ⊢
    exact wpE_mono a he (fun x nu p => ⟨p.1, wpE_mono b he (fun y nu r => wpE_mono c he (fun z nu r => w3_mono hq r) r) p.2⟩) h
  | .dnew t, _, _, _, _, _, _, he, hq, h => by
    simp only [wpE] at h ⊢
    exact hq _ _ h
  | .disp es, _, _, _, _, _, _, he, hq, h => by
    simp only [wpE] at h ⊢
    exact wpEs_mono es he (fun xs nu p => onDisp_mono (fun b r => ⟨r.1, hq _ _ r.2⟩) p) h
  | .dc own p it c k e, _, _, _, _, _, _, he, hq, h => by
    simp only [wpE] at h ⊢
    refine wpI_mono it he (fun xs still post nu pm q => dcGo_mono (fun x m k1 k' hk r => onP_mono (fun rh1 r => wpE_mono c (fun _ _ z => z) (fun y m r => ?_) r) r) (fun a m r => pm _ _ _ (fun _ z => hq _ _ z) r) xs [] nu q) h
    refine onB_mono (fun b r => ?_) r
    cases b
    · exact hk _ _ r
    · exact wpE_mono k (fun _ _ z => z) (fun kd m r => wpE_mono e (fun _ _ z => z) (fun d m r => onKey_mono (fun ky r => hk _ _ r) r) r) r
  | .cond t a b, _, _, _, _, _, _, he, hq, h => by
    simp only [wpE] at h ⊢
    refine wpE_mono t he (fun x nu p => ?_) h
    refine onB_mono (fun k p => ?_) p
    cases k
    · exact wpE_mono b he hq p
    · exact wpE_mono a he hq p
  | .and a b, _, _, _, _, _, _, he, hq, h => by
    simp only [wpE] at h ⊢
    refine wpE_mono a he (fun x nu p => ?_) h
    refine onB_mono (fun k p => ?_) p
    cases k
    · exact hq _ _ p
    · exact wpE_mono b he hq p
  | .or a b, _, _, _, _, _, _, he, hq, h => by
    simp only [wpE] at h ⊢
    refine wpE_mono a he (fun x nu p => ?_) h
    refine onB_mono (fun k p => ?_) p
    cases k
    · exact wpE_mono b he hq p
    · exact hq _ _ p
  | .not a, _, _, _, _, _, _, he, hq, h => by
    simp only [wpE] at h ⊢
    refine wpE_mono a he (fun x nu p => ?_) h
    exact onB_mono (fun k p => hq _ _ p) p
  | .chain o p a b c, _, _, _, _, _, _, he, hq, h => by
    simp only [wpE] at h ⊢
    refine wpE_mono a he (fun x nu q => wpE_mono b he (fun y nu q => w2_mono (fun z nu q => ?_) q) q) h
    refine onB_mono (fun k q => ?_) q
    cases k
    · exact hq _ _ q
    · exact wpE_mono c he (fun u nu q => w2_mono hq q) q
  | .sl e lo hi, _, _, _, _, _, _, he, hq, h => by
    simp only [wpE] at h ⊢
    exact wpE_mono e he (fun x nu q => wpO_mono lo he (fun l nu q => wpO_mono hi he (fun u nu q => wSl_mono hq q) q) q) h
  | .call f ps es ks, _, _, _, _, _, _, he, hq, h => by
    simp only [wpE] at h ⊢
    exact wpEs_mono es he (fun xs nu q => wpEs_mono ks he (fun ys nu ⟨Q0, E0, a, b, c⟩ => ⟨Q0, E0, a, fun d m r => hq _ _ (b d m r), fun x m r => he _ _ (c x m r)⟩) q) h
  | .lc own p it c e, _, _, _, _, _, _, he, hq, h => by
    simp only [wpE] at h ⊢
    refine wpI_mono it he (fun xs still post nu pm q => lcGo_mono (fun x m k k' hk r => onP_mono (fun rh1 r => wpE_mono c (fun _ _ z => z) (fun y m r => ?_) r) r) (fun a m r => pm _ _ _ (fun _ z => hq _ _ z) r) xs [] nu q) h
    refine onB_mono (fun b r => ?_) r
    cases b
    · exact hk _ _ r
    · exact wpE_mono e (fun _ _ z => z) (fun d m r => hk _ _ r) r
  | .gc e, _, _, _, _, _, _, he, hq, h => by
    simp only [wpE] at h ⊢
    exact wpE_mono e he (fun d nu ⟨m, a, b, c, d', q⟩ => ⟨m, a, b, c, d', hq _ _ q⟩) h
theorem wpEs_mono {G : Ctx} : ∀ (c : CEs) {E E' : QX} {rh : Sl} {mu : Store} {Q Q' : List D → Store → Prop}, (∀ x nu, E x nu → E' x nu) → (∀ d nu, Q d nu → Q' d nu) → wpEs G c E rh mu Q → wpEs G c E' rh mu Q'
  | .nil, _, _, _, _, _, _, _, hq, h => hq _ _ h
  | .cons e r, _, _, _, _, _, _, he, hq, h => by
    simp only [wpEs] at h ⊢
    exact wpE_mono e he (fun x nu p => wpEs_mono r he (fun xs nu q => hq _ _ q) p) h
theorem wpO_mono {G : Ctx} : ∀ (c : CO) {E E' : QX} {rh : Sl} {mu : Store} {Q Q' : Option Int → Store → Prop}, (∀ x nu, E x nu → E' x nu) → (∀ d nu, Q d nu → Q' d nu) → wpO G c E rh mu Q → wpO G c E' rh mu Q'
  | .no, _, _, _, _, _, _, _, hq, h => hq _ _ h
  | .some e, _, _, _, _, _, _, he, hq, h => by
    simp only [wpO] at h ⊢
    exact wpE_mono e he (fun x nu p => onI_mono (fun i p => hq _ _ p) p) h
theorem wpI_mono {G : Ctx} : ∀ (c : CI) {E E' : QX} {rh : Sl} {mu : Store} {R R' : List D → (Store → Prop) → Post → Store → Prop}, (∀ x nu, E x nu → E' x nu) → (∀ xs st po nu, PostM po → R xs st po nu → R' xs st po nu) → wpI G c E rh mu R → wpI G c E' rh mu R'
  | .seq e, _, _, _, _, _, _, he, hq, h => by
    simp only [wpI] at h ⊢
    exact wpE_mono e he (fun x nu p => wSeq_mono hq p) h
  | .rng1 e, _, _, _, _, _, _, he, hq, h => by
    simp only [wpI] at h ⊢
    exact wpE_mono e he (fun x nu p => onI_mono (fun i p => ⟨p.1, hq _ _ _ _ post0_m p.2⟩) p) h
  | .rng2 a b, _, _, _, _, _, _, he, hq, h => by
    simp only [wpI] at h ⊢
    exact wpE_mono a he (fun x nu p => wpE_mono b he (fun y nu p => onI_mono (fun i p => onI_mono (fun j p => ⟨p.1, hq _ _ _ _ post0_m p.2⟩) p) p) p) h
  | .rng3 a b c, _, _, _, _, _, _, he, hq, h => by
    simp only [wpI] at h ⊢
    exact wpE_mono a he (fun x nu p => wpE_mono b he (fun y nu p => wpE_mono c he (fun z nu p => onI_mono (fun i p => onI_mono (fun j p => onI_mono (fun k ⟨n, p, p2, p3⟩ => ⟨n, p, p2, hq _ _ _ _ post0_m p3⟩) p) p) p) p) p) h
  | .items e, _, _, _, _, _, _, he, hq, h => by
    simp only [wpI] at h ⊢
    exact wpE_mono e he (fun x nu p => wLock_mono hq p) h
  | .vals e, _, _, _, _, _, _, he, hq, h => by
    simp only [wpI] at h ⊢
    exact wpE_mono e he (fun x nu p => wLock_mono hq p) h
  | .enum e, _, _, _, _, _, _, he, hq, h => by
    simp only [wpI] at h ⊢
    exact wpE_mono e he (fun x nu p => seqAt_mono (fun xs r => hq _ _ _ _ post0_m r) p) h
  | .zip a b, _, _, _, _, _, _, he, hq, h => by
    simp only [wpI] at h ⊢
    exact wpE_mono a he (fun x nu p => wpE_mono b he (fun y nu p => ⟨p.1, seqAt_mono (fun xs r => seqAt_mono (fun ys r => hq _ _ _ _ post0_m r) r) p.2⟩) p) h
end
end MP
namespace MP
open PySem PySem.Spec PyProof.Rows L2
/-- an exception as it lies -/
def IsX (K : PySem.W.Frag) (CT : Cls) (H : Hp) (be : List Addr) (x : Exc) (cls : Value) (d : Option Addr) : Prop :=
  cls = .ref (CT.c x.c) ∧ ((x.fs = [] ∧ d = none) ∨ ∃ dx gs, d = some dx ∧ H dx = some (.xd gs) ∧ IsFs K H be x.fs gs)
/-- a wish over data is a wish over the heap -/
def KQ (K : PySem.W.Frag) (CT : Cls) (H : Hp) (be : List Addr) (Qd : QD) (Q : VK) : Prop :=
  ∀ d nu be' H' v, Ext H H' be be' → RepS K CT H' be' nu → IsD K H' be' d v → Qd d nu → Q v H'
def KX (K : PySem.W.Frag) (CT : Cls) (H : Hp) (be : List Addr) (Ed : QX) (W : Value → Option Addr → Hp → Prop) : Prop :=
  ∀ x nu be' H' cls d, Ext H H' be be' → RepS K CT H' be' nu → IsX K CT H' be' x cls d → Ed x nu → W cls d H'
section
variable {K : PySem.W.Frag} {CT : Cls} {H H1 : Hp} {be be1 : List Addr} {Qd : QD} {Q : VK} {Ed : QX} {W : Value → Option Addr → Hp → Prop}
theorem KQ.mono (x : Ext H H1 be be1) (k : KQ K CT H be Qd Q) : KQ K CT H1 be1 Qd Q := fun d nu be' H' v y => k d nu be' H' v (x.trans y)
theorem KX.mono (x : Ext H H1 be be1) (k : KX K CT H be Ed W) : KX K CT H1 be1 Ed W := fun d nu be' H' c v y => k d nu be' H' c v (x.trans y)
theorem KQ.at_ (k : KQ K CT H be Qd Q) {mu : Store} {d : D} {v : V} (S : RepS K CT H be mu) (i : IsD K H be d v) (q : Qd d mu) : Q v H := k d mu be H v .refl S i q
theorem KQ.tup (k : KQ K CT H be Qd Q) {mu : Store} {xs : List D} {vs : List V} {p : Addr} (S : RepS K CT H be mu) (i : IsDs K H be xs vs) (q : Qd (.tup xs) mu) (hp : H p = none) : Q (.ref p) (upd H p (.tup vs)) := by
  have x : Ext H (upd H p (.tup vs)) be be := .fresh hp
  refine k _ mu be _ _ x (S.fresh hp) ?_ q
  simp only [IsD]
  exact ⟨p, vs, rfl, SqT.of upd_same, i.mono x⟩
theorem KQ.lst (k : KQ K CT H be Qd Q) {mu : Store} {xs : List D} {vs : List V} {p : Addr} (S : RepS K CT H be mu) (i : IsDs K H be xs vs) (q : newLst xs mu Qd) (hp : H p = none) : Q (.ref p) (upd H p (.lst vs)) := by
  have x : Ext H (upd H p (.lst vs)) be (be ++ [p]) := .cell hp
  refine k _ _ (be ++ [p]) _ _ x (S.cell (c := .lst xs) hp ⟨vs, upd_same, i.mono x⟩) ?_ q
  simp only [IsD]
  exact ⟨p, by rw [← S.len]; simp, rfl⟩
end
def LE (G : Ctx) (K : PySem.W.Frag) (CT : Cls) (W : WX) (c : CE) : TE := fun sg H Q => ∃ be mu rh Qd Ed,
  RepS K CT H be mu ∧ RepL K H be rh sg ∧ wpE G c Ed rh mu Qd ∧ KQ K CT H be Qd Q ∧ KX K CT H be Ed (fun c d => W c d sg)
def LT (G : Ctx) (K : PySem.W.Frag) (CT : Cls) (W : WX) (c : CE) : TT := fun sg H Q => ∃ be mu rh Qd Ed,
  RepS K CT H be mu ∧ RepL K H be rh sg ∧ wpT G c Ed rh mu Qd ∧ (∀ b nu be' H', Ext H H' be be' → RepS K CT H' be' nu → Qd b nu → Q b H') ∧ KX K CT H be Ed (fun c d => W c d sg)
def LA (G : Ctx) (K : PySem.W.Frag) (CT : Cls) (W : WX) (c : CEs) : TA := fun sg H Q => ∃ be mu rh Qd Ed,
  RepS K CT H be mu ∧ RepL K H be rh sg ∧ wpEs G c Ed rh mu Qd ∧ (∀ ds nu be' H' vs, Ext H H' be be' → RepS K CT H' be' nu → IsDs K H' be' ds vs → Qd ds nu → Q vs H') ∧ KX K CT H be Ed (fun c d => W c d sg)
def LO (G : Ctx) (K : PySem.W.Frag) (CT : Cls) (W : WX) (c : CO) : TO := fun sg H Q => ∃ be mu rh Qd Ed,
  RepS K CT H be mu ∧ RepL K H be rh sg ∧ wpO G c Ed rh mu Qd ∧ (∀ o nu be' H', Ext H H' be be' → RepS K CT H' be' nu → Qd o nu → Q o H') ∧ KX K CT H be Ed (fun c d => W c d sg)
/-- values' operations over data -/
def R1D (K : PySem.W.Frag) (CT : Cls) (o : O1) : V → Hp → VK → Prop := fun v H Q => ∃ be mu x Qd, RepS K CT H be mu ∧ IsD K H be x v ∧ w1 o x mu Qd ∧ KQ K CT H be Qd Q
def R2D (K : PySem.W.Frag) (CT : Cls) (o : O2) : R2 := fun v u H Q => ∃ be mu x y Qd, RepS K CT H be mu ∧ IsD K H be x v ∧ IsD K H be y u ∧ w2 o x y mu Qd ∧ KQ K CT H be Qd Q
def RSl (K : PySem.W.Frag) (CT : Cls) : V → Option Int → Option Int → Hp → VK → Prop := fun v lo hi H Q => ∃ be mu x Qd, RepS K CT H be mu ∧ IsD K H be x v ∧ wSl x lo hi mu Qd ∧ KQ K CT H be Qd Q
section
variable {G : Ctx} {K : PySem.W.Frag} {CT : Cls} {W : WX} {sg : L2.St} {H : Hp} {Q : VK}
theorem le_op1 {o : O1} {a : CE} (h : LE G K CT W (.op1 o a) sg H Q) : LE G K CT W a sg H fun v H1 => R1D K CT o v H1 Q := by
  obtain ⟨be, mu, rh, Qd, Ed, S, L, h, kq, kx⟩ := h
  exact ⟨be, mu, rh, _, Ed, S, L, by simpa only [wpE] using h, fun x mu1 be1 H1 v x1 S1 d1 h1 => ⟨be1, mu1, x, Qd, S1, d1, h1, kq.mono x1⟩, kx⟩
theorem le_op2 {o : O2} {a b : CE} (h : LE G K CT W (.op2 o a b) sg H Q) : tOp (R2D K CT o) (LE G K CT W a) (LE G K CT W b) sg H Q := by
  obtain ⟨be, mu, rh, Qd, Ed, S, L, h, kq, kx⟩ := h
  exact ⟨be, mu, rh, fun x nu => pre2 o x nu ∧ wpE G b Ed rh nu fun y mu2 => w2 o x y mu2 Qd, Ed, S, L, by simpa only [wpE] using h, fun x mu1 be1 H1 v x1 S1 d1 h1 =>
    ⟨be1, mu1, rh, _, Ed, S1, L.mono x1, h1.2, fun y mu2 be2 H2 u x2 S2 d2 h2 => ⟨be2, mu2, x, y, Qd, S2, d1.mono x2, d2, h2, kq.mono (x1.trans x2)⟩, kx.mono x1⟩, kx⟩
/-- the receiver of a method -/
def Pre2 (K : PySem.W.Frag) (CT : Cls) (o : O2) (v : V) (H : Hp) : Prop := ∃ be mu x, RepS K CT H be mu ∧ IsD K H be x v ∧ pre2 o x mu
theorem le_meth2 {o : O2} {a b : CE} (h : LE G K CT W (.op2 o a b) sg H Q) : LE G K CT W a sg H fun v H1 => Pre2 K CT o v H1 ∧ LE G K CT W b sg H1 fun u H2 => R2D K CT o v u H2 Q := by
  obtain ⟨be, mu, rh, Qd, Ed, S, L, h, kq, kx⟩ := h
  exact ⟨be, mu, rh, fun x nu => pre2 o x nu ∧ wpE G b Ed rh nu fun y mu2 => w2 o x y mu2 Qd, Ed, S, L, by simpa only [wpE] using h, fun x mu1 be1 H1 v x1 S1 d1 h1 =>
    ⟨⟨be1, mu1, x, S1, d1, h1.1⟩, be1, mu1, rh, _, Ed, S1, L.mono x1, h1.2, fun y mu2 be2 H2 u x2 S2 d2 h2 => ⟨be2, mu2, x, y, Qd, S2, d1.mono x2, d2, h2, kq.mono (x1.trans x2)⟩, kx.mono x1⟩, kx⟩
theorem LE.mono {c : CE} {Q' : VK} (h : LE G K CT W c sg H Q) (k : ∀ v H', Q v H' → Q' v H') : LE G K CT W c sg H Q' := by
  obtain ⟨be, mu, rh, Qd, Ed, S, L, h, kq, kx⟩ := h
  exact ⟨be, mu, rh, Qd, Ed, S, L, h, fun d nu be' H' v x S i q => k _ _ (kq d nu be' H' v x S i q), kx⟩
theorem LA.mono {c : CEs} {Q Q' : List V → Hp → Prop} (h : LA G K CT W c sg H Q) (k : ∀ v H', Q v H' → Q' v H') : LA G K CT W c sg H Q' := by
  obtain ⟨be, mu, rh, Qd, Ed, S, L, h, kq, kx⟩ := h
  exact ⟨be, mu, rh, Qd, Ed, S, L, h, fun d nu be' H' v x S i q => k _ _ (kq d nu be' H' v x S i q), kx⟩
theorem le_sl {e : CE} {lo hi : CO} (h : LE G K CT W (.sl e lo hi) sg H Q) : tSl (RSl K CT) (LE G K CT W e) (LO G K CT W lo) (LO G K CT W hi) sg H Q := by
  obtain ⟨be, mu, rh, Qd, Ed, S, L, h, kq, kx⟩ := h
  exact ⟨be, mu, rh, _, Ed, S, L, by simpa only [wpE] using h, fun x mu1 be1 H1 v x1 S1 d1 h1 =>
    ⟨be1, mu1, rh, _, Ed, S1, L.mono x1, h1, fun y mu2 be2 H2 x2 S2 h2 => ⟨be2, mu2, rh, _, Ed, S2, L.mono (x1.trans x2), h2, fun z mu3 be3 H3 x3 S3 h3 =>
      ⟨be3, mu3, x, Qd, S3, d1.mono (x2.trans x3), h3, kq.mono ((x1.trans x2).trans x3)⟩, kx.mono (x1.trans x2)⟩, kx.mono x1⟩, kx⟩
theorem le_con {d : D} (h : LE G K CT W (.con d) sg H Q) : ∃ be mu Qd, RepS K CT H be mu ∧ Qd d mu ∧ KQ K CT H be Qd Q := by
  obtain ⟨be, mu, rh, Qd, Ed, S, L, h, kq, kx⟩ := h
  exact ⟨be, mu, Qd, S, by simpa only [wpE] using h, kq⟩
theorem le_var {i : Nat} (h : LE G K CT W (.var i) sg H Q) : tVar i sg H Q := by
  obtain ⟨be, mu, rh, Qd, Ed, S, L, h, kq, kx⟩ := h
  simp only [wpE] at h
  split at h
  · rename_i d e
    obtain ⟨v, e2, i2⟩ := L.at_ i d e
    exact ⟨v, e2, kq.at_ S i2 h⟩
  · exact h.elim
theorem le_tup {es : CEs} (h : LE G K CT W (.tup es) sg H Q) : tTup (LA G K CT W es) sg H Q := by
  obtain ⟨be, mu, rh, Qd, Ed, S, L, h, kq, kx⟩ := h
  refine ⟨be, mu, rh, fun xs nu => sizeT xs.length ∧ Qd (.tup xs) nu, Ed, S, L, by simpa only [wpE] using h, fun ds mu1 be1 H1 vs x1 S1 d1 h1 => ⟨by rw [← d1.len]; exact h1.1, fun p hp => (kq.mono x1).tup S1 d1 h1.2 hp⟩, kx⟩
theorem le_lst {es : CEs} (h : LE G K CT W (.lst es) sg H Q) : tLst (LA G K CT W es) sg H Q := by
  obtain ⟨be, mu, rh, Qd, Ed, S, L, h, kq, kx⟩ := h
  refine ⟨be, mu, rh, fun xs nu => sizeT xs.length ∧ newLst xs nu Qd, Ed, S, L, by simpa only [wpE] using h, fun ds mu1 be1 H1 vs x1 S1 d1 h1 => ⟨by rw [← d1.len]; exact h1.1, fun p hp => (kq.mono x1).lst S1 d1 h1.2 hp⟩, kx⟩
theorem la_nil {Q : List V → Hp → Prop} (h : LA G K CT W .nil sg H Q) : tNil sg H Q := by
  obtain ⟨be, mu, rh, Qd, Ed, S, L, h, kq, kx⟩ := h
  exact kq [] mu be H [] .refl S .nil (by simpa only [wpEs] using h)
theorem la_cons {e : CE} {r : CEs} {Q : List V → Hp → Prop} (h : LA G K CT W (.cons e r) sg H Q) : tCons (LE G K CT W e) (LA G K CT W r) sg H Q := by
  obtain ⟨be, mu, rh, Qd, Ed, S, L, h, kq, kx⟩ := h
  exact ⟨be, mu, rh, _, Ed, S, L, by simpa only [wpEs] using h, fun x mu1 be1 H1 v x1 S1 d1 h1 =>
    ⟨be1, mu1, rh, _, Ed, S1, L.mono x1, h1, fun xs mu2 be2 H2 vs x2 S2 d2 h2 => kq _ mu2 be2 H2 _ (x1.trans x2) S2 (.cons (d1.mono x2) d2) h2, kx.mono x1⟩, kx⟩
theorem lo_no {Q : Option Int → Hp → Prop} (h : LO G K CT W .no sg H Q) : tNoPart sg H Q := by
  obtain ⟨be, mu, rh, Qd, Ed, S, L, h, kq, kx⟩ := h
  exact kq none mu be H .refl S (by simpa only [wpO] using h)
theorem lo_some {e : CE} {Q : Option Int → Hp → Prop} (h : LO G K CT W (.some e) sg H Q) : tPart (LE G K CT W e) sg H Q := by
  obtain ⟨be, mu, rh, Qd, Ed, S, L, h, kq, kx⟩ := h
  refine ⟨be, mu, rh, _, Ed, S, L, by simpa only [wpO] using h, fun x mu1 be1 H1 v x1 S1 d1 h1 => ?_, kx⟩
  cases x <;> simp only [onI] at h1
  case int i =>
    simp only [IsD] at d1
    exact ⟨i, d1, kq _ mu1 be1 H1 x1 S1 h1⟩
theorem le_cond {t a b : CE} (h : LE G K CT W (.cond t a b) sg H Q) : tIf (LT G K CT W t) (LE G K CT W a) (LE G K CT W b) sg H Q := by
  obtain ⟨be, mu, rh, Qd, Ed, S, L, h, kq, kx⟩ := h
  refine ⟨be, mu, rh, fun c nu => if c = true then wpE G a Ed rh nu Qd else wpE G b Ed rh nu Qd, Ed, S, L, by simpa only [wpE, wpT] using h, fun c mu1 be1 H1 x1 S1 h1 => ?_, kx⟩
  cases c with
  | true => exact ⟨be1, mu1, rh, Qd, Ed, S1, L.mono x1, h1, kq.mono x1, kx.mono x1⟩
  | false => exact ⟨be1, mu1, rh, Qd, Ed, S1, L.mono x1, h1, kq.mono x1, kx.mono x1⟩
theorem le_and {a b : CE} (h : LE G K CT W (.and a b) sg H Q) : tAndV (LE G K CT W a) (LE G K CT W b) sg H Q := by
  obtain ⟨be, mu, rh, Qd, Ed, S, L, h, kq, kx⟩ := h
  refine ⟨be, mu, rh, _, Ed, S, L, by simpa only [wpE] using h, fun x mu1 be1 H1 v x1 S1 d1 h1 => ?_, kx⟩
  cases x <;> simp only [onB] at h1
  case bl c =>
    simp only [IsD] at d1
    refine ⟨c, d1, ?_⟩
    cases c with
    | true => exact ⟨be1, mu1, rh, Qd, Ed, S1, L.mono x1, h1, kq.mono x1, kx.mono x1⟩
    | false => exact (kq.mono x1).at_ S1 (by simp only [IsD]) h1
theorem le_or {a b : CE} (h : LE G K CT W (.or a b) sg H Q) : tOrV (LE G K CT W a) (LE G K CT W b) sg H Q := by
  obtain ⟨be, mu, rh, Qd, Ed, S, L, h, kq, kx⟩ := h
  refine ⟨be, mu, rh, _, Ed, S, L, by simpa only [wpE] using h, fun x mu1 be1 H1 v x1 S1 d1 h1 => ?_, kx⟩
  cases x <;> simp only [onB] at h1
  case bl c =>
    simp only [IsD] at d1
    refine ⟨c, d1, ?_⟩
    cases c with
    | true => exact (kq.mono x1).at_ S1 (by simp only [IsD]) h1
    | false => exact ⟨be1, mu1, rh, Qd, Ed, S1, L.mono x1, h1, kq.mono x1, kx.mono x1⟩
theorem le_not {a : CE} (h : LE G K CT W (.not a) sg H Q) : tNotV (LE G K CT W a) sg H Q := by
  obtain ⟨be, mu, rh, Qd, Ed, S, L, h, kq, kx⟩ := h
  refine ⟨be, mu, rh, _, Ed, S, L, by simpa only [wpE] using h, fun x mu1 be1 H1 v x1 S1 d1 h1 => ?_, kx⟩
  cases x <;> simp only [onB] at h1
  case bl c =>
    simp only [IsD] at d1
    exact ⟨c, d1, (kq.mono x1).at_ S1 (by simp only [IsD]) h1⟩
theorem le_chain {o p : O2} {a b c : CE} (h : LE G K CT W (.chain o p a b c) sg H Q) : tChain (R2D K CT o) (R2D K CT p) (LE G K CT W a) (LE G K CT W b) (LE G K CT W c) sg H Q := by
  obtain ⟨be, mu, rh, Qd, Ed, S, L, h, kq, kx⟩ := h
  refine ⟨be, mu, rh, _, Ed, S, L, by simpa only [wpE] using h, fun x mu1 be1 H1 v x1 S1 d1 h1 =>
    ⟨be1, mu1, rh, _, Ed, S1, L.mono x1, h1, fun y mu2 be2 H2 u x2 S2 d2 h2 => ⟨be2, mu2, x, y, _, S2, d1.mono x2, d2, h2, fun z mu3 be3 H3 w x3 S3 d3 h3 => ?_⟩, kx.mono x1⟩, kx⟩
  cases z <;> simp only [onB] at h3
  case bl k =>
    simp only [IsD] at d3
    refine ⟨k, d3, ?_⟩
    cases k with
    | true => exact ⟨be3, mu3, rh, _, Ed, S3, L.mono ((x1.trans x2).trans x3), h3, fun q mu4 be4 H4 w x4 S4 d4 h4 => ⟨be4, mu4, y, q, Qd, S4, d2.mono (x3.trans x4), d4, h4, kq.mono (((x1.trans x2).trans x3).trans x4)⟩, kx.mono ((x1.trans x2).trans x3)⟩
    | false => exact (kq.mono ((x1.trans x2).trans x3)).at_ S3 (by simp only [IsD]) h3
/-- a test from its value -/
theorem lt_le {c : CE} {Q : Bool → Hp → Prop} (h : LT G K CT W c sg H Q) : tB (LE G K CT W c) sg H Q := by
  obtain ⟨be, mu, rh, Qd, Ed, S, L, h, kq, kx⟩ := h
  refine ⟨be, mu, rh, _, Ed, S, L, h, fun x mu1 be1 H1 v x1 S1 d1 h1 => ?_, kx⟩
  cases x <;> simp only [onB] at h1
  case bl k =>
    simp only [IsD] at d1
    exact ⟨k, d1, kq k mu1 be1 H1 x1 S1 h1⟩
theorem lt_and {a b : CE} {Q : Bool → Hp → Prop} (h : LT G K CT W (.and a b) sg H Q) : tAnd (LT G K CT W a) (LT G K CT W b) sg H Q := by
  obtain ⟨be, mu, rh, Qd, Ed, S, L, h, kq, kx⟩ := h
  refine ⟨be, mu, rh, fun c nu => if c = true then wpT G b Ed rh nu Qd else Qd false nu, Ed, S, L, ?_, fun c mu1 be1 H1 x1 S1 h1 => ?_, kx⟩
  · simp only [wpT, wpE] at h
    exact h
  · cases c with
    | true => exact ⟨be1, mu1, rh, Qd, Ed, S1, L.mono x1, h1, fun b nu be' H' y => kq b nu be' H' (x1.trans y), kx.mono x1⟩
    | false => exact kq false mu1 be1 H1 x1 S1 h1
theorem lt_or {a b : CE} {Q : Bool → Hp → Prop} (h : LT G K CT W (.or a b) sg H Q) : tOr (LT G K CT W a) (LT G K CT W b) sg H Q := by
  obtain ⟨be, mu, rh, Qd, Ed, S, L, h, kq, kx⟩ := h
  refine ⟨be, mu, rh, fun c nu => if c = true then Qd true nu else wpT G b Ed rh nu Qd, Ed, S, L, ?_, fun c mu1 be1 H1 x1 S1 h1 => ?_, kx⟩
  · simp only [wpT, wpE] at h
    exact h
  · cases c with
    | true => exact kq true mu1 be1 H1 x1 S1 h1
    | false => exact ⟨be1, mu1, rh, Qd, Ed, S1, L.mono x1, h1, fun b nu be' H' y => kq b nu be' H' (x1.trans y), kx.mono x1⟩
theorem lt_not {a : CE} {Q : Bool → Hp → Prop} (h : LT G K CT W (.not a) sg H Q) : tNot (LT G K CT W a) sg H Q := by
  obtain ⟨be, mu, rh, Qd, Ed, S, L, h, kq, kx⟩ := h
  exact ⟨be, mu, rh, fun c nu => Qd (!c) nu, Ed, S, L, (by simp only [wpT, wpE] at h; exact h), fun c mu1 be1 H1 x1 S1 h1 => kq _ mu1 be1 H1 x1 S1 h1, kx⟩
theorem le_gc {a : CE} (h : LE G K CT W (.gc a) sg H Q) : LE G K CT W a sg H Q := by
  obtain ⟨be, mu, rh, Qd, Ed, S, L, h, kq, kx⟩ := h
  refine ⟨be, mu, rh, _, Ed, S, L, by simpa only [wpE] using h, fun x mu1 be1 H1 v x1 S1 d1 h1 => ?_, kx⟩
  obtain ⟨nu, a1, a2, a3, a4, h2⟩ := h1
  have e : nu.length = be.length := by rw [a2, S.len]
  refine kq x nu (be1.take nu.length) H1 v (x1.forget (by omega)) (S1.forget a1 (a3 S.wf)) (d1.less (by rw [a2]; exact a4)) h2
end
end MP
namespace MP
open PySem PySem.Spec PyProof.Rows L2
section
variable {K : PySem.W.Frag} {CT : Cls} {H : Hp} {be : List Addr} {mu : Store}
theorem lst_of {n : Nat} {Q : List D → Prop} {v : V} (S : RepS K CT H be mu) (i : IsD K H be (.ref n) v) (h : lstAt mu n Q) :
    ∃ a vs xs, v = .ref a ∧ be[n]? = some a ∧ mu[n]? = some (.lst xs) ∧ H a = some (.lst vs) ∧ IsDs K H be xs vs ∧ Q xs := by
  simp only [IsD] at i
  obtain ⟨a, e, rfl⟩ := i
  unfold lstAt at h
  split at h
  · rename_i xs hm
    obtain ⟨vs, h1, h2⟩ := S.get e hm
    exact ⟨a, vs, xs, rfl, e, hm, h1, h2, h⟩
  · exact h.elim
theorem seq_of {d : D} {Q : List D → Prop} {v : V} (S : RepS K CT H be mu) (i : IsD K H be d v) (h : seqAt d mu Q) :
    ∃ a vs xs, v = .ref a ∧ (SqL K H a vs ∨ SqT K H a vs) ∧ IsDs K H be xs vs ∧ Q xs := by
  cases d <;> simp only [seqAt] at h
  case tup xs =>
    simp only [IsD] at i
    obtain ⟨a, vs, rfl, q, r⟩ := i
    exact ⟨a, vs, xs, rfl, .inr q, r, h⟩
  case ref n =>
    obtain ⟨a, vs, xs, rfl, _, _, h1, h2, q⟩ := lst_of S i h
    exact ⟨a, vs, xs, rfl, .inl (SqL.of h1), h2, q⟩
  case ro xs =>
    simp only [IsD] at i
    obtain ⟨a, vs, rfl, q, r⟩ := i
    exact ⟨a, vs, xs, rfl, .inl q.sq, r, h⟩
theorem list_of {d : D} {Q : List D → Prop} {v : V} (S : RepS K CT H be mu) (i : IsD K H be d v) (h : listAt d mu Q) :
    ∃ a vs xs, v = .ref a ∧ SqL K H a vs ∧ IsDs K H be xs vs ∧ Q xs := by
  cases d <;> simp only [listAt] at h
  case ref n =>
    obtain ⟨a, vs, xs, rfl, _, _, h1, h2, q⟩ := lst_of S i h
    exact ⟨a, vs, xs, rfl, SqL.of h1, h2, q⟩
  case ro xs =>
    simp only [IsD] at i
    obtain ⟨a, vs, rfl, q, r⟩ := i
    exact ⟨a, vs, xs, rfl, q.sq, r, h⟩
theorem bls_of : ∀ {xs : List D} {bs : List Bool} {vs : List V}, allBl xs = some bs → IsDs K H be xs vs → vs = bs.map .bl
  | [], bs, vs, e, h => by
    simp only [allBl, Option.some.injEq] at e
    subst e
    simp only [IsDs] at h
    subst h
    rfl
  | x :: r, bs, vs, e, h => by
    cases x <;> simp only [allBl] at e <;> try (cases e)
    case bl b =>
      simp only [Option.map_eq_some_iff] at e
      obtain ⟨cs, e1, rfl⟩ := e
      simp only [IsDs, IsD] at h
      obtain ⟨v, w, rfl, rfl, h2⟩ := h
      rw [bls_of e1 h2]; rfl
theorem ints_of : ∀ {xs : List D} {bs : List Int} {vs : List V}, allInt xs = some bs → IsDs K H be xs vs → vs = bs.map .int
  | [], bs, vs, e, h => by
    simp only [allInt, Option.some.injEq] at e
    subst e
    simp only [IsDs] at h
    subst h
    rfl
  | x :: r, bs, vs, e, h => by
    cases x <;> simp only [allInt] at e <;> try (cases e)
    case int b =>
      simp only [Option.map_eq_some_iff] at e
      obtain ⟨cs, e1, rfl⟩ := e
      simp only [IsDs, IsD] at h
      obtain ⟨v, w, rfl, rfl, h2⟩ := h
      rw [ints_of e1 h2]; rfl
theorem strs_of : ∀ {xs : List D} {bs : List Str} {vs : List V}, allStr xs = some bs → IsDs K H be xs vs → vs = bs.map .str
  | [], bs, vs, e, h => by
    simp only [allStr, Option.some.injEq] at e
    subst e
    simp only [IsDs] at h
    subst h
    rfl
  | x :: r, bs, vs, e, h => by
    cases x <;> simp only [allStr] at e <;> try (cases e)
    case str b =>
      simp only [Option.map_eq_some_iff] at e
      obtain ⟨cs, e1, rfl⟩ := e
      simp only [IsDs, IsD] at h
      obtain ⟨v, w, rfl, rfl, h2⟩ := h
      rw [strs_of e1 h2]; rfl
mutual
theorem dp_of : ∀ {d : D} {v : V}, d.pure = true → IsD K H be d v → Dp K H v d.py
  | .non, _, _, h => by simp only [IsD] at h; subst h; exact .non
  | .bl _, _, _, h => by simp only [IsD] at h; subst h; exact .bl _
  | .int _, _, _, h => by simp only [IsD] at h; subst h; exact .int _
  | .str _, _, _, h => by simp only [IsD] at h; subst h; exact .str _
  | .tup xs, _, p, h => by
    simp only [IsD] at h
    obtain ⟨a, vs, rfl, q, r⟩ := h
    simp only [D.py]
    exact .tup q (dps_of (by simpa only [D.pure] using p) r)
  | .ref _, _, p, _ => by simp [D.pure] at p
  | .ro _, _, p, _ => by simp [D.pure] at p
theorem dps_of : ∀ {xs : List D} {vs : List V}, D.pures xs = true → IsDs K H be xs vs → DpAll K H vs (D.pys xs)
  | [], _, _, h => by simp only [IsDs] at h; subst h; exact .nil
  | x :: r, _, p, h => by
    simp only [IsDs] at h
    obtain ⟨v, w, rfl, h1, h2⟩ := h
    simp only [D.pures, Bool.and_eq_true] at p
    simp only [D.pys]
    exact .cons (dp_of p.1 h1) (dps_of p.2 h2)
end
end
theorem opr_alt {X : Cx} {f : Value → Value → Sem Value} {r s t : R2} (a : OpR X f r) (b : OpR X f s) (h : ∀ x y H Q, t x y H Q → r x y H Q ∨ s x y H Q) : OpR X f t := by
  intro pins s σ H x y v u Q I rx ry q
  rcases h _ _ _ _ q with q | q
  · exact a pins s σ H x y v u Q I rx ry q
  · exact b pins s σ H x y v u Q I rx ry q
theorem opr_imp {X : Cx} {f : Value → Value → Sem Value} {r t : R2} (a : OpR X f r) (h : ∀ x y H Q, t x y H Q → r x y H Q) : OpR X f t :=
  fun pins s σ H x y v u Q I rx ry q => a pins s σ H x y v u Q I rx ry (h _ _ _ _ q)
theorem opr_or {X : Cx} {f : Value → Value → Sem Value} {r s : R2} (a : OpR X f r) (b : OpR X f s) : OpR X f (fun x y H Q => r x y H Q ∨ s x y H Q) := opr_alt a b fun _ _ _ _ h => h
theorem callr_or {X : Cx} {f : Value} {r s : List V → Hp → VK → Prop} (a : CallR X f r) (b : CallR X f s) : CallR X f (fun xs H Q => r xs H Q ∨ s xs H Q) := by
  intro pins s σ H xs us Q I r q
  rcases q with q | q
  · exact a pins s σ H xs us Q I r q
  · exact b pins s σ H xs us Q I r q
theorem callr_imp {X : Cx} {f : Value} {r t : List V → Hp → VK → Prop} (a : CallR X f r) (h : ∀ xs H Q, t xs H Q → r xs H Q) : CallR X f t :=
  fun pins s σ H xs us Q I r q => a pins s σ H xs us Q I r (h _ _ _ q)
theorem tupMulSame (l : Addr) (its : Array Value) (n : Nat) (dd : Option Addr) (sl : Array (Option Value)) (x : Int) (u : Tok)
    (c0 : (decide (x < -(2 ^ 63)) || decide (x ≥ 2 ^ 63)) = false) (c1 : (its.isEmpty || x == 1) = true) :
    Meets (Builtin.«tuple.__mul__» ⟨[.ref l, .int x u], []⟩)
      (fun _ R s => s.heap.get? l = some { cls := .type "tuple", dict := dd, data := .seq its n, slots := sl } ∧ R (.ok (.ret (.ref l))) s) :=
  .of_wp fun prog w A R s h => by
    obtain ⟨hp, g, d, tk, os⟩ := s
    obtain ⟨hl, h⟩ := h
    have f1 := AutoSeq1.idx_int
    wp_walk using wpAny_loadPart' hl
    refine wpAny_ite_false (decide_eq_false (by rw [c0]; exact Bool.false_ne_true)) ?_
    wp_walk using wpAny_loadPart' hl
    exact ⟨_, rfl, h⟩
theorem tupMulNone (l : Addr) (its : Array Value) (n : Nat) (dd : Option Addr) (sl : Array (Option Value)) (x : Int) (u : Tok)
    (c0 : (decide (x < -(2 ^ 63)) || decide (x ≥ 2 ^ 63)) = false) (c1 : (its.isEmpty || x == 1) = false) (c2 : (decide (x ≤ 0) || its.isEmpty) = true) :
    Meets (Builtin.«tuple.__mul__» ⟨[.ref l, .int x u], []⟩)
      (fun _ R s => s.heap.get? l = some { cls := .type "tuple", dict := dd, data := .seq its n, slots := sl } ∧ R (.ok (.ret (.ref s.heap.objs.size))) { s with heap := s.heap.push { cls := Value.type "tuple", data := Data.seq #[] }, toks := s.toks }) :=
  .of_wp fun prog w A R s h => by
    obtain ⟨hp, g, d, tk, os⟩ := s
    obtain ⟨hl, h⟩ := h
    have f1 := AutoSeq1.idx_int
    wp_walk using wpAny_loadPart' hl
    refine wpAny_ite_false (decide_eq_false (by rw [c0]; exact Bool.false_ne_true)) ?_
    wp_walk using wpAny_loadPart' hl
    repeat (first
      | (refine wpAny_ite_false (decide_eq_false (by rw [c1]; exact Bool.false_ne_true)) ?_; wp_walk using wpAny_loadPart' hl)
      | (refine wpAny_ite_true (decide_eq_true c2) ?_; wp_walk using wpAny_loadPart' hl))
    exact ⟨_, rfl, h⟩
section
variable {X : Cx} {CT : Cls}
theorem op_add_bi : OpR X (binaryOp .Add) (fun x y H Q => ∃ k j, x = .bl k ∧ y = .int j ∧ Q (.int ((if k = true then 1 else 0) + j)) H) := by
  intro pins s σ H x y v u Q I rx ry h
  obtain ⟨k, j, rfl, rfl, q⟩ := h
  obtain ⟨t, rfl⟩ := ry
  cases rx
  exact PySem.IntBool.add_bool_int ⟨.int ((if k = true then 1 else 0) + j), H, I.tok _, ⟨_, rfl⟩, q⟩
theorem op_sub_bi : OpR X (binaryOp .Sub) (fun x y H Q => ∃ k j, x = .bl k ∧ y = .int j ∧ Q (.int ((if k = true then 1 else 0) - j)) H) := by
  intro pins s σ H x y v u Q I rx ry h
  obtain ⟨k, j, rfl, rfl, q⟩ := h
  obtain ⟨t, rfl⟩ := ry
  cases rx
  exact PySem.IntBool.sub_bool_int ⟨.int ((if k = true then 1 else 0) - j), H, I.tok _, ⟨_, rfl⟩, q⟩
theorem add_D : OpR X (binaryOp .Add) (R2D X.K CT .add) := by
  refine opr_imp (opr_or op_add_bi (opr_or (opr_or op_add op_add_str) (opr_or op_catA op_cat))) fun v u H Q h => ?_
  obtain ⟨be, mu, x, y, Qd, S, dx, dy, h, kq⟩ := h
  cases x <;> cases y <;> simp only [w2] at h <;> try exact h.elim
  case bl.int k j =>
    simp only [IsD] at dx dy
    exact .inl ⟨k, j, dx, dy, kq.at_ S (by simp only [IsD]) h⟩
  all_goals refine .inr ?_
  case int.int i j =>
    simp only [IsD] at dx dy
    exact .inl (.inl ⟨i, j, dx, dy, kq.at_ S (by simp only [IsD]) h⟩)
  case str.str i j =>
    simp only [IsD] at dx dy
    exact .inl (.inr ⟨i, j, dx, dy, h.1, kq.at_ S (by simp only [IsD]) h.2⟩)
  case tup.tup xs ys =>
    have dx0 := dx
    have dy0 := dy
    simp only [IsD] at dx dy
    obtain ⟨a, vs, rfl, q1, r1⟩ := dx
    obtain ⟨b, ws, rfl, q2, r2⟩ := dy
    refine .inr (.inl ⟨a, b, vs, ws, rfl, rfl, q1, q2, by rw [← r1.len, ← r2.len]; exact h.1, fun e => ?_, fun e1 e2 => ?_, fun e1 e2 p hp => kq.tup S (r1.append r2) h.2 hp⟩)
    · have e' : xs = [] := by
        have := r1.len
        rw [e] at this
        exact List.eq_nil_of_length_eq_zero (by simpa using this)
      subst e'
      exact kq.at_ S dy0 (by simpa using h.2)
    · have e' : ys = [] := by
        have := r2.len
        rw [e2] at this
        exact List.eq_nil_of_length_eq_zero (by simpa using this)
      subst e'
      exact kq.at_ S dx0 (by simpa using h.2)
  case ref.ref n m =>
    obtain ⟨a, vs, xs, rfl, _, _, h1, i1, h⟩ := lst_of S dx h
    obtain ⟨b, ws, ys, rfl, _, _, h2, i2, h⟩ := lst_of S dy h
    exact .inr (.inr ⟨a, b, vs, ws, rfl, rfl, h1, h2, by rw [← i1.len, ← i2.len]; exact h.1, fun p hp => kq.lst S (i1.append i2) h.2 hp⟩)
theorem sub_D : OpR X (binaryOp .Sub) (R2D X.K CT .sub) := by
  refine opr_imp (opr_or op_sub_bi op_sub) fun v u H Q h => ?_
  obtain ⟨be, mu, x, y, Qd, S, dx, dy, h, kq⟩ := h
  cases x <;> cases y <;> simp only [w2] at h
  case bl.int k j =>
    simp only [IsD] at dx dy
    exact .inl ⟨k, j, dx, dy, kq.at_ S (by simp only [IsD]) h⟩
  case int.int i j =>
    simp only [IsD] at dx dy
    exact .inr ⟨i, j, dx, dy, kq.at_ S (by simp only [IsD]) h⟩
theorem op_mulI : OpR X (binaryOp .Mult) (rI IntMulOk fun i j => .int (i * j)) := opI fun _ _ _ _ _ _ _ hc q => mul_int q hc
theorem fold_rep {α : Type} (x : Array α) : ∀ (m : Nat) (acc : Array α), (List.replicate m x).foldl (· ++ ·) acc = acc ++ (List.replicate m x.toList).flatten.toArray
  | 0, acc => by simp
  | m + 1, acc => by
    rw [List.replicate_succ, List.foldl_cons, fold_rep x m, List.replicate_succ, List.flatten_cons]
    apply Array.ext'
    simp
theorem op_mulS : OpR X (binaryOp .Mult) (fun x y H Q => ∃ a k, x = .str a ∧ y = .int k ∧ k < 2 ^ 20 ∧ -(2 ^ 20) < k ∧ a.length * k.toNat ≤ sizeLine ∧ Q (.str ⟨(List.replicate k.toNat a.cps.toList).flatten.toArray⟩) H) := by
  intro pins s σ H x y v u Q I rx ry h
  obtain ⟨a, k, rfl, rfl, h1, h2, hz, q⟩ := h
  obtain ⟨t, rfl⟩ := rx
  obtain ⟨t', rfl⟩ := ry
  have hs := sizeLine_eq
  refine PySem.P.mul_str ?_ (fun hn _ => ?_) (fun hn _ => ?_) ?_
  · rw [decide_eq_false (by omega), decide_eq_false (by omega)]; rfl
  · have e1 : (a.length : Int) * k ≤ sizeLine := by
      have : ((a.length * k.toNat : Nat) : Int) ≤ (sizeLine : Int) := by omega
      rw [Int.natCast_mul, Int.toNat_of_nonneg (by omega)] at this
      exact this
    intro z
    have z2 : (2 ^ 63 - 1) / k < (a.length : Int) := z
    have z3 : (2 ^ 63 - 1 : Int) < (a.length : Int) * k := (Int.ediv_lt_iff_lt_mul (by omega)).mp z2
    omega
  · exact decide_eq_false (show ¬ a.length * k.toNat > sizeLine by omega)
  · have e1 : (⟨(List.replicate k.toNat a.cps).foldl (· ++ ·) #[]⟩ : Str) = ⟨(List.replicate k.toNat a.cps.toList).flatten.toArray⟩ := by rw [fold_rep]; simp
    have ln : ∀ m : Nat, (List.replicate m a.cps.toList).flatten.length = m * a.length := fun m => by simp [Str.length]
    by_cases hk : k < 1
    · rw [if_pos hk]
      have e0 : k.toNat = 0 := by omega
      rw [e0] at q
      refine ⟨by decide, ?_⟩
      exact ⟨.str _, H, I.tok _, ⟨_, rfl⟩, q⟩
    · rw [if_neg hk]
      by_cases hk1 : (k == 1 || a.length == 0) = true
      · rw [if_pos hk1]
        refine ⟨.str _, H, I, ⟨_, rfl⟩, ?_⟩
        have e2 : (⟨(List.replicate k.toNat a.cps.toList).flatten.toArray⟩ : Str) = a := by
          rw [Bool.or_eq_true, beq_iff_eq, beq_iff_eq] at hk1
          rcases hk1 with z | z
          · subst z
            show (⟨(List.replicate 1 a.cps.toList).flatten.toArray⟩ : Str) = a
            simp
          · have z' : a.cps = #[] := Array.eq_empty_of_size_eq_zero z
            obtain ⟨c⟩ := a
            simp only at z'
            subst z'
            simp
        rw [e2] at q
        exact q
      · rw [if_neg hk1, e1]
        refine ⟨?_, ?_⟩
        · show (List.replicate k.toNat a.cps.toList).flatten.toArray.size ≤ sizeLine
          rw [List.size_toArray, ln, Nat.mul_comm]
          exact hz
        · exact ⟨.str _, H, I.tok _, ⟨_, rfl⟩, q⟩
theorem op_mulT : OpR X (binaryOp .Mult) (fun x y H Q => ∃ l k xs, x = .ref l ∧ y = .int k ∧ SqT X.K H l xs ∧ k < 2 ^ 20 ∧ -(2 ^ 20) < k ∧ xs.length * k.toNat ≤ sizeLine ∧
    ((xs = [] ∨ k = 1) → Q (.ref l) H) ∧ (xs ≠ [] → k ≠ 1 → ∀ p, H p = none → Q (.ref p) (upd H p (.tup (List.replicate k.toNat xs).flatten)))) := by
  intro pins s σ H x y v u Q I rx ry h
  obtain ⟨l, k, xs, rfl, rfl, hT, h1, h2, hz, q1, q2⟩ := h
  cases rx
  obtain ⟨t, rfl⟩ := ry
  have hs := sizeLine_eq
  obtain ⟨its, r, ⟨⟨cls, dd, data, sl⟩, ho, hc, n, hd⟩, _⟩ := I.tuple hT
  simp only at hc hd
  subst hc hd
  have hle : its.length = xs.length := r.length.symm
  have c0 : (decide (k < -(2 ^ 63)) || decide (k ≥ 2 ^ 63)) = false := by
    rw [decide_eq_false (by omega), decide_eq_false (by omega)] <;> rfl
  have fl : ∀ m : Nat, (List.replicate m its).flatten.length = m * xs.length := fun m => by rw [PyProof.Rows.lm_len_rep_flat, hle]
  by_cases hb : (its.toArray.isEmpty || k == 1) = true
  · refine wpAny_binaryOp_repeat_ref (T := "tuple") (U := "int") (by decide) ⟨_, ho, rfl⟩ (fun s' => typeIs_int s' k t) noFill_tuple_mul F.fills_int_mul F.slot_int_rmul repeat_tuple F.slot_int_index.lookup
      (call_meets F.slot_int_rmul (typeIs_int s k t) F.entry_int_rmul (F.args_int_rmul_2 _ _) (int_rmul_tuple k t l its.toArray n dd sl)
        ⟨ho, rfl, ⟨_, ho, rfl⟩, call_meets F.slot_tuple_mul ⟨_, ho, rfl⟩ F.entry_tuple_mul (F.args_tuple_mul_2 _ _) (tupMulSame l its.toArray n dd sl k t c0 hb) ⟨ho, ?_⟩⟩)
    refine ⟨.ref l, H, I, rfl, q1 ?_⟩
    rw [Bool.or_eq_true] at hb
    rcases hb with z | z
    · left
      have : its = [] := by simpa using z
      rw [this] at hle
      exact List.eq_nil_of_length_eq_zero hle.symm
    · exact .inr (by simpa using z)
  · have hb : (its.toArray.isEmpty || k == 1) = false := by simpa using hb
    have hb' := hb
    rw [Bool.or_eq_false_iff] at hb
    have hne : its ≠ [] := fun z => by
      rw [z] at hb
      simp at hb
    have hk1 : k ≠ 1 := by simpa using hb.2
    have hxs : xs ≠ [] := fun z => hne (by
      rw [z] at hle
      exact List.eq_nil_of_length_eq_zero hle)
    by_cases hk : k ≤ 0
    · have c2 : (decide (k ≤ 0) || its.toArray.isEmpty) = true := by rw [decide_eq_true hk]; rfl
      refine wpAny_binaryOp_repeat_ref (T := "tuple") (U := "int") (by decide) ⟨_, ho, rfl⟩ (fun s' => typeIs_int s' k t) noFill_tuple_mul F.fills_int_mul F.slot_int_rmul repeat_tuple F.slot_int_index.lookup
        (call_meets F.slot_int_rmul (typeIs_int s k t) F.entry_int_rmul (F.args_int_rmul_2 _ _) (int_rmul_tuple k t l its.toArray n dd sl)
          ⟨ho, rfl, ⟨_, ho, rfl⟩, call_meets F.slot_tuple_mul ⟨_, ho, rfl⟩ F.entry_tuple_mul (F.args_tuple_mul_2 _ _) (tupMulNone l its.toArray n dd sl k t c0 hb' c2) ⟨ho, ?_⟩⟩)
      have e0 : k.toNat = 0 := by omega
      have q3 := q2 hxs hk1 s.heap.objs.size (I.hok.fresh (Nat.le_refl _))
      rw [e0] at q3
      refine ⟨.ref s.heap.objs.size, _, I.laid (t' := s.toks) (o := .tup []) (fun b ob q => Heap.get?_push_of_some _ q) (Nat.le_refl _) ?_, rfl, q3⟩
      exact ⟨Nat.zero_le _, [], .nil, IsTup.new _ _⟩
    · have c2 : (decide (k ≤ 0) || its.toArray.isEmpty) = false := by rw [decide_eq_false hk, hb.1]; rfl
      have e1 : ((its.toArray.size : Nat) : Int) * k ≤ sizeLine := by
        rw [List.size_toArray, hle]
        have : ((xs.length * k.toNat : Nat) : Int) ≤ (sizeLine : Int) := by omega
        rw [Int.natCast_mul, Int.toNat_of_nonneg (by omega)] at this
        exact this
      have c4 : Builtin.Tuple.tupleTooMany (((its.toArray.size : Nat) : Int) * k) = false := by
        unfold Builtin.Tuple.tupleTooMany
        exact decide_eq_false (by omega)
      refine wpAny_binaryOp_repeat_ref (T := "tuple") (U := "int") (by decide) ⟨_, ho, rfl⟩ (fun s' => typeIs_int s' k t) noFill_tuple_mul F.fills_int_mul F.slot_int_rmul repeat_tuple F.slot_int_index.lookup
        (call_meets F.slot_int_rmul (typeIs_int s k t) F.entry_int_rmul (F.args_int_rmul_2 _ _) (int_rmul_tuple k t l its.toArray n dd sl)
          ⟨ho, rfl, ⟨_, ho, rfl⟩, call_meets F.slot_tuple_mul ⟨_, ho, rfl⟩ F.entry_tuple_mul (F.args_tuple_mul_2 _ _) (tuple_mulW l its.toArray n dd sl k t c0 hb' c2 (by omega) c4 (by rw [size_rep, List.size_toArray, fl, Nat.mul_comm]; exact hz)) ⟨ho, ?_⟩⟩)
      rw [size_rep]
      refine ⟨.ref s.heap.objs.size, _, I.laid (t' := s.toks) (o := .tup (List.replicate k.toNat xs).flatten) (fun b ob q => Heap.get?_push_of_some _ q) (Nat.le_refl _) ?_, rfl, q2 hxs hk1 _ (I.hok.fresh (Nat.le_refl _))⟩
      exact ⟨by rw [PyProof.Rows.lm_len_rep_flat, Nat.mul_comm]; exact hz, _, r.rep k.toNat, IsTup.new _ _⟩
theorem IsDs.rep {K : PySem.W.Frag} {H : Hp} {be : List Addr} {xs : List D} {vs : List V} (h : IsDs K H be xs vs) : ∀ m : Nat, IsDs K H be (List.replicate m xs).flatten (List.replicate m vs).flatten
  | 0 => by simpa using IsDs.nil
  | m + 1 => by
    rw [List.replicate_succ, List.replicate_succ, List.flatten_cons, List.flatten_cons]
    exact h.append (IsDs.rep h m)
theorem mul_D : OpR X (binaryOp .Mult) (R2D X.K CT .mul) := by
  refine opr_imp (opr_or (opr_or op_mulI op_mulS) (opr_or op_mulT op_rep)) fun v u H Q h => ?_
  obtain ⟨be, mu, x, y, Qd, S, dx, dy, h, kq⟩ := h
  cases x <;> cases y <;> simp only [w2] at h
  case int.int i j =>
    simp only [IsD] at dx dy
    exact .inl (.inl ⟨i, j, dx, dy, h.1, kq.at_ S (by simp only [IsD]) h.2⟩)
  case str.int a k =>
    simp only [IsD] at dx dy
    exact .inl (.inr ⟨a, k, dx, dy, h.1.2, h.1.1, h.2.1, kq.at_ S (by simp only [IsD]) h.2.2⟩)
  case tup.int xs k =>
    have dx0 := dx
    simp only [IsD] at dx dy
    obtain ⟨a, vs, rfl, q1, r1⟩ := dx
    refine .inr (.inl ⟨a, k, vs, rfl, dy, q1, h.1.2, h.1.1, by rw [← r1.len]; exact h.2.1, fun z => ?_, fun z1 z2 p hp => kq.tup S (r1.rep _) h.2.2 hp⟩)
    refine kq.at_ S dx0 ?_
    have e : (List.replicate k.toNat xs).flatten = xs := by
      rcases z with z | z
      · have : xs = [] := by
          have := r1.len
          rw [z] at this
          exact List.eq_nil_of_length_eq_zero (by simpa using this)
        subst this
        simp
      · subst z
        show (List.replicate 1 xs).flatten = xs
        simp
    rw [← e]
    exact h.2.2
  case ref.int n k =>
    simp only [IsD] at dy
    obtain ⟨a, vs, xs, rfl, _, _, h1, i1, h⟩ := lst_of S dx h
    exact .inr (.inr ⟨a, k, vs, rfl, dy, h1, by have := h.1.1; omega, by have := h.1.2; omega, by rw [← i1.len]; exact h.2.1, fun p hp => kq.lst S (i1.rep _) h.2.2 hp⟩)
theorem op_powI : OpR X (binaryOp .Pow) (rI (fun i j => 0 ≤ j ∧ (Builtin.Int.intBits i : Int) * j ≤ 2 ^ 27) fun i j => .int (i ^ j.toNat)) := opI fun _ _ _ _ _ _ _ hc q => pow_int hc.1 hc.2 q
theorem pow_D : OpR X (binaryOp .Pow) (R2D X.K CT .pow) := by
  refine opr_imp op_powI fun v u H Q h => ?_
  obtain ⟨be, mu, x, y, Qd, S, dx, dy, h, kq⟩ := h
  cases x <;> cases y <;> simp only [w2] at h
  case int.int i j =>
    simp only [IsD] at dx dy
    exact ⟨i, j, dx, dy, h.1, kq.at_ S (by simp only [IsD]) h.2⟩
theorem mod_D : OpR X (binaryOp .Mod) (R2D X.K CT .mod) := by
  refine opr_imp op_mod fun v u H Q h => ?_
  obtain ⟨be, mu, x, y, Qd, S, dx, dy, h, kq⟩ := h
  cases x <;> cases y <;> simp only [w2] at h
  case int.int i j =>
    simp only [IsD] at dx dy
    exact ⟨i, j, dx, dy, h.1, kq.at_ S (by simp only [IsD]) h.2⟩
theorem fdiv_D : OpR X (binaryOp .FloorDiv) (R2D X.K CT .fdiv) := by
  refine opr_imp op_fdivW fun v u H Q h => ?_
  obtain ⟨be, mu, x, y, Qd, S, dx, dy, h, kq⟩ := h
  cases x <;> cases y <;> simp only [w2] at h
  case int.int i j =>
    simp only [IsD] at dx dy
    exact ⟨i, j, dx, dy, wide_div (b := 30) h.1.1 (by have := h.1; omega) (by decide) (by decide), kq.at_ S (by simp only [IsD]) h.2⟩
end
end MP
namespace MP
open PySem PySem.Spec PyProof.Rows L2
/-- the classes' places and the machine agree -/
def CtOk (CT : Cls) (X : Cx) : Prop := CT.P = X.prog ∧ CT.w = X.w
def IsO (K : PySem.W.Frag) (H : Hp) (be : List Addr) : Option D → Option V → Prop
  | some d, some v => IsD K H be d v
  | none, none => True
  | _, _ => False
mutual
theorem nkD_cl (n : Nat) : ∀ k : NK, (nkD k).cl n
  | .none => trivial
  | .num _ => trivial
  | .text _ => trivial
  | .tup ks => by simp only [nkD, D.cl]; exact nkDs_cl n ks
theorem nkDs_cl (n : Nat) : ∀ ks : List NK, D.cls n (nkDs ks)
  | [] => trivial
  | k :: ks => by simp only [nkDs, D.cls]; exact ⟨nkD_cl n k, nkDs_cl n ks⟩
end
theorem nk_less {K : PySem.W.Frag} {H : Hp} {be : List Addr} {k : NK} {v : V} (h : IsD K H be (nkD k) v) : IsD K H [] (nkD k) v := by simpa using h.less (nkD_cl 0 k)
mutual
theorem nkOf_D : ∀ {d : D} {k : NK}, nkOf d = some k → nkD k = d
  | .non, k, h => by simp only [nkOf, Option.some.injEq] at h; subst h; rfl
  | .bl _, k, h => by simp only [nkOf] at h; cases h
  | .int _, k, h => by simp only [nkOf, Option.some.injEq] at h; subst h; rfl
  | .str _, k, h => by simp only [nkOf, Option.some.injEq] at h; subst h; rfl
  | .tup xs, k, h => by
    simp only [nkOf, Option.map_eq_some_iff] at h
    obtain ⟨ks, e, rfl⟩ := h
    simp only [nkD]
    rw [nkOfs_D e]
  | .ref _, k, h => by simp only [nkOf] at h; cases h
  | .ro _, k, h => by simp only [nkOf] at h; cases h
theorem nkOfs_D : ∀ {ds : List D} {ks : List NK}, nkOfs ds = some ks → nkDs ks = ds
  | [], ks, h => by simp only [nkOfs, Option.some.injEq] at h; subst h; rfl
  | d :: ds, ks, h => by
    simp only [nkOfs] at h
    split at h
    · rename_i k e
      simp only [Option.map_eq_some_iff] at h
      obtain ⟨r, e2, rfl⟩ := h
      simp only [nkDs]
      rw [nkOf_D e, nkOfs_D e2]
    · cases h
end
section
variable {X : Cx} {pins : List (Addr × Obj)} {σ : L2.St} {H : Hp} {s : Shared} {K : PySem.W.Frag} {CT : Cls} {be : List Addr} {mu : Store}
mutual
theorem nk_is (I : Inv X pins σ H s) : ∀ (k : NK) (v : V) (u : Value), IsD X.K H [] (nkD k) v → RelV v u → NestedIs s.heap k u
  | .none, v, u, h, r => by
    simp only [nkD, IsD] at h
    subst h
    cases (show u = .none from r)
    exact .none
  | .num i, v, u, h, r => by
    simp only [nkD, IsD] at h
    subst h
    obtain ⟨t, rfl⟩ := (show ∃ t, u = .int i t from r)
    exact .int _ _
  | .text x, v, u, h, r => by
    simp only [nkD, IsD] at h
    subst h
    obtain ⟨t, rfl⟩ := (show ∃ t, u = .str x t from r)
    exact .text _ _
  | .tup ks, v, u, h, r => by
    simp only [nkD, IsD] at h
    obtain ⟨a, vs, rfl, q, h⟩ := h
    cases (show u = .ref a from r)
    obtain ⟨its, rv, ⟨o, h1, h2, n, h3⟩, _⟩ := I.tuple q
    exact .tup h1 h2 h3 (by simpa using nks_is I ks vs its h rv)
theorem nks_is (I : Inv X pins σ H s) : ∀ (ks : List NK) (vs : List V) (us : List Value), IsDs X.K H [] (nkDs ks) vs → Vals vs us → NestedAll s.heap ks us
  | [], vs, us, h, r => by
    simp only [nkDs, IsDs] at h
    subst h
    cases r
    exact .nil
  | k :: ks, vs, us, h, r => by
    simp only [nkDs, IsDs] at h
    obtain ⟨v, w, rfl, h1, h2⟩ := h
    cases r with
    | cons r1 r2 => exact .cons (nk_is I k v _ h1 r1) (nks_is I ks w _ h2 r2)
end
theorem key_is (I : Inv X pins σ H s) (C : CtOk CT X) {k : NK} {b : Addr} (hd : k.depth ≤ 8) (h : IsD X.K H [] (nkD k) (.ref b)) : (nestedKind CT.P CT.w).is s.heap k b := ⟨nk_is I k (.ref b) (.ref b) h rfl, hd⟩
/-- the dict at a, its keys tuples -/
theorem tk_is (I : Inv X pins σ H s) (C : CtOk CT X) {a : Addr} {kvs : List (NK × D)} {xs : List (NK × Addr × Value)} (e : H a = some (TkO CT a xs)) (h : IsTk X.K H be kvs xs) :
    s.heap.DictOfH (nestedKind X.prog X.w) a xs ∧ (a == sysModules) = false := by
  obtain ⟨⟨o, es, ep, h1, h2, h3, h4, h5, h6⟩, _, _⟩ := (show ObjOk X.prog X.w H s.heap a (TkO CT a xs) from I.hok a _ e)
  refine ⟨⟨o, es, ep, h1, h2, h3, ?_, fun x hx => ?_, h5⟩, h6⟩
  · rw [h4, C.1, C.2]
  · have := key_is I C (h.2.2.2 x hx).1 (h.2.2.2 x hx).2
    rw [C.1, C.2] at this
    exact this
theorem IsO.mono {H' : Hp} {be' : List Addr} {o : Option D} {v : Option V} (x : Ext H H' be be') (h : IsO K H be o v) : IsO K H' be' o v := by
  cases o <;> cases v <;> first | exact h | exact IsD.mono x h
theorem val_rel {κ : Type} [DecidableEq κ] : ∀ {kvs : List (κ × D)} {gs : List (κ × V)} (k : κ), kvs.map (·.1) = gs.map (·.1) → IsDs K H be (kvs.map (·.2)) (gs.map (·.2)) → IsO K H be (valD kvs k) (valV gs k)
  | [], [], k, _, _ => trivial
  | [], _ :: _, k, e, _ => by simp at e
  | _ :: _, [], k, e, _ => by simp at e
  | p :: r, g :: gs, k, e, h => by
    simp only [List.map_cons, List.cons.injEq] at e
    simp only [List.map_cons, IsDs] at h
    obtain ⟨v, w, e2, h1, h2⟩ := h
    simp only [List.cons.injEq] at e2
    have ih := val_rel (kvs := r) (gs := gs) k e.2 (by rw [e2.2]; exact h2)
    by_cases hk : p.1 = k
    · have a : valD (p :: r) k = some p.2 := by simp [valD, List.find?_cons, hk]
      have b : valV (g :: gs) k = some g.2 := valV_pos (by rw [← e.1]; exact hk)
      rw [a, b]
      show IsD K H be p.2 g.2
      rw [e2.1]; exact h1
    · have a : valD (p :: r) k = valD r k := by simp [valD, List.find?_cons, hk]
      have b : valV (g :: gs) k = valV gs k := valV_neg (by rw [← e.1]; exact hk)
      rw [a, b]; exact ih
theorem find_rel {xs : List (NK × Addr × Value)} (k : NK) : ∀ {kvs : List (NK × D)} {vs : List V}, kvs.map (·.1) = xs.map (·.1) → IsDs K H be (kvs.map (·.2)) vs → Vals vs (xs.map (·.2.2)) →
    ∃ ov, IsO K H be (valD kvs k) ov ∧ RelO ov (valueAt (pairsH xs) k) := by
  induction xs with
  | nil =>
    intro kvs vs e h r
    cases kvs with
    | nil => exact ⟨none, trivial, trivial⟩
    | cons => simp at e
  | cons x xs ih =>
    intro kvs vs e h r
    cases kvs with
    | nil => simp at e
    | cons p r0 =>
      simp only [List.map_cons, List.cons.injEq] at e
      simp only [List.map_cons, IsDs] at h
      obtain ⟨v, w, rfl, h1, h2⟩ := h
      cases r with
      | cons r1 r2 =>
        obtain ⟨ov, a, b⟩ := ih e.2 h2 r2
        by_cases hk : p.1 = k
        · refine ⟨some v, ?_, ?_⟩
          · have : valD (p :: r0) k = some p.2 := by simp [valD, List.find?_cons, hk]
            rw [this]; exact h1
          · have : valueAt (pairsH (x :: xs)) k = some x.2.2 := by simp [valueAt, pairsH, List.find?_cons, ← e.1, hk]
            rw [this]; exact r1
        · refine ⟨ov, ?_, ?_⟩
          · have : valD (p :: r0) k = valD r0 k := by simp [valD, List.find?_cons, hk]
            rw [this]; exact a
          · have : valueAt (pairsH (x :: xs)) k = valueAt (pairsH xs) k := by simp [valueAt, pairsH, List.find?_cons, ← e.1, hk]
            rw [this]; exact b
/-- what the dict at a holds at the key y -/
def DG (K : PySem.W.Frag) (CT : Cls) (H : Hp) (a : Addr) (y : V) (o : Option V) : Prop :=
  (∃ kvs k, Rd H a (.dK kvs) ∧ y = kV k ∧ o = valV kvs k) ∨ ∃ be kvs xs k b, H a = some (TkO CT a xs) ∧ IsTk K H be kvs xs ∧ y = .ref b ∧ k.depth ≤ 8 ∧ IsD K H [] (nkD k) (.ref b) ∧ RelO o (valueAt (pairsH xs) k)
theorem keyV {y : D} {u : V} {k : Key} (h : keyOf y = some k) (i : IsD K H be y u) : u = kV k := by
  cases y <;> simp only [keyOf] at h <;> try (cases h)
  · simp only [IsD] at i; exact i
  · simp only [IsD] at i; exact i
theorem tkD {y : D} {k : NK} (h : tkOf y = some k) : nkD k = y ∧ k.depth ≤ 8 ∧ ∃ xs, y = .tup xs := by
  cases y <;> simp only [tkOf] at h <;> try (cases h)
  split at h
  · rename_i e
    split at h
    · rename_i hd
      cases h
      exact ⟨nkOf_D e, hd, _, rfl⟩
    · cases h
  · cases h
theorem get_of {n : Nat} {y : D} {v u : V} {Q : Option D → Prop} (S : RepS K CT H be mu) (i : IsD K H be (.ref n) v) (iy : IsD K H be y u) (h : getAt mu n y Q) :
    ∃ a od ov, v = .ref a ∧ IsO K H be od ov ∧ DG K CT H a u ov ∧ Q od := by
  simp only [IsD] at i
  obtain ⟨a, e, rfl⟩ := i
  unfold getAt at h
  split at h
  · rename_i kvs lk hm
    unfold onKey at h
    split at h
    · rename_i k ek
      have c := S.get e hm
      rw [keyV ek iy]
      cases lk with
      | false =>
        obtain ⟨gs, h1, h2, h3⟩ := c
        exact ⟨a, _, _, rfl, val_rel k h2 h3, .inl ⟨gs, k, .inl h1, rfl, rfl⟩, h⟩
      | true =>
        obtain ⟨gs, o, h1, h2, h3⟩ := c
        exact ⟨a, _, _, rfl, val_rel k h2 h3, .inl ⟨gs, k, .inr ⟨o, h1⟩, rfl, rfl⟩, h⟩
    · exact h.elim
  · rename_i kvs hm
    unfold onNK at h
    split at h
    · rename_i k ek
      obtain ⟨xs, h1, h2⟩ := S.get e hm
      obtain ⟨e1, e2, ys, e3⟩ := tkD ek
      obtain ⟨f1, f2, ⟨vs, f3, f4⟩, f5⟩ := h2
      obtain ⟨ov, g1, g2⟩ := find_rel (xs := xs) k f1 f3 f4
      rw [← e1] at iy
      have iy' := iy
      rw [e1, e3] at iy'
      simp only [IsD] at iy'
      obtain ⟨b, _, rfl, _⟩ := iy'
      exact ⟨a, _, ov, rfl, g1, .inr ⟨be, kvs, xs, k, b, h1, ⟨f1, f2, ⟨vs, f3, f4⟩, f5⟩, rfl, e2, nk_less iy, g2⟩, h⟩
    · exact h.elim
  · exact h.elim
theorem room9 {A : Around} (hu : A.units + 9 < cLine) : (nestedKind X.prog X.w).room A.in1 := by show A.units + 1 + 8 < cLine; omega
section
variable {a : Addr} {y v : V} {u r : Value} {o : Option V} {A : Around} {E : Value → Shared → Prop}
theorem dg_type (I : Inv X pins σ H s) (C : CtOk CT X) (g : DG X.K CT H a y o) : s.TypeIs (.ref a) "dict" ∧ ∀ b, Value.ref a = .ref b → ∃ ob, s.heap.get? b = some ob ∧ ob.dict = none := by
  rcases g with g | ⟨be, kvs, xs, k, b, h1, h2, _⟩
  · exact ⟨dict_typeIs I (.inl g), dict_noDict I (.inl g)⟩
  · obtain ⟨⟨ob, es, ep, q1, q2, _⟩, _⟩ := tk_is I C h1 h2
    exact ⟨⟨ob, q1, q2.1⟩, fun b e => by cases e; exact ⟨ob, q1, q2.2.1⟩⟩
theorem dg_item {Q : Value → Shared → Prop} (hu : A.units + 9 < cLine) (I : Inv X pins σ H s) (C : CtOk CT X) (g : DG X.K CT H a y (some v)) (ry : RelV y u) (h : ∀ w' s', Inv X pins σ H s' → RelV v w' → Q w' s') : wpAny (model X.prog X.w) A (getItem (.ref a) u) Q E s := by
  rcases g with g | ⟨be, kvs, xs, k, b, h1, h2, rfl, h3, h4, h5⟩
  · exact d_getItem (by omega) I (.inl g) ry h
  · cases (show u = .ref b from ry)
    obtain ⟨d1, d2⟩ := tk_is I C h1 h2
    have kk := key_is I C h3 h4
    rw [C.1, C.2] at kk
    cases q : valueAt (pairsH xs) k with
    | none => rw [q] at h5; exact h5.elim
    | some w' =>
      rw [q] at h5
      exact getItem_keyed (room9 hu) kk ⟨xs, d1, rfl⟩ q (h w' _ (I.tok _) h5)
theorem dg_in {Q : Value → Shared → Prop} (hu : A.units + 9 < cLine) (I : Inv X pins σ H s) (C : CtOk CT X) (g : DG X.K CT H a y o) (ry : RelV y u) (h : ∀ s', Inv X pins σ H s' → Q (.bool o.isSome) s') : wpAny (model X.prog X.w) A (compareOp .In u (.ref a)) Q E s := by
  rcases g with g | ⟨be, kvs, xs, k, b, h1, h2, rfl, h3, h4, h5⟩
  · exact d_in (by omega) I (.inl g) ry h
  · cases (show u = .ref b from ry)
    obtain ⟨d1, d2⟩ := tk_is I C h1 h2
    have kk := key_is I C h3 h4
    rw [C.1, C.2] at kk
    refine in_keyed (room9 hu) kk d2 ⟨xs, d1, rfl⟩ ?_
    rw [← h5.isSome_eq]
    exact h _ (I.tok _)
theorem dg_nin {Q : Value → Shared → Prop} (hu : A.units + 9 < cLine) (I : Inv X pins σ H s) (C : CtOk CT X) (g : DG X.K CT H a y o) (ry : RelV y u) (h : ∀ s', Inv X pins σ H s' → Q (.bool (!o.isSome)) s') : wpAny (model X.prog X.w) A (compareOp .NotIn u (.ref a)) Q E s := by
  rcases g with g | ⟨be, kvs, xs, k, b, h1, h2, rfl, h3, h4, h5⟩
  · exact d_notIn (by omega) I (.inl g) ry h
  · cases (show u = .ref b from ry)
    obtain ⟨d1, d2⟩ := tk_is I C h1 h2
    have kk := key_is I C h3 h4
    rw [C.1, C.2] at kk
    refine notIn_keyed (room9 hu) kk d2 ⟨xs, d1, rfl⟩ ?_
    rw [← h5.isSome_eq]
    exact h _ (I.tok _)
theorem dg_get1 {Q : Value → Shared → Prop} (hu : A.units + 9 < cLine) (I : Inv X pins σ H s) (C : CtOk CT X) (g : DG X.K CT H a y o) (ry : RelV y u) (h : ∀ w' s', Inv X pins σ H s' → RelV (o.getD .non) w' → Q w' s') : wpAny (model X.prog X.w) A (call (.builtin "dict.get") [.ref a, u]) Q E s := by
  rcases g with g | ⟨be, kvs, xs, k, b, h1, h2, rfl, h3, h4, h5⟩
  · exact d_get1 (by omega) I (.inl g) ry h
  · cases (show u = .ref b from ry)
    obtain ⟨d1, d2⟩ := tk_is I C h1 h2
    have kk := key_is I C h3 h4
    rw [C.1, C.2] at kk
    exact get_keyed (room9 hu) kk d2 ⟨xs, d1, rfl⟩ (h _ _ (I.tok _) (h5.getD rfl))
theorem dg_get2 {d : V} {Q : Value → Shared → Prop} (hu : A.units + 9 < cLine) (I : Inv X pins σ H s) (C : CtOk CT X) (g : DG X.K CT H a y o) (ry : RelV y u) (rd : RelV d r) (h : ∀ w' s', Inv X pins σ H s' → RelV (o.getD d) w' → Q w' s') : wpAny (model X.prog X.w) A (call (.builtin "dict.get") [.ref a, u, r]) Q E s := by
  rcases g with g | ⟨be, kvs, xs, k, b, h1, h2, rfl, h3, h4, h5⟩
  · exact d_get2 (by omega) I (.inl g) ry rd h
  · cases (show u = .ref b from ry)
    obtain ⟨d1, d2⟩ := tk_is I C h1 h2
    have kk := key_is I C h3 h4
    rw [C.1, C.2] at kk
    exact getOr_keyed (room9 hu) kk d2 ⟨xs, d1, rfl⟩ (h _ _ (I.tok _) (h5.getD rd))
end
theorem putD_rel {κ : Type} [DecidableEq κ] {kvs : List (κ × D)} {gs : List (κ × V)} {k : κ} {d : D} {w : V} (e : kvs.map (·.1) = gs.map (·.1)) (h : IsDs K H be (kvs.map (·.2)) (gs.map (·.2))) (i : IsD K H be d w) :
    (putD kvs k d).map (·.1) = (putK gs k w).map (·.1) ∧ IsDs K H be ((putD kvs k d).map (·.2)) ((putK gs k w).map (·.2)) := by
  have ea : (kvs.any fun p => decide (p.1 = k)) = gs.any fun p => decide (p.1 = k) := by
    have : ∀ {α : Type} (l : List (κ × α)), (l.any fun p => decide (p.1 = k)) = (l.map (·.1)).any fun x => decide (x = k) := fun l => by rw [List.any_map]; rfl
    rw [this, this, e]
  unfold putD putK
  rw [ea]
  split
  · have go : ∀ {kvs : List (κ × D)} {gs : List (κ × V)}, kvs.map (·.1) = gs.map (·.1) → IsDs K H be (kvs.map (·.2)) (gs.map (·.2)) →
        (kvs.map fun p => if p.1 = k then (p.1, d) else p).map (·.1) = (gs.map fun p => if p.1 = k then (p.1, w) else p).map (·.1) ∧ IsDs K H be ((kvs.map fun p => if p.1 = k then (p.1, d) else p).map (·.2)) ((gs.map fun p => if p.1 = k then (p.1, w) else p).map (·.2)) := by
      intro kvs
      induction kvs with
      | nil => intro gs e h; cases gs with
        | nil => exact ⟨rfl, .nil⟩
        | cons => simp at e
      | cons p r ih =>
        intro gs e h
        cases gs with
        | nil => simp at e
        | cons g gs =>
          simp only [List.map_cons, List.cons.injEq] at e
          simp only [List.map_cons, IsDs] at h
          obtain ⟨v, ws, e2, h1, h2⟩ := h
          simp only [List.cons.injEq] at e2
          obtain ⟨a, b⟩ := ih e.2 (by rw [e2.2]; exact h2)
          simp only [List.map_cons]
          rw [e.1]
          by_cases hk : g.1 = k
          · rw [if_pos hk, if_pos hk]
            exact ⟨by rw [a], .cons i b⟩
          · rw [if_neg hk, if_neg hk]
            exact ⟨by rw [a, e.1], .cons (by rw [e2.1]; exact h1) b⟩
    exact go e h
  · exact ⟨by simp [e], by rw [List.map_append, List.map_append]; exact h.append (.one i)⟩
theorem putD_len {κ : Type} [DecidableEq κ] (kvs : List (κ × D)) (k : κ) (d : D) : (putD kvs k d).length ≤ kvs.length + 1 := by
  unfold putD
  split
  · rw [List.length_map]; omega
  · rw [List.length_append, List.length_cons, List.length_nil]; omega
theorem storedH_rel {xs : List (NK × Addr × Value)} {kvs : List (NK × D)} {vs : List V} {k : NK} {b : Addr} {d : D} {w : V} {uw : Value} (e : kvs.map (·.1) = xs.map (·.1)) (h : IsDs K H be (kvs.map (·.2)) vs) (r : Vals vs (xs.map (·.2.2))) (i : IsD K H be d w) (rw_ : RelV w uw) :
    (putD kvs k d).map (·.1) = (storedH xs k b uw).map (·.1) ∧ (∃ ws, IsDs K H be ((putD kvs k d).map (·.2)) ws ∧ Vals ws ((storedH xs k b uw).map (·.2.2))) := by
  have ea : (kvs.any fun p => decide (p.1 = k)) = (atKey xs k).isSome := by
    have h1 : (kvs.any fun p => decide (p.1 = k)) = (kvs.map (·.1)).any fun x => decide (x = k) := by rw [List.any_map]; rfl
    rw [h1, e]
    unfold atKey
    rw [Option.isSome_map, List.any_map, List.isSome_find?]
    rfl
  unfold putD storedH
  rw [ea]
  split
  · have go : ∀ {kvs : List (NK × D)} {xs : List (NK × Addr × Value)} {vs : List V}, kvs.map (·.1) = xs.map (·.1) → IsDs K H be (kvs.map (·.2)) vs → Vals vs (xs.map (·.2.2)) →
        (kvs.map fun p => if p.1 = k then (p.1, d) else p).map (·.1) = (xs.map (PySem.putAt k uw)).map (·.1) ∧ ∃ ws, IsDs K H be ((kvs.map fun p => if p.1 = k then (p.1, d) else p).map (·.2)) ws ∧ Vals ws ((xs.map (PySem.putAt k uw)).map (·.2.2)) := by
      intro kvs
      induction kvs with
      | nil => intro xs vs e h r; cases xs with
        | nil => exact ⟨rfl, [], .nil, .nil⟩
        | cons => simp at e
      | cons p t ih =>
        intro xs vs e h r
        cases xs with
        | nil => simp at e
        | cons x xs =>
          simp only [List.map_cons, List.cons.injEq] at e
          simp only [List.map_cons, IsDs] at h
          obtain ⟨v, ws, rfl, h1, h2⟩ := h
          cases r with
          | cons r1 r2 =>
            obtain ⟨a, zs, b, c⟩ := ih e.2 h2 r2
            simp only [List.map_cons]
            rw [e.1]
            by_cases hk : x.1 = k
            · rw [if_pos hk]
              unfold PySem.putAt
              rw [if_pos hk]
              exact ⟨by rw [a]; rfl, w :: zs, .cons i b, .cons rw_ c⟩
            · rw [if_neg hk]
              unfold PySem.putAt
              rw [if_neg hk]
              exact ⟨by rw [a, e.1]; rfl, v :: zs, .cons h1 b, .cons r1 c⟩
    exact go e h r
  · refine ⟨by simp [e], vs ++ [w], by rw [List.map_append]; exact h.append (.one i), ?_⟩
    rw [List.map_append]
    exact r.append (.cons rw_ .nil)
/-- the heap behind a store to a dict -/
def DP (X : Cx) (CT : Cls) (be : List Addr) (mu : Store) (H : Hp) (a : Addr) (y v : V) (Qh : Hp → Prop) : Prop :=
  (∃ kvs k, H a = some (.dK kvs) ∧ y = kV k ∧ kvs.length < sizeLine ∧ Qh (upd H a (.dK (putK kvs k v)))) ∨ ∃ (kvs : List (NK × D)) (xs : List (NK × Addr × Value)) (k : NK) (b : Addr) (d : D) (n : Nat) (Qs : Store → Prop), RepS X.K CT H be mu ∧ be[n]? = some a ∧ mu[n]? = some (.dtk kvs) ∧ H a = some (TkO CT a xs) ∧ IsTk X.K H be kvs xs ∧ y = .ref b ∧ k.depth ≤ 8 ∧ IsD X.K H [] (nkD k) (.ref b) ∧ IsD X.K H be d v ∧ kvs.length < sizeLine ∧
    Qs (mu.set n (.dtk (putD kvs k d))) ∧ ∀ nu H', Ext H H' be be → RepS X.K CT H' be nu → Qs nu → Qh H'
theorem put_of {n : Nat} {y d : D} {v u w : V} {Qs : Store → Prop} {Qh : Hp → Prop} (S : RepS X.K CT H be mu) (i : IsD X.K H be (.ref n) v) (iy : IsD X.K H be y u) (id : IsD X.K H be d w) (h : putAt mu n y d Qs)
    (k : ∀ nu H', Ext H H' be be → RepS X.K CT H' be nu → Qs nu → Qh H') : ∃ a, v = .ref a ∧ DP X CT be mu H a u w Qh := by
  simp only [IsD] at i
  obtain ⟨a, e, rfl⟩ := i
  unfold MP.putAt at h
  split at h
  · rename_i kvs hm
    unfold onKey at h
    split at h
    · rename_i ky ek
      obtain ⟨gs, h1, h2, h3⟩ := S.get e hm
      rw [keyV ek iy]
      obtain ⟨a1, a2⟩ := putD_rel (k := ky) h2 h3 id
      have ln : kvs.length = gs.length := by simpa using congrArg List.length h2
      have x : Ext H (upd H a (.dK (putK gs ky w))) be be := .write e h1 rfl
      refine ⟨a, rfl, .inl ⟨gs, ky, h1, rfl, by rw [← ln]; exact h.1, k _ _ x (S.write (c := .dct (putD kvs ky d) false) e h1 rfl ⟨_, upd_same, a1, a2.mono x⟩) h.2⟩⟩
    · exact h.elim
  · rename_i kvs hm
    unfold onNK at h
    split at h
    · rename_i ky ek
      obtain ⟨xs, h1, h2⟩ := S.get e hm
      obtain ⟨e1, e2, ys, e3⟩ := tkD ek
      rw [← e1] at iy
      have iy' := iy
      rw [e1, e3] at iy'
      simp only [IsD] at iy'
      obtain ⟨b, _, rfl, _⟩ := iy'
      exact ⟨a, rfl, .inr ⟨kvs, xs, ky, b, d, n, Qs, S, e, hm, h1, h2, rfl, e2, nk_less iy, id, h.1, h.2, k⟩⟩
    · exact h.elim
  · exact h.elim
/-- a tuple-key dict's object is replaced -/
theorem tk_write {A : Around} {n : Nat} {a b : Addr} {k : NK} {d : D} {v : V} {r : Value} {kvs : List (NK × D)} {xs : List (NK × Addr × Value)} {Qs : Store → Prop} {Qh : Hp → Prop} {h' : Heap} {t' : Nat} (I : Inv X pins σ H s) (C : CtOk CT X) (S : RepS X.K CT H be mu) (e : be[n]? = some a) (hm : mu[n]? = some (.dtk kvs))
    (h1 : H a = some (TkO CT a xs)) (h2 : IsTk X.K H be kvs xs) (hd : k.depth ≤ 8) (hk : IsD X.K H [] (nkD k) (.ref b)) (id : IsD X.K H be d v) (rv : RelV v r) (hl : kvs.length < sizeLine) (q : Qs (mu.set n (.dtk (putD kvs k d))))
    (kk : ∀ nu H', Ext H H' be be → RepS X.K CT H' be nu → Qs nu → Qh H') (hx : h'.DictOfH (nestedKind X.prog X.w) a (storedH xs k b r)) (hs : Heap.SameBut a s.heap h') :
    ∃ H', Inv X pins σ H' { s with heap := h', toks := t' } ∧ Qh H' := by
  obtain ⟨o, es, ep, q1, q2, q3, q4, q5, q6⟩ := hx
  obtain ⟨f1, f2, ⟨vs, f3, f4⟩, f5⟩ := h2
  obtain ⟨g1, ws, g2, g3⟩ := storedH_rel (k := k) (b := b) f1 f3 f4 id rv
  have nm : (a == sysModules) = false := (tk_is I C h1 ⟨f1, f2, ⟨vs, f3, f4⟩, f5⟩).2
  have x : Ext H (upd H a (TkO CT a (storedH xs k b r))) be be := .write e h1 rfl
  have ln : kvs.length = xs.length := by simpa using congrArg List.length f1
  have ln2 : (storedH xs k b r).length = (putD kvs k d).length := by simpa using (congrArg List.length g1).symm
  have new : ObjOk X.prog X.w (upd H a (TkO CT a (storedH xs k b r))) h' a (TkO CT a (storedH xs k b r)) := by
    refine ⟨⟨o, es, ep, q1, q2, q3, ?_, q6, nm⟩, ⟨o, q1⟩, fun y1 y2 ⟨o, es, ep, z1, z⟩ kp => ⟨o, es, ep, kp o z1, z⟩⟩
    rw [q4, C.1, C.2]
  refine ⟨_, I.write (x := a) (e := a) (by rw [h1]; exact True.intro) (.inl rfl) (fun b q hb z => (hs.2 b hb).trans z) ⟨o, q1⟩ new, kk _ _ x (S.write (c := .dtk (putD kvs k d)) e h1 rfl ⟨_, upd_same, g1, ?_, ⟨ws, g2.mono x, g3⟩, fun y hy => ?_⟩) q⟩
  · rw [ln2]
    have := putD_len kvs k d
    omega
  · have ho : ∀ {y}, y ∈ storedH xs k b r → y.1.depth ≤ 8 ∧ IsD X.K H [] (nkD y.1) (.ref y.2.1) := fun {y} hy => by
      unfold storedH at hy
      split at hy
      · obtain ⟨z, hz, rfl⟩ := List.mem_map.mp hy
        have := f5 z hz
        unfold PySem.putAt
        split
        · exact this
        · exact this
      · rcases List.mem_append.mp hy with hy | hy
        · exact f5 y hy
        · have : y = (k, b, r) := by simpa using hy
          subst this
          exact ⟨hd, hk⟩
    exact ⟨(ho hy).1, (ho hy).2.on (be := []) (be' := []) x.tup x.rol fun n a hn _ => absurd hn (Nat.not_lt_zero n)⟩
end
end MP
namespace MP
open PySem PySem.Spec PyProof.Rows L2
section
variable {X : Cx} {pins : List (Addr × Obj)} {σ : L2.St} {H : Hp} {s : Shared} {K : PySem.W.Frag} {CT : Cls} {be : List Addr} {mu : Store} {a : Addr} {y v : V} {u r : Value} {A : Around} {E : Value → Shared → Prop} {Qh : Hp → Prop}
theorem dp_set {Q : Unit → Shared → Prop} (hu : A.units + 9 < cLine) (I : Inv X pins σ H s) (C : CtOk CT X) (g : DP X CT be mu H a y v Qh) (ry : RelV y u) (rv : RelV v r) (h : ∀ H' s', Inv X pins σ H' s' → Qh H' → Q () s') :
    wpAny (model X.prog X.w) A (setItem (.ref a) u r) Q E s := by
  rcases g with ⟨kvs, k, g1, g2, g3, q⟩ | ⟨kvs, xs, k, b, d, n, Qs, S, e, hm, h1, h2, rfl, hd, hk, id, hl, q, kk⟩
  · exact d_setItem (by omega) I (.inl ⟨kvs, k, g1, g2, g3, rfl⟩) ry rv fun s' I' => h _ _ I' q
  · cases (show u = .ref b from ry)
    obtain ⟨d1, d2⟩ := tk_is I C h1 h2
    have kh := key_is I C hd hk
    rw [C.1, C.2] at kh
    refine wpAny_setItem_heap (hsz := h2.2.1) (room9 hu) kh d1 fun h' hx hs => ?_
    obtain ⟨H', I', q'⟩ := tk_write (A := A) (t' := s.toks + (nestedKind X.prog X.w).draws k) I C S e hm h1 h2 hd hk id rv hl q kk hx hs
    exact h H' _ I' q'
theorem pairs_val {xs : List (NK × Addr × Value)} {k : NK} : valueAt (pairsH xs) k = (atKey xs k).map (·.2) := valueAt_pairsH xs k
/-- readings of three -/
def R3D (K : PySem.W.Frag) (CT : Cls) (o : O3) : V → V → V → Hp → VK → Prop := fun v u w H Q => ∃ be mu x y z Qd, RepS K CT H be mu ∧ IsD K H be x v ∧ IsD K H be y u ∧ IsD K H be z w ∧ w3 o x y z mu Qd ∧ KQ K CT H be Qd Q
theorem setd_run {be : List Addr} {mu : Store} {x y z : D} {v u w : V} {uv uu uw : Value} {Qd : QD} {Q : VK} (hu : X.A.units + 9 < cLine) (I : Inv X pins σ H s) (C : CtOk CT X) (S : RepS X.K CT H be mu) (ix : IsD X.K H be x v) (iy : IsD X.K H be y u) (iz : IsD X.K H be z w) (rv : RelV v uv) (ru : RelV u uu) (rw_ : RelV w uw)
    (h : w3 .setd x y z mu Qd) (kq : KQ X.K CT H be Qd Q) : wpAny (model X.prog X.w) X.A (call (.builtin "dict.setdefault") [uv, uu, uw]) (EP X pins σ Q) X.xe s := by
  simp only [w3] at h
  split at h
  · rename_i n
    have ix0 := ix
    simp only [IsD] at ix
    obtain ⟨a, e, rfl⟩ := ix
    cases (show uv = .ref a from rv)
    unfold getAt at h
    split at h
    · rename_i kvs lk hm
      unfold onKey at h
      split at h
      · rename_i k ek
        have ky := keyV ek iy
        subst ky
        have c := S.get e hm
        cases lk with
        | false =>
          obtain ⟨gs, h1, h2, h3⟩ := c
          have vr := val_rel k h2 h3
          cases q : valD kvs k with
          | some d =>
            rw [q] at h vr
            cases q2 : valV gs k with
            | none => rw [q2] at vr; exact vr.elim
            | some x =>
              rw [q2] at vr
              obtain ⟨zz, hd, vs, rel, dd⟩ := dk_rd I.hok (.inl h1)
              have hz : vs.length ≤ sizeLine := by rw [← rel.length]; exact zz
              refine call_meetsIn PySem.F.slot_dict_setdefault dd.typeIs PySem.F.entry_dict_setdefault (PySem.F.args_dict_setdefault_3 _ _ _) (kt_meets_setdefault (mixKind X.prog X.w) a (kV_is ru) hd uw) ⟨vs, dd, hz, fun w' hw => ?_, fun hn h' dd' hs => ?_⟩
              · have p := rel.val k
                rw [hw, q2] at p
                exact ⟨x, H, I.tok _, p, kq.at_ S vr h⟩
              · have p := rel.val k
                rw [hn, q2] at p
                exact (show False from p).elim
          | none =>
            rw [q] at h vr
            simp only at h
            unfold MP.putAt at h
            rw [hm] at h
            simp only [onKey, ek] at h
            have ln : kvs.length = gs.length := by simpa using congrArg List.length h2
            refine d_setd I h1 ru rw_ (by rw [← ln]; exact h.1) (fun x hx => ?_) fun _ w' s' I' r' => ?_
            · rw [hx] at vr; exact vr.elim
            · obtain ⟨a1, a2⟩ := putD_rel (k := k) h2 h3 iz
              have x : Ext H (upd H a (.dK (putK gs k w))) be be := .write e h1 rfl
              exact ⟨w, _, I', r', kq z _ be _ w x (S.write (c := .dct (putD kvs k z) false) e h1 rfl ⟨_, upd_same, a1, a2.mono x⟩) (iz.mono x) h.2⟩
        | true =>
          obtain ⟨gs, o, h1, h2, h3⟩ := c
          have vr := val_rel k h2 h3
          cases q : valD kvs k with
          | some d =>
            rw [q] at h vr
            cases q2 : valV gs k with
            | none => rw [q2] at vr; exact vr.elim
            | some x =>
              rw [q2] at vr
              obtain ⟨zz, hd, vs, rel, dd⟩ := dk_rd I.hok (.inr ⟨o, h1⟩)
              have hz : vs.length ≤ sizeLine := by rw [← rel.length]; exact zz
              refine call_meetsIn PySem.F.slot_dict_setdefault dd.typeIs PySem.F.entry_dict_setdefault (PySem.F.args_dict_setdefault_3 _ _ _) (kt_meets_setdefault (mixKind X.prog X.w) a (kV_is ru) hd uw) ⟨vs, dd, hz, fun w' hw => ?_, fun hn h' dd' hs => ?_⟩
              · have p := rel.val k
                rw [hw, q2] at p
                exact ⟨x, H, I.tok _, p, kq.at_ S vr h⟩
              · have p := rel.val k
                rw [hn, q2] at p
                exact (show False from p).elim
          | none =>
            rw [q] at h
            simp only at h
            unfold MP.putAt at h
            rw [hm] at h
            exact h.elim
      · exact h.elim
    · rename_i kvs hm
      unfold onNK at h
      split at h
      · rename_i k ek
        obtain ⟨xs, h1, h2⟩ := S.get e hm
        obtain ⟨e1, e2, ys, e3⟩ := tkD ek
        have iy' := iy
        rw [e3] at iy'
        simp only [IsD] at iy'
        obtain ⟨b, _, rfl, _⟩ := iy'
        cases (show uu = .ref b from ru)
        rw [← e1] at iy
        have hk := nk_less iy
        obtain ⟨d1, d2⟩ := tk_is I C h1 h2
        have kh := key_is I C e2 hk
        rw [C.1, C.2] at kh
        obtain ⟨f1, f2, ⟨vs, f3, f4⟩, f5⟩ := id h2
        obtain ⟨ov, g1, g2⟩ := find_rel (xs := xs) k f1 f3 f4
        refine call_setdefault_heap (hsz := f2) (room9 hu) kh d2 d1 (fun p hp => ?_) fun hn h' hx hs => ?_
        · rw [pairs_val, hp] at g2
          cases ov with
          | none => exact g2.elim
          | some x =>
            cases q : valD kvs k with
            | none => rw [q] at g1; exact g1.elim
            | some d =>
              rw [q] at h g1
              exact ⟨x, H, I.tok _, g2, kq.at_ S g1 h⟩
        · rw [pairs_val, hn] at g2
          cases ov with
          | some x => exact g2.elim
          | none =>
            cases q : valD kvs k with
            | some d => rw [q] at g1; exact g1.elim
            | none =>
              rw [q] at h
              simp only at h
              unfold MP.putAt at h
              rw [hm] at h
              simp only [onNK, ek] at h
              obtain ⟨H', I', q'⟩ := tk_write (A := X.A) (t' := s.toks + (nestedKind X.prog X.w).draws k) (Qs := fun nu => Qd z nu) (Qh := fun H' => Q w H') I C S e hm h1 h2 e2 hk iz rw_ h.1 h.2 (fun nu H' x S' q => kq z nu be H' w x S' (iz.mono x) q) hx hs
              exact ⟨w, H', I', rw_, q'⟩
      · exact h.elim
    · exact h.elim
  · exact h.elim
/-- d.get(y), d.get(y, z) -/
theorem get1_run {be : List Addr} {mu : Store} {x y : D} {v u : V} {uv uu : Value} {Qd : QD} {Q : VK} (hu : X.A.units + 9 < cLine) (I : Inv X pins σ H s) (C : CtOk CT X) (S : RepS X.K CT H be mu) (ix : IsD X.K H be x v) (iy : IsD X.K H be y u) (rv : RelV v uv) (ru : RelV u uu)
    (h : w2 .get1 x y mu Qd) (kq : KQ X.K CT H be Qd Q) : wpAny (model X.prog X.w) X.A (call (.builtin "dict.get") [uv, uu]) (EP X pins σ Q) X.xe s := by
  simp only [w2] at h
  split at h
  · obtain ⟨a, od, ov, rfl, io, g, q⟩ := get_of S ix iy h
    cases (show uv = .ref a from rv)
    refine dg_get1 hu I C g ru fun w' s' I' r' => ⟨_, H, I', r', kq.at_ S ?_ q⟩
    cases od <;> cases ov <;> first | exact io.elim | exact io | (simp only [Option.getD_none, IsD])
  · exact h.elim
theorem get2_run {be : List Addr} {mu : Store} {x y z : D} {v u w : V} {uv uu uw : Value} {Qd : QD} {Q : VK} (hu : X.A.units + 9 < cLine) (I : Inv X pins σ H s) (C : CtOk CT X) (S : RepS X.K CT H be mu) (ix : IsD X.K H be x v) (iy : IsD X.K H be y u) (iz : IsD X.K H be z w) (rv : RelV v uv) (ru : RelV u uu) (rw_ : RelV w uw)
    (h : w3 .get2 x y z mu Qd) (kq : KQ X.K CT H be Qd Q) : wpAny (model X.prog X.w) X.A (call (.builtin "dict.get") [uv, uu, uw]) (EP X pins σ Q) X.xe s := by
  simp only [w3] at h
  split at h
  · obtain ⟨a, od, ov, rfl, io, g, q⟩ := get_of S ix iy h
    cases (show uv = .ref a from rv)
    refine dg_get2 hu I C g ru rw_ fun w' s' I' r' => ⟨_, H, I', r', kq.at_ S ?_ q⟩
    cases od <;> cases ov <;> first | exact io.elim | exact io | exact iz
  · exact h.elim
theorem dct_of {n : Nat} {v : V} {Q : List (Key × D) → Bool → Prop} (S : RepS K CT H be mu) (i : IsD K H be (.ref n) v) (h : dctAt mu n Q) :
    ∃ a kvs lk gs, v = .ref a ∧ be[n]? = some a ∧ mu[n]? = some (.dct kvs lk) ∧ Rd H a (.dK gs) ∧ (lk = false → H a = some (.dK gs)) ∧ IsKs K H be kvs gs ∧ Q kvs lk := by
  simp only [IsD] at i
  obtain ⟨a, e, rfl⟩ := i
  unfold dctAt at h
  split at h
  · rename_i kvs lk hm
    have c := S.get e hm
    cases lk with
    | false =>
      obtain ⟨gs, h1, h2⟩ := c
      exact ⟨a, kvs, false, gs, rfl, e, hm, .inl h1, fun _ => h1, h2, h⟩
    | true =>
      obtain ⟨gs, o, h1, h2⟩ := c
      exact ⟨a, kvs, true, gs, rfl, e, hm, .inr ⟨o, h1⟩, (fun z => by cases z), h2, h⟩
  · exact h.elim
theorem merge_rel : ∀ {more : List (Key × D)} {ms : List (Key × V)} {kvs : List (Key × D)} {gs : List (Key × V)}, IsKs K H be more ms → IsKs K H be kvs gs → IsKs K H be (mergeD kvs more) (mergeK gs ms)
  | [], [], _, _, _, h => h
  | [], _ :: _, _, _, h, _ => by have := h.1; simp at this
  | _ :: _, [], _, _, h, _ => by have := h.1; simp at this
  | p :: r, q :: t, kvs, gs, h, h0 => by
    obtain ⟨e, i⟩ := h
    simp only [List.map_cons, List.cons.injEq] at e
    simp only [List.map_cons, IsDs] at i
    obtain ⟨v, w, e2, i1, i2⟩ := i
    simp only [List.cons.injEq] at e2
    show IsKs K H be (mergeD (putD kvs p.1 p.2) r) (mergeK (putK gs q.1 q.2) t)
    refine merge_rel ⟨e.2, by rw [e2.2]; exact i2⟩ ?_
    rw [← e.1]
    exact putD_rel h0.1 h0.2 (by rw [e2.1]; exact i1)
theorem update_run {be : List Addr} {mu : Store} {x y : D} {v u : V} {uv uu : Value} {Qd : QD} {Q : VK} (I : Inv X pins σ H s) (S : RepS X.K CT H be mu) (ix : IsD X.K H be x v) (iy : IsD X.K H be y u) (rv : RelV v uv) (ru : RelV u uu)
    (h : w2 .update x y mu Qd) (kq : KQ X.K CT H be Qd Q) : wpAny (model X.prog X.w) X.A (call (.builtin "dict.update") [uv, uu]) (EP X pins σ Q) X.xe s := by
  simp only [w2] at h
  split at h
  · rename_i n m
    obtain ⟨ne, h⟩ := h
    obtain ⟨a, kvs, lk, gs, rfl, e, hm, r1, r2, ik, rfl, h⟩ := dct_of S ix h
    obtain ⟨b, ks, lk2, ms, rfl, e2, hm2, r3, r4, ik2, h⟩ := dct_of S iy h
    cases (show uv = .ref a from rv)
    cases (show uu = .ref b from ru)
    have hab : a ≠ b := fun z => ne (nd_ix S.nd e (z ▸ e2))
    have h1 := r2 rfl
    obtain ⟨z1, d1, vs1, rel1, dd1⟩ := dk_rd I.hok r1
    obtain ⟨z2, d2, vs2, rel2, dd2⟩ := dk_rd I.hok r3
    have ln1 : kvs.length = gs.length := by simpa using congrArg List.length ik.1
    have ln2 : ks.length = ms.length := by simpa using congrArg List.length ik2.1
    refine call_meetsIn PySem.F.slot_dict_update dd1.typeIs PySem.F.entry_dict_update (PySem.F.args_dict_update_2 _ _) (meets_dict_update (mixKind X.prog X.w) a b hab d2) ⟨vs1, vs2, dd1, dd2, by rw [← rel1.length, ← rel2.length, ← ln1, ← ln2]; exact h.1, fun h' dm _ hs => ?_⟩
    have he : ∃ q, h'.get? a = some q := let ⟨q, _, _, hq, _⟩ := dm; ⟨q, hq⟩
    have hl : (mergeK gs ms).length ≤ sizeLine := by
      have := length_mergeK ms gs
      omega
    have x : Ext H (upd H a (.dK (mergeK gs ms))) be be := .write e h1 rfl
    have mr := merge_rel ik2 ik
    refine ⟨.non, _, d_write (t' := s.toks) I (by rw [h1]; exact True.intro) hs he (dk_new hl d1 (KV.merge rel2 rel1) dm), rfl, kq .non _ be _ .non x (S.write (c := .dct (mergeD kvs ks) false) e h1 rfl ⟨_, upd_same, mr.1, mr.2.mono x⟩) (by simp only [IsD]) h.2⟩
  · exact h.elim
theorem isDct_type {be : List Addr} {mu : Store} {n : Nat} {v : V} {uv : Value} (I : Inv X pins σ H s) (C : CtOk CT X) (S : RepS X.K CT H be mu) (ix : IsD X.K H be (.ref n) v) (rv : RelV v uv) (h : isDct mu n) :
    s.TypeIs uv "dict" ∧ ∀ b, uv = .ref b → ∃ ob, s.heap.get? b = some ob ∧ ob.dict = none := by
  simp only [IsD] at ix
  obtain ⟨a, e, rfl⟩ := ix
  cases (show uv = .ref a from rv)
  unfold isDct at h
  split at h
  · rename_i kvs lk hm
    have c := S.get e hm
    have : ∃ gs, Rd H a (.dK gs) := by
      cases lk with
      | false => obtain ⟨gs, h1, _⟩ := c; exact ⟨gs, .inl h1⟩
      | true => obtain ⟨gs, o, h1, _⟩ := c; exact ⟨gs, .inr ⟨o, h1⟩⟩
    obtain ⟨gs, r⟩ := this
    obtain ⟨t1, t2, _⟩ := isD_at I (.inl ⟨gs, r⟩)
    exact ⟨t1, t2⟩
  · rename_i kvs hm
    obtain ⟨xs, h1, h2⟩ := S.get e hm
    obtain ⟨⟨ob, es, ep, q1, q2, _⟩, _⟩ := tk_is I C h1 h2
    exact ⟨⟨ob, q1, q2.1⟩, fun b e => by cases e; exact ⟨ob, q1, q2.2.1⟩⟩
  · exact h.elim
end
end MP
namespace MP
open PySem PySem.Spec PyProof.Rows L2
section
variable {X : Cx} {CT : Cls}
/-- t == () -/
theorem op_eqNil (hu : X.A.units < cLine) : OpR X (compareOp .Eq) (fun x y H Q => ∃ a b xs, x = .ref a ∧ y = .ref b ∧ SqT X.K H a xs ∧ SqT X.K H b [] ∧ Q (.bl xs.isEmpty) H) := by
  intro pins s σ H x y v u Q I rx ry h
  obtain ⟨a, b, xs, rfl, rfl, ha, hb, q⟩ := h
  cases rx
  cases ry
  obtain ⟨its, r1, p1, _⟩ := I.tuple ha
  obtain ⟨its2, r2, p2, _⟩ := I.tuple hb
  cases r2
  refine SeqAt.eq_tupleAt (e := fun _ => true) (show s.heap.IsTuple a its.toArray from p1) (show s.heap.IsTuple b ([] : List Value).toArray from p2) hu (fun j h1 h2 => absurd h2 (by simp)) ?_
  refine ⟨.bl xs.isEmpty, H, I, ?_, q⟩
  have hl := r1.length
  cases xs with
  | nil =>
    have : its = [] := List.eq_nil_of_length_eq_zero (by simpa using hl.symm)
    subst this
    rfl
  | cons x r =>
    cases its with
    | nil => simp at hl
    | cons z t => simp [L2.RelV]
theorem op_neNil (hu : X.A.units < cLine) : OpR X (compareOp .NotEq) (fun x y H Q => ∃ a b xs, x = .ref a ∧ y = .ref b ∧ SqT X.K H a xs ∧ SqT X.K H b [] ∧ Q (.bl (!xs.isEmpty)) H) := by
  intro pins s σ H x y v u Q I rx ry h
  obtain ⟨a, b, xs, rfl, rfl, ha, hb, q⟩ := h
  cases rx
  cases ry
  obtain ⟨its, r1, p1, _⟩ := I.tuple ha
  obtain ⟨its2, r2, p2, _⟩ := I.tuple hb
  cases r2
  refine SeqAt.RcNeAt.tuples (e := fun _ => true) (show s.heap.IsTuple a its.toArray from p1) (show s.heap.IsTuple b ([] : List Value).toArray from p2) hu (fun j h1 h2 => absurd h2 (by simp)) _ _ _ _ ?_
  refine ⟨.bl (!xs.isEmpty), H, I, ?_, q⟩
  have hl := r1.length
  cases xs with
  | nil =>
    have : its = [] := List.eq_nil_of_length_eq_zero (by simpa using hl.symm)
    subst this
    rfl
  | cons x r =>
    cases its with
    | nil => simp at hl
    | cons z t => simp [L2.RelV]
theorem flat_dp {K : PySem.W.Frag} {H : Hp} {be : List Addr} {d : D} {v : V} (h : d.flat = true) (i : IsD K H be d v) : Dp K H v d.py ∧ SeqAt.shaped d.py = true := by
  unfold D.flat at h
  rw [Bool.and_eq_true] at h
  exact ⟨dp_of h.1 i, h.2⟩
theorem shaped_lst {ds : List PyData} (h : SeqAt.shaped (.tuple ds) = true) : SeqAt.shaped (.list ds) = true := by
  simpa [SeqAt.shaped, PyData.canLay0, PyData.depth] using h
theorem eq_D (hu : X.A.units + 64 < cLine) : OpR X (compareOp .Eq) (R2D X.K CT .eq) := by
  refine opr_imp (opr_or op_eq (opr_or (op_eqNil (by omega)) (op_eqD hu))) fun v u H Q h => ?_
  obtain ⟨be, mu, x, y, Qd, S, dx, dy, h, kq⟩ := h
  simp only [w2] at h
  split at h
  · rename_i a b
    simp only [IsD] at dx dy
    subst dx dy
    refine .inl ⟨rfl, kq.at_ S (by simp only [IsD]; simp) h⟩
  · rename_i a b
    simp only [IsD] at dx dy
    subst dx dy
    refine .inl ⟨rfl, kq.at_ S (by simp only [IsD]; simp) h⟩
  · rename_i xs
    simp only [IsD] at dx dy
    obtain ⟨a, vs, rfl, q1, r1⟩ := dx
    obtain ⟨b, ws, rfl, q2, r2⟩ := dy
    simp only [IsDs] at r2
    subst r2
    refine .inr (.inl ⟨a, b, vs, rfl, rfl, q1, q2, kq.at_ (d := .bl vs.isEmpty) S (by simp only [IsD]) ?_⟩)
    have : vs.isEmpty = xs.isEmpty := by
      have := r1.len
      cases vs <;> cases xs <;> simp_all
    rw [this]; exact h
  · rename_i n m
    obtain ⟨a, vs, xs, rfl, _, _, h1, i1, h⟩ := lst_of S dx h
    obtain ⟨b, ws, ys, rfl, _, _, h2, i2, h⟩ := lst_of S dy h
    obtain ⟨f1, f2, h⟩ := h
    unfold D.flat at f1 f2
    rw [Bool.and_eq_true] at f1 f2
    refine .inr (.inr ⟨.list (D.pys xs), .list (D.pys ys), .lst (SqL.of h1) (dps_of f1.1 i1), .lst (SqL.of h2) (dps_of f2.1 i2), shaped_lst f1.2, shaped_lst f2.2, kq.at_ S (by simp only [IsD]; rfl) h⟩)
  · obtain ⟨p1, s1⟩ := flat_dp h.1 dx
    obtain ⟨p2, s2⟩ := flat_dp h.2.1 dy
    exact .inr (.inr ⟨_, _, p1, p2, s1, s2, kq.at_ S (by simp only [IsD]; rfl) h.2.2⟩)
theorem ne_D (hu : X.A.units + 64 < cLine) : OpR X (compareOp .NotEq) (R2D X.K CT .ne) := by
  refine opr_imp (opr_or op_ne (opr_or (op_neNil (by omega)) (op_neD hu))) fun v u H Q h => ?_
  obtain ⟨be, mu, x, y, Qd, S, dx, dy, h, kq⟩ := h
  simp only [w2] at h
  split at h
  · rename_i a b
    simp only [IsD] at dx dy
    subst dx dy
    refine .inl ⟨rfl, kq.at_ S (by simp only [IsD]; simp) h⟩
  · rename_i a b
    simp only [IsD] at dx dy
    subst dx dy
    refine .inl ⟨rfl, kq.at_ S (by simp only [IsD]; simp) h⟩
  · rename_i xs
    simp only [IsD] at dx dy
    obtain ⟨a, vs, rfl, q1, r1⟩ := dx
    obtain ⟨b, ws, rfl, q2, r2⟩ := dy
    simp only [IsDs] at r2
    subst r2
    refine .inr (.inl ⟨a, b, vs, rfl, rfl, q1, q2, kq.at_ (d := .bl (!vs.isEmpty)) S (by simp only [IsD]) ?_⟩)
    have : vs.isEmpty = xs.isEmpty := by
      have := r1.len
      cases vs <;> cases xs <;> simp_all
    rw [this]; exact h
  · rename_i n m
    obtain ⟨a, vs, xs, rfl, _, _, h1, i1, h⟩ := lst_of S dx h
    obtain ⟨b, ws, ys, rfl, _, _, h2, i2, h⟩ := lst_of S dy h
    obtain ⟨f1, f2, h⟩ := h
    unfold D.flat at f1 f2
    rw [Bool.and_eq_true] at f1 f2
    refine .inr (.inr ⟨.list (D.pys xs), .list (D.pys ys), .lst (SqL.of h1) (dps_of f1.1 i1), .lst (SqL.of h2) (dps_of f2.1 i2), shaped_lst f1.2, shaped_lst f2.2, kq.at_ S (by simp only [IsD]; rfl) h⟩)
  · obtain ⟨p1, s1⟩ := flat_dp h.1 dx
    obtain ⟨p2, s2⟩ := flat_dp h.2.1 dy
    exact .inr (.inr ⟨_, _, p1, p2, s1, s2, kq.at_ S (by simp only [IsD]; rfl) h.2.2⟩)
theorem any_pys (x : D) : ∀ ys : List D, ((D.pys ys).any fun z => PyData.eqv z x.py) = ys.any fun z => eqP z x
  | [] => rfl
  | y :: r => by
    simp only [D.pys, List.any_cons]
    rw [any_pys x r]
    rfl
/-- x in y, y a tuple -/
def rInT (K : PySem.W.Frag) (neg : Bool) : R2 := fun x y H Q => ∃ d ds, Dp K H x d ∧ Dp K H y (.tuple ds) ∧ SeqAt.shaped d = true ∧ SeqAt.shaped (.tuple ds) = true ∧ Q (.bl (xor neg (ds.any fun z => PyData.eqv z d))) H
theorem op_inT (hu : X.A.units + 65 < cLine) : OpR X (compareOp .In) (rInT X.K false) := by
  intro pins s σ H x y v u Q I rx ry ⟨d, ds, hd, he, sd, se, q⟩
  obtain ⟨as, r1⟩ := Dp.reads I d x v hd rx
  obtain ⟨bs, r2⟩ := Dp.reads I (.tuple ds) y u he ry
  have k : SeqAt.shaped (.list ds) = true := shaped_lst se
  refine SeqAt.in_tuple_reads r2 r1 (SeqAt.canLay_of_shaped se) (SeqAt.canLay_of_shaped sd) (room_in_shaped sd hu) ⟨.bl _, H, I, rfl, ?_⟩
  simpa using q
theorem op_ninT (hu : X.A.units + 65 < cLine) : OpR X (compareOp .NotIn) (rInT X.K true) := by
  intro pins s σ H x y v u Q I rx ry ⟨d, ds, hd, he, sd, se, q⟩
  obtain ⟨as, r1⟩ := Dp.reads I d x v hd rx
  obtain ⟨bs, r2⟩ := Dp.reads I (.tuple ds) y u he ry
  refine SeqAt.notIn_tuple_reads r2 r1 (SeqAt.canLay_of_shaped se) (SeqAt.canLay_of_shaped sd) (room_in_shaped sd hu) ⟨.bl _, H, I, rfl, ?_⟩
  simpa using q
/-- by a dict -/
def rDin (K : PySem.W.Frag) (CT : Cls) : R2 := fun y x H Q => ∃ a o, x = .ref a ∧ DG K CT H a y o ∧ Q (.bl (o.isSome)) H
theorem op_Din (hu : X.A.units + 65 < cLine) (C : CtOk CT X) : OpR X (compareOp .In) (rDin X.K CT) := by
  intro pins s σ H y x u v Q I ry rx ⟨a, o, e, g, q⟩
  subst e
  cases (show v = .ref a from rx)
  exact dg_in (by omega) I C g ry fun s' I' => ⟨.bl _, H, I', rfl, q⟩
theorem in_D (hu : X.A.units + 65 < cLine) (C : CtOk CT X) : OpR X (compareOp .In) (R2D X.K CT .inn) := by
  refine opr_imp (opr_or op_in_sign (opr_or (op_inD hu) (opr_or (op_inT hu) (op_Din hu C)))) fun v u H Q h => ?_
  obtain ⟨be, mu, x, y, Qd, S, dx, dy, h, kq⟩ := h
  have key : (∃ a vs ys, u = .ref a ∧ (SqL X.K H a vs ∨ SqT X.K H a vs) ∧ IsDs X.K H be ys vs ∧ x.flat = true ∧ (D.tup ys).flat = true ∧ Qd (.bl (ys.any fun z => eqP z x)) mu) ∨
      (∃ c z, x = .str ⟨#[c]⟩ ∧ y = .str z ∧ Qd (.bl (decide (c ∈ z.cps.toList))) mu) ∨ ∃ a od ov, u = .ref a ∧ IsO X.K H be od ov ∧ DG X.K CT H a v ov ∧ Qd (.bl (od.isSome)) mu := by
    simp only [w2] at h
    split at h
    · obtain ⟨c, rfl, h⟩ := h
      exact .inr (.inl ⟨c, _, rfl, rfl, h⟩)
    · rename_i n
      split at h
      · rename_i ys hm
        obtain ⟨a, vs, zs, rfl, _, hm2, h1, i1, rfl⟩ := lst_of (Q := fun zs => zs = ys) S dy (by unfold lstAt; rw [hm])
        exact .inl ⟨a, vs, zs, rfl, .inl (SqL.of h1), i1, h.1, h.2.1, h.2.2⟩
      · obtain ⟨a, od, ov, rfl, io, g, q⟩ := get_of S dy dx h
        exact .inr (.inr ⟨a, od, ov, rfl, io, g, q⟩)
    · obtain ⟨a, vs, ys, rfl, hs, i1, f1, f2, h⟩ := seq_of S dy h
      exact .inl ⟨a, vs, ys, rfl, hs, i1, f1, f2, h⟩
  rcases key with ⟨a, vs, ys, rfl, hs, i1, f1, f2, h2⟩ | ⟨c, z, rfl, rfl, h2⟩ | ⟨a, od, ov, rfl, io, g, h2⟩
  · obtain ⟨p1, s1⟩ := flat_dp f1 dx
    unfold D.flat at f2
    rw [Bool.and_eq_true] at f2
    have e := any_pys x ys
    rcases hs with hs | hs
    · exact .inr (.inl ⟨_, D.pys ys, p1, .lst hs (dps_of f2.1 i1), s1, shaped_lst f2.2, kq.at_ S (by simp only [IsD]; rw [e]) h2⟩)
    · exact .inr (.inr (.inl ⟨_, D.pys ys, p1, .tup hs (dps_of f2.1 i1), s1, f2.2, kq.at_ S (by simp only [IsD]; rw [e]; simp) h2⟩))
  · simp only [IsD] at dx dy
    subst dx dy
    exact .inl ⟨c, _, rfl, rfl, kq.at_ S (by simp only [IsD]) h2⟩
  · refine .inr (.inr (.inr ⟨a, ov, rfl, g, kq.at_ S ?_ h2⟩))
    cases od <;> cases ov <;> first | exact io.elim | (simp only [IsD, Option.isSome_none, Option.isSome_some])
/-- by a dict -/
def rDnin (K : PySem.W.Frag) (CT : Cls) : R2 := fun y x H Q => ∃ a o, x = .ref a ∧ DG K CT H a y o ∧ Q (.bl (!o.isSome)) H
theorem op_Dnin (hu : X.A.units + 65 < cLine) (C : CtOk CT X) : OpR X (compareOp .NotIn) (rDnin X.K CT) := by
  intro pins s σ H y x u v Q I ry rx ⟨a, o, e, g, q⟩
  subst e
  cases (show v = .ref a from rx)
  exact dg_nin (by omega) I C g ry fun s' I' => ⟨.bl _, H, I', rfl, q⟩
theorem nin_D (hu : X.A.units + 65 < cLine) (C : CtOk CT X) : OpR X (compareOp .NotIn) (R2D X.K CT .nin) := by
  refine opr_imp (opr_or op_notIn_sign (opr_or (op_notInD hu) (opr_or (op_ninT hu) (op_Dnin hu C)))) fun v u H Q h => ?_
  obtain ⟨be, mu, x, y, Qd, S, dx, dy, h, kq⟩ := h
  have key : (∃ a vs ys, u = .ref a ∧ (SqL X.K H a vs ∨ SqT X.K H a vs) ∧ IsDs X.K H be ys vs ∧ x.flat = true ∧ (D.tup ys).flat = true ∧ Qd (.bl (!ys.any fun z => eqP z x)) mu) ∨
      (∃ c z, x = .str ⟨#[c]⟩ ∧ y = .str z ∧ Qd (.bl (!decide (c ∈ z.cps.toList))) mu) ∨ ∃ a od ov, u = .ref a ∧ IsO X.K H be od ov ∧ DG X.K CT H a v ov ∧ Qd (.bl (!od.isSome)) mu := by
    simp only [w2] at h
    split at h
    · obtain ⟨c, rfl, h⟩ := h
      exact .inr (.inl ⟨c, _, rfl, rfl, h⟩)
    · rename_i n
      split at h
      · rename_i ys hm
        obtain ⟨a, vs, zs, rfl, _, hm2, h1, i1, rfl⟩ := lst_of (Q := fun zs => zs = ys) S dy (by unfold lstAt; rw [hm])
        exact .inl ⟨a, vs, zs, rfl, .inl (SqL.of h1), i1, h.1, h.2.1, h.2.2⟩
      · obtain ⟨a, od, ov, rfl, io, g, q⟩ := get_of S dy dx h
        exact .inr (.inr ⟨a, od, ov, rfl, io, g, q⟩)
    · obtain ⟨a, vs, ys, rfl, hs, i1, f1, f2, h⟩ := seq_of S dy h
      exact .inl ⟨a, vs, ys, rfl, hs, i1, f1, f2, h⟩
  rcases key with ⟨a, vs, ys, rfl, hs, i1, f1, f2, h2⟩ | ⟨c, z, rfl, rfl, h2⟩ | ⟨a, od, ov, rfl, io, g, h2⟩
  · obtain ⟨p1, s1⟩ := flat_dp f1 dx
    unfold D.flat at f2
    rw [Bool.and_eq_true] at f2
    have e := any_pys x ys
    rcases hs with hs | hs
    · exact .inr (.inl ⟨_, D.pys ys, p1, .lst hs (dps_of f2.1 i1), s1, shaped_lst f2.2, kq.at_ S (by simp only [IsD]; rw [e]) h2⟩)
    · exact .inr (.inr (.inl ⟨_, D.pys ys, p1, .tup hs (dps_of f2.1 i1), s1, f2.2, kq.at_ S (by simp only [IsD]; rw [e]; simp) h2⟩))
  · simp only [IsD] at dx dy
    subst dx dy
    exact .inl ⟨c, _, rfl, rfl, kq.at_ S (by simp only [IsD]) h2⟩
  · refine .inr (.inr (.inr ⟨a, ov, rfl, g, kq.at_ S ?_ h2⟩))
    cases od <;> cases ov <;> first | exact io.elim | (simp only [IsD, Option.isSome_none, Option.isSome_some])
theorem lt_D : OpR X (compareOp .Lt) (R2D X.K CT .lt) := by
  refine opr_imp (opr_or op_lt op_lt_str) fun v u H Q h => ?_
  obtain ⟨be, mu, x, y, Qd, S, dx, dy, h, kq⟩ := h
  cases x <;> cases y <;> simp only [w2] at h
  case int.int i j =>
    simp only [IsD] at dx dy
    exact .inl ⟨i, j, dx, dy, kq.at_ S (by simp only [IsD]) h⟩
  case str.str i j =>
    simp only [IsD] at dx dy
    exact .inr ⟨i, j, dx, dy, kq.at_ S (by simp only [IsD]; rfl) h⟩
theorem le_D : OpR X (compareOp .LtE) (R2D X.K CT .le) := by
  refine opr_imp (opr_or op_le op_le_str) fun v u H Q h => ?_
  obtain ⟨be, mu, x, y, Qd, S, dx, dy, h, kq⟩ := h
  cases x <;> cases y <;> simp only [w2] at h
  case int.int i j =>
    simp only [IsD] at dx dy
    exact .inl ⟨i, j, dx, dy, kq.at_ S (by simp only [IsD]) h⟩
  case str.str i j =>
    simp only [IsD] at dx dy
    exact .inr ⟨i, j, dx, dy, kq.at_ S (by simp only [IsD]; rfl) h⟩
theorem gt_D : OpR X (compareOp .Gt) (R2D X.K CT .gt) := by
  refine opr_imp (opr_or op_gt op_gt_str) fun v u H Q h => ?_
  obtain ⟨be, mu, x, y, Qd, S, dx, dy, h, kq⟩ := h
  cases x <;> cases y <;> simp only [w2] at h
  case int.int i j =>
    simp only [IsD] at dx dy
    exact .inl ⟨i, j, dx, dy, kq.at_ S (by simp only [IsD]) h⟩
  case str.str i j =>
    simp only [IsD] at dx dy
    exact .inr ⟨i, j, dx, dy, kq.at_ S (by simp only [IsD]; rfl) h⟩
theorem ge_D : OpR X (compareOp .GtE) (R2D X.K CT .ge) := by
  refine opr_imp (opr_or op_ge op_ge_str) fun v u H Q h => ?_
  obtain ⟨be, mu, x, y, Qd, S, dx, dy, h, kq⟩ := h
  cases x <;> cases y <;> simp only [w2] at h
  case int.int i j =>
    simp only [IsD] at dx dy
    exact .inl ⟨i, j, dx, dy, kq.at_ S (by simp only [IsD]) h⟩
  case str.str i j =>
    simp only [IsD] at dx dy
    exact .inr ⟨i, j, dx, dy, kq.at_ S (by simp only [IsD]; rfl) h⟩
theorem at_of {K : PySem.W.Frag} {H : Hp} {be : List Addr} {xs : List D} {vs : List V} {i : Int} {k : D → Prop} (h : IsDs K H be xs vs) (q : itemAt xs i k) : ∃ d v, atI vs i = some v ∧ IsD K H be d v ∧ k d := by
  unfold itemAt at q
  split at q
  · rename_i d e
    unfold atI at e ⊢
    rw [← h.len]
    cases hj : ixN xs.length i with
    | none => rw [hj] at e; cases e
    | some j =>
      rw [hj] at e
      obtain ⟨v, e1, i1⟩ := h.get (show xs[j]? = some d from e)
      exact ⟨d, v, e1, i1, q⟩
  · exact q.elim
theorem ix_dct (hu : X.A.units + 65 < cLine) (C : CtOk CT X) : IxR X (fun x y H Q => ∃ a v, x = .ref a ∧ DG X.K CT H a y (some v) ∧ Q v H) := by
  intro value slice pins s σ H x y v u Q I rx ry ⟨a, w, e, g, q⟩ hs
  subst e
  cases (show v = .ref a from rx)
  exact tail_any (ops := [.ref a, u]) (dg_type I C g).1 PySem.F.slot_dict_getitem.lookup (dg_item (by omega) I C g ry fun w' s' I' r' => ⟨w, H, I', r', q⟩) hs
theorem ix_D (hu : X.A.units + 65 < cLine) (C : CtOk CT X) : IxR X (R2D X.K CT .ix) := by
  have imp : ∀ {r t : R2}, IxR X r → (∀ x y H Q, t x y H Q → r x y H Q) → IxR X t := fun h k value slice pins s σ H x y v u Q I rx ry q hs => h value slice pins s σ H x y v u Q I rx ry (k _ _ _ _ q) hs
  refine imp (ix_seq.or (ix_dct (CT := CT) hu C)) fun v u H Q h => ?_
  obtain ⟨be, mu, x, y, Qd, S, dx, dy, h, kq⟩ := h
  have seqs : ∀ {i : Int}, u = .int i → seqAt x mu (fun xs => itemAt xs i fun v => Qd v mu) → rIx X.K v u H Q := fun {i} e h => by
    obtain ⟨a, vs, xs, rfl, q, r, h⟩ := seq_of S dx h
    obtain ⟨d, w, e1, i1, h⟩ := at_of r h
    rcases q with q | q
    · exact .inl ⟨a, vs, i, w, rfl, e, q, e1, kq.at_ S i1 h⟩
    · exact .inr (.inl ⟨a, vs, i, w, rfl, e, q, e1, kq.at_ S i1 h⟩)
  simp only [w2] at h
  split at h
  · rename_i z i
    simp only [IsD] at dx dy
    obtain ⟨hz, h⟩ := h
    split at h
    · rename_i c e
      exact .inl (.inr (.inr ⟨z, i, c, dx, dy, hz, e, kq.at_ S (by simp only [IsD]) h⟩))
    · exact h.elim
  · simp only [IsD] at dy
    exact .inl (seqs dy h)
  · simp only [IsD] at dy
    exact .inl (seqs dy h)
  · rename_i n
    split at h
    · rename_i xs hm
      cases y <;> simp only [onI] at h
      simp only [IsD] at dy
      exact .inl (seqs dy (by simp only [seqAt]; unfold lstAt; rw [hm]; exact h))
    · obtain ⟨a, od, ov, rfl, io, g, q⟩ := get_of S dx dy h
      unfold onSome at q
      split at q
      · rename_i d
        cases ov with
        | none => exact io.elim
        | some w => exact .inr ⟨a, w, rfl, g, kq.at_ S io q⟩
      · exact q.elim
  · exact h.elim
theorem max_D (hc : X.calm = true) : CallR X (.builtin "max") (fun vs H Q => ∃ v u, vs = [v, u] ∧ R2D X.K CT .max v u H Q) := by
  refine callr_imp (call_max2 hc) fun vs H Q h => ?_
  obtain ⟨v, u, rfl, be, mu, x, y, Qd, S, dx, dy, h, kq⟩ := h
  cases x <;> cases y <;> simp only [w2] at h
  case int.int i j =>
    simp only [IsD] at dx dy
    subst dx dy
    exact ⟨i, j, rfl, kq.at_ S (by simp only [IsD]) h⟩
theorem min_D (hc : X.calm = true) : CallR X (.builtin "min") (fun vs H Q => ∃ v u, vs = [v, u] ∧ R2D X.K CT .min v u H Q) := by
  refine callr_imp (call_min2 hc) fun vs H Q h => ?_
  obtain ⟨v, u, rfl, be, mu, x, y, Qd, S, dx, dy, h, kq⟩ := h
  cases x <;> cases y <;> simp only [w2] at h
  case int.int i j =>
    simp only [IsD] at dx dy
    subst dx dy
    exact ⟨i, j, rfl, kq.at_ S (by simp only [IsD]) h⟩
/-- a list's cell written anew -/
theorem put_lst {K : PySem.W.Frag} {H : Hp} {be : List Addr} {mu : Store} {Qd : QD} {Q : VK} {n : Nat} {a : Addr} {vs ws : List V} {ys : List D} {d : D} {v : V} (S : RepS K CT H be mu) (e : be[n]? = some a) (h1 : H a = some (.lst vs))
    (i : IsDs K H be ys ws) (id : IsD K H be d v) (kq : KQ K CT H be Qd Q) (q : Qd d (mu.set n (.lst ys))) : Q v (upd H a (.lst ws)) := by
  have x : Ext H (upd H a (.lst ws)) be be := .write e h1 rfl
  exact kq d _ be _ v x (S.write (c := .lst ys) e h1 rfl ⟨ws, upd_same, i.mono x⟩) (id.mono x) q
theorem append_D : MtR X "list.append" (fun v us H Q => ∃ u, us = [u] ∧ R2D X.K CT .append v u H Q) := by
  have imp : ∀ {r t : V → List V → Hp → VK → Prop} {id : String}, MtR X id r → (∀ x y H Q, t x y H Q → r x y H Q) → MtR X id t := fun h k pins s σ H x xs v us Q I rx rs q => h pins s σ H x xs v us Q I rx rs (k _ _ _ _ q)
  refine imp mt_append fun v us H Q h => ?_
  obtain ⟨u, rfl, be, mu, x, y, Qd, S, dx, dy, h, kq⟩ := h
  cases x <;> simp only [w2] at h
  case ref n =>
    obtain ⟨a, vs, xs, rfl, e, _, h1, i1, h⟩ := lst_of S dx h
    exact ⟨a, vs, u, rfl, rfl, h1, by rw [← i1.len]; exact h.1, put_lst S e h1 (i1.append (.one dy)) (by simp only [IsD]) kq h.2⟩
theorem extend_D : MtR X "list.extend" (fun v us H Q => ∃ u, us = [u] ∧ R2D X.K CT .extend v u H Q) := by
  have imp : ∀ {r t : V → List V → Hp → VK → Prop} {id : String}, MtR X id r → (∀ x y H Q, t x y H Q → r x y H Q) → MtR X id t := fun h k pins s σ H x xs v us Q I rx rs q => h pins s σ H x xs v us Q I rx rs (k _ _ _ _ q)
  refine imp mt_extend fun v us H Q h => ?_
  obtain ⟨u, rfl, be, mu, x, y, Qd, S, dx, dy, h, kq⟩ := h
  cases x <;> cases y <;> simp only [w2] at h
  case ref.ref n m =>
    obtain ⟨a, vs, xs, rfl, e, _, h1, i1, h⟩ := lst_of S dx h
    obtain ⟨b, ws, ys, rfl, _, _, h2, i2, h⟩ := lst_of S dy h
    exact ⟨a, b, vs, ws, rfl, rfl, h1, h2, by rw [← i1.len, ← i2.len]; exact h.1, put_lst S e h1 (i1.append i2) (by simp only [IsD]) kq h.2⟩
theorem pop_D : MtR X "list.pop" (fun v us H Q => us = [] ∧ R1D X.K CT .pop v H Q) := by
  have imp : ∀ {r t : V → List V → Hp → VK → Prop} {id : String}, MtR X id r → (∀ x y H Q, t x y H Q → r x y H Q) → MtR X id t := fun h k pins s σ H x xs v us Q I rx rs q => h pins s σ H x xs v us Q I rx rs (k _ _ _ _ q)
  refine imp mt_pop fun v us H Q h => ?_
  obtain ⟨rfl, be, mu, x, Qd, S, dx, h, kq⟩ := h
  cases x <;> simp only [w1] at h
  case ref n =>
    obtain ⟨a, vs, xs, rfl, e, _, h1, i1, y, ey, h⟩ := lst_of S dx h
    obtain ⟨w, ew, iw⟩ := i1.get ey
    refine ⟨a, vs, w, rfl, rfl, h1, by rw [← i1.len]; exact ew, put_lst S e h1 (ys := xs.dropLast) ?_ iw kq h⟩
    rw [List.dropLast_eq_take, List.dropLast_eq_take, i1.len]
    exact i1.take _
abbrev One (K : PySem.W.Frag) (CT : Cls) (o : O1) : List V → Hp → VK → Prop := fun vs H Q => ∃ v, vs = [v] ∧ R1D K CT o v H Q
theorem call_lenK (C : CtOk CT X) : CallR X (.builtin "len") (fun xs H Q => ∃ a, xs = [.ref a] ∧ ((∃ kvs : List (Key × V), Rd H a (.dK kvs) ∧ Q (.int kvs.length) H) ∨ ∃ be kvs ys, H a = some (TkO CT a ys) ∧ IsTk X.K H be kvs ys ∧ Q (.int kvs.length) H)) := by
  intro pins s σ H xs us Q I r ⟨a, e, h⟩
  subst e
  obtain rfl := Vals.ref1 r
  rcases h with ⟨kvs, h1, q⟩ | ⟨be, kvs, ys, h1, h2, q⟩
  · exact d_len I h1 fun t s' I' => ⟨.int kvs.length, H, I', ⟨t, rfl⟩, q⟩
  · obtain ⟨d1, d2⟩ := tk_is I C h1 h2
    have ln : kvs.length = ys.length := by simpa using congrArg List.length h2.1
    have ln2 : (pairsH ys).length = kvs.length := by rw [pairsH_length, ln]
    have lz : ys.length ≤ 16777216 := h2.2.1
    have hm : s.heap.DictKeyed (nestedKind X.prog X.w) a (pairsH ys) := ⟨ys, d1, rfl⟩
    refine PyProof.Rows.call_len_slot (n := (pairsH ys).length) hm.typeIs PySem.F.slot_dict_len (fun Q' hq => len_keyed d2 hm hq) (by omega) (by omega) ?_
    rw [ln2]
    exact ⟨.int kvs.length, H, I.tok _, ⟨_, rfl⟩, q⟩
theorem len_D (C : CtOk CT X) : CallR X (.builtin "len") (One X.K CT .len) := by
  refine callr_imp (callr_or (callr_or call_len_str call_len_seq) (call_lenK (CT := CT) C)) fun vs H Q h => ?_
  obtain ⟨v, rfl, be, mu, x, Qd, S, dx, h, kq⟩ := h
  have seqs : seqAt x mu (fun xs => Qd (.int xs.length) mu) → ∃ p ys, [v] = [V.ref p] ∧ (SqL X.K H p ys ∨ SqT X.K H p ys) ∧ Q (.int ys.length) H := fun h => by
    obtain ⟨a, vs, xs, rfl, q, r, h⟩ := seq_of S dx h
    exact ⟨a, vs, rfl, q, by rw [← r.len]; exact kq.at_ S (by simp only [IsD]) h⟩
  simp only [w1] at h
  split at h
  · rename_i z
    simp only [IsD] at dx
    subst dx
    exact .inl (.inl ⟨z, rfl, h.1, kq.at_ S (by simp only [IsD]) h.2⟩)
  · exact .inl (.inr (seqs h))
  · exact .inl (.inr (seqs h))
  · rename_i n
    split at h
    · rename_i xs hm
      exact .inl (.inr (seqs (by simp only [seqAt]; unfold lstAt; rw [hm]; exact h)))
    · rename_i kvs lk hm
      obtain ⟨a, kvs2, lk2, gs, rfl, _, hm2, r1, _, ik, e⟩ := dct_of (Q := fun ks _ => ks = kvs) S dx (by unfold dctAt; rw [hm])
      subst e
      have ln : kvs2.length = gs.length := by simpa using congrArg List.length ik.1
      exact .inr ⟨a, rfl, .inl ⟨gs, r1, by rw [← ln]; exact kq.at_ S (by simp only [IsD]) h⟩⟩
    · rename_i kvs hm
      simp only [IsD] at dx
      obtain ⟨a, e, rfl⟩ := dx
      obtain ⟨ys, h1, h2⟩ := S.get e hm
      exact .inr ⟨a, rfl, .inr ⟨be, kvs, ys, h1, h2, kq.at_ S (by simp only [IsD]) h⟩⟩
    · exact h.elim
  · exact h.elim
theorem abs_D : CallR X (.builtin "abs") (One X.K CT .abs) := by
  refine callr_imp call_abs fun vs H Q h => ?_
  obtain ⟨v, rfl, be, mu, x, Qd, S, dx, h, kq⟩ := h
  cases x <;> simp only [w1] at h
  case int i =>
    simp only [IsD] at dx
    subst dx
    exact ⟨i, rfl, kq.at_ S (by simp only [IsD]) h⟩
theorem int_D : CallR X (.type "int") (One X.K CT .int) := by
  refine callr_imp call_int1 fun vs H Q h => ?_
  obtain ⟨v, rfl, be, mu, x, Qd, S, dx, h, kq⟩ := h
  cases x <;> simp only [w1] at h
  case int i =>
    simp only [IsD] at dx
    subst dx
    exact .inl ⟨i, rfl, kq.at_ S (by simp only [IsD]) h⟩
  case bl i =>
    simp only [IsD] at dx
    subst dx
    exact .inr ⟨i, rfl, kq.at_ S (by simp only [IsD]) h⟩
theorem tuple_D : CallR X (.type "tuple") (One X.K CT .tuple) := by
  refine callr_imp call_tuple_of fun vs H Q h => ?_
  obtain ⟨v, rfl, be, mu, x, Qd, S, dx, h, kq⟩ := h
  simp only [w1] at h
  cases x with
  | tup xs =>
    have dx0 := dx
    simp only [IsD] at dx
    obtain ⟨a, vs, rfl, q, r⟩ := dx
    exact ⟨a, vs, rfl, .inr ⟨q, kq.at_ S dx0 (by simpa only [seqAt] using h)⟩⟩
  | ref n =>
    simp only [seqAt] at h
    obtain ⟨a, vs, xs, rfl, e, _, h1, i1, h⟩ := lst_of S dx h
    exact ⟨a, vs, rfl, .inl ⟨SqL.of h1, fun p hp => kq.tup S i1 h hp⟩⟩
  | ro xs =>
    simp only [IsD] at dx
    obtain ⟨a, vs, rfl, q, r⟩ := dx
    exact ⟨a, vs, rfl, .inl ⟨q.sq, fun p hp => kq.tup S r (by simpa only [seqAt] using h) hp⟩⟩
  | _ => simp only [seqAt] at h
theorem list_D : CallR X (.type "list") (One X.K CT .list) := by
  refine callr_imp call_list_of fun vs H Q h => ?_
  obtain ⟨v, rfl, be, mu, x, Qd, S, dx, h, kq⟩ := h
  simp only [w1] at h
  obtain ⟨a, vs, xs, rfl, q, r, h⟩ := seq_of S dx h
  exact ⟨a, vs, rfl, q, fun p hp => kq.lst S r h hp⟩
theorem all_D (hc : X.calm = true) : CallR X (.builtin "all") (One X.K CT .all) := by
  refine callr_imp (cr_all hc) fun vs H Q h => ?_
  obtain ⟨v, rfl, be, mu, x, Qd, S, dx, h, kq⟩ := h
  simp only [w1] at h
  obtain ⟨a, vs, xs, rfl, q, r, h⟩ := list_of S dx h
  unfold onBl at h
  split at h
  · rename_i bs e
    have := bls_of e r
    subst this
    exact ⟨a, bs, rfl, q, kq.at_ S (by simp only [IsD]) h⟩
  · exact h.elim
theorem any_D (hc : X.calm = true) : CallR X (.builtin "any") (One X.K CT .any) := by
  refine callr_imp (cr_any hc) fun vs H Q h => ?_
  obtain ⟨v, rfl, be, mu, x, Qd, S, dx, h, kq⟩ := h
  simp only [w1] at h
  obtain ⟨a, vs, xs, rfl, q, r, h⟩ := list_of S dx h
  unfold onBl at h
  split at h
  · rename_i bs e
    have := bls_of e r
    subst this
    exact ⟨a, bs, rfl, q, kq.at_ S (by simp only [IsD]) h⟩
  · exact h.elim
theorem sum_D (hc : X.calm = true) : CallR X (.builtin "sum") (One X.K CT .sum) := by
  refine callr_imp (cr_sum hc) fun vs H Q h => ?_
  obtain ⟨v, rfl, be, mu, x, Qd, S, dx, h, kq⟩ := h
  simp only [w1] at h
  obtain ⟨a, vs, xs, rfl, q, r, h⟩ := list_of S dx h
  unfold onInt at h
  split at h
  · rename_i bs e
    have := ints_of e r
    subst this
    exact ⟨a, bs, rfl, q, kq.at_ S (by simp only [IsD]) h⟩
  · exact h.elim
theorem pys_map : ∀ xs : List D, D.pys xs = xs.map D.py
  | [] => rfl
  | x :: r => by simp only [D.pys, List.map_cons]; rw [pys_map r]
theorem depth_mem {x : D} : ∀ {xs : List D}, x ∈ xs → x.py.depth ≤ PyData.depthAll (D.pys xs)
  | y :: r, h => by
    simp only [D.pys, PyData.depthAll]
    rcases List.mem_cons.mp h with rfl | h
    · exact Nat.le_max_left _ _
    · exact Nat.le_trans (depth_mem h) (Nat.le_max_right _ _)
theorem each_of {K : PySem.W.Frag} {H : Hp} {be : List Addr} : ∀ {xs : List D} {vs : List V} {us : List Value}, IsDs K H be xs vs → Vals vs us → PySem.W.EachIs (fun u d => ∃ v, L2.RelV v u ∧ IsD K H be d v) us xs
  | [], _, _, i, r => by simp only [IsDs] at i; subst i; cases r; exact .nil
  | x :: xs, _, _, i, r => by
    simp only [IsDs] at i
    obtain ⟨v, w, rfl, h1, h2⟩ := i
    cases r with
    | cons r1 r2 => exact .cons ⟨v, r1, h1⟩ (each_of h2 r2)
theorem of_each {K : PySem.W.Frag} {H : Hp} {be : List Addr} : ∀ {xs : List D} {us : List Value}, PySem.W.EachIs (fun u d => ∃ v, L2.RelV v u ∧ IsD K H be d v) us xs → ∃ vs, IsDs K H be xs vs ∧ Vals vs us
  | _, _, .nil => ⟨[], .nil, .nil⟩
  | _, _, .cons ⟨v, r, i⟩ t => by
    obtain ⟨vs, a, b⟩ := of_each t
    exact ⟨v :: vs, .cons i a, .cons r b⟩
theorem sorted_D (hu : X.A.units + 67 < cLine) : CallR X (.builtin "sorted") (One X.K CT .sorted) := by
  intro pins s σ H vs us Q I r h
  obtain ⟨v, rfl, be, mu, x, Qd, S, dx, h, kq⟩ := h
  simp only [w1] at h
  obtain ⟨a, ys, xs, rfl, q, i, ⟨o1, o2, o3, o4, o5⟩, h⟩ := list_of S dx h
  obtain rfl := Vals.ref1 r
  obtain ⟨its, rv, hl, hz⟩ := I.list q
  rw [pys_map] at o3 o4
  refine PySem.W.sorted_data hl.isList (each_of i rv) ?_ o3 o4 o1 (fun b hb => ?_) fun out ho eo => ?_
  · have : ∀ {xs : List D} {vs : List V} {us : List Value}, D.pures xs = true → IsDs X.K H be xs vs → Vals vs us → PySem.W.EachIs (fun u d => ∃ as, Reads s.heap u (D.py d) as) us xs := by
      intro xs
      induction xs with
      | nil => intro vs us p i r; simp only [IsDs] at i; subst i; cases r; exact .nil
      | cons x xs ih =>
        intro vs us p i r
        simp only [IsDs] at i
        simp only [D.pures, Bool.and_eq_true] at p
        obtain ⟨v, w, rfl, h1, h2⟩ := i
        cases r with
        | cons r1 r2 => exact .cons (Dp.reads I x.py v _ (dp_of p.1 h1) r1) (ih p.2 h2 r2)
    exact this o2 i rv
  · have := depth_mem hb
    omega
  · obtain ⟨ws, j1, j2⟩ := of_each eo
    obtain ⟨ep, he'⟩ := PyProof.Rows.sortedAll_at s.heap its out.toArray
    have hl2 : ws.length ≤ sizeLine := by
      have := j1.len
      have l2 : (List.mergeSort xs (PySem.W.dataLe false D.py)).length = xs.length := List.length_mergeSort _
      omega
    exact ⟨.ref _, upd H (s.heap.objs.size + 1) (.lst ws), I.laid (t' := s.toks) (fun _ _ => PyProof.Rows.sortedAll_old) (Nat.le_succ _) ⟨hl2, out, ep, j2, by simpa using he'⟩, rfl, kq.lst (xs := sortD xs) S j1 h (I.hok.fresh (Nat.le_succ _))⟩
theorem isN_D : OpR X (compareOp .Is) (fun x y H Q => y = .non ∧ R1D X.K CT .isN x H Q) := by
  refine opr_imp op_isN fun v u H Q h => ?_
  obtain ⟨e, be, mu, x, Qd, S, dx, h, kq⟩ := h
  refine ⟨e, ?_⟩
  simp only [w1] at h
  have : decide (v = .non) = x.isNon := by
    cases x <;> simp only [IsD] at dx <;> first | (subst dx; rfl) | (obtain ⟨a, vs, rfl, _⟩ := dx; rfl) | (obtain ⟨a, _, rfl⟩ := dx; rfl)
  rw [this]
  exact kq.at_ S (by simp only [IsD]) h
theorem notN_D : OpR X (compareOp .IsNot) (fun x y H Q => y = .non ∧ R1D X.K CT .notN x H Q) := by
  refine opr_imp op_notN fun v u H Q h => ?_
  obtain ⟨e, be, mu, x, Qd, S, dx, h, kq⟩ := h
  refine ⟨e, ?_⟩
  simp only [w1] at h
  have : (!decide (v = .non)) = !x.isNon := by
    cases x <;> simp only [IsD] at dx <;> first | (subst dx; rfl) | (obtain ⟨a, vs, rfl, _⟩ := dx; rfl) | (obtain ⟨a, _, rfl⟩ := dx; rfl)
  rw [this]
  exact kq.at_ S (by simp only [IsD]) h
theorem isB_D (b : Bool) : OpR X (compareOp .Is) (fun x y H Q => y = .bl b ∧ R1D X.K CT (if b then .isT else .isF) x H Q) := by
  refine opr_imp op_isBl fun v u H Q h => ?_
  obtain ⟨e, be, mu, x, Qd, S, dx, h, kq⟩ := h
  cases b <;> cases x <;> simp [w1] at h
  all_goals
    rename_i c
    simp only [IsD] at dx
    refine ⟨c, _, dx, e, ?_⟩
    cases c <;> exact kq.at_ S (by simp only [IsD]; rfl) h
theorem neg_D : UnR X (unaryOp .USub) (R1D X.K CT .neg) := by
  intro pins s σ H v u Q I rx h
  refine un_neg pins s σ H v u Q I rx ?_
  obtain ⟨be, mu, x, Qd, S, dx, h, kq⟩ := h
  cases x <;> simp only [w1] at h
  case int i =>
    simp only [IsD] at dx
    exact ⟨i, dx, kq.at_ S (by simp only [IsD]) h⟩
theorem cut_of {K : PySem.W.Frag} {H : Hp} {be : List Addr} {xs : List D} {vs : List V} (h : IsDs K H be xs vs) (lo hi : Option Int) : IsDs K H be (cutD xs lo hi) (cutV vs lo hi) := by
  unfold cutD cutV
  rw [← h.len]
  exact (h.drop _).take _
theorem sl_D : SlR X (RSl X.K CT) := by
  have imp : ∀ {r t : V → Option Int → Option Int → Hp → VK → Prop}, SlR X r → (∀ x l u H Q, t x l u H Q → r x l u H Q) → SlR X t := fun h k pins s σ H x v vl vu lo hi sl Q I rx hs pl pu q => h pins s σ H x v vl vu lo hi sl Q I rx hs pl pu (k _ _ _ _ _ q)
  refine imp (sl_str.or (sl_tupA.or sl_list)) fun v lo hi H Q h => ?_
  obtain ⟨be, mu, x, Qd, S, dx, h, kq⟩ := h
  cases x <;> simp only [wSl] at h
  case str z =>
    simp only [IsD] at dx
    exact .inl ⟨z, dx, h.1, kq.at_ S (by simp only [IsD]) h.2⟩
  case tup xs =>
    have dx0 := dx
    simp only [IsD] at dx
    obtain ⟨a, vs, rfl, q, r⟩ := dx
    refine .inr (.inl ⟨a, vs, rfl, q, fun e => kq.at_ S dx0 ?_, fun _ p hp => kq.tup S (cut_of r lo hi) h hp⟩)
    have : cutD xs lo hi = xs := by
      unfold cutD
      rw [r.len, e.1, e.2, List.drop_zero, List.take_of_length_le (by rw [r.len]; omega)]
    rw [this] at h
    exact h
  case ref n =>
    obtain ⟨a, vs, xs, rfl, e, _, h1, i1, h⟩ := lst_of S dx h
    exact .inr (.inr ⟨a, vs, rfl, SqL.of h1, fun p hp => kq.lst S (cut_of i1 lo hi) h hp⟩)
end
end MP
namespace MP
open PySem PySem.Spec PyProof.Rows L2
section
variable {K : PySem.W.Frag} {CT : Cls} {H : Hp} {be : List Addr} {mu : Store}
mutual
theorem deep_dp (S : RepS K CT H be mu) : ∀ (p : PyData) (d : D) (v : V), Deep mu d p → IsD K H be d v → Dp K H v p
  | .none, _, _, h, i => by cases h; simp only [IsD] at i; subst i; exact .non
  | .bool _, _, _, h, i => by cases h; simp only [IsD] at i; subst i; exact .bl _
  | .int _, _, _, h, i => by cases h; simp only [IsD] at i; subst i; exact .int _
  | .str _, _, _, h, i => by cases h; simp only [IsD] at i; subst i; exact .str _
  | .tuple ps, _, _, h, i => by
    cases h with
    | tup hs =>
      simp only [IsD] at i
      obtain ⟨a, vs, rfl, q, r⟩ := i
      exact .tup q (deeps_dp S ps _ _ hs r)
  | .list ps, _, _, h, i => by
    cases h with
    | lst hn hs =>
      simp only [IsD] at i
      obtain ⟨a, e, rfl⟩ := i
      obtain ⟨vs, h1, r⟩ := S.get e hn
      exact .lst (SqL.of h1) (deeps_dp S ps _ _ hs r)
    | ro hs =>
      simp only [IsD] at i
      obtain ⟨a, vs, rfl, q, r⟩ := i
      exact .lst q.sq (deeps_dp S ps _ _ hs r)
  | .dict _, _, _, h, _ => by cases h
theorem deeps_dp (S : RepS K CT H be mu) : ∀ (ps : List PyData) (xs : List D) (vs : List V), Deeps mu xs ps → IsDs K H be xs vs → DpAll K H vs ps
  | [], _, _, h, i => by cases h; simp only [IsDs] at i; subst i; exact .nil
  | p :: ps, _, _, h, i => by
    cases h with
    | cons h1 h2 =>
      simp only [IsDs] at i
      obtain ⟨v, w, rfl, i1, i2⟩ := i
      exact .cons (deep_dp S p _ _ h1 i1) (deeps_dp S ps _ _ h2 i2)
end
mutual
theorem dp_nodict : ∀ (p : PyData) (v : V), Dp K H v p → p.hasDict = false
  | .none, _, _ => rfl
  | .bool _, _, _ => rfl
  | .int _, _, _ => rfl
  | .str _, _, _ => rfl
  | .tuple ps, _, h => by
    cases h with
    | tup q r => simp only [PyData.hasDict]; exact dps_nodict ps _ r
  | .list ps, _, h => by
    cases h with
    | lst q r => simp only [PyData.hasDict]; exact dps_nodict ps _ r
  | .dict _, _, h => by cases h
theorem dps_nodict : ∀ (ps : List PyData) (vs : List V), DpAll K H vs ps → PyData.hasDictAll ps = false
  | [], _, _ => rfl
  | p :: ps, _, h => by
    cases h with
    | cons h1 h2 => simp only [PyData.hasDictAll, dp_nodict p _ h1, dps_nodict ps _ h2]; rfl
end
end
section
variable {X : Cx} {CT : Cls}
theorem eqd_D (hu : X.A.units + 64 < cLine) : OpR X (compareOp .Eq) (R2D X.K CT .eqd) := by
  refine opr_imp (op_eqD hu) fun v u H Q h => ?_
  obtain ⟨be, mu, x, y, Qd, S, dx, dy, h, kq⟩ := h
  simp only [w2] at h
  obtain ⟨p, q, hp, hq, sp, sq, h⟩ := h
  exact ⟨p, q, deep_dp S p x v hp dx, deep_dp S q y u hq dy, sp, sq, kq.at_ S (by simp only [IsD]) h⟩
theorem ned_D (hu : X.A.units + 64 < cLine) : OpR X (compareOp .NotEq) (R2D X.K CT .ned) := by
  refine opr_imp (op_neD hu) fun v u H Q h => ?_
  obtain ⟨be, mu, x, y, Qd, S, dx, dy, h, kq⟩ := h
  simp only [w2] at h
  obtain ⟨p, q, hp, hq, sp, sq, h⟩ := h
  exact ⟨p, q, deep_dp S p x v hp dx, deep_dp S q y u hq dy, sp, sq, kq.at_ S (by simp only [IsD]) h⟩
theorem repr_D (hg : X.A.guards = some []) (hu : X.A.units + 66 < cLine) : CallR X (.builtin "repr") (One X.K CT .repr) := by
  intro pins s σ H xs us Q I r h
  obtain ⟨v, rfl, be, mu, x, Qd, S, dx, h, kq⟩ := h
  simp only [w1] at h
  obtain ⟨p, hp, hs, hd, hz, h⟩ := h
  have q : Q (.str p.shown) H := kq.at_ S (by simp only [IsD]) h
  have dp := deep_dp S p x v hp dx
  obtain ⟨u, rfl, rv⟩ := vals1 r
  obtain ⟨as, rd⟩ := Dp.reads I p v u dp rv
  cases rd with
  | none => exact PySem.P.repr_of_none ⟨.str _, H, I.tok _, ⟨_, rfl⟩, q⟩
  | bool b => exact PySem.P.repr_of_bool ⟨.str _, H, I.tok _, ⟨_, rfl⟩, q⟩
  | int i t => exact PySem.P.repr_of_int (by simpa [PyData.showable] using hs) ⟨.str _, H, I.tok _, ⟨_, rfl⟩, q⟩
  | str z t => exact PySem.P.repr_of_str ⟨.str _, H, I.tok _, ⟨_, rfl⟩, q⟩ hz
  | list h1 h2 h3 h4 =>
    refine repr_of_reads' (.list h1 h2 h3 h4) hs (fun z => ?_) hg (by omega) (fun _ _ e => e) (fun h' u tk hk => ⟨.str _, H, I.kept hk, ⟨_, rfl⟩, q⟩) hz
    rw [dp_nodict _ _ dp] at z; cases z
  | tuple h1 h2 h3 h4 =>
    refine repr_of_reads' (.tuple h1 h2 h3 h4) hs (fun z => ?_) hg (by omega) (fun _ _ e => e) (fun h' u tk hk => ⟨.str _, H, I.kept hk, ⟨_, rfl⟩, q⟩) hz
    rw [dp_nodict _ _ dp] at z; cases z
  | dict h1 h2 h3 h4 h5 => cases dp
end
def tyS : Ty → String
  | .int => "int"
  | .str => "str"
  | .bool => "bool"
  | .tuple => "tuple"
  | .list => "list"
  | .dict => "dict"
section
variable {X : Cx} {CT : Cls}
theorem isinst_D (t : Ty) : CallR X (.builtin "isinstance") (fun vs H Q => ∃ v, vs = [v, .ty (tyS t)] ∧ R1D X.K CT (.isinst t) v H Q) := by
  refine callr_imp call_isi fun vs H Q h => ?_
  obtain ⟨v, rfl, be, mu, x, Qd, S, dx, h, kq⟩ := h
  have go : ∀ (n : String) (b : Bool), TyX X.K H v (.type n) → kitB n (tyS t) = some b → Qd (.bl b) mu → rIsi X.K [v, .ty (tyS t)] H Q := fun n b ty e q =>
    ⟨v, _, _, _, b, rfl, .ty _, ty, kit_ty e, kq.at_ S (by simp only [IsD]) q⟩
  simp only [w1] at h
  cases x with
  | non =>
    simp only [IsD] at dx; subst dx
    cases t <;> exact go _ _ (.base .non) (by decide +kernel) h
  | bl b =>
    simp only [IsD] at dx; subst dx
    cases t <;> exact go _ _ (.base (.bl b)) (by decide +kernel) h
  | int i =>
    simp only [IsD] at dx; subst dx
    cases t <;> exact go _ _ (.base (.int i)) (by decide +kernel) h
  | str z =>
    simp only [IsD] at dx; subst dx
    cases t <;> exact go _ _ (.base (.str z)) (by decide +kernel) h
  | tup xs =>
    simp only [IsD] at dx
    obtain ⟨a, vs, rfl, q, r⟩ := dx
    have ty : TyX X.K H (.ref a) (.type "tuple") := by
      rcases q with (q | ⟨o, q⟩) | ⟨o, its, n, q, c, _⟩
      · exact .base (.tup q)
      · exact .fTuple q
      · exact .kTuple q c
    cases t <;> exact go _ _ ty (by decide +kernel) h
  | ro xs =>
    simp only [IsD] at dx
    obtain ⟨a, vs, rfl, q, r⟩ := dx
    have ty : TyX X.K H (.ref a) (.type "list") := by
      rcases q with ⟨o, q⟩ | ⟨o, its, n, q, c, _⟩
      · exact .base (.frz q)
      · exact .kList q c
    cases t <;> exact go _ _ ty (by decide +kernel) h
  | ref m =>
    simp only [IsD] at dx
    obtain ⟨a, ha, rfl⟩ := dx
    cases em : mu[m]? with
    | none => cases t <;> simp only [isTy, em] at h
    | some c =>
      have ic := S.get ha em
      cases c with
      | lst ys =>
        obtain ⟨vs, e, _⟩ := ic
        have ty : TyX X.K H (.ref a) (.type "list") := .base (.lst e)
        cases t <;> simp only [isTy, em] at h <;> exact go _ _ ty (by decide +kernel) h
      | dct kvs lk =>
        have ty : TyX X.K H (.ref a) (.type "dict") := by
          cases lk with
          | false => obtain ⟨gs, e, _⟩ := ic; exact .base (.dK e)
          | true => obtain ⟨gs, o, e, _⟩ := ic; exact .fDict e
        cases t <;> simp only [isTy, em] at h <;> exact go _ _ ty (by decide +kernel) h
      | dtk kvs => cases t <;> simp only [isTy, em] at h
      | ins c fs => cases t <;> simp only [isTy, em] at h
      | exn c fs => cases t <;> simp only [isTy, em] at h
theorem pe_tyN (t : Ty) {p : Pos} (hg : Gl X (tyS t : Str)) (hm : X.mg (tyS t : Str) = none) : PE X (.Name (tyS t) p) (tC (.ty (tyS t))) := by
  refine ⟨fun pins s σ H Q I q => ?_⟩
  cases t with
  | int => exact ld_blt (u := .type "int") I hg hm (by decide +kernel) ⟨.ty "int", H, I, rfl, q⟩ (by decide +kernel) (by decide +kernel)
  | str => exact ld_blt (u := .type "str") I hg hm (by decide +kernel) ⟨.ty "str", H, I, rfl, q⟩ (by decide +kernel) (by decide +kernel)
  | bool => exact ld_blt (u := .type "bool") I hg hm (by decide +kernel) ⟨.ty "bool", H, I, rfl, q⟩ (by decide +kernel) (by decide +kernel)
  | tuple => exact ld_blt (u := .type "tuple") I hg hm (by decide +kernel) ⟨.ty "tuple", H, I, rfl, q⟩ (by decide +kernel) (by decide +kernel)
  | list => exact ld_blt (u := .type "list") I hg hm (by decide +kernel) ⟨.ty "list", H, I, rfl, q⟩ (by decide +kernel) (by decide +kernel)
  | dict => exact ld_blt (u := .type "dict") I hg hm (by decide +kernel) ⟨.ty "dict", H, I, rfl, q⟩ (by decide +kernel) (by decide +kernel)
end
section
variable {K : PySem.W.Frag} {CT : Cls} {H : Hp} {be : List Addr} {Q : VK}
theorem rng_is (lo : Int) : ∀ l : List Nat, IsDs K H be (l.map fun i => D.int (lo + (i : Nat))) (l.map fun i => V.int (lo + (i : Nat)))
  | [] => .nil
  | _ :: r => .cons (by simp only [IsD]) (rng_is lo r)
theorem rng_D (a b : Int) : IsDs K H be (intsD a (b - a).toNat) (rgV a b) := rng_is a _
theorem lrng_D {v : V} (h : R1D K CT .lrng v H Q) : ∃ n, v = .int n ∧ RgOk 0 n ∧ ∀ q, H q = none → Q (.ref q) (upd H q (.lst (rgV 0 n))) := by
  obtain ⟨be, mu, x, Qd, S, dx, h, kq⟩ := h
  cases x <;> simp only [w1] at h
  rename_i j
  simp only [IsD] at dx
  have b1 := h.1.1
  have b2 := h.1.2
  refine ⟨j, dx, ⟨by omega, by omega, by omega, by omega, by omega⟩, fun q hq => kq.lst S (rng_D 0 j) ?_ hq⟩
  rw [Int.sub_zero]
  exact h.2
theorem trng_D {v : V} (h : R1D K CT .trng v H Q) : ∃ n, v = .int n ∧ RgOk 0 n ∧ ∀ q, H q = none → Q (.ref q) (upd H q (.tup (rgV 0 n))) := by
  obtain ⟨be, mu, x, Qd, S, dx, h, kq⟩ := h
  cases x <;> simp only [w1] at h
  rename_i j
  simp only [IsD] at dx
  have b1 := h.1.1
  have b2 := h.1.2
  refine ⟨j, dx, ⟨by omega, by omega, by omega, by omega, by omega⟩, fun q hq => kq.tup S (rng_D 0 j) ?_ hq⟩
  rw [Int.sub_zero]
  exact h.2
theorem lrng2_D {v u : V} (h : R2D K CT .lrng v u H Q) : ∃ i j, v = .int i ∧ u = .int j ∧ RgOk i j ∧ ∀ q, H q = none → Q (.ref q) (upd H q (.lst (rgV i j))) := by
  obtain ⟨be, mu, x, y, Qd, S, dx, dy, h, kq⟩ := h
  cases x <;> cases y <;> simp only [w2] at h
  rename_i i j
  simp only [IsD] at dx dy
  have b1 := h.1.1.1
  have b2 := h.1.1.2
  have b3 := h.1.2.1
  have b4 := h.1.2.2
  exact ⟨i, j, dx, dy, ⟨by omega, by omega, by omega, by omega, by omega⟩, fun q hq => kq.lst S (rng_D i j) h.2 hq⟩
theorem trng2_D {v u : V} (h : R2D K CT .trng v u H Q) : ∃ i j, v = .int i ∧ u = .int j ∧ RgOk i j ∧ ∀ q, H q = none → Q (.ref q) (upd H q (.tup (rgV i j))) := by
  obtain ⟨be, mu, x, y, Qd, S, dx, dy, h, kq⟩ := h
  cases x <;> cases y <;> simp only [w2] at h
  rename_i i j
  simp only [IsD] at dx dy
  have b1 := h.1.1.1
  have b2 := h.1.1.2
  have b3 := h.1.2.1
  have b4 := h.1.2.2
  exact ⟨i, j, dx, dy, ⟨by omega, by omega, by omega, by omega, by omega⟩, fun q hq => kq.tup S (rng_D i j) h.2 hq⟩
end
end MP
namespace MPT
open PySem PySem.W PySem.Calls PyProof.Rows PyProof.V PySem.Spec HT
section
variable {prog : Program} {w : World} {A : Around} {E : Value → Shared → Prop} {s : Shared}
/-- the stop of a slice backwards: none, or 0 -/
def bkStop (z : Bool) : Option Int := if z then some 0 else none
theorem adjust_back (z : Bool) (n : Nat) : Builtin.Slice.sliceAdjust none (bkStop z) (-1) (n : Int) = ((n : Int) - 1, if z then min 0 ((n : Int) - 1) else -1) := by
  unfold Builtin.Slice.sliceAdjust bkStop
  cases z
  · simp
  · simp
theorem places_back (z : Bool) (n : Nat) : Builtin.Slice.slicePlaces ((n : Int) - 1) (if z then min 0 ((n : Int) - 1) else -1) (-1) = if z then n - 1 else n := by
  unfold Builtin.Slice.slicePlaces
  have h1 : ¬ ((-1 : Int) > 0) := by omega
  have h2 : -(-1 : Int) = 1 := by decide
  simp only [h1, if_false, h2, Int.ediv_one]
  cases z
  · simp only [Bool.false_eq_true, if_false]
    split <;> omega
  · simp only [if_true]
    split <;> omega
theorem sliceApplied_back {sl : Addr} {vl vu vs : Value} {z : Bool} {n : Nat} {Q : Int × Int × Nat → Shared → Prop} (hs : s.heap.IsSliceOf sl vl vu vs) (pl : IsPart vl none) (pu : IsPart vu (bkStop z)) (ps : IsPart vs (some (-1)))
    (h : Q ((n : Int) - 1, -1, if z then n - 1 else n) s) : wpAny (model prog w) A (Builtin.Slice.sliceApplied (.ref sl) (pure (n : Int))) Q E s := by
  obtain ⟨os, hos, hcs, hds⟩ := id hs
  unfold Builtin.Slice.sliceApplied Builtin.Slice.sliceFields
  refine wpAny_bind (wpAny_bind (wpAny_field hos hds (x := vl) rfl (wpAny_bind (wpAny_field hos hds (x := vu) rfl (wpAny_bind (wpAny_field hos hds (x := vs) rfl (wpAny_pure ?_)))))))
  refine wpAny_bind (slicePart_ ps ?_)
  show wpAny _ _ (if ((-1 : Int) == 0) = true then _ else _) _ _ s
  rw [if_neg (by decide)]
  refine wpAny_bind (slicePart_ pl (wpAny_bind (slicePart_ pu (wpAny_bind (wpAny_pure ?_)))))
  show wpAny _ _ (match Builtin.Slice.sliceAdjust none (bkStop z) (-1) (n : Int) with | (lo, hi) => pure (lo, (-1 : Int), Builtin.Slice.slicePlaces lo hi (-1))) _ _ s
  rw [adjust_back z n]
  show wpAny _ _ (pure ((n : Int) - 1, (-1 : Int), Builtin.Slice.slicePlaces ((n : Int) - 1) (if z then min 0 ((n : Int) - 1) else -1) (-1))) _ _ s
  rw [places_back]
  exact wpAny_pure h
def backOf {α : Type} (z : Bool) (xs : List α) : List α := (if z then xs.drop 1 else xs).reverse
theorem pick_back (xs : Array Value) (z : Bool) : ((List.range (if z then xs.size - 1 else xs.size)).filterMap fun (m : Nat) => xs[(((xs.size : Int) - 1) + (m : Int) * (-1)).toNat]?).toArray = (backOf z xs.toList).toArray := by
  congr 1
  have go : ∀ k : Nat, k ≤ xs.size → (List.range k).filterMap (fun (m : Nat) => xs[(((xs.size : Int) - 1) + (m : Int) * (-1)).toNat]?) = (xs.toList.drop (xs.size - k)).reverse := by
    intro k
    induction k with
    | zero => intro _; simp
    | succ k ih =>
      intro hk
      rw [List.range_succ, List.filterMap_append, ih (by omega)]
      have e : (((xs.size : Int) - 1) + (k : Int) * (-1)).toNat = xs.size - (k + 1) := by omega
      have hl : xs.size - (k + 1) < xs.toList.length := by simp; omega
      rw [List.drop_eq_getElem_cons hl, List.reverse_cons]
      have e2 : xs.size - (k + 1) + 1 = xs.size - k := by omega
      rw [e2]
      congr 1
      simp only [List.filterMap_cons, List.filterMap_nil, e]
      rw [Array.getElem?_eq_getElem (by simpa using hl)]
      simp
  cases z
  · simp only [Bool.false_eq_true, if_false, backOf]
    rw [go _ (Nat.le_refl _)]; simp
  · simp only [if_true, backOf]
    by_cases h : xs.size = 0
    · have : xs = #[] := Array.size_eq_zero_iff.mp h
      subst this; rfl
    · rw [go _ (by omega)]
      congr 2
      omega
theorem getItem_tuple_back {t sl : Addr} {items : Array Value} {vl vu vs : Value} {z : Bool} {Q : Value → Shared → Prop} (ht : IsTup s.heap t items) (hs : s.heap.IsSliceOf sl vl vu vs) (pl : IsPart vl none) (pu : IsPart vu (bkStop z)) (ps : IsPart vs (some (-1)))
    (h : Q (.ref s.heap.objs.size) { s with heap := s.heap.push { cls := .type "tuple", data := .seq (backOf z items.toList).toArray } })
    (hsz : items.size ≤ sizeLine) : wpAny (model prog w) A (getItem (.ref t) (.ref sl)) Q E s := by
  have htake : sizeOk (.seq (backOf z items.toList).toArray) := by
    show (backOf z items.toList).toArray.size ≤ sizeLine
    unfold backOf
    cases z <;> simp <;> omega
  obtain ⟨os, hos, hcs, hds⟩ := id hs
  have hTs : s.TypeIs (.ref sl) "slice" := ⟨os, hos, hcs⟩
  unfold getItem
  try with_reducible refine wpAny_holding ?_
  first | refine wpAny_bind (wpAny_pure ?_) | skip
  refine wpAny_bind (wpAny_sequenceKey ht.typeIs (by decide) ?_)
  refine wpAny_bind (wpAny_callSpecial?_slot (name := Str.ofString "__getitem__") ht.typeIs PyProof.Rows.slot_tuple_getitem
    (wpAny_call_entry PyProof.Rows.slot_tuple_getitem ht.typeIs entry_tuple_getitem ?_ (args_tuple_getitem _ _)))
  show wpAny _ _ (Builtin.Tuple.tupleItemsOf (.ref t) >>= _) _ _ s
  refine wpAny_bind (tupleItemsOf_ ht ?_)
  refine wpAny_bind (wpAny_typeOf hTs ?_)
  rw [if_pos (by decide)]
  refine wpAny_bind (sliceApplied_back (z := z) hs pl pu ps ?_)
  have hno : ¬ ((((items.size : Int) - 1) == 0 && (-1 : Int) == 1 && (if z then items.size - 1 else items.size) == items.size) = true) := by
    intro q
    rw [Bool.and_eq_true, Bool.and_eq_true] at q
    exact absurd q.1.2 (by decide)
  show wpAny _ _ (if (((items.size : Int) - 1) == 0 && (-1 : Int) == 1 && (if z then items.size - 1 else items.size) == items.size) = true then _ else _) _ _ s
  rw [if_neg hno, pick_back]
  first
    | exact wpAny_bind (m := Builtin.Tuple.tupleExact _) (wpAny_newObj_type (wpAny_pure ⟨_, rfl, wpAny_pure h⟩) htake)
    | exact wpAny_bind (m := Builtin.Tuple.tupleExact _) (wpAny_newObj_type (wpAny_bind (wpAny_pure (wpAny_pure ⟨_, rfl, wpAny_pure h⟩))) htake)
    | exact wpAny_bind (wpAny_bind (m := Builtin.Tuple.tupleExact _) (wpAny_newObj_type (wpAny_pure (wpAny_pure ⟨_, rfl, wpAny_pure h⟩)) htake))
    | exact wpAny_bind (wpAny_bind (m := Builtin.Tuple.tupleExact _) (wpAny_newObj_type (wpAny_pure ⟨_, rfl, wpAny_pure h⟩) htake))
end
end MPT
namespace MP
open PySem PySem.Spec PyProof.Rows L2
section
variable {X : Cx} {pins : List (Addr × Obj)} {σ : L2.St} {H : Hp} {s : Shared} {K : PySem.W.Frag} {CT : Cls} {be : List Addr} {mu : Store} {G : Ctx} {W : WX}
/-- x[::-1], x[:0:-1] of a list or a tuple, by its value -/
def tBack (K : PySem.W.Frag) (z : Bool) (te : TE) : TE := fun σ H Q => te σ H fun x H1 => ∃ a xs, x = .ref a ∧
  ((SqL K H1 a xs ∧ z = false ∧ ∀ p, H1 p = none → Q (.ref p) (upd H1 p (.lst xs.reverse))) ∨ (SqT K H1 a xs ∧ ∀ p, H1 p = none → Q (.ref p) (upd H1 p (.tup (MPT.backOf z xs)))))
theorem Vals.back {xs : List V} {us : List Value} (r : Vals xs us) (z : Bool) : Vals (MPT.backOf z xs) (MPT.backOf z us) := by
  unfold MPT.backOf
  cases z
  · exact r.reverse
  · exact (r.drop 1).reverse
theorem back_go {e slice : Expr} {te : TE} {z : Bool} (lo hi st : Option Expr) {p3 pos : Pos} (hsl : slice = .Slice lo hi st p3) (he : PE X e te) (h1 : lo = none) (h2 : PO X hi (fun _ H Q => Q (MPT.bkStop z) H)) (h3 : PO X st (fun _ H Q => Q (some (-1)) H)) (hg : st ≠ none)
    (hs : ∀ v u, subscripted slice false v u = operate [v, u] (getItem v u)) : PE X (.Subscript e slice pos) (tBack X.K z te) := by
  subst hsl h1
  refine ⟨fun pins s σ H Q I h => ?_⟩
  refine Subscript_ (thn (he.run pins s σ H _ I h) fun v s1 ⟨x, H1, I1, r1, q1⟩ => ?_)
  obtain ⟨a, xs, ex, q⟩ := q1
  subst ex
  cases r1
  refine wpAny_Slice (thn (po_none.run pins s1 σ H1 (fun o H2 => o = none ∧ H2 = H1) I1 ⟨rfl, rfl⟩) fun vl s2 ⟨l, H2, I2, pl, el, e2⟩ => ?_)
  subst el e2
  refine thn (h2.run pins s2 σ H2 (fun o H3 => o = MPT.bkStop z ∧ H3 = H2) I2 ⟨rfl, rfl⟩) fun vu s3 ⟨u, H3, I3, pu, eu, e3⟩ => ?_
  subst eu e3
  refine thn (h3.run pins s3 σ H3 (fun o H4 => o = some (-1) ∧ H4 = H3) I3 ⟨rfl, rfl⟩) fun vs s4 ⟨o, H4, I4, ps, eo, e4⟩ => ?_
  subst eo e4
  have I5 : Inv X pins σ H4 { s4 with heap := s4.heap.push { cls := .type "slice", data := .fields #[vl, vu, vs] } } := I4.kept (t' := s4.toks) fun b ob q => Heap.get?_push_of_some _ q
  rcases q with ⟨hx, rfl, q⟩ | ⟨hx, q⟩
  · obtain ⟨its, r, ht, hz⟩ := I5.list hx
    have hlen := r.length
    refine tail_any (ops := [.ref a, .ref s4.heap.objs.size]) ht.isList.typeIs (PySem.slot_list_getitem.lookup) ?_ (hs _ _)
    refine wpAny_getItem_list_slice ht.isList (Heap.IsSliceOf.new _ vl vu vs) pl pu ps (by decide) ?_ (by rw [List.size_toArray]; omega)
    have e0 : MPT.bkStop false = none := rfl
    rw [e0, PySem.W.krv_pick]
    refine ⟨.ref _, _, I5.laid (t' := s4.toks) (o := .lst xs.reverse) (fun b ob q => Heap.get?_push_of_some _ q) (Nat.le_refl _) ?_, rfl, q _ (I5.hok.fresh (Nat.le_refl _))⟩
    exact ⟨by rw [List.length_reverse]; exact hz, _, 0, r.reverse, Heap.get?_push_size _ rfl⟩
  · obtain ⟨its, r, ht, hz⟩ := I5.tuple hx
    have hlen := r.length
    refine tail_any (ops := [.ref a, .ref s4.heap.objs.size]) ht.typeIs (PyProof.Rows.slot_tuple_getitem.lookup) ?_ (hs _ _)
    refine MPT.getItem_tuple_back (z := z) ht (Heap.IsSliceOf.new _ vl vu vs) pl pu ps ?_ (by rw [List.size_toArray]; omega)
    refine ⟨.ref _, _, I5.laid (t' := s4.toks) (o := .tup (MPT.backOf z xs)) (fun b ob q => Heap.get?_push_of_some _ q) (Nat.le_refl _) ?_, rfl, q _ (I5.hok.fresh (Nat.le_refl _))⟩
    refine ⟨?_, _, Vals.back r z, ⟨_, Heap.get?_push_size _ rfl, rfl, 0, by simp⟩⟩
    unfold MPT.backOf
    cases z <;> simp <;> omega
/-- the shape of such a slice -/
def backSh : Expr → Option Bool
  | .Slice none none (some (.UnaryOp .USub (.Constant (.int 1) _ _) _)) _ => some false
  | .Slice none (some (.Constant (.int 0) _ _)) (some (.UnaryOp .USub (.Constant (.int 1) _ _) _)) _ => some true
  | _ => none
theorem pe_back {e slice : Expr} {te : TE} {z : Bool} {pos : Pos} (he : PE X e te) (h : backSh slice = some z) : PE X (.Subscript e slice pos) (tBack X.K z te) := by
  have m1 : ∀ {k : Nat} {p1 p2 : Pos}, PO X (some (.UnaryOp .USub (.Constant (.int 1) k p1) p2)) (fun _ H Q => Q (some (-1)) H) := fun {k p1 p2} => ⟨fun pins s σ H Q I h => (po_some (pe_un un_neg pe_int)).run pins s σ H Q I ⟨1, rfl, -1, rfl, h⟩⟩
  unfold backSh at h
  split at h <;> cases h
  · exact back_go none none _ rfl he rfl ⟨fun pins s σ H Q I h => po_none.run pins s σ H Q I h⟩ m1 (by simp) (fun _ _ => by with_unfolding_all rfl)
  · exact back_go none _ _ rfl he rfl ⟨fun pins s σ H Q I h => (po_some pe_int).run pins s σ H Q I ⟨0, rfl, h⟩⟩ m1 (by simp) (fun _ _ => by with_unfolding_all rfl)
/-- a store at a place, by values -/
def rSetD (K : PySem.W.Frag) (CT : Cls) : TSet := fun o i v H Q => ∃ be mu od id vd Qs, RepS K CT H be mu ∧ IsD K H be od o ∧ IsD K H be id i ∧ IsD K H be vd v ∧ wSet od id vd mu Qs ∧ ∀ nu H', Ext H H' be be → RepS K CT H' be nu → Qs nu → Q H'
theorem set_D (hu : X.A.units + 65 < cLine) (C : CtOk CT X) : PSet X (rSetD X.K CT) := by
  intro pins s σ H o i v ov iv u Q I ro ri rv h
  obtain ⟨be, mu, od, id, vd, Qs, S, d1, d2, d3, h, k⟩ := h
  simp only [wSet] at h
  split at h
  · rename_i n
    split at h
    · rename_i xs hm
      obtain ⟨a, vs, zs, rfl, hb, hm2, h1, i1, rfl⟩ := lst_of (Q := fun zs => zs = xs) S d1 (by unfold lstAt; rw [hm])
      cases id <;> simp only [onI] at h
      rename_i j
      simp only [IsD] at d2
      subst d2
      split at h
      · rename_i t ht
        have x : Ext H (upd H a (.lst (vs.set t v))) be be := .write hb h1 rfl
        exact set_list pins s σ H (.ref a) (.int j) v ov iv u Q I ro ri rv ⟨a, vs, j, t, rfl, rfl, h1, by rw [← i1.len]; exact ht, k _ _ x (S.write (c := .lst (zs.set t vd)) hb h1 rfl ⟨vs.set t v, upd_same, (i1.set t d3).mono x⟩) h⟩
      · exact h.elim
    · obtain ⟨a, rfl, g⟩ := put_of S d1 d2 d3 h k
      cases (show ov = .ref a from ro)
      exact dp_set (by omega) I C g ri rv fun H' s' I' q => ⟨H', I', q⟩
  · exact h.elim
/-- list.pop(i) -/
theorem popAt_D : MtR X "list.pop" (fun v us H Q => ∃ u, us = [u] ∧ R2D X.K CT .popAt v u H Q) := by
  intro pins s σ H x xs v us Q I rx ru h
  obtain ⟨u, rfl, be, mu, xd, y, Qd, S, dx, dy, h, kq⟩ := h
  refine mt_popAt pins s σ H x [u] v us Q I rx ru ?_
  simp only [w2] at h
  split at h
  · rename_i n i
    obtain ⟨a, vs, zs, rfl, hb, hm2, h1, i1, h⟩ := lst_of S dx h
    simp only [IsD] at dy
    subst dy
    split at h
    · rename_i m em
      have hm : m < zs.length ∧ -(2 ^ 63) ≤ i ∧ i < 2 ^ 63 ∧ seqIndex? i vs.length = some m := by
        have hz : zs.length ≤ 16777216 := by
          obtain ⟨z, _⟩ := (show ObjOk X.prog X.w H s.heap a (.lst vs) from I.hok a _ h1)
          rw [i1.len]; exact z
        unfold ixN at em
        have hl := i1.len
        unfold seqIndex?
        split at em
        · split at em
          · cases em
            refine ⟨by omega, by omega, by omega, ?_⟩
            rw [← hl]
            have : ¬ i < 0 := by omega
            simp only [this, if_false]
            rw [if_pos (by simp; omega)]
          · cases em
        · split at em
          · cases em
            refine ⟨by omega, by omega, by omega, ?_⟩
            rw [← hl]
            have : i < 0 := by omega
            simp only [this, if_true]
            rw [if_pos (by simp; omega)]
          · cases em
      obtain ⟨hm, b1, b2, b3⟩ := hm
      obtain ⟨w, e1, iw⟩ := i1.get (List.getElem?_eq_getElem hm)
      have x : Ext H (upd H a (.lst (vs.eraseIdx m))) be be := .write hb h1 rfl
      have eg : zs.getD m .non = zs[m] := by simp [List.getD_eq_getElem?_getD, List.getElem?_eq_getElem hm]
      rw [eg] at h
      exact ⟨a, vs, i, m, w, rfl, rfl, h1, b1, b2, b3, e1, kq _ _ be _ w x (S.write (c := .lst (zs.eraseIdx m)) hb h1 rfl ⟨_, upd_same, (i1.erase m).mono x⟩) (iw.mono x) h⟩
    · exact h.elim
  · exact h.elim
/-- dict(x) -/
theorem pairs_is : ∀ {xs : List D} {kvs : List (Key × D)} {vs : List V}, allPair xs = some kvs → IsDs K H be xs vs → ∃ (ps : List Addr) (gs : List (Key × V)), vs = ps.map V.ref ∧ Paired (fun p kv => SqT K H p [kV kv.1, kv.2]) ps gs ∧ IsKs K H be kvs gs
  | [], kvs, vs, e, i => by
    simp only [allPair, Option.some.injEq] at e
    subst e
    simp only [IsDs] at i
    subst i
    exact ⟨[], [], rfl, .nil, rfl, .nil⟩
  | x :: xs, kvs, vs, e, i => by
    simp only [allPair] at e
    split at e
    · rename_i p ep
      simp only [Option.map_eq_some_iff] at e
      obtain ⟨r, e2, rfl⟩ := e
      simp only [IsDs] at i
      obtain ⟨v, w, rfl, i1, i2⟩ := i
      obtain ⟨ps, gs, rfl, q1, q2, q3⟩ := pairs_is e2 i2
      unfold pairOf at ep
      split at ep
      · rename_i k d
        simp only [Option.map_eq_some_iff] at ep
        obtain ⟨kk, ek, rfl⟩ := ep
        simp only [IsD] at i1
        obtain ⟨a, us, rfl, hq, i1⟩ := i1
        obtain ⟨v1, f1, g1⟩ := i1.get (i := 0) rfl
        obtain ⟨v2, f2, g2⟩ := i1.get (i := 1) rfl
        have hl := i1.len
        have eu : us = [kV kk, v2] := by
          match us, hl with
          | [x1, x2], _ =>
            simp at f1 f2
            subst f1 f2
            rw [keyV ek g1]
        subst eu
        exact ⟨a :: ps, (kk, v2) :: gs, rfl, .cons hq q1, by simp [q2], .cons g2 q3⟩
      · cases ep
    · cases e
theorem dictc_D (hc : X.calm = true) : CallR X (.type "dict") (One X.K CT .dictc) := by
  refine callr_imp (callr_or call_dictD (call_dictP hc)) fun vs H Q h => ?_
  obtain ⟨v, rfl, be, mu, x, Qd, S, dx, h, kq⟩ := h
  simp only [w1] at h
  split at h
  · rename_i n
    split at h
    · rename_i kvs lk hm
      obtain ⟨a, kvs2, lk2, gs, rfl, _, hm2, r1, _, ik, e⟩ := dct_of (Q := fun ks _ => ks = kvs) S dx (by unfold dctAt; rw [hm])
      subst e
      refine .inl ⟨a, gs, rfl, r1, fun p hp => ?_⟩
      have x : Ext H (upd H p (.dK gs)) be (be ++ [p]) := .cell hp
      exact kq _ _ (be ++ [p]) _ _ x (S.cell (c := .dct kvs2 false) hp ⟨gs, upd_same, ik.1, ik.2.mono x⟩) (by simp only [IsD]; exact ⟨p, by rw [← S.len]; simp, rfl⟩) h
    · rename_i xs hm
      obtain ⟨a, ws, zs, rfl, hb, hm2, h1, i1, rfl⟩ := lst_of (Q := fun zs => zs = xs) S dx (by unfold lstAt; rw [hm])
      unfold onPairs at h
      split at h
      · rename_i kvs ek
        obtain ⟨ps, gs, rfl, q1, q2⟩ := pairs_is ek i1
        refine .inr ⟨a, ps, gs, rfl, SqL.of h1, q1, fun p hp => ?_⟩
        have x : Ext H (upd H p (.dK (mergeK [] gs))) be (be ++ [p]) := .cell hp
        have mr := merge_rel (kvs := []) (gs := []) q2 ⟨rfl, .nil⟩
        exact kq _ _ (be ++ [p]) _ _ x (S.cell (c := .dct (mergeD [] kvs) false) hp ⟨_, upd_same, mr.1, mr.2.mono x⟩) (by simp only [IsD]; exact ⟨p, by rw [← S.len]; simp, rfl⟩) h
      · exact h.elim
    · exact h.elim
  · exact h.elim
end
end MP
namespace MP
open PySem PySem.Spec PyProof.Rows L2
section
variable {X : Cx} {CT : Cls}
theorem ind_D (hu : X.A.units + 65 < cLine) : OpR X (compareOp .In) (R2D X.K CT .ind) := by
  refine opr_imp (op_inD hu) fun v u H Q h => ?_
  obtain ⟨be, mu, x, y, Qd, S, dx, dy, h, kq⟩ := h
  simp only [w2] at h
  obtain ⟨p, q, hp, hq, sp, sq, h⟩ := h
  exact ⟨p, q, deep_dp S p x v hp dx, deep_dp S _ y u hq dy, sp, sq, kq.at_ S (by simp only [IsD]) h⟩
theorem nind_D (hu : X.A.units + 65 < cLine) : OpR X (compareOp .NotIn) (R2D X.K CT .nind) := by
  refine opr_imp (op_notInD hu) fun v u H Q h => ?_
  obtain ⟨be, mu, x, y, Qd, S, dx, dy, h, kq⟩ := h
  simp only [w2] at h
  obtain ⟨p, q, hp, hq, sp, sq, h⟩ := h
  exact ⟨p, q, deep_dp S p x v hp dx, deep_dp S _ y u hq dy, sp, sq, kq.at_ S (by simp only [IsD]) h⟩
theorem mtr_imp {r t : V → List V → Hp → VK → Prop} {id : String} (h : MtR X id r) (k : ∀ x y H Q, t x y H Q → r x y H Q) : MtR X id t := fun pins s σ H x xs v us Q I rx rs q => h pins s σ H x xs v us Q I rx rs (k _ _ _ _ q)
theorem dp_ref {K : PySem.W.Frag} {H : Hp} {v : V} {ps : List PyData} (h : Dp K H v (.list ps)) : ∃ a, v = .ref a := by
  cases h with
  | lst hs ha => exact ⟨_, rfl⟩
theorem index_D (hu : X.A.units + 65 < cLine) : MtR X "list.index" (fun v us H Q => ∃ u, us = [u] ∧ R2D X.K CT .index v u H Q) := by
  refine mtr_imp (mt_indexD hu) fun v us H Q h => ?_
  obtain ⟨u, rfl, be, mu, x, y, Qd, S, dx, dy, h, kq⟩ := h
  simp only [w2] at h
  obtain ⟨p, ps, j, z, hp, hq, sp, sq, h1, h2, h3, h⟩ := h
  have d1 := deep_dp S _ x v hq dx
  obtain ⟨a, rfl⟩ := dp_ref d1
  exact ⟨a, u, p, ps, j, z, rfl, rfl, d1, deep_dp S p y u hp dy, sq, sp, h1, h2, h3, kq.at_ S (by simp only [IsD]) h⟩
theorem count_D (hu : X.A.units + 65 < cLine) : MtR X "list.count" (fun v us H Q => ∃ u, us = [u] ∧ R2D X.K CT .count v u H Q) := by
  intro pins s σ H x xs v us Q I rx rxs h
  obtain ⟨y, rfl, be, mu, dx, dy, Qd, S, ix, iy, h, kq⟩ := h
  simp only [w2] at h
  obtain ⟨d, ds, hp, hq, sd, sl, h⟩ := h
  have d1 := deep_dp S _ dx x hq ix
  have hy := deep_dp S d dy y hp iy
  have q := kq.at_ S (v := .int ((ds.countP fun z => PyData.eqv z d : Nat) : Int)) (by simp only [IsD]) h
  obtain ⟨a, rfl⟩ := dp_ref d1
  cases rx
  cases rxs with
  | cons ry rt =>
    rename_i uy ut
    cases rt
    obtain ⟨bs, r1⟩ := Dp.reads I d y uy hy ry
    have hxs : PyData.canLayAll0 ds = true := SeqAt.canLay_of_shaped sl
    have hroom : X.A.units + 1 + min (PyData.depthAll ds) d.depth < cLine := room_in_shaped sd hu
    cases d1 with
    | lst hs ha =>
      obtain ⟨its, rv, pl, hlen⟩ := I.list hs
      obtain ⟨as, h4⟩ := Dp.readsAll I ds _ its ha rv
      refine PySem.SeqAt.count_list_data (vs := its.toArray) pl.isList (by rw [List.toList_toArray]; exact h4) r1 ?_ ?_ hroom ?_
      · exact PyData.plainAll_of_canLay0 ds hxs
      · exact PyData.plain_of_canLay0 d (SeqAt.canLay_of_shaped sd)
      · exact ⟨.int _, H, I.tok _, ⟨_, rfl⟩, q⟩
theorem strs_vs {K : PySem.W.Frag} {H : Hp} {be : List Addr} : ∀ {xs : List D} {vs : List V} {ss : List Str}, IsDs K H be xs vs → allStr xs = some ss → vs = ss.map V.str
  | [], vs, ss, h, e => by
    simp only [IsDs] at h
    simp only [allStr, Option.some.injEq] at e
    subst h e; rfl
  | x :: r, vs, ss, h, e => by
    simp only [IsDs] at h
    obtain ⟨v, w, rfl, h1, h2⟩ := h
    cases x <;> simp only [allStr] at e <;> try (cases e; done)
    rename_i z
    obtain ⟨t, et, rfl⟩ := Option.map_eq_some_iff.mp e
    simp only [IsD] at h1
    subst h1
    rw [strs_vs h2 et]; rfl
theorem join_D : MtR X "str.join" (fun v us H Q => ∃ u, us = [u] ∧ R2D X.K CT .join v u H Q) := by
  refine mtr_imp mt_join fun v us H Q h => ?_
  obtain ⟨u, rfl, be, mu, x, y, Qd, S, dx, dy, h, kq⟩ := h
  cases x <;> simp only [w2] at h
  case str z =>
    simp only [IsD] at dx
    subst dx
    obtain ⟨a, vs, ys, rfl, hs, i1, h⟩ := seq_of S dy h
    unfold onStr at h
    split at h
    · rename_i ss es
      have := strs_vs i1 es
      subst this
      refine ⟨z, a, ss, rfl, rfl, hs, ?_, kq.at_ S (by simp only [IsD]) h.2⟩
      have h1 : (ss.map Str.length).sum + z.length * ss.length ≤ sizeLine := h.1
      rw [sizeLine_eq] at h1
      rw [Nat.mul_comm]
      exact h1
    · exact h.elim
theorem upper_D : MtR X "str.upper" (fun v us H Q => us = [] ∧ One X.K CT .upper [v] H Q) := by
  refine mtr_imp mt_upper fun v us H Q h => ?_
  obtain ⟨rfl, v', e, be, mu, x, Qd, S, dx, h, kq⟩ := h
  cases e
  cases x <;> simp only [w1] at h
  case str z =>
    simp only [IsD] at dx
    subst dx
    exact ⟨z, rfl, rfl, h.1, kq.at_ S (by simp only [IsD]) h.2⟩
end
end MP
namespace MPS
open PySem PySem.Spec PyProof.Rows L2
def keyOf (e : Int × Value) : Str := match e.2 with | .str k _ => k | _ => Str.empty
def GoodE (w : World) (e : Int × Value) : Prop := ∃ k tk, e.2 = Value.str k tk ∧ e.1 = hashStr w k
/-- the set of texts at a: S its members, n their number -/
def SetR (w : World) (h : Heap) (a : Addr) (S : Str → Bool) (n : Nat) : Prop :=
  ∃ o es ep t, h.get? a = some o ∧ o.ExactSet ∧ o.data = .set es ep t ∧ (∀ e ∈ es.toList, GoodE w e) ∧ (es.toList.map keyOf).Nodup ∧ (∀ k, S k = true ↔ k ∈ es.toList.map keyOf) ∧
    es.size < scanBound ∧ t.fits es.size = true ∧ es.size = n ∧ Ris t.place.toList ∧ (w.params.followText "set-order" = true ∨ t.led = true)
section
variable {P : Program} {w : World} {h h' : Heap} {a : Addr} {S : Str → Bool} {n : Nat}
theorem SetR.at (R : SetR w h a S n) (k : ∀ o, h.get? a = some o → h'.get? a = some o) : SetR w h' a S n := by
  obtain ⟨o, es, ep, t, ho, r⟩ := R
  exact ⟨o, es, ep, t, k o ho, r⟩
theorem SetR.congr {S' : Str → Bool} (R : SetR w h a S n) (e : ∀ k, S' k = S k) : SetR w h a S' n := by
  have q : S' = S := funext e
  rw [q]; exact R
theorem good_elems {l : List (Int × Value)} (g : ∀ e ∈ l, GoodE w e) : ElemsOf (strKind P w) l := fun e he => by
  obtain ⟨k, tk, h1, h2⟩ := g e he
  exact ⟨⟨k, by rw [h1]; exact strKind_is P w k tk, h2⟩, by rw [h1] <;> rfl⟩
theorem good_is {e : Int × Value} (g : GoodE w e) (k : Str) : (strKind P w).is k e.2 = true ↔ keyOf e = k := by
  obtain ⟨k0, tk, h1, _⟩ := g
  unfold keyOf
  rw [h1]
  show ((k0 == k) = true) ↔ k0 = k
  exact beq_iff_eq
theorem good_mem {l : List (Int × Value)} (g : ∀ e ∈ l, GoodE w e) (k : Str) : k ∈ l.map keyOf ↔ ∃ e ∈ l, (strKind P w).is k e.2 = true := by
  rw [List.mem_map]
  constructor
  · rintro ⟨e, he, q⟩
    exact ⟨e, he, (good_is (g e he) k).2 q⟩
  · rintro ⟨e, he, q⟩
    exact ⟨e, he, (good_is (g e he) k).1 q⟩
end
section
variable {P : Program} {w : World} {A : Around} {E : Value → Shared → Prop} {s : Shared} {a : Addr} {S : Str → Bool} {n : Nat}
theorem setR_add_tail {g : Bool → Sem Unit} (hg : ∀ (b : Bool) (s₁ : Shared) (Q' : Unit → Shared → Prop), Q' () s₁ → wpAny (model P w) A (g b) Q' E s₁)
    {o : Obj} {es : Array (Int × Value)} {ep : Nat} {t : SetTable} (ho : s.heap.get? a = some o) (hex : o.ExactSet) (hd : o.data = .set es ep t)
    {es1 : Array (Int × Value)} {t2 : SetTable} {S' : Str → Bool} (g1 : ∀ e ∈ es1.toList, GoodE w e) (nd1 : (es1.toList.map keyOf).Nodup) (m1 : ∀ k, S' k = true ↔ k ∈ es1.toList.map keyOf)
    (hb1 : es1.size < scanBound) (hf2 : t2.fits es1.size = true) (hr : Ris t2.place.toList) (hl : w.params.followText "set-order" = true ∨ t2.led = true) {wasDummy : Bool} {R : Option Bool → Shared → Prop}
    (hR : ∀ h', Heap.SameBut a s.heap h' → SetR w h' a S' es1.size → R (some true) { s with heap := h' }) :
    wpAny (model P w) A (do
        storeSet a es1 t2
        if (!wasDummy && t2.tooFull) = true then do
            g (relayAll t2 es1 (SetTable.grown es1.size)).2.2
            storeSet a (relayAll t2 es1 (SetTable.grown es1.size)).1 (relayAll t2 es1 (SetTable.grown es1.size)).2.1
            pure (some true)
          else pure (some true)) R E s := by
  refine wpAny_bind (wpAny_storeSet_of ho hd ?_ (fits_of_scanBound hb1))
  have ho1 := store_at (es' := es1) (t' := t2) ho hd
  have sb1 := Heap.SameBut.update s.heap a (Obj.putSet es1 t2)
  split
  · have pm := relayAll_perm t2 es1 (SetTable.grown es1.size)
    have hf3 := relayAll_fits t2 es1 (SetTable.grown es1.size)
    have hr3 := relayAll_ris t2 es1 (SetTable.grown es1.size)
    have hl3 := relayAll_led t2 es1 (SetTable.grown es1.size)
    generalize relayAll t2 es1 (SetTable.grown es1.size) = Z at pm hf3 hr3 hl3 ⊢
    obtain ⟨es2, t3, gave⟩ := Z
    dsimp only at pm hf3 hr3 hl3 ⊢
    have hsz : es2.size = es1.size := by rw [← Array.length_toList, pm.length_eq, Array.length_toList]
    have hb2 : es2.size < scanBound := by rw [hsz]; exact hb1
    refine wpAny_bind (hg _ _ _ ?_)
    refine wpAny_bind (wpAny_storeSet_of ho1 rfl ?_ (fits_of_scanBound hb2))
    have ho2 := store_at (es' := es2) (t' := t3) ho1 rfl
    refine wpAny_pure (hR _ (sb1.trans (Heap.SameBut.update _ a _)) ?_)
    exact ⟨_, es2, _, t3, ho2, hex, rfl, fun e he => g1 e (pm.mem_iff.mp he), (pm.map keyOf).nodup_iff.mpr nd1, fun k => (m1 k).trans (pm.map keyOf).mem_iff.symm, hb2, hf3, hsz, hr3,
      hl.imp id fun z => by rw [hl3]; exact z⟩
  · exact wpAny_pure (hR _ sb1 ⟨_, es1, _, t2, ho1, hex, rfl, g1, nd1, m1, hb1, hf2, rfl, hr, hl⟩)
theorem setR_add_hashed {k : Str} {tk : Tok} {Q : Bool → Shared → Prop} (R : SetR w s.heap a S n) (room : n + 1 < scanBound)
    (hQ : ∀ h', Heap.SameBut a s.heap h' → SetR w h' a (fun j => S j || decide (j = k)) (if S k = true then n else n + 1) → Q (!S k) { s with heap := h' }) :
    wpAny (model P w) A (setAddHashed a (.str k tk) ((strKind P w).hash k)) Q E s := by
  obtain ⟨o, es, ep, t, ho, hex, hd, g, nd, hm, hb, hf, hn, hr, hl⟩ := R
  have hkey : (strKind P w).is k (.str k tk) = true := strKind_is P w k tk
  have hsc : (Value.str k tk).scannable = true := rfl
  have hel : ElemsOf (strKind P w) es.toList := good_elems g
  unfold setAddHashed setAddHashedIn
  refine wpAny_holding (wpAny_bind (wpAny_setState_of ho hd hf ?_))
  dsimp only
  rw [byScan_of hsc hb hel]
  simp only [↓reduceIte]
  unfold setAddByScan
  refine wpAny_bind ?_
  refine wpAny_bind (wpAny_rule ?_)
  refine wpAny_bind (wpAny_setScan_of hkey ho hd hf hel ?_)
  cases hfi : List.findIdx? (fun e => (strKind P w).is k e.2) es.toList with
  | some j =>
    dsimp only
    obtain ⟨hj, pj, _⟩ := List.findIdx?_eq_some_iff_getElem.mp hfi
    have hSk : S k = true := (hm k).2 ((good_mem (P := P) (w := w) g k).2 ⟨es.toList[j], List.getElem_mem hj, pj⟩)
    refine wpAny_pure (wpAny_pure ?_)
    have q := hQ s.heap (Heap.SameBut.refl a s.heap) ⟨o, es, ep, t, ho, hex, hd, g, nd, fun i => by
      rw [Bool.or_eq_true, decide_eq_true_eq, ← hm i]
      exact ⟨fun z => z.elim id (fun e => e ▸ hSk), .inl⟩, hb, hf, by rw [if_pos hSk]; exact hn, hr, hl⟩
    rw [hSk] at q
    exact q
  | none =>
    dsimp only
    have hnk : k ∉ es.toList.map keyOf := fun z => by
      obtain ⟨e, he, q⟩ := (good_mem (P := P) (w := w) g k).1 z
      have c := List.findIdx?_eq_none_iff.mp hfi e he
      rw [q] at c
      cases c
    have hSk : S k = false := by
      cases q : S k with
      | false => rfl
      | true => exact absurd ((hm k).1 q) hnk
    have hgw : ∀ (b : Bool) {s₁ : Shared} {Q' : Unit → Shared → Prop}, Q' () s₁ → wpAny (model P w) A (match b with | true => rule "set.scan.the-table-gave-way" | false => pure ()) Q' E s₁ :=
      fun b s₁ Q' q => by cases b <;> first | exact wpAny_pure q | exact wpAny_rule q
    have pm := layNew_perm t es ((strKind P w).hash k) (.str k tk)
    have hf1 := layNew_fits t es ((strKind P w).hash k) (.str k tk)
    have hr1 := layNew_ris t es ((strKind P w).hash k) (.str k tk) hr
    have hl1 := layNew_led t es ((strKind P w).hash k) (.str k tk)
    generalize layNew t es ((strKind P w).hash k) (.str k tk) = Z at pm hf1 hr1 hl1 ⊢
    obtain ⟨es1, t1, wasDummy, gave⟩ := Z
    dsimp only at pm hf1 hr1 hl1 ⊢
    rw [Array.toList_push] at pm
    have pc : es1.toList.Perm (((strKind P w).hash k, Value.str k tk) :: es.toList) := pm.trans (List.perm_append_singleton _ _)
    have pk : (es1.toList.map keyOf).Perm (k :: es.toList.map keyOf) := pc.map keyOf
    have g1 : ∀ e ∈ es1.toList, GoodE w e := fun e he => by
      rcases List.mem_cons.mp (pc.mem_iff.mp he) with z | z
      · rw [z]; exact ⟨k, tk, rfl, rfl⟩
      · exact g e z
    have nd1 : (es1.toList.map keyOf).Nodup := pk.nodup_iff.mpr (List.nodup_cons.mpr ⟨hnk, nd⟩)
    have m1 : ∀ i, (S i || decide (i = k)) = true ↔ i ∈ es1.toList.map keyOf := fun i => by
      rw [Bool.or_eq_true, decide_eq_true_eq, hm i, pk.mem_iff, List.mem_cons]
      exact Or.comm
    have hsz : es1.size = n + 1 := by rw [← Array.length_toList, pc.length_eq, List.length_cons, Array.length_toList, hn]
    have hb1 : es1.size < scanBound := by rw [hsz]; exact room
    have hled : w.params.followText "set-order" = true ∨ t1.led = true := hl.imp id fun z => by rw [hl1]; exact z
    have fin : ∀ h', Heap.SameBut a s.heap h' → SetR w h' a (fun j => S j || decide (j = k)) es1.size → Q true { s with heap := h' } := fun h' sb r => by
      have q := hQ h' sb
      rw [hSk] at q
      rw [hsz] at r
      exact q r
    refine wpAny_bind (hgw _ ?_)
    split
    · refine wpAny_bind ?_
      rw [hashByValue_scannable 8 hsc]
      refine wpAny_pure ?_
      refine setR_add_tail ?_ ho hex hd g1 nd1 m1 hb1 ?_ ?_ ?_ ?_
      · intro b s₁ Q' q; cases b <;> first | exact wpAny_pure q | exact wpAny_rule q
      · first | (split <;> first | exact hf1 | exact SetTable.fits_plain_off hf1) | exact hf1
      · first | (split <;> exact hr1) | exact hr1
      · first | (split <;> exact hled) | exact hled
      · intro h' sb r; dsimp only; exact wpAny_pure (fin h' sb r)
    · refine wpAny_bind (wpAny_pure ?_)
      simp only [↓reduceIte]
      refine setR_add_tail ?_ ho hex hd g1 nd1 m1 hb1 hf1 hr1 hled ?_
      · intro b s₁ Q' q; cases b <;> first | exact wpAny_pure q | exact wpAny_rule q
      · intro h' sb r; dsimp only; exact wpAny_pure (fin h' sb r)
theorem setR_new_at {w : World} {h : Heap} {a : Addr} {ns : List Str} (ho : h.get? a = some { cls := .type "set", dict := none, data := .set #[] 0 (.fresh 0 0 (!w.params.followText "set-order")) }) : SetR w h a (fun j => decide (j ∈ ns.take 0)) 0 :=
  ⟨_, #[], 0, _, ho, ⟨rfl, rfl, rfl⟩, rfl, (fun e he => by simp at he), (by simp), (fun k => by simp), (by decide), (by rfl), rfl, List.Pairwise.nil, by
    show _ ∨ (!w.params.followText "set-order") = true
    cases w.params.followText "set-order"
    · exact .inr rfl
    · exact .inl rfl⟩
theorem set_update_strs {I : Addr} {fp wr : List Addr} {G : Array GenState → Array GenState → Prop} {n : Nat} {Pv : Nat → Value → Prop} {St : Nat → Shared → Prop} {R : Result → Shared → Prop}
    (W : WalksS P w A.in1 I fp wr G n Pv St) (S : Addr) (hSf : S ∉ fp) (ns : List Str) (hn : n = ns.length) (hb : ns.length + 1 < scanBound) (hval : ∀ i v, Pv i v → ∃ k t, ns[i]? = some k ∧ v = .str k t) :
    ∀ (k i : Nat) (s : Shared), n - i = k → i ≤ n → St i s → (∃ c, c ≤ i ∧ SetR w s.heap S (fun j => decide (j ∈ ns.take i)) c) →
      (∀ s' c, Moved (S :: wr) G s s' → c ≤ n → SetR w s'.heap S (fun j => decide (j ∈ ns)) c → R (.ok (.ret .none)) s') →
      codeAny (model P w) A (.builtin "set.update.loop" ⟨[.ref S, .ref I], []⟩) R s := by
  have hSw : S ∉ wr := fun h => hSf (W.sub _ h)
  have hsub : ∀ b ∈ wr, b ∈ S :: wr := fun b hb => List.mem_cons_of_mem _ hb
  intro k
  induction k with
  | zero =>
    intro i s hk' hi hst ⟨c, hc, hS⟩ hR
    have hin : i = n := by omega
    subst hin
    refine codeAny_builtin F.entry_set_update_loop ?_
    rw [Around.under_plainId F.plain_set_update_loop _]
    show wpAny _ A.in1 (pyNext (.ref I) >>= _) _ _ s
    refine wpAny_bind (W.done s _ _ hst fun s' hm => ?_)
    show wpAny _ A.in1 (ret Value.none) _ _ s'
    have e : ns.take i = ns := List.take_of_length_le (by omega)
    rw [e] at hS
    exact wpAny_pure (hR s' c (hm.mono hsub) hc (hS.at fun o e => hm.heap S o hSw e))
  | succ k ih =>
    intro i s hk' hi hst ⟨c, hc, hS⟩ hR
    have hlt : i < n := by omega
    refine codeAny_builtin F.entry_set_update_loop ?_
    rw [Around.under_plainId F.plain_set_update_loop _]
    show wpAny _ A.in1 (pyNext (.ref I) >>= _) _ _ s
    refine wpAny_bind (W.item i s _ _ hlt hst fun v s' hP hst' hm => ?_)
    obtain ⟨z, t, hz, rfl⟩ := hval i v hP
    have hS' : SetR w s'.heap S (fun j => decide (j ∈ ns.take i)) c := hS.at fun o e => hm.heap S o hSw e
    show wpAny _ A.in1 (holding [Value.str z t] (setAdd S (.str z t)) >>= _) _ _ s'
    refine wpAny_bind (wpAny_holding ?_)
    unfold setAdd
    refine wpAny_holding ?_
    refine wpAny_bind ((strKind P w).pyHash (k := z) (strKind_is _ _ _ _) ?_)
    refine setR_add_hashed (s := { s' with toks := s'.toks + 1 }) hS' (by omega) fun h' hsb hS2 => ?_
    have hS3 : SetR w h' S (fun j => decide (j ∈ ns.take (i + 1))) (if decide (z ∈ ns.take i) = true then c else c + 1) := hS2.congr fun j => by
      rw [List.take_add_one, hz]
      simp [List.mem_append]
    have hc3 : (if decide (z ∈ ns.take i) = true then c else c + 1) ≤ i + 1 := by
      split <;> omega
    refine wpAny_pure ⟨plainId_quiet F.plain_set_update_loop _, ih (i + 1) _ (by omega) hlt (W.frame _ s' _ _ hst' (Nat.le_succ _) fun b hb o e => ?_) ⟨_, hc3, hS3⟩ fun s'' c2 hm'' hc'' hS'' => ?_⟩
    · rw [hsb.2 b (fun h : b = S => hSf (by rw [← h]; exact hb))]; exact e
    · refine hR s'' c2 (Moved.trans W.gtrans ((hm.mono hsub).then_heap (Nat.le_succ _) fun b o hb e => ?_) hm'') hc'' hS''
      rw [hsb.2 b (fun h : b = S => hb (by rw [h]; exact List.mem_cons_self))]; exact e
set_option maxHeartbeats 8000000 in
theorem call_set_tup {l : Addr} {items : Array Value} (ns : List Str) {Q : Value → Shared → Prop} (hh : A.handled = none) (hl : s.heap.IsTuple l items) (hit : StrsAre items.toList ns) (hb : ns.length + 1 < scanBound)
    (h : ∀ (h' : Heap) (tk c : Nat), SetR w h' s.heap.objs.size (fun j => decide (j ∈ ns)) c → c ≤ ns.length → (∀ b o, s.heap.get? b = some o → h'.get? b = some o) → Q (.ref s.heap.objs.size) { s with heap := h', toks := tk }) :
    wpAny (model P w) A (call (.type "set") [.ref l]) Q E s := by
  have hisz : items.size = ns.length := by
    have q := StrsAre.len_eq hit
    rw [Array.length_toList] at q
    exact q
  obtain ⟨c, tl, hmro⟩ := F.called_set.mro
  have hmade := F.called_set.made
  have hsub := F.called_set.sub
  refine wpAny_call (codeAny_of_tree ?_)
  show wpAny _ _ (callAny (.type "set") _) _ _ _
  refine wpAny_pure ⟨Code.quiet_builtin _ (by decide +kernel), codeAny_builtin F.entry_type_call ?_⟩
  rw [Around.under_plain (weight_type_call_type "set" [.ref l] []) rfl]
  have h1 := F.called_set.notType
  have h2 := F.called_set.canCreate
  have hct := F.typeCall_set_1 (.ref l)
  repeat (any_goals (first | assumption | wp_step))
  refine codeAny_mono (code_set_led1 (.ref l) (E := E) (Q₁ := fun obj s₁ => obj = .ref s.heap.objs.size ∧ s₁ = { s with heap := s.heap.push { cls := .type "set", dict := none, data := .set #[] 0 (.fresh 0 0 (!w.params.followText "set-order")) } }) ⟨rfl, rfl⟩) fun r s₁ hr => ?_
  cases r with
  | error e => exact hr
  | ok fl =>
    cases fl with
    | ret obj =>
      obtain ⟨rfl, rfl⟩ := hr
      have hS : (s.heap.push { cls := .type "set", dict := none, data := .set #[] 0 (.fresh 0 0 (!w.params.followText "set-order")) }).get? s.heap.objs.size = some { cls := .type "set", dict := none, data := .set #[] 0 (.fresh 0 0 (!w.params.followText "set-order")) } := Heap.get?_push_size _ rfl
      have hT : Shared.TypeIs { s with heap := s.heap.push { cls := .type "set", dict := none, data := .set #[] 0 (.fresh 0 0 (!w.params.followText "set-order")) } } (.ref s.heap.objs.size) "set" := ⟨_, hS, rfl⟩
      have hli := F.called_set.init.lookup
      have hbi := F.called_set.init.bind (.ref s.heap.objs.size)
      repeat (any_goals (first | assumption | wp_step))
      refine codeAny_mono (codeAny_call_builtin (R := wants (fun r s₂ => r = .none ∧ ∃ h' tk c, s₂ = { s with heap := h', toks := tk } ∧ SetR w h' s.heap.objs.size (fun j => decide (j ∈ ns)) c ∧ c ≤ ns.length ∧
          (∀ b o, s.heap.get? b = some o → h'.get? b = some o)) E) F.called_set.init.plain F.entry_set_init (check_set_init_1 hT ?_)) fun r₂ s₂ hr₂ => ?_
      · obtain ⟨ol, hol, hcl, nl, hdl⟩ := hl
        obtain ⟨ocls, odict, odata, oslots⟩ := ol
        simp only at hcl hdl
        subst hcl; subst hdl
        have hol' : (s.heap.push { cls := .type "set", dict := none, data := .set #[] 0 (.fresh 0 0 (!w.params.followText "set-order")) }).get? l = some { cls := .type "tuple", dict := odict, data := .seq items nl, slots := oslots } := Heap.get?_push_of_some _ hol
        have hsls := F.sub_tuple_set
        have hslf := F.sub_tuple_frozenset
        have hne : (Value.type "tuple" == Value.type "dict") = false := by decide
        have hl1 : (s.heap.push { cls := .type "set", dict := none, data := .set #[] 0 (.fresh 0 0 (!w.params.followText "set-order")) }).IsTuple l items := ⟨_, hol', rfl, nl, rfl⟩
        unfold Builtin.«set.__init__» noKeywords Builtin.Frozenset.updateFrom
        generalize hPI : pyIter = PI
        wp_walk
        subst hPI
        refine wpAny_pyIter_tuple hl1 ?_
        refine wpAny_bind (wpAny_runValue ?_)
        have hlS : l < s.heap.objs.size := Heap.lt_size hol
        have hh3 : A.in1.in1.in1.handled = none := by simp [hh]
        have hz1 : (s.heap.push { cls := .type "set", dict := none, data := .set #[] 0 (.fresh 0 0 (!w.params.followText "set-order")) }).objs.size = s.heap.objs.size + 1 := Heap.size_push ..
        have hneI : l ≠ (s.heap.push { cls := .type "set", dict := none, data := .set #[] 0 (.fresh 0 0 (!w.params.followText "set-order")) }).objs.size := by
          rw [Heap.size_push]; exact Nat.ne_of_lt (Nat.lt_succ_of_lt hlS)
        have hSf : s.heap.objs.size ∉ [(s.heap.push { cls := .type "set", dict := none, data := .set #[] 0 (.fresh 0 0 (!w.params.followText "set-order")) }).objs.size, l] := by
          rw [Heap.size_push]; simp only [List.mem_cons, List.mem_singleton, List.not_mem_nil, or_false, not_or]
          exact ⟨Nat.ne_of_lt (Nat.lt_succ_self _), Nat.ne_of_gt hlS⟩
        have hval : ∀ (i : Nat) (v : Value), items[i]? = some v → ∃ k t, ns[i]? = some k ∧ v = .str k t := fun i v hv => by
          have hi : i < ns.length := by rw [← hisz]; exact (Array.getElem?_eq_some_iff.mp hv).1
          obtain ⟨t, e⟩ := SS.strs_at hit i v (by rw [Array.getElem?_toList]; exact hv)
          refine ⟨ns[i], t, List.getElem?_eq_getElem hi, ?_⟩
          rw [e, List.getD_eq_getElem?_getD, List.getElem?_eq_getElem hi] <;> rfl
        refine set_update_strs ((Walks.tuple hh3 _ l hneI items).toS) s.heap.objs.size
          hSf ns hisz hb hval (items.size - 0) 0 _ (by omega) (Nat.zero_le _)
          ⟨⟨_, Heap.get?_push_size _ rfl, rfl, rfl⟩, (hl1.push _)⟩ ?hS0 ?hR
        case hS0 =>
          have hget : ((s.heap.push { cls := .type "set", dict := none, data := .set #[] 0 (.fresh 0 0 (!w.params.followText "set-order")) }).push { cls := .type "tuple_iterator", data := .fields #[.ref l, .int 0 0] }).get? s.heap.objs.size
              = some { cls := .type "set", dict := none, data := .set #[] 0 (.fresh 0 0 (!w.params.followText "set-order")) } := Heap.get?_push_of_some _ hS
          exact ⟨0, Nat.le_refl 0, setR_new_at hget⟩
        case hR =>
          intro s' c' hm hc' hS'
          obtain ⟨h', g2, d', tk', os'⟩ := s'
          have eg : g2 = s.gens := hm.gens
          have ed : d' = s.drawn := hm.drawn
          have eo : os' = s.os := hm.os
          subst eg; subst ed; subst eo
          show wpAny _ _ _ _ _ _
          refine wpAny_pure ?_
          show wpAny _ _ (ret Value.none) _ _ _
          rw [hisz] at hc'
          refine wpAny_pure ⟨rfl, h', tk', c', rfl, hS', hc', fun b o e => ?_⟩
          have hb0 : b < s.heap.objs.size := Heap.lt_size e
          have hb1 : b ≠ s.heap.objs.size := Nat.ne_of_lt hb0
          have hb2 : b ≠ (s.heap.push { cls := .type "set", dict := none, data := .set #[] 0 (.fresh 0 0 (!w.params.followText "set-order")) }).objs.size := by
            rw [Heap.size_push]; exact Nat.ne_of_lt (Nat.lt_succ_of_lt hb0)
          exact hm.heap b o (by simp only [List.mem_cons, List.mem_singleton, List.not_mem_nil, or_false, not_or]; exact ⟨hb1, hb2⟩) (Heap.get?_push_of_some _ (Heap.get?_push_of_some _ e))
      · cases r₂ with
        | error e => exact hr₂
        | ok fl₂ =>
          cases fl₂ with
          | ret r =>
            obtain ⟨rfl, h', tk, c', rfl, hS', hc', hk'⟩ := hr₂
            repeat (any_goals (first | assumption | wp_step))
            exact h _ _ _ hS' hc' hk'
          | _ => exact hr₂.elim
    | _ => exact hr.elim
set_option maxHeartbeats 8000000 in
theorem call_set_lst {l : Addr} {items : Array Value} (ns : List Str) {Q : Value → Shared → Prop} (hh : A.handled = none) (hl : s.heap.IsList l items) (hit : StrsAre items.toList ns) (hb : ns.length + 1 < scanBound)
    (h : ∀ (h' : Heap) (tk c : Nat), SetR w h' s.heap.objs.size (fun j => decide (j ∈ ns)) c → c ≤ ns.length → (∀ b o, s.heap.get? b = some o → h'.get? b = some o) → Q (.ref s.heap.objs.size) { s with heap := h', toks := tk }) :
    wpAny (model P w) A (call (.type "set") [.ref l]) Q E s := by
  have hisz : items.size = ns.length := by
    have q := StrsAre.len_eq hit
    rw [Array.length_toList] at q
    exact q
  obtain ⟨c, tl, hmro⟩ := F.called_set.mro
  have hmade := F.called_set.made
  have hsub := F.called_set.sub
  refine wpAny_call (codeAny_of_tree ?_)
  show wpAny _ _ (callAny (.type "set") _) _ _ _
  refine wpAny_pure ⟨Code.quiet_builtin _ (by decide +kernel), codeAny_builtin F.entry_type_call ?_⟩
  rw [Around.under_plain (weight_type_call_type "set" [.ref l] []) rfl]
  have h1 := F.called_set.notType
  have h2 := F.called_set.canCreate
  have hct := F.typeCall_set_1 (.ref l)
  repeat (any_goals (first | assumption | wp_step))
  refine codeAny_mono (code_set_led1 (.ref l) (E := E) (Q₁ := fun obj s₁ => obj = .ref s.heap.objs.size ∧ s₁ = { s with heap := s.heap.push { cls := .type "set", dict := none, data := .set #[] 0 (.fresh 0 0 (!w.params.followText "set-order")) } }) ⟨rfl, rfl⟩) fun r s₁ hr => ?_
  cases r with
  | error e => exact hr
  | ok fl =>
    cases fl with
    | ret obj =>
      obtain ⟨rfl, rfl⟩ := hr
      have hS : (s.heap.push { cls := .type "set", dict := none, data := .set #[] 0 (.fresh 0 0 (!w.params.followText "set-order")) }).get? s.heap.objs.size = some { cls := .type "set", dict := none, data := .set #[] 0 (.fresh 0 0 (!w.params.followText "set-order")) } := Heap.get?_push_size _ rfl
      have hT : Shared.TypeIs { s with heap := s.heap.push { cls := .type "set", dict := none, data := .set #[] 0 (.fresh 0 0 (!w.params.followText "set-order")) } } (.ref s.heap.objs.size) "set" := ⟨_, hS, rfl⟩
      have hli := F.called_set.init.lookup
      have hbi := F.called_set.init.bind (.ref s.heap.objs.size)
      repeat (any_goals (first | assumption | wp_step))
      refine codeAny_mono (codeAny_call_builtin (R := wants (fun r s₂ => r = .none ∧ ∃ h' tk c, s₂ = { s with heap := h', toks := tk } ∧ SetR w h' s.heap.objs.size (fun j => decide (j ∈ ns)) c ∧ c ≤ ns.length ∧
          (∀ b o, s.heap.get? b = some o → h'.get? b = some o)) E) F.called_set.init.plain F.entry_set_init (check_set_init_1 hT ?_)) fun r₂ s₂ hr₂ => ?_
      · obtain ⟨ol, hol, hcl, nl, hdl⟩ := hl
        obtain ⟨ocls, odict, odata, oslots⟩ := ol
        simp only at hcl hdl
        subst hcl; subst hdl
        have hol' : (s.heap.push { cls := .type "set", dict := none, data := .set #[] 0 (.fresh 0 0 (!w.params.followText "set-order")) }).get? l = some { cls := .type "list", dict := odict, data := .seq items nl, slots := oslots } := Heap.get?_push_of_some _ hol
        have hsls := F.sub_list_set
        have hslf := F.sub_list_frozenset
        have hne : (Value.type "list" == Value.type "dict") = false := by decide
        have hl1 : (s.heap.push { cls := .type "set", dict := none, data := .set #[] 0 (.fresh 0 0 (!w.params.followText "set-order")) }).IsList l items := ⟨_, hol', rfl, nl, rfl⟩
        unfold Builtin.«set.__init__» noKeywords Builtin.Frozenset.updateFrom
        generalize hPI : pyIter = PI
        wp_walk
        subst hPI
        refine wpAny_pyIter_list hl1 ?_
        refine wpAny_bind (wpAny_runValue ?_)
        have hlS : l < s.heap.objs.size := Heap.lt_size hol
        have hh3 : A.in1.in1.in1.handled = none := by simp [hh]
        have hz1 : (s.heap.push { cls := .type "set", dict := none, data := .set #[] 0 (.fresh 0 0 (!w.params.followText "set-order")) }).objs.size = s.heap.objs.size + 1 := Heap.size_push ..
        have hneI : l ≠ (s.heap.push { cls := .type "set", dict := none, data := .set #[] 0 (.fresh 0 0 (!w.params.followText "set-order")) }).objs.size := by
          rw [Heap.size_push]; exact Nat.ne_of_lt (Nat.lt_succ_of_lt hlS)
        have hSf : s.heap.objs.size ∉ [(s.heap.push { cls := .type "set", dict := none, data := .set #[] 0 (.fresh 0 0 (!w.params.followText "set-order")) }).objs.size, l] := by
          rw [Heap.size_push]; simp only [List.mem_cons, List.mem_singleton, List.not_mem_nil, or_false, not_or]
          exact ⟨Nat.ne_of_lt (Nat.lt_succ_self _), Nat.ne_of_gt hlS⟩
        have hval : ∀ (i : Nat) (v : Value), items[i]? = some v → ∃ k t, ns[i]? = some k ∧ v = .str k t := fun i v hv => by
          have hi : i < ns.length := by rw [← hisz]; exact (Array.getElem?_eq_some_iff.mp hv).1
          obtain ⟨t, e⟩ := SS.strs_at hit i v (by rw [Array.getElem?_toList]; exact hv)
          refine ⟨ns[i], t, List.getElem?_eq_getElem hi, ?_⟩
          rw [e, List.getD_eq_getElem?_getD, List.getElem?_eq_getElem hi] <;> rfl
        refine set_update_strs ((Walks.list hh3 _ l hneI items).toS) s.heap.objs.size
          hSf ns hisz hb hval (items.size - 0) 0 _ (by omega) (Nat.zero_le _)
          ⟨⟨_, Heap.get?_push_size _ rfl, rfl, rfl⟩, (hl1.push _)⟩ ?hS0 ?hR
        case hS0 =>
          have hget : ((s.heap.push { cls := .type "set", dict := none, data := .set #[] 0 (.fresh 0 0 (!w.params.followText "set-order")) }).push { cls := .type "list_iterator", data := .fields #[.ref l, .int 0 0] }).get? s.heap.objs.size
              = some { cls := .type "set", dict := none, data := .set #[] 0 (.fresh 0 0 (!w.params.followText "set-order")) } := Heap.get?_push_of_some _ hS
          exact ⟨0, Nat.le_refl 0, setR_new_at hget⟩
        case hR =>
          intro s' c' hm hc' hS'
          obtain ⟨h', g2, d', tk', os'⟩ := s'
          have eg : g2 = s.gens := hm.gens
          have ed : d' = s.drawn := hm.drawn
          have eo : os' = s.os := hm.os
          subst eg; subst ed; subst eo
          show wpAny _ _ _ _ _ _
          refine wpAny_pure ?_
          show wpAny _ _ (ret Value.none) _ _ _
          rw [hisz] at hc'
          refine wpAny_pure ⟨rfl, h', tk', c', rfl, hS', hc', fun b o e => ?_⟩
          have hb0 : b < s.heap.objs.size := Heap.lt_size e
          have hb1 : b ≠ s.heap.objs.size := Nat.ne_of_lt hb0
          have hb2 : b ≠ (s.heap.push { cls := .type "set", dict := none, data := .set #[] 0 (.fresh 0 0 (!w.params.followText "set-order")) }).objs.size := by
            rw [Heap.size_push]; exact Nat.ne_of_lt (Nat.lt_succ_of_lt hb0)
          exact hm.heap b o (by simp only [List.mem_cons, List.mem_singleton, List.not_mem_nil, or_false, not_or]; exact ⟨hb1, hb2⟩) (Heap.get?_push_of_some _ (Heap.get?_push_of_some _ e))
      · cases r₂ with
        | error e => exact hr₂
        | ok fl₂ =>
          cases fl₂ with
          | ret r =>
            obtain ⟨rfl, h', tk, c', rfl, hS', hc', hk'⟩ := hr₂
            repeat (any_goals (first | assumption | wp_step))
            exact h _ _ _ hS' hc' hk'
          | _ => exact hr₂.elim
    | _ => exact hr.elim
def svOf : Value → Str
  | .str k _ => k
  | _ => Str.empty
theorem strs_of : ∀ (l : List Value), (∀ v ∈ l, ∃ k tk, v = Value.str k tk) → StrsAre l (l.map svOf)
  | [], _ => .nil
  | v :: r, h => by
    obtain ⟨k, tk, rfl⟩ := h v List.mem_cons_self
    exact .cons k tk (strs_of r fun x hx => h x (List.mem_cons_of_mem _ hx))
theorem sorted_set {S : Str → Bool} {n : Nat} {Q : Value → Shared → Prop} (R : SetR w s.heap a S n) (hh : A.handled = none) (h64 : n < 64)
    (hQ : ∀ s' p (out : Array Value) (c : Nat) (ns : List Str), (∀ b o, s.heap.get? b = some o → s'.heap.get? b = some o) → s'.gens = s.gens → s'.os = s.os → s.heap.objs.size ≤ p →
      s'.heap.get? p = some (seqObj "list" out c) → StrsAre out.toList ns → sortedS ns = true → ns.Nodup → (∀ k, k ∈ ns ↔ S k = true) → ns.length = n → Q (.ref p) s') :
    wpAny (model P w) A (call (.builtin "sorted") [.ref a]) Q E s := by
  obtain ⟨o, es, ep, t, ho, hex, hd, g, nd, hm, hb, hf, hn, hr, hl⟩ := R
  refine Calls.call_function_entry kind_sorted plain_sorted entry_sorted (args_sorted1 _) ?_
  unfold Builtin.«sorted»
  refine wpAny_bind (m := checkCount "sorted" 1 1 _) (wpAny_pure ?_)
  refine wpAny_bind (collect_set (A := A.in1) hh ⟨o, ho, hex.1, hd⟩ hf hb hr hl fun s1 vs k1 hz g1 o1 pm => ?_)
  have hvl : vs.length = n := by rw [pm.length_eq, List.length_map, Array.length_toList]; exact hn
  have hI : StrsAre vs (vs.map svOf) := strs_of vs fun v hv => by
    obtain ⟨e, he, q⟩ := List.mem_map.mp (pm.mem_iff.mp hv)
    obtain ⟨k, tk, h1, _⟩ := g e he
    exact ⟨k, tk, by rw [← q]; exact h1⟩
  have pk : (vs.map svOf).Perm (es.toList.map keyOf) := by
    have q := pm.map svOf
    rw [List.map_map] at q
    exact q
  refine wpAny_bind (wpAny_newList ?_ (by rw [hvl, sizeLine_eq]; omega))
  have hoL : (s1.heap.push (seqObj "list" vs.toArray 0)).get? s1.heap.objs.size = some (seqObj "list" vs.toArray 0) := Heap.get?_push_size _ rfl
  refine wpAny_bind (wpAny_holding (wpAny_call_entry slot_list_sort ⟨_, hoL, rfl⟩ entry_list_sort (list_sort_treeK strKind_oneLt hoL hI.keysOf (fun v₁ v₂ rest e => keyKind_strs (by rw [← e]; exact hI)) (by rw [hvl]; exact h64) fun st' hp hs => ⟨_, rfl, ?_⟩) (args_list_sort _)))
  obtain ⟨ys, a1, a2, a3⟩ := sorted_out_str hI hp hs
  obtain ⟨c, hc⟩ := sortedHeap_at (vs := vs) (out := (arrOf st').map (·.2)) hoL
  have pn : ys.Perm (es.toList.map keyOf) := a2.trans pk
  refine wpAny_pure ⟨_, rfl, hQ _ s1.heap.objs.size _ c ys (fun b u e => ?_) g1 o1 hz hc a1 a3 (pn.nodup_iff.mpr nd) (fun k => by rw [pn.mem_iff, ← hm k]) ?_⟩
  · have q := k1 b u e
    have hlt := Heap.lt_size q
    show (sortedHeap (s1.heap.push (seqObj "list" vs.toArray 0)) s1.heap.objs.size vs _).get? b = some u
    rw [sortedHeap_old (Nat.ne_of_lt hlt) (by rw [size_push']; exact Nat.lt_succ_of_lt hlt)]
    exact Heap.get?_push_of_some _ q
  · rw [pn.length_eq, List.length_map, Array.length_toList]; exact hn
end
end MPS
namespace MP
open PySem PySem.Spec PyProof.Rows L2
section
variable {X : Cx}
theorem boot_sorted' : bootBuiltins "sorted" = some (.builtin "sorted") := by decide +kernel
/-- sorted(set(xs)), texts -/
def tSortSet (K : PySem.W.Frag) (ta : TE) : TE := fun σ H Q => ta σ H fun x H1 => ∃ l, ∃ xs : List Str, x = .ref l ∧ (SqL K H1 l (xs.map V.str) ∨ SqT K H1 l (xs.map V.str)) ∧ xs.length < 63 ∧
  ∀ (ys : List Str) (p : Addr), sortedS ys = true → ys.Nodup → (∀ z, z ∈ ys ↔ z ∈ xs) → H1 p = none → Q (.ref p) (upd H1 p (.lst (ys.map V.str)))
theorem pe_sortSet {a : Expr} {ta : TE} {p p2 q pos : Pos} (hc : X.calm = true) (hg : Gl X "sorted") (hm : X.mg "sorted" = none) (hg2 : Gl X "set") (hm2 : X.mg "set" = none) (ha : PE X a ta)
    (na : starEach [a] X.env = (false, eval a X.env) :: starEach [] X.env := by rfl) : PE X (.Call (.Name "sorted" p) [.Call (.Name "set" p2) [a] [] q] [] pos) (tSortSet X.K ta) := by
  refine ⟨fun pins s σ H Q I h => ?_⟩
  refine Call_ (ld_blt I hg hm boot_sorted' ?_)
  refine PyProof.Rows.callWith_builtin1 (PyProof.Rows.args_cons ?_ rfl) rfl rfl
  refine Call_ (ld_blt I hg2 hm2 boot_set ?_)
  refine PyProof.Rows.callWith_type1 (PyProof.Rows.args_cons (thn (ha.run pins s σ H _ I h) fun v s1 ⟨x, H1, I1, r1, q1⟩ => PyProof.Rows.args_nil ?_) na) na rfl
  obtain ⟨l, xs, rfl, hq, h1, q1⟩ := q1
  cases r1
  have fin : ∀ (h' : Heap) (tk c : Nat), MPS.SetR X.w h' s1.heap.objs.size (fun j => decide (j ∈ xs)) c → c ≤ xs.length →
      (∀ b o, s1.heap.get? b = some o → h'.get? b = some o) →
      wpAny (model X.prog X.w) X.A (spliced (backTo pos (starEach [] X.env))) (fun vs s₂ => wpAny (model X.prog X.w) X.A (call (.builtin "sorted") (Value.ref s1.heap.objs.size :: vs)) (EP X pins σ Q) X.xe s₂) X.xe { s1 with heap := h', toks := tk } := fun h' tk c R hc' hk => by
    refine PyProof.Rows.args_nil ?_
    have I2 : Inv X pins σ H1 { s1 with heap := h', toks := tk } := I1.kept hk
    refine MPS.sorted_set R (I2.ok.hd hc) (by omega) fun s' p out c2 ns k g o hp hg hi hs hnd hmem hl => ?_
    have hlen : (ns.map V.str).length ≤ sizeLine := by rw [List.length_map, hl, sizeLine_eq]; omega
    have hn : H1 p = none := I2.hok.fresh hp
    have J : Inv X pins σ (upd H1 p (.lst (ns.map V.str))) { s1 with heap := s'.heap, gens := s'.gens, drawn := s'.drawn, toks := s'.toks } :=
      Inv.call (s := { s1 with heap := h', toks := tk }) I2 (ch := []) (Un.laid k hp hn) (I2.hok.laid k hp ⟨hlen, out.toList, c2, vals_of_strs hi, hg⟩) (by rw [g]; exact I2.bare) (fun _ z => nomatch z)
    have e : s' = { s1 with heap := s'.heap, gens := s'.gens, drawn := s'.drawn, toks := s'.toks } := by
      cases s'
      cases s1
      cases o
      rfl
    rw [e]
    exact ⟨.ref p, _, J, rfl, q1 ns p hs hnd (fun z => by rw [hmem]; simp) hn⟩
  rcases hq with hq | hq
  · obtain ⟨its, r, pl, hz⟩ := I1.list hq
    exact MPS.call_set_lst xs (I1.ok.hd hc) pl.isList (by simpa using strsAre_of r) (by unfold scanBound; omega) fun h' tk c R hc' hk => fin h' tk c R hc' hk
  · obtain ⟨its, r, pl, hz⟩ := I1.tuple hq
    exact MPS.call_set_tup xs (I1.ok.hd hc) pl (by simpa using strsAre_of r) (by unfold scanBound; omega) fun h' tk c R hc' hk => fin h' tk c R hc' hk
/-- len(set(xs)), texts -/
def tLenSetT (K : PySem.W.Frag) (ta : TE) : TE := fun σ H Q => ta σ H fun x H1 => ∃ l, ∃ xs : List Str, x = .ref l ∧ (SqL K H1 l (xs.map V.str) ∨ SqT K H1 l (xs.map V.str)) ∧ xs.length < 63 ∧
  ∀ (ys : List Str), ys.Nodup → (∀ z, z ∈ ys ↔ z ∈ xs) → Q (.int (ys.length : Nat)) H1
theorem pe_lenSetT {a : Expr} {ta : TE} {p p2 q pos : Pos} (hc : X.calm = true) (hg : Gl X "len") (hm : X.mg "len" = none) (hg2 : Gl X "set") (hm2 : X.mg "set" = none) (ha : PE X a ta)
    (na : starEach [a] X.env = (false, eval a X.env) :: starEach [] X.env := by rfl) : PE X (.Call (.Name "len" p) [.Call (.Name "set" p2) [a] [] q] [] pos) (tLenSetT X.K ta) := by
  refine ⟨fun pins s σ H Q I h => ?_⟩
  refine Call_ (ld_blt I hg hm boot_len ?_)
  refine PyProof.Rows.callWith_builtin1 (PyProof.Rows.args_cons ?_ rfl) rfl rfl
  refine Call_ (ld_blt I hg2 hm2 boot_set ?_)
  refine PyProof.Rows.callWith_type1 (PyProof.Rows.args_cons (thn (ha.run pins s σ H _ I h) fun v s1 ⟨x, H1, I1, r1, q1⟩ => PyProof.Rows.args_nil ?_) na) na rfl
  obtain ⟨l, xs, rfl, hq, h1, q1⟩ := q1
  cases r1
  have fin : ∀ (h' : Heap) (tk c : Nat), MPS.SetR X.w h' s1.heap.objs.size (fun j => decide (j ∈ xs)) c → c ≤ xs.length →
      (∀ b o, s1.heap.get? b = some o → h'.get? b = some o) →
      wpAny (model X.prog X.w) X.A (spliced (backTo pos (starEach [] X.env))) (fun vs s₂ => wpAny (model X.prog X.w) X.A (call (.builtin "len") (Value.ref s1.heap.objs.size :: vs)) (EP X pins σ Q) X.xe s₂) X.xe { s1 with heap := h', toks := tk } := fun h' tk c R hc' hk => by
    refine PyProof.Rows.args_nil ?_
    have I2 : Inv X pins σ H1 { s1 with heap := h', toks := tk } := I1.kept hk
    obtain ⟨o, es, ep, t, ho, hex, hd, g, nd, hmm, hb, hf, hn, _⟩ := R
    have hl : (es.toList.map MPS.keyOf).length = c := by rw [List.length_map, Array.length_toList, hn]
    have q2 := q1 (es.toList.map MPS.keyOf) nd (fun z => by rw [← hmm]; simp)
    rw [hl] at q2
    refine call_len_set ho hex hd hf (by rw [hn] <;> omega) ⟨.int c, H1, I2.tok _, ⟨_, by rw [hn]⟩, q2⟩
  rcases hq with hq | hq
  · obtain ⟨its, r, pl, hz⟩ := I1.list hq
    exact MPS.call_set_lst xs (I1.ok.hd hc) pl.isList (by simpa using strsAre_of r) (by unfold scanBound; omega) fun h' tk c R hc' hk => fin h' tk c R hc' hk
  · obtain ⟨its, r, pl, hz⟩ := I1.tuple hq
    exact MPS.call_set_tup xs (I1.ok.hd hc) pl (by simpa using strsAre_of r) (by unfold scanBound; omega) fun h' tk c R hc' hk => fin h' tk c R hc' hk
end
section
variable {K : PySem.W.Frag} {CT : Cls} {H : Hp} {Q : VK} {v : V}
theorem strs_is {K : PySem.W.Frag} {H : Hp} {be : List Addr} : ∀ {zs : List Str} {vs : List V}, IsDs K H be (zs.map D.str) vs → vs = zs.map V.str
  | [], vs, h => by
    simp only [List.map_nil, IsDs] at h
    subst h; rfl
  | z :: r, vs, h => by
    simp only [List.map_cons, IsDs] at h
    obtain ⟨v, w, rfl, h1, h2⟩ := h
    simp only [IsD] at h1
    subst h1
    rw [strs_is h2]; rfl
theorem is_strs {K : PySem.W.Frag} {H : Hp} {be : List Addr} : ∀ zs : List Str, IsDs K H be (zs.map D.str) (zs.map V.str)
  | [] => .nil
  | z :: r => .cons (by simp only [IsD]) (is_strs r)
theorem sortset_D (h : R1D K CT .sortset v H Q) : ∃ l, ∃ xs : List Str, v = .ref l ∧ (SqL K H l (xs.map V.str) ∨ SqT K H l (xs.map V.str)) ∧ xs.length < 63 ∧
    ∀ (ys : List Str) (p : Addr), sortedS ys = true → ys.Nodup → (∀ z, z ∈ ys ↔ z ∈ xs) → H p = none → Q (.ref p) (upd H p (.lst (ys.map V.str))) := by
  obtain ⟨be, mu, x, Qd, S, dx, h, kq⟩ := h
  simp only [w1] at h
  obtain ⟨a, vs, ds, rfl, hs, hi, zs, rfl, hl, h⟩ := seq_of S dx h
  have := strs_is hi
  subst this
  exact ⟨a, zs, rfl, hs, hl, fun ys p a1 a2 a3 hp => kq.lst S (is_strs ys) (h ys a1 a2 a3) hp⟩
theorem lenset_D (h : R1D K CT .lenset v H Q) : ∃ l, ∃ xs : List Str, v = .ref l ∧ (SqL K H l (xs.map V.str) ∨ SqT K H l (xs.map V.str)) ∧ xs.length < 63 ∧
    ∀ (ys : List Str), ys.Nodup → (∀ z, z ∈ ys ↔ z ∈ xs) → Q (.int (ys.length : Nat)) H := by
  obtain ⟨be, mu, x, Qd, S, dx, h, kq⟩ := h
  simp only [w1] at h
  obtain ⟨a, vs, ds, rfl, hs, hi, zs, rfl, hl, h⟩ := seq_of S dx h
  have := strs_is hi
  subst this
  exact ⟨a, zs, rfl, hs, hl, fun ys a2 a3 => kq.at_ S (by simp only [IsD]) (h ys a2 a3)⟩
end
end MP
namespace PySem.W
open PySem PySem.Spec PySem.Calls PyProof.Rows
section
variable {prog : Program} {w : World} {A : Around} {E : Value → Shared → Prop} {s : Shared} {K : Frag} {x D : Addr} {ox : Obj} {od : Option Obj}
theorem mpk_findObj {C : Addr} {name : Str} {a g : Value} (hc : (clsIn K C).isSome = true) (ha : findIn K (.ref C) name = some (some a)) (hg : specialIn K a "__get__" = some (some g)) (ht : takesIn K a = some true) : findObj K C od name = some (.bind g a) := by
  obtain ⟨cd, hc⟩ := Option.isSome_iff_exists.mp hc
  unfold findObj
  rw [hc, Option.bind_some, ha, Option.bind_some]
  cases od <;> simp [hg, ht]
theorem mpk_class {Q : Option Value → Shared → Prop} (hga : findIn K (.ref D) "__getattribute__" = some (some (.builtin "BaseException.__getattribute__"))) (hgt : findIn K (.ref D) "__getattr__" = some none) (hsub : subIn K (.ref D) (.type "BaseException") = some true)
    (hdct : hasDictIn K D = true) (ha : findIn K (.ref D) "__class__" = some (some (.builtin "object.__class__")))
    (hn : specialIn K (.builtin "object.__class__") "__get__" = some (some (.builtin "getset_descriptor.__get__"))) (htk : takesIn K (.builtin "object.__class__") = some true) (hm : mroIn K D (.type "object") = some true)
    (X : K.In s.heap) (I : InstAt s.heap x ox D od) (h : Q (some (.ref D)) { s with toks := s.toks + 1 }) : wpAny (model prog w) A (getAttr? (.ref x) "__class__") Q E s := by
  have hf : findObj K D od "__class__" = some (.bind (.builtin "getset_descriptor.__get__") (.builtin "object.__class__")) := mpk_findObj (by obtain ⟨cd, hc, _⟩ := any_some hdct; rw [hc]; rfl) ha hn htk
  obtain ⟨hp, g, d, t, os⟩ := s
  have L0 := I.type (M := model prog w)
  have L1 := looks_findIn (M := model prog w) X hga
  have L2 := looks_findIn (M := model prog w) X hgt
  have L3 := looks_find (M := model prog w) X I hf
  have sub : Looks (model prog w) hp (isInstance (.ref x) (.type "BaseException")) true := L0.andThen (looks_subIn X hsub)
  have hx0 : (false && onTheHeap (Value.builtin "BaseException.__getattribute__")) = false := rfl
  have hx2 : (Value.builtin "BaseException.__getattribute__" == Value.builtin "object.__getattribute__") = false := by decide +kernel
  have hx1 : (onTheHeap (Value.ref D) && Value.builtin "BaseException.__getattribute__" == Value.builtin "object.__getattribute__") = false := by rw [hx2]; rfl
  unfold getAttr? getAttrBy? getAttrBy
  refine wpAny_bind (wpAny_mkText (wpAny_bind (wpAny_attempt (wpAny_holding (wpAny_bind (L0.at (wpAny_bind (L1.at ?_))))))))
  show wpAny _ _ (if (onTheHeap (Value.ref D) && Value.builtin "BaseException.__getattribute__" == Value.builtin "object.__getattribute__") = true then _ else _) _ _ _
  rw [hx1, if_neg Bool.false_ne_true]
  unfold getAttrByItsOwn hookBefore
  refine wpAny_bind ?_
  rw [if_pos (show onTheHeap (Value.ref D) = true from rfl)]
  refine L2.at ?_
  refine wpAny_bind (wpAny_attempt (wpAny_holding ?_))
  unfold callGetattribute
  rw [hx0, if_neg Bool.false_ne_true]
  unfold boundAndCalled
  rw [PySem.F.excAttr_ValueError.ga.bind (.ref x)]
  refine wpAny_bind (wpAny_pure ?_)
  show wpAny _ _ (call (.builtin "BaseException.__getattribute__") [.ref x, .str "__class__" t]) _ _ _
  refine wpAny_call (codeAny_call_builtin PySem.F.excAttr_ValueError.ga.plain PySem.F.entry_bexc_ga ?_)
  refine @check_slot (model prog w) _ _ ⟨hp, g, d, t + 1, os⟩ "BaseException.__getattribute__" "BaseException" "__getattribute__" (.ref x) [.str "__class__" t] [] _ (by decide +kernel) (by decide +kernel) sub (PySem.F.args_bexc_ga (.ref x) (.str "__class__" t)) ?_
  unfold Builtin.«object.__getattribute__»
  refine wpAny_bind (wpAny_of_eq (a := ((Value.ref x : Value), [Value.str "__class__" t])) (by first | rfl | (simp only [slotArgs]; rfl)) ?_)
  refine wpAny_bind (wpAny_pure (wpAny_bind (L0.at (wpAny_bind (L3.at ?_)))))
  show wpAny _ _ (holding [Value.builtin "object.__class__"] (call (.builtin "getset_descriptor.__get__") [.builtin "object.__class__", .ref x, .ref D]) >>= ret) _ _ _
  refine wpAny_bind (wpAny_holding (wpAny_call (class_get (s := ⟨hp, g, d, t + 1, os⟩) (ox := ox) (od := od) X I hm ?_)))
  refine wpAny_pure ?_
  show wpAny _ _ (handedOut (.ref D)) _ _ _
  rw [handedOut_of (v := .ref D) rfl]
  first
    | exact wpAny_pure (wpAny_pure h)
    | exact wpAny_pure h
    | exact wpAny_pure (wpAny_bind (wpAny_pure (wpAny_pure h)))
theorem mpk_kitx (hga : findIn K (.ref D) "__getattribute__" = some (some (.builtin "BaseException.__getattribute__"))) (hgt : findIn K (.ref D) "__getattr__" = some none) (hsub : subIn K (.ref D) (.type "BaseException") = some true) (hdct : hasDictIn K D = true) (ha : findIn K (.ref D) "__class__" = some (some (.builtin "object.__class__")))
    (hn : specialIn K (.builtin "object.__class__") "__get__" = some (some (.builtin "getset_descriptor.__get__"))) (htk : takesIn K (.builtin "object.__class__") = some true) (hm : mroIn K D (.type "object") = some true) :
    KitX K (.ref x) (.ref D) (fun h => InstAt h x ox D od) where
  ty := fun _ _ _ I => I.type
  it := fun _ _ X _ => by
    obtain ⟨cdD, hcD, _⟩ := any_some hdct
    unfold clsIn at hcD
    split at hcD
    · rename_i c' d' cd' sl' ho
      intro A' Q' E' s' k q
      unfold isType loadHead
      exact wpAny_bind (wpAny_loadPart (k _ _ (X _ _ ho)) (wpAny_pure q))
    · cases hcD
  ne := fun h tp dd its n sl X htp => by
    obtain ⟨cdD, hcD, _⟩ := any_some hdct
    refine Bool.eq_false_iff.mpr fun q => ?_
    have e : D = tp := Value.ref.inj (beq_iff_eq.mp q)
    subst e
    unfold clsIn at hcD
    split at hcD
    · rename_i c' d' cd' sl' ho
      have z := (X _ _ ho).symm.trans htp
      cases z
    · cases hcD
  ca := fun X I k => mpk_class hga hgt hsub hdct ha hn htk hm X I k
end
end PySem.W
namespace MPK
open PySem PySem.Spec PyProof.Rows L2
/-- what is asked of the class of a kept exception -/
structure KeptC (K : PySem.W.Frag) (C : Addr) : Prop where
  ga : PySem.W.findIn K (.ref C) "__getattribute__" = some (some (.builtin "BaseException.__getattribute__"))
  gt : PySem.W.findIn K (.ref C) "__getattr__" = some none
  sb : PySem.W.subIn K (.ref C) (.type "BaseException") = some true
  hd : PySem.W.hasDictIn K C = true
  cl : PySem.W.findIn K (.ref C) "__class__" = some (some (.builtin "object.__class__"))
  hn : PySem.W.specialIn K (.builtin "object.__class__") "__get__" = some (some (.builtin "getset_descriptor.__get__"))
  tk : PySem.W.takesIn K (.builtin "object.__class__") = some true
  mo : PySem.W.mroIn K C (.type "object") = some true
section
variable {X : Cx} {pins : List (Addr × Obj)} {σ : L2.St} {H : Hp} {s : Shared} {a C : Addr} {d : Option Addr}
/-- the exception's dict is told of -/
def DictOk (H : Hp) (d : Option Addr) : Prop := d = none ∨ ∃ dx fs, d = some dx ∧ H dx = some (.xd fs)
theorem inst_of (I : Inv X pins σ H s) (e : H a = some (exk a C d)) (hd : DictOk H d) : ∃ oe od, PySem.W.InstAt s.heap a oe C od := by
  obtain ⟨oe, vs, h1, h2, h3⟩ := exk_at I.hok e
  have nc : PySem.W.notCls oe = true := by unfold PySem.W.notCls; rw [h3] <;> rfl
  rcases hd with rfl | ⟨dx, fs, rfl, hx⟩
  · refine ⟨oe, none, h1, h2.1, nc, ?_⟩
    rw [h2.2]
    exact True.intro
  · have hx' : ObjOk X.prog X.w H s.heap dx (.xd fs) := I.hok dx _ hx
    obtain ⟨mA, hns, hr⟩ := hx'
    obtain ⟨od, ho, hl⟩ := lookIn_ns hns
    exact ⟨oe, some od, h1, h2.1, nc, by rw [h2.2]; exact ho⟩
/-- isinstance(x, c), x a kept exception -/
theorem call_isK (hC : KeptC X.K C) : CallR X (.builtin "isinstance") (fun xs H Q => ∃ (a : Addr) (d : Option Addr) (c : V) (cv : Value) (b : Bool), xs = [.ref a, c] ∧ H a = some (exk a C d) ∧ DictOk H d ∧ (∀ u, RelV c u → u = cv) ∧ PySem.W.kitOne X.K (.ref C) cv = some b ∧ Q (.bl b) H) := by
  intro pins s σ H xs us Q I r h
  obtain ⟨a, d, c, cv, b, rfl, ha, hd, hcv, e, q⟩ := h
  cases r with
  | cons rx rr =>
    cases rr with
    | cons rt rr =>
      cases rr
      cases rx
      have ec := hcv _ rt
      subst ec
      obtain ⟨oe, od, J⟩ := inst_of I ha hd
      exact PySem.W.kia_one (PySem.W.mpk_kitx hC.ga hC.gt hC.sb hC.hd hC.cl hC.hn hC.tk hC.mo) I.kIn J e (fun z => nomatch z) fun tk => ⟨.bl b, H, I.kept (t' := tk) fun _ _ z => z, rfl, q⟩
/-- isinstance(x, (c, ..)) -/
theorem call_isKT (hC : KeptC X.K C) : CallR X (.builtin "isinstance") (fun xs H Q => ∃ (a tp : Addr) (d : Option Addr) (cs : List V) (cvs : List Value) (b : Bool), xs = [.ref a, .ref tp] ∧ H a = some (exk a C d) ∧ DictOk H d ∧ H tp = some (.tup cs) ∧ (∀ us, Vals cs us → us = cvs) ∧ PySem.W.kitAny X.K (.ref C) cvs = some b ∧ Q (.bl b) H) := by
  intro pins s σ H xs us Q I r h
  obtain ⟨a, tp, d, cs, cvs, b, rfl, ha, hd, ht, hcv, e, q⟩ := h
  cases r with
  | cons rx rr =>
    cases rr with
    | cons rt rr =>
      cases rr
      cases rx
      cases rt
      obtain ⟨oe, od, J⟩ := inst_of I ha hd
      obtain ⟨_, its, rv, o, h1, h2, n, h3⟩ := (show ObjOk X.prog X.w H s.heap tp (.tup cs) from I.hok tp _ ht)
      have ei := hcv _ rv
      subst ei
      obtain ⟨oc, od2, dt, sl⟩ := o
      simp only at h2 h3
      subst h2 h3
      exact PySem.W.kia_tup (PySem.W.mpk_kitx hC.ga hC.gt hC.sb hC.hd hC.cl hC.hn hC.tk hC.mo) I.kIn J h1 e (fun z => nomatch z) fun tk => ⟨.bl b, H, I.tok tk, rfl, q⟩
end
end MPK
namespace MP
open PySem PySem.Spec PyProof.Rows L2
section
variable {P : Program} {w : World} {hp : Heap}
/-- it is read so; it is shown so -/
def Sh (P : Program) (w : World) (hp : Heap) (u : Value) (p : PyData) : Prop :=
  ∃ l, Reads hp u p l ∧ (p.showable = true → p.shown.length ≤ sizeLine → ∃ m, ReadAtMost hp p.depth m ∧ ReprK P w m hp p.depth u p.shown)
def Shs (P : Program) (w : World) (hp : Heap) (us : List Value) (ps : List PyData) : Prop :=
  ∃ l, ReadsAll hp us ps l ∧ (PyData.showableAll ps = true → (∀ t ∈ PyData.shownAll ps, t.length ≤ sizeLine) → ∃ m, ReadAtMost hp (PyData.depthAll ps) m ∧ ReprAllK P w m hp (PyData.depthAll ps) us (PyData.shownAll ps))
theorem sh_plain {u : Value} {p : PyData} {l : List Addr} (r : Reads hp u p l) (nd : p.hasDict = false) : Sh P w hp u p := ⟨l, r, fun a b => ReprK.of_reads r a (PyData.noDict_hsm nd) b⟩
theorem shs_nil : Shs P w hp [] [] := ⟨_, .nil, fun _ _ => ⟨[], fun _ z => (List.not_mem_nil z).elim, by simp only [PyData.shownAll]; exact .nil⟩⟩
theorem shs_cons {u : Value} {p : PyData} {us : List Value} {ps : List PyData} : Sh P w hp u p → Shs P w hp us ps → Shs P w hp (u :: us) (p :: ps)
  | ⟨l, r, f⟩, ⟨l2, r2, f2⟩ => ⟨_, .cons r r2, fun a b => by
    rw [PyData.showableAll, Bool.and_eq_true] at a
    simp only [PyData.shownAll, List.mem_cons] at b
    obtain ⟨m, hm, k⟩ := f a.1 (b _ (.inl rfl))
    obtain ⟨m2, hm2, k2⟩ := f2 a.2 fun t ht => b t (.inr ht)
    have le1 : p.depth ≤ PyData.depthAll (p :: ps) := by simp only [PyData.depthAll]; exact Nat.le_max_left _ _
    have le2 : PyData.depthAll ps ≤ PyData.depthAll (p :: ps) := by simp only [PyData.depthAll]; exact Nat.le_max_right _ _
    refine ⟨m ++ m2, (hm.mono le1).append (hm2.mono le2), ?_⟩
    rw [PyData.shownAll]
    exact .cons ((k.more fun _ z => List.mem_append.mpr (.inl z)).level_le le1) (k2.more_le (fun _ z => List.mem_append.mpr (.inr z)) le2)⟩
theorem sh_list {a : Addr} {o : Obj} {vs : Array Value} {n : Nat} {ps : List PyData} (ho : hp.get? a = some o) (hc : o.cls = .type "list") (hd : o.data = .seq vs n) : Shs P w hp vs.toList ps → Sh P w hp (.ref a) (.list ps)
  | ⟨l, r, f⟩ => ⟨_, .list ho hc hd r, fun s z => by
    simp only [PyData.showable] at s
    simp only [PyData.shown] at z
    obtain ⟨m, hm, k⟩ := f s fun t ht => Nat.le_trans (listText_mem_le ht) z
    have rd : Reads hp (.ref a) (.list ps) _ := .list ho hc hd r
    have lt : PyData.depthAll ps < (PyData.list ps).depth := by simp only [PyData.depth]; omega
    refine ⟨a :: m, .cons rd (Nat.le_of_lt lt) hm, ?_⟩
    simp only [PyData.shown, PyData.depth]
    match vs, r, k, hd with
    | ⟨[]⟩, r, _, hd =>
      have : ps = [] := by cases r; rfl
      subst this
      simp only [PyData.shownAll, listText_nil]
      exact .listEmpty ho hc hd
    | ⟨x :: t⟩, r, k, hd => exact .list ho hc hd (not_mem_of_deeper rd lt hm) (by simpa using k.length_eq) fun i y e => k.item i y (by simpa using e)⟩
theorem sh_tup {a : Addr} {o : Obj} {vs : Array Value} {n : Nat} {ps : List PyData} (ho : hp.get? a = some o) (hc : o.cls = .type "tuple") (hd : o.data = .seq vs n) : Shs P w hp vs.toList ps → Sh P w hp (.ref a) (.tuple ps)
  | ⟨l, r, f⟩ => ⟨_, .tuple ho hc hd r, fun s z => by
    simp only [PyData.showable] at s
    simp only [PyData.shown] at z
    obtain ⟨m, hm, k⟩ := f s fun t ht => Nat.le_trans (tupleText_mem_le ht) z
    have rd : Reads hp (.ref a) (.tuple ps) _ := .tuple ho hc hd r
    have lt : PyData.depthAll ps < (PyData.tuple ps).depth := by simp only [PyData.depth]; omega
    refine ⟨a :: m, .cons rd (Nat.le_of_lt lt) hm, ?_⟩
    simp only [PyData.shown, PyData.depth]
    exact .tuple ho hc hd (not_mem_of_deeper rd lt hm) k⟩
/-- what a dict's parts show -/
theorem dict_parts {es : Array DictEntry} {kvs : List (PyData × PyData)} (hk : Shs P w hp (es.toList.map (·.key)) (kvs.map (·.1))) (hv : Shs P w hp (es.toList.map (·.val)) (kvs.map (·.2))) (s : PyData.showableKv kvs = true) (z : (dictText (PyData.shownKv kvs)).length ≤ sizeLine) :
    ∃ l1 l2 m, ReadsAll hp (es.toList.map (·.key)) (kvs.map (·.1)) l1 ∧ ReadsAll hp (es.toList.map (·.val)) (kvs.map (·.2)) l2 ∧ ReadAtMost hp (PyData.depthKv kvs) m ∧ ReprEntriesK P w m hp (PyData.depthKv kvs) es.toList (PyData.shownKv kvs) := by
  obtain ⟨l1, r1, f1⟩ := hk
  obtain ⟨l2, r2, f2⟩ := hv
  have sp := PyData.showableKv_split kvs s
  obtain ⟨m1, a1, k1⟩ := f1 sp.1 fun t ht => by
    obtain ⟨q, hq, le⟩ := PyData.shownKv_key_le kvs t ht
    exact Nat.le_trans (Nat.le_trans le (dictText_mem_le hq)) z
  obtain ⟨m2, a2, k2⟩ := f2 sp.2 fun t ht => by
    obtain ⟨q, hq, le⟩ := PyData.shownKv_val_le kvs t ht
    exact Nat.le_trans (Nat.le_trans le (dictText_mem_le hq)) z
  have d1 := PyData.depthAll_keys_le kvs
  have d2 := PyData.depthAll_vals_le kvs
  refine ⟨l1, l2, m1 ++ m2, r1, r2, (a1.mono d1).append (a2.mono d2), ?_⟩
  rw [PyData.shownKv_eq]
  exact .of_two _ _ _ (k1.more_le (fun _ y => List.mem_append.mpr (.inl y)) d1) (k2.more_le (fun _ y => List.mem_append.mpr (.inr y)) d2)
theorem sh_dict {a : Addr} {o : Obj} {es : Array DictEntry} {n : Nat} {kvs : List (PyData × PyData)} (ho : hp.get? a = some o) (hc : o.cls = .type "dict") (hd : o.data = .dict es n) (ns : (a == sysModules) = false)
    (hk : Shs P w hp (es.toList.map (·.key)) (kvs.map (·.1))) (hv : Shs P w hp (es.toList.map (·.val)) (kvs.map (·.2))) : Sh P w hp (.ref a) (.dict kvs) := by
  obtain ⟨l1, r1, _⟩ := id hk
  obtain ⟨l2, r2, _⟩ := id hv
  refine ⟨_, .dict ho hc hd r1 r2, fun s z => ?_⟩
  simp only [PyData.showable] at s
  simp only [PyData.shown] at z
  obtain ⟨_, _, m, _, _, hm, k⟩ := dict_parts hk hv s z
  have rd : Reads hp (.ref a) (.dict kvs) _ := .dict ho hc hd r1 r2
  have lt : PyData.depthKv kvs < (PyData.dict kvs).depth := by simp only [PyData.depth]; omega
  refine ⟨a :: m, .cons rd (Nat.le_of_lt lt) hm, ?_⟩
  simp only [PyData.shown, PyData.depth]
  exact .dict ho hc hd ns (not_mem_of_deeper rd lt hm) k
end
section
variable {X : Cx} {CT : Cls} {pins : List (Addr × Obj)} {σ : L2.St} {H : Hp} {s : Shared} {be : List Addr} {mu : Store}
theorem keys_sh {P : Program} {w : World} {hp : Heap} : ∀ {es : List DictEntry} {vs : List (Key × Value)}, PySem.Pairs (mixKind P w) es vs → Shs P w hp (es.map (·.key)) (vs.map fun p => keyP p.1)
  | _, _, .nil => shs_nil
  | _, _, .cons (e := e) (kv := kv) h1 _ h3 => by
    refine shs_cons ?_ (keys_sh h3)
    show Sh P w hp e.key (keyP kv.1)
    rcases keyIs_shape h1 with ⟨i, t, e1, e2⟩ | ⟨x, t, e1, e2⟩
    · rw [e1, e2]; exact sh_plain (.int _ _) rfl
    · rw [e1, e2]; exact sh_plain (.str _ _) rfl
theorem vals_pairs {P : Program} {w : World} : ∀ {es : List DictEntry} {vs : List (Key × Value)}, PySem.Pairs (mixKind P w) es vs → es.map (·.val) = vs.map (·.2)
  | _, _, .nil => rfl
  | _, _, .cons h1 h2 h3 => by simp only [List.map_cons, h2, vals_pairs h3]
theorem kv_vals : ∀ {gs : List (Key × V)} {vs : List (Key × Value)}, KV gs vs → gs.map (·.1) = vs.map (·.1) ∧ Vals (gs.map (·.2)) (vs.map (·.2))
  | _, _, .nil => ⟨rfl, .nil⟩
  | _, _, .cons h1 h2 => by
    obtain ⟨a, b⟩ := kv_vals h2
    exact ⟨by simp only [List.map_cons, h1.1, a], .cons h1.2 b⟩
theorem zip_fst {α β : Type} : ∀ {l : List α} {m : List β}, l.length = m.length → (l.zip m).map Prod.fst = l
  | [], _, _ => by simp
  | a :: l, [], h => by simp at h
  | a :: l, b :: m, h => by simp only [List.zip_cons_cons, List.map_cons, zip_fst (Nat.succ.inj h)]
theorem zip_snd {α β : Type} : ∀ {l : List α} {m : List β}, l.length = m.length → (l.zip m).map Prod.snd = m
  | [], [], _ => rfl
  | [], b :: m, h => by simp at h
  | a :: l, [], h => by simp at h
  | a :: l, b :: m, h => by simp only [List.zip_cons_cons, List.map_cons, zip_snd (Nat.succ.inj h)]
theorem deepsK_len {xs : List D} {ps : List PyData} (h : DeepsK mu xs ps) : xs.length = ps.length := by
  match h with
  | .nil => rfl
  | .cons _ h2 => simp only [List.length_cons, deepsK_len h2]
/-- a dict's parts -/
theorem dict_at {n : Nat} {a : Addr} {kvs : List (Key × D)} {lk : Bool} {ps : List PyData} (I : Inv X pins σ H s) (S : RepS X.K CT H be mu) (eb : be[n]? = some a) (em : mu[n]? = some (.dct kvs lk)) (len : kvs.length = ps.length)
    (ih : ∀ vs us, IsDs X.K H be (kvs.map (·.2)) vs → Vals vs us → Shs X.prog X.w s.heap us ps) :
    ∃ o es n', s.heap.get? a = some o ∧ o.cls = .type "dict" ∧ o.data = .dict es n' ∧ (a == sysModules) = false ∧ Shs X.prog X.w s.heap (es.toList.map (·.key)) (((kvs.map fun p => keyP p.1).zip ps).map (·.1)) ∧ Shs X.prog X.w s.heap (es.toList.map (·.val)) (((kvs.map fun p => keyP p.1).zip ps).map (·.2)) := by
  have hd : dctAt mu n fun k l => k = kvs := by unfold dctAt; rw [em]
  obtain ⟨a', kvs', lk', gs, e1, ea, em', hr, _, ik, rfl⟩ := dct_of (v := .ref a) S (by simp only [IsD]; exact ⟨a, eb, rfl⟩) hd
  cases e1
  obtain ⟨_, ns, vs, kv, o, es, ep, ho, hx, hdt, _, pr, _⟩ := dk_rd I.hok hr
  obtain ⟨q1, q2⟩ := kv_vals kv
  have lz : (kvs'.map fun p => keyP p.1).length = ps.length := by rw [List.length_map]; exact len
  refine ⟨o, es, ep, ho, hx.1, hdt, ns, ?_, ?_⟩
  · rw [zip_fst lz]
    have : (kvs'.map fun p => keyP p.1) = vs.map fun p => keyP p.1 := by
      have e := (ik.1.trans q1)
      have := congrArg (List.map keyP) e
      rw [List.map_map, List.map_map] at this
      exact this
    rw [this]
    exact keys_sh pr
  · rw [zip_snd lz, vals_pairs pr]
    exact ih _ _ ik.2 q2
mutual
theorem deep_sh (I : Inv X pins σ H s) (S : RepS X.K CT H be mu) : ∀ {d : D} {p : PyData}, DeepK mu d p → ∀ (v : V) (u : Value), IsD X.K H be d v → L2.RelV v u → Sh X.prog X.w s.heap u p
  | _, _, .non, v, u, i, r => by simp only [IsD] at i; subst i; cases r; exact sh_plain .none rfl
  | _, _, .bl b, v, u, i, r => by simp only [IsD] at i; subst i; cases r; exact sh_plain (.bool b) rfl
  | _, _, .int k, v, u, i, r => by
    simp only [IsD] at i
    subst i
    obtain ⟨t, rfl⟩ := r
    exact sh_plain (.int k t) rfl
  | _, _, .str x, v, u, i, r => by
    simp only [IsD] at i
    subst i
    obtain ⟨t, rfl⟩ := r
    exact sh_plain (.str x t) rfl
  | _, _, .tup h, v, u, i, r => by
    simp only [IsD] at i
    obtain ⟨a, vs, rfl, q, i2⟩ := i
    cases r
    obtain ⟨its, rv, ⟨o, ho, hc, n, hd⟩, _⟩ := I.tuple q
    exact sh_tup ho hc hd (deeps_sh I S h _ its i2 rv)
  | _, _, .lst hn h, v, u, i, r => by
    simp only [IsD] at i
    obtain ⟨a, e, rfl⟩ := i
    obtain ⟨vs, h1, i2⟩ := S.get e hn
    cases r
    obtain ⟨its, rv, ⟨o, n, ho, hc, _, hd⟩, _⟩ := I.list (SqL.of h1)
    exact sh_list ho hc hd (deeps_sh I S h _ its i2 rv)
  | _, _, .ro h, v, u, i, r => by
    simp only [IsD] at i
    obtain ⟨a, vs, rfl, q, i2⟩ := i
    cases r
    obtain ⟨its, rv, ⟨o, n, ho, hc, _, hd⟩, _⟩ := I.list q.sq
    exact sh_list ho hc hd (deeps_sh I S h _ its i2 rv)
  | _, _, .dct hn h, v, u, i, r => by
    simp only [IsD] at i
    obtain ⟨a, e, rfl⟩ := i
    cases r
    obtain ⟨o, es, n', ho, hc, hd, ns, k1, k2⟩ := dict_at I S e hn (by have := deepsK_len h; rw [List.length_map] at this; exact this) fun vs us i r => deeps_sh I S h vs us i r
    exact sh_dict ho hc hd ns k1 k2
theorem deeps_sh (I : Inv X pins σ H s) (S : RepS X.K CT H be mu) : ∀ {xs : List D} {ps : List PyData}, DeepsK mu xs ps → ∀ (vs : List V) (us : List Value), IsDs X.K H be xs vs → Vals vs us → Shs X.prog X.w s.heap us ps
  | _, _, .nil, vs, us, i, r => by simp only [IsDs] at i; subst i; cases r; exact shs_nil
  | _, _, .cons h1 h2, vs, us, i, r => by
    simp only [IsDs] at i
    obtain ⟨v, w', rfl, i1, i2⟩ := i
    cases r with
    | cons r1 r2 => exact shs_cons (deep_sh I S h1 _ _ i1 r1) (deeps_sh I S h2 _ _ i2 r2)
end
theorem list_call {A : Around} {E : Value → Shared → Prop} {P : Program} {w : World} {s : Shared} {Q : Value → Shared → Prop} {a : Addr} {o : Obj} {its : Array Value} {n : Nat} {ps : List PyData} (hg : A.guards = some []) (hu : A.units + 66 < cLine) (ho : s.heap.get? a = some o) (hc : o.cls = .type "list") (hd : o.data = .seq its n)
    (b : Shs P w s.heap its.toList ps) (sh : PyData.showableAll ps = true) (de : PyData.depthAll ps + 1 ≤ 64) (hz : (listText (PyData.shownAll ps)).length ≤ sizeLine)
    (fin : ∀ (h' : Heap) (tk : Tok) (t' : Nat), (∀ b o, s.heap.get? b = some o → h'.get? b = some o) → Q (.str (listText (PyData.shownAll ps)) tk) { s with heap := h', toks := t' }) : wpAny (model P w) A (call (.builtin "repr") [.ref a]) Q E s := by
  obtain ⟨l, rd, f⟩ := b
  obtain ⟨m, hm, k⟩ := f sh fun t ht => Nat.le_trans (listText_mem_le ht) hz
  have lt := not_mem_of_deeper (.list ho hc hd rd) (by simp only [PyData.depth]; omega) hm
  match its, rd, k, hd with
  | ⟨[]⟩, rd, _, hd =>
    have : ps = [] := by cases rd; rfl
    subst this
    simp only [PyData.shownAll, listText_nil] at fin
    exact call_repr_slot (by omega) ⟨o, ho, hc⟩ F.slot_list_repr.toG (call_list_repr_empty ⟨o, ho, hc⟩ ho hd ⟨_, _, rfl, fin s.heap _ _ fun _ _ e => e⟩)
  | ⟨x :: t⟩, rd, k, hd =>
    exact call_repr_slot (by omega) ⟨o, ho, hc⟩ F.slot_list_repr.toG (call_list_reprK ho hc hd lt (by simpa using k.length_eq) (fun i y e => k.item i y (by simpa using e)) (A := A.in1) hg (fun b _ => Clear.nil b) (by show A.units + 1 + _ < cLine; omega) (fun _ _ e => e) (fun h' tk t' hk => ⟨_, _, rfl, fin h' tk t' hk⟩) hz)
theorem reprd_D (hg : X.A.guards = some []) (hu : X.A.units + 66 < cLine) : CallR X (.builtin "repr") (One X.K CT .reprd) := by
  intro pins s σ H xs us Q I r h
  obtain ⟨v, rfl, be, mu, x, Qd, S, dx, h, kq⟩ := h
  simp only [w1] at h
  obtain ⟨p, dp, sh, de, sz, h⟩ := h
  have q : Q (.str p.shown) H := kq.at_ S (by simp only [IsD]) h
  obtain ⟨u, rfl, rv⟩ := vals1 r
  have fin : ∀ (h' : Heap) (tk : Tok) (t' : Nat), (∀ b o, s.heap.get? b = some o → h'.get? b = some o) → EP X pins σ Q (.str p.shown tk) { s with heap := h', toks := t' } := fun h' tk t' hk => ⟨.str _, H, I.kept hk, ⟨_, rfl⟩, q⟩
  have hz : p.shown.length ≤ sizeLine := sz
  cases dp with
  | non => simp only [IsD] at dx; subst dx; cases rv; exact PySem.P.repr_of_none ⟨.str _, H, I.tok _, ⟨_, rfl⟩, q⟩
  | bl b => simp only [IsD] at dx; subst dx; cases rv; exact PySem.P.repr_of_bool ⟨.str _, H, I.tok _, ⟨_, rfl⟩, q⟩
  | int i => simp only [IsD] at dx; subst dx; obtain ⟨t, rfl⟩ := rv; exact PySem.P.repr_of_int (by simpa [PyData.showable] using sh) ⟨.str _, H, I.tok _, ⟨_, rfl⟩, q⟩
  | str z => simp only [IsD] at dx; subst dx; obtain ⟨t, rfl⟩ := rv; exact PySem.P.repr_of_str ⟨.str _, H, I.tok _, ⟨_, rfl⟩, q⟩ hz
  | tup hs =>
    simp only [IsD] at dx
    obtain ⟨a, vs, rfl, qa, i2⟩ := dx
    cases rv
    obtain ⟨its, rw', ⟨o, ho, hc, n, hd⟩, _⟩ := I.tuple qa
    obtain ⟨l, rd, f⟩ := deeps_sh I S hs _ its i2 rw'
    simp only [PyData.showable] at sh
    simp only [PyData.shown] at hz fin
    obtain ⟨m, hm, k⟩ := f sh fun t ht => Nat.le_trans (tupleText_mem_le ht) hz
    simp only [PyData.depth] at de
    have lt := not_mem_of_deeper (.tuple ho hc hd rd) (by simp only [PyData.depth]; omega) hm
    exact call_repr_slot (by omega) ⟨o, ho, hc⟩ F.slot_tuple_repr (call_tuple_reprK ho hc hd lt k (A := X.A.in1) hg (fun b _ => Clear.nil b) (by show X.A.units + 1 + _ < cLine; omega) (fun _ _ e => e) (fun h' tk t' hk => ⟨_, _, rfl, fin h' tk t' hk⟩) hz)
  | lst hn hs =>
    simp only [IsD] at dx
    obtain ⟨a, e, rfl⟩ := dx
    obtain ⟨vs, h1, i2⟩ := S.get e hn
    cases rv
    obtain ⟨its, rw', ⟨o, n, ho, hc, _, hd⟩, _⟩ := I.list (SqL.of h1)
    exact list_call hg (by omega) ho hc hd (deeps_sh I S hs _ its i2 rw') (by simpa only [PyData.showable] using sh) (by simpa only [PyData.depth] using de) (by simpa only [PyData.shown] using hz) (by simpa only [PyData.shown] using fin)
  | ro hs =>
    simp only [IsD] at dx
    obtain ⟨a, vs, rfl, qa, i2⟩ := dx
    cases rv
    obtain ⟨its, rw', ⟨o, n, ho, hc, _, hd⟩, _⟩ := I.list qa.sq
    exact list_call hg (by omega) ho hc hd (deeps_sh I S hs _ its i2 rw') (by simpa only [PyData.showable] using sh) (by simpa only [PyData.depth] using de) (by simpa only [PyData.shown] using hz) (by simpa only [PyData.shown] using fin)
  | dct hn hs =>
    simp only [IsD] at dx
    obtain ⟨a, e, rfl⟩ := dx
    cases rv
    obtain ⟨o, es, n', ho, hc, hd, ns, k1, k2⟩ := dict_at I S e hn (by have := deepsK_len hs; rw [List.length_map] at this; exact this) fun vs us i r => deeps_sh I S hs vs us i r
    simp only [PyData.showable] at sh
    simp only [PyData.shown] at hz fin
    simp only [PyData.depth] at de
    obtain ⟨l1, l2, m, r1, r2, hm, k⟩ := dict_parts k1 k2 sh hz
    have lt := not_mem_of_deeper (.dict ho hc hd r1 r2) (by simp only [PyData.depth]; omega) hm
    exact call_repr_slot (by omega) ⟨o, ho, hc⟩ F.slot_dict_repr (call_dict_reprK ho hc hd ns lt k (A := X.A.in1) hg (fun b _ => Clear.nil b) (by show X.A.units + 1 + _ < cLine; omega) (fun _ _ e => e) (fun h' tk t' hk => ⟨_, _, rfl, fin h' tk t' hk⟩) hz)
end
end MP
namespace MP
open PySem PySem.Spec PyProof.Rows L2
section
variable {X : Cx} {CT : Cls}
theorem call_str1 : CallR X (.type "str") (fun xs H Q => (∃ i, xs = [.int i] ∧ i.natAbs.log2 < 1920 ∧ Q (.str (toString i)) H) ∨ ∃ k, xs = [.bl k] ∧ Q (.str (if k then "True" else "False")) H) := by
  intro pins s σ H xs us Q I r h
  rcases h with ⟨i, rfl, hz, q⟩ | ⟨k, rfl, q⟩
  · obtain ⟨u, rfl, t, rfl⟩ := vals1 r
    exact PySem.P.str_of_int hz ⟨.str _, H, I.tok _, ⟨_, rfl⟩, q⟩
  · obtain ⟨u, rfl, r1⟩ := vals1 r
    cases r1
    exact PySem.P.str_of_bool ⟨.str _, H, I.tok _, ⟨_, rfl⟩, q⟩
theorem str_D : CallR X (.type "str") (One X.K CT .str) := by
  refine callr_imp call_str1 fun vs H Q h => ?_
  obtain ⟨v, rfl, be, mu, x, Qd, S, dx, h, kq⟩ := h
  cases x <;> simp only [w1] at h
  case int i =>
    simp only [IsD] at dx
    subst dx
    exact .inl ⟨i, rfl, h.1, kq.at_ S (by simp only [IsD]) h.2⟩
  case bl i =>
    simp only [IsD] at dx
    subst dx
    exact .inr ⟨i, rfl, kq.at_ S (by simp only [IsD]) h⟩
end
end MP
namespace MP
open PySem PySem.Spec PyProof.Rows L2
/-- the names of a def's body: its own by slot, the text's defs, constants of the top, builtins that the top leaves alone -/
structure Nm where
  N : List Str
  fns : List Str
  cons : List (Str × D)
  blts : List Str
  /-- how defs are called: def, positional arguments, keywords, where each parameter's value stands -/
  kwp : List (Nat × Nat × List Str × List Nat)
  /-- the text's own classes of exceptions; which of them are made -/
  exc : List Str := []
  rai : List (Nat × List Str) := []
  /-- which class is below which, for kept exceptions -/
  nex : Nat := 0
  sub : Nat → Nat → Bool := fun _ _ => false
  flds : List Str := []
mutual
def D.beq : D → D → Bool
  | .non, .non => true
  | .bl a, .bl b => a == b
  | .int a, .int b => a == b
  | .str a, .str b => decide (a = b)
  | .tup a, .tup b => D.beqs a b
  | _, _ => false
def D.beqs : List D → List D → Bool
  | [], [] => true
  | x :: r, y :: t => D.beq x y && D.beqs r t
  | _, _ => false
end
mutual
theorem beq_D : ∀ {a b : D}, D.beq a b = true → a = b
  | .non, b, h => by cases b <;> first | rfl | simp [D.beq] at h
  | .bl _, b, h => by cases b <;> simp [D.beq] at h; rw [h]
  | .int _, b, h => by cases b <;> simp [D.beq] at h; rw [h]
  | .str _, b, h => by cases b <;> simp [D.beq] at h; rw [h]
  | .tup xs, b, h => by
    cases b <;> simp only [D.beq] at h <;> try (cases h)
    rw [beqs_D h]
  | .ref _, b, h => by cases b <;> simp [D.beq] at h
  | .ro _, b, h => by cases b <;> simp [D.beq] at h
theorem beqs_D : ∀ {a b : List D}, D.beqs a b = true → a = b
  | [], b, h => by cases b <;> first | rfl | simp [D.beqs] at h
  | x :: r, b, h => by
    cases b <;> simp only [D.beqs] at h <;> try (cases h)
    rw [Bool.and_eq_true] at h
    rw [beq_D h.1, beqs_D h.2]
end
/-- no name that the machine treats apart -/
def okN (x : Str) : Bool := !(x == ("__debug__" : Str)) && !(x == ("__classdict__" : Str)) && !decide (x = ("__name__" : Str))
def visB (sc : Scope) (x : Str) : Bool := match sc.names.lookup x with
  | some .local => true
  | some .cell => true
  | some .free => true
  | _ => false
def locB (sc : Scope) (x : Str) : Bool := match sc.names.lookup x with
  | some .local => true
  | some .cell => true
  | _ => false
def glB (sc : Scope) (x : Str) : Bool := okN x && match sc.names.lookup x with
  | some .globalImplicit => true
  | _ => false
/-- the builtin of that name -/
def bltB (n : Nm) (sc : Scope) (f : Expr) (x : Str) : Bool := match f with
  | .Name y _ => decide (y = x) && glB sc x && n.blts.contains x
  | _ => false
def nst : Expr → Bool
  | .Starred _ _ => false
  | _ => true
def nsl : Expr → Bool
  | .Slice _ _ _ _ => false
  | _ => true
/-- an expression that «super» does not look at -/
def plainB : Expr → Bool
  | .Name _ _ => true
  | .Attribute _ _ _ => true
  | .Subscript _ _ _ => true
  | .Constant _ _ _ => true
  | .Dict _ _ _ => true
  | .Call _ (_ :: _) _ _ => true
  | _ => false
def nset : Expr → Bool
  | .Set _ _ _ => false
  | _ => true
def sameLine (a b : Pos) : Bool := a.endLine == b.line
/-- the part of a one-place operation -/
def sh1 (n : Nm) (sc : Scope) (o : O1) (e : Expr) : Option Expr :=
  match o, e with
  | .neg, .UnaryOp .USub a _ => some a
  | .len, .Call f [a] [] _ => if bltB n sc f "len" && nst a then some a else none
  | .abs, .Call f [a] [] _ => if bltB n sc f "abs" && nst a then some a else none
  | .int, .Call f [a] [] _ => if bltB n sc f "int" && nst a then some a else none
  | .str, .Call f [a] [] _ => if bltB n sc f "str" && nst a then some a else none
  | .tuple, .Call f [a] [] _ => if bltB n sc f "tuple" && nst a then some a else none
  | .list, .Call f [a] [] _ => if bltB n sc f "list" && nst a then some a else none
  | .all, .Call f [a] [] _ => if bltB n sc f "all" && nst a then some a else none
  | .any, .Call f [a] [] _ => if bltB n sc f "any" && nst a then some a else none
  | .sum, .Call f [a] [] _ => if bltB n sc f "sum" && nst a then some a else none
  | .repr, .Call f [a] [] _ => if bltB n sc f "repr" && nst a then some a else none
  | .sorted, .Call f [a] [] _ => if bltB n sc f "sorted" && nst a then some a else none
  | .isN, .Compare a [.Is] [.Constant .none _ _] _ => some a
  | .notN, .Compare a [.IsNot] [.Constant .none _ _] _ => some a
  | .isF, .Compare a [.Is] [.Constant (.bool false) _ _] _ => some a
  | .isT, .Compare a [.Is] [.Constant (.bool true) _ _] _ => some a
  | .pop, .Call (.Attribute a m p) [] [] q => if decide (m = ("pop" : Str)) && plainB a && sameLine p q then some a else none
  | .isinst t, .Call f [a, .Name y p] [] _ => if bltB n sc f "isinstance" && nst a && bltB n sc (.Name y p) (tyS t) then some a else none
  | .lrng, .Call f [.Call g [a] [] _] [] _ => if bltB n sc f "list" && bltB n sc g "range" && nst a then some a else none
  | .trng, .Call f [.Call g [a] [] _] [] _ => if bltB n sc f "tuple" && bltB n sc g "range" && nst a then some a else none
  | .sortset, .Call f [.Call g [a] [] _] [] _ => if bltB n sc f "sorted" && bltB n sc g "set" && nst a then some a else none
  | .lenset, .Call f [.Call g [a] [] _] [] _ => if bltB n sc f "len" && bltB n sc g "set" && nst a then some a else none
  | .rev, .Subscript a b _ => if backSh b = some false then some a else none
  | .rev0, .Subscript a b _ => if backSh b = some true then some a else none
  | .dictc, .Call f [a] [] _ => if bltB n sc f "dict" && nst a then some a else none
  | .upper, .Call (.Attribute a m p) [] [] q => if decide (m = ("upper" : Str)) && plainB a && sameLine p q then some a else none
  | .isx ans, .Call f [a, .Name y _] [] _ => if bltB n sc f "isinstance" && nst a && glB sc y && decide ((n.exc.findIdx? (· == y)).map (fun j => (List.range n.nex).map fun c => n.sub c j) = some ans) then some a else none
  | .isv k, .Call f [a, .Name y p] [] _ => if bltB n sc f "isinstance" && nst a && bltB n sc (.Name y p) "ValueError" && decide (k = n.nex) then some a else none
  | .isxt ans, .Call f [a, .Tuple [.Name y _, .Name z _] _ _] [] _ => if bltB n sc f "isinstance" && nst a && glB sc y && glB sc z && decide (((n.exc.findIdx? (· == y)).bind fun i => (n.exc.findIdx? (· == z)).map fun j => (List.range n.nex).map fun c => n.sub c i || n.sub c j) = some ans) then some a else none
  | .sortd, .Call f [a] [] _ => if bltB n sc f "sorted" && nst a then some a else none
  | .reprd, .Call f [a] [] _ => if bltB n sc f "repr" && nst a then some a else none
  | .fld f k, .Attribute a m _ => if decide (m = f) && plainB a && decide (f ∈ n.flds) && decide (k = n.nex) then some a else none
  | _, _ => none
def sh2 (n : Nm) (sc : Scope) (o : O2) (e : Expr) : Option (Expr × Expr) :=
  match o, e with
  | .add, .BinOp a .Add b _ => some (a, b)
  | .sub, .BinOp a .Sub b _ => some (a, b)
  | .mul, .BinOp a .Mult b _ => some (a, b)
  | .fdiv, .BinOp a .FloorDiv b _ => some (a, b)
  | .mod, .BinOp a .Mod b _ => some (a, b)
  | .pow, .BinOp a .Pow b _ => some (a, b)
  | .eq, .Compare a [.Eq] [b] _ => some (a, b)
  | .ne, .Compare a [.NotEq] [b] _ => some (a, b)
  | .eqd, .Compare a [.Eq] [b] _ => some (a, b)
  | .ned, .Compare a [.NotEq] [b] _ => some (a, b)
  | .lt, .Compare a [.Lt] [b] _ => some (a, b)
  | .le, .Compare a [.LtE] [b] _ => some (a, b)
  | .gt, .Compare a [.Gt] [b] _ => some (a, b)
  | .ge, .Compare a [.GtE] [b] _ => some (a, b)
  | .inn, .Compare a [.In] [b] _ => if nset b then some (a, b) else none
  | .nin, .Compare a [.NotIn] [b] _ => if nset b then some (a, b) else none
  | .max, .Call f [a, b] [] _ => if bltB n sc f "max" && nst a && nst b then some (a, b) else none
  | .min, .Call f [a, b] [] _ => if bltB n sc f "min" && nst a && nst b then some (a, b) else none
  | .ix, .Subscript a b _ => if nsl b then some (a, b) else none
  | .append, .Call (.Attribute a m p) [b] [] q => if decide (m = ("append" : Str)) && plainB a && sameLine p q && nst b then some (a, b) else none
  | .extend, .Call (.Attribute a m p) [b] [] q => if decide (m = ("extend" : Str)) && plainB a && sameLine p q && nst b then some (a, b) else none
  | .lrng, .Call f [.Call g [a, b] [] _] [] _ => if bltB n sc f "list" && bltB n sc g "range" && nst a && nst b then some (a, b) else none
  | .trng, .Call f [.Call g [a, b] [] _] [] _ => if bltB n sc f "tuple" && bltB n sc g "range" && nst a && nst b then some (a, b) else none
  | .popAt, .Call (.Attribute a m p) [b] [] q => if decide (m = ("pop" : Str)) && plainB a && sameLine p q && nst b then some (a, b) else none
  | .get1, .Call (.Attribute a m p) [b] [] q => if decide (m = ("get" : Str)) && plainB a && sameLine p q && nst b then some (a, b) else none
  | .update, .Call (.Attribute a m p) [b] [] q => if decide (m = ("update" : Str)) && plainB a && sameLine p q && nst b then some (a, b) else none
  | .ind, .Compare a [.In] [b] _ => if nset b then some (a, b) else none
  | .nind, .Compare a [.NotIn] [b] _ => if nset b then some (a, b) else none
  | .index, .Call (.Attribute a m p) [b] [] q => if decide (m = ("index" : Str)) && plainB a && sameLine p q && nst b then some (a, b) else none
  | .count, .Call (.Attribute a m p) [b] [] q => if decide (m = ("count" : Str)) && plainB a && sameLine p q && nst b then some (a, b) else none
  | .join, .Call (.Attribute a m p) [b] [] q => if decide (m = ("join" : Str)) && plainB a && sameLine p q && nst b then some (a, b) else none
  | _, _ => none
def sh3 (o : O3) (e : Expr) : Option (Expr × Expr × Expr) :=
  match o, e with
  | .get2, .Call (.Attribute a m p) [b, c] [] q => if decide (m = ("get" : Str)) && plainB a && sameLine p q && nst b && nst c then some (a, b, c) else none
  | .setd, .Call (.Attribute a m p) [b, c] [] q => if decide (m = ("setdefault" : Str)) && plainB a && sameLine p q && nst b && nst c then some (a, b, c) else none
  | _, _ => none
/-- the operator of a comparison in a chain -/
def shC : O2 → Option CmpOp
  | .lt => some .Lt
  | .le => some .LtE
  | .gt => some .Gt
  | .ge => some .GtE
  | .eq => some .Eq
  | .ne => some .NotEq
  | .eqd => some .Eq
  | .ned => some .NotEq
  | _ => none
structure XO (n : Nm) (sc0 sc : Scope) (X : Cx) : Prop where
  scp : X.env.scope = sc
  N : X.N = n.N
  nd : n.N.Nodup
  calm : X.calm = true
  hu : X.A.units + 200 < cLine
  hg : X.A.guards = some []
  blt : ∀ x ∈ n.blts, X.mg x = none
  cons : ∀ p ∈ n.cons, ∃ u, X.mg p.1 = some u ∧ ∀ H be, ∃ v, L2.RelV v u ∧ IsD X.K H be p.2 v
  own : PassesOwn (model X.prog X.w) X.A X.env X.xe
  loc : ∀ x, locB sc0 x = true → L2.Loc sc x ∧ (X.fn x = true ∨ sc.names.lookup x = some .local)
  kind : sc.kind = .function
section
variable {n : Nm} {sc0 sc : Scope} {X : Cx} {CT : Cls} {G : Ctx} {W : WX}
theorem okN_of {x : Str} (h : okN x = true) : (x == ("__debug__" : Str)) = false ∧ (x == ("__classdict__" : Str)) = false ∧ x ≠ "__name__" := by
  unfold okN at h
  simp only [Bool.and_eq_true, Bool.not_eq_true', decide_eq_false_iff_not] at h
  exact ⟨h.1.1, h.1.2, h.2⟩
theorem gl_of (O : XO n sc0 sc X) {x : Str} (h : glB sc x = true) : Gl X x ∧ (x == ("__debug__" : Str)) = false ∧ x ≠ "__name__" := by
  unfold glB at h
  rw [Bool.and_eq_true] at h
  obtain ⟨a, _, c⟩ := okN_of h.1
  refine ⟨?_, a, c⟩
  show X.env.scope.names.lookup x = some .globalImplicit
  rw [O.scp]
  have h2 := h.2
  split at h2
  · assumption
  · cases h2
theorem blt_of (O : XO n sc0 sc X) {f : Expr} {x : Str} (h : bltB n sc f x = true) : ∃ p, f = .Name x p ∧ Gl X x ∧ X.mg x = none ∧ (x == ("__debug__" : Str)) = false ∧ x ≠ "__name__" := by
  unfold bltB at h
  split at h
  · rename_i y p
    simp only [Bool.and_eq_true, decide_eq_true_eq] at h
    obtain ⟨⟨rfl, h2⟩, h3⟩ := h
    obtain ⟨a, b, c⟩ := gl_of O h2
    exact ⟨p, rfl, a, O.blt _ (by simpa using h3), b, c⟩
  · cases h
theorem star1 {e : Expr} (h : nst e = true) (es : List Expr) (env : Env) : starEach (e :: es) env = (false, eval e env) :: starEach es env := by
  cases e <;> first | rfl | cases h
theorem star_any {pos : Pos} {env : Env} : ∀ {es : List Expr}, es.all nst = true → (backTo pos (starEach es env)).any (·.1) = false
  | [], _ => rfl
  | e :: es, h => by
    rw [List.all_cons, Bool.and_eq_true] at h
    rw [star1 h.1]
    show (false || (backTo pos (starEach es env)).any (·.1)) = false
    rw [star_any h.2]; rfl
theorem base_of {o : Expr} {m : Str} {env : Env} {w : Sem Value} (h : plainB o = true) : attributeBase o m env w = w := by
  cases o with
  | Call f as kw p =>
    cases as with
    | nil => cases h
    | cons a as => cases f <;> rfl
  | _ => first | rfl | cases h
theorem ix_of {b : Expr} (h : nsl b = true) : PlainIx b := by
  intro o i
  cases b <;> first | rfl | cases h
theorem PE.imp {e : Expr} {t u : TE} (h : PE X e t) (k : ∀ σ H Q, u σ H Q → t σ H Q) : PE X e u := ⟨fun pins s σ H Q I q => h.run pins s σ H Q I (k _ _ _ q)⟩
theorem PT.imp {e : Expr} {t u : TT} (h : PT X e t) (k : ∀ σ H Q, u σ H Q → t σ H Q) : PT X e u := ⟨fun pins s σ H Q I q => h.run pins s σ H Q I (k _ _ _ q)⟩
/-- f(a), f a builtin function -/
theorem call1 (O : XO n sc0 sc X) {o : O1} {f a : Expr} {x : Str} {id : String} {c : CE} {pos : Pos} (hc : CallR X (.builtin id) (One X.K CT o)) (hv : bootBuiltins x = some (.builtin id)) (h : (bltB n sc f x && nst a) = true)
    (ha : PE X a (LE G X.K CT W c)) : PE X (.Call f [a] [] pos) (LE G X.K CT W (.op1 o c)) := by
  rw [Bool.and_eq_true] at h
  obtain ⟨p, rfl, hg, hm, hd, hn⟩ := blt_of O h.1
  refine PE.imp (pe_callB hc hg hm hv (pa_cons ha pa_nil (star1 h.2 _ _)) hn hd (star1 h.2 _ _) rfl) fun σ H Q q => ?_
  exact (le_op1 q).mono fun v H1 r => ⟨v, rfl, r⟩
/-- f(a), f a builtin type -/
theorem call1T (O : XO n sc0 sc X) {o : O1} {f a : Expr} {x : Str} {id : String} {c : CE} {pos : Pos} (hc : CallR X (.type id) (One X.K CT o)) (hv : bootBuiltins x = some (.type id)) (h : (bltB n sc f x && nst a) = true)
    (ha : PE X a (LE G X.K CT W c)) : PE X (.Call f [a] [] pos) (LE G X.K CT W (.op1 o c)) := by
  rw [Bool.and_eq_true] at h
  obtain ⟨p, rfl, hg, hm, hd, hn⟩ := blt_of O h.1
  refine PE.imp (pe_callTy hc hg hm hv (pa_cons ha pa_nil (star1 h.2 _ _)) hn hd (star1 h.2 _ _) rfl) fun σ H Q q => ?_
  exact (le_op1 q).mono fun v H1 r => ⟨v, rfl, r⟩
/-- f(a, b) -/
theorem call2 (O : XO n sc0 sc X) {o : O2} {f a b : Expr} {x : Str} {id : String} {c d : CE} {pos : Pos} (hc : CallR X (.builtin id) (fun vs H Q => ∃ v u, vs = [v, u] ∧ R2D X.K CT o v u H Q)) (hv : bootBuiltins x = some (.builtin id)) (h : (bltB n sc f x && nst a && nst b) = true)
    (ha : PE X a (LE G X.K CT W c)) (hb : PE X b (LE G X.K CT W d)) : PE X (.Call f [a, b] [] pos) (LE G X.K CT W (.op2 o c d)) := by
  rw [Bool.and_eq_true, Bool.and_eq_true] at h
  obtain ⟨p, rfl, hg, hm, hd, hn⟩ := blt_of O h.1.1
  refine PE.imp (pe_callB hc hg hm hv (pa_cons ha (pa_cons hb pa_nil (star1 h.2 _ _)) (star1 h.1.2 _ _)) hn hd (star1 h.1.2 _ _) (star_any (by simp [h.2]))) fun σ H Q q => ?_
  exact LE.mono (le_op2 q) fun v H1 r => LE.mono r fun u H2 r => ⟨v, u, rfl, r⟩
theorem nomark' (b : Expr) {op : CmpOp} (h : op ≠ .In) (h2 : op ≠ .NotIn) : behindInMarks op b = false := nomark b h h2
theorem nset_mark {b : Expr} {op : CmpOp} (h : nset b = true) : behindInMarks op b = false := by
  cases b <;> first | rfl | cases h
/-- o.m(e, ..) of a built-in type -/
theorem pe_mU {pre : V → Hp → Prop} {r : V → List V → Hp → VK → Prop} {T id : String} {name : Str} {o e : Expr} {es : List Expr} {to : TE} {t : TA} {apos cpos : Pos} (pa : PlainAttrs T) (slot : Slot T name id) (hty : typeOf (.builtin id) = pure (.type "method_descriptor"))
    (hpre : ∀ (pins : List (Addr × Obj)) (s : Shared) (σ : L2.St) (H : Hp) (x : V) (v : Value), Inv X pins σ H s → L2.RelV x v → pre x H → s.TypeIs v T ∧ ∀ a, v = .ref a → ∃ ob, s.heap.get? a = some ob ∧ ob.dict = none)
    (hm : MtR X id r) (ho : PE X o to) (ha : PA X (e :: es) t) (hbase : attributeBase o name X.env (eval o X.env) = eval o X.env)
    (hfew : ((backTo cpos (starEach (e :: es) X.env)).all (fun x => !x.1) && (backToKw cpos (keywordEach [] X.env)).all (fun x => x.1.isSome) && decide ((e :: es).length + ([] : List Keyword).length + (if ([] : List Keyword).isEmpty then 0 else 1) < 30)) = true)
    (hline : (apos.endLine == cpos.line) = true) (hs : starEach (e :: es) X.env = (false, eval e X.env) :: starEach es X.env) (hplain : (backTo cpos (starEach es X.env)).any (·.1) = false) :
    PE X (.Call (.Attribute o name apos) (e :: es) [] cpos) (fun σ H Q => to σ H fun x H1 => pre x H1 ∧ t σ H1 fun vs H2 => r x vs H2 Q) := by
  refine ⟨fun pins s σ H Q I h => ?_⟩
  refine wpAny_Call_method_late hbase hfew hline rfl (thn (ho.run pins s σ H _ I h) fun v s1 ⟨x, H1, I1, r1, ty, q1⟩ => ?_)
  obtain ⟨h1, h2⟩ := hpre _ _ _ _ _ _ I1 r1 ty
  refine ⟨T, id, pa, slot, hty, h1, h2, ?_⟩
  have hA := ha.run cpos pins s1 σ H1 _ I1 q1
  rw [hs] at hA ⊢
  refine Calls.callWith_builtin (by show (false || (backTo cpos (starEach es X.env)).any (·.1)) = false; rw [hplain] <;> rfl) (Calls.evalArgs_plain ?_)
  exact thn hA fun us s2 ⟨vs, H2, I2, r2, q2⟩ => hm pins s2 σ H2 x vs v us Q I2 r1 r2 q2
def isDV (K : PySem.W.Frag) (CT : Cls) (v : V) (H : Hp) : Prop := ∃ be mu n, RepS K CT H be mu ∧ IsD K H be (.ref n) v ∧ isDct mu n
theorem isDV_type (C : CtOk CT X) : ∀ (pins : List (Addr × Obj)) (s : Shared) (σ : L2.St) (H : Hp) (x : V) (v : Value), Inv X pins σ H s → L2.RelV x v → isDV X.K CT x H → s.TypeIs v "dict" ∧ ∀ a, v = .ref a → ∃ ob, s.heap.get? a = some ob ∧ ob.dict = none :=
  fun pins s σ H x v I r ⟨be, mu, n, S, i, h⟩ => isDct_type I C S i r h
theorem le_meth3 {o : O3} {a b c : CE} {K : PySem.W.Frag} {sg : L2.St} {H : Hp} {Q : VK} (h : LE G K CT W (.op3 o a b c) sg H Q) : LE G K CT W a sg H fun v H1 => isDV K CT v H1 ∧ LE G K CT W b sg H1 fun u H2 => LE G K CT W c sg H2 fun w H3 => ∃ u' w', [u, w] = [u', w'] ∧ R3D K CT o v u' w' H3 Q := by
  obtain ⟨be, mu, rh, Qd, Ed, S, L, h, kq, kx⟩ := h
  refine ⟨be, mu, rh, fun x nu => pre3 o x nu ∧ wpE G b Ed rh nu fun y mu2 => wpE G c Ed rh mu2 fun z mu3 => w3 o x y z mu3 Qd, Ed, S, L, by simpa only [wpE] using h, fun x mu1 be1 H1 v x1 S1 d1 h1 => ⟨?_, be1, mu1, rh, _, Ed, S1, L.mono x1, h1.2, fun y mu2 be2 H2 u x2 S2 d2 h2 => 
    ⟨be2, mu2, rh, _, Ed, S2, L.mono (x1.trans x2), h2, fun z mu3 be3 H3 w x3 S3 d3 h3 => ⟨u, w, rfl, be3, mu3, x, y, z, Qd, S3, d1.mono (x2.trans x3), d2.mono x3, d3, h3, kq.mono ((x1.trans x2).trans x3)⟩, kx.mono (x1.trans x2)⟩, kx.mono x1⟩, kx⟩
  have p := h1.1
  unfold pre3 at p
  split at p
  · exact ⟨be1, mu1, _, S1, d1, p⟩
  · exact p.elim
/-- what is asked of the classes of kept exceptions -/
structure KepOk (n : Nm) (CT : Cls) (X : Cx) : Prop where
  mgE : ∀ j x, n.exc[j]? = some x → X.mg x = some (.ref (CT.c j))
  kc : ∀ i, i < n.nex → MPK.KeptC X.K (CT.c i)
  kit : ∀ i j x, i < n.nex → n.exc[j]? = some x → PySem.W.kitOne X.K (.ref (CT.c i)) (.ref (CT.c j)) = some (n.sub i j)
  nof : ∀ i f, i < n.nex → f ∈ n.flds → PySem.W.findIn X.K (.ref (CT.c i)) f = some none
  kiv : ∀ i, i < n.nex → PySem.W.kitOne X.K (.ref (CT.c i)) (.type "ValueError") = some true
theorem KepOk.none (h : n.nex = 0) (e : n.exc = []) : KepOk n CT X := ⟨fun j x q => by rw [e] at q; simp at q, fun i q => by omega, fun i j x q => by omega, fun i f q => by omega, fun i q => by omega⟩
theorem exn_of {be : List Addr} {mu : Store} {H : Hp} {m c : Nat} {fs : List (Str × D)} {v : V} (S : RepS X.K CT H be mu) (i : IsD X.K H be (.ref m) v) (em : mu[m]? = some (.exn c fs)) :
    ∃ a d, v = .ref a ∧ H a = some (MPK.exk a (CT.c c) d) ∧ ((fs = [] ∧ d = none) ∨ ∃ dx gs, d = some dx ∧ H dx = some (.xd gs) ∧ IsFs X.K H be fs gs) := by
  simp only [IsD] at i
  obtain ⟨a, e, rfl⟩ := i
  obtain ⟨d, h1, h2⟩ := S.get e em
  exact ⟨a, d, rfl, h1, h2⟩
theorem isx_D (Kp : KepOk n CT X) {j : Nat} {y : Str} (hj : n.exc[j]? = some y) : CallR X (.builtin "isinstance") (fun xs H Q => ∃ v, xs = [v, .ref (CT.c j)] ∧ R1D X.K CT (.isx ((List.range n.nex).map fun c => n.sub c j)) v H Q) := by
  intro pins s σ H xs us Q I r h
  obtain ⟨v, rfl, be, mu, x, Qd, S, dx, h, kq⟩ := h
  cases x <;> simp only [w1] at h
  case ref m =>
    split at h
    · rename_i c fs em
      obtain ⟨a, d, rfl, ha, hd⟩ := exn_of S dx em
      split at h
      · rename_i b eb
        rw [List.getElem?_map] at eb
        obtain ⟨c', ec, rfl⟩ := Option.map_eq_some_iff.mp eb
        have hc := (List.getElem?_eq_some_iff.mp ec).1
        rw [List.length_range] at hc
        rw [List.getElem?_range hc] at ec
        cases ec
        refine MPK.call_isK (Kp.kc c hc) pins s σ H _ us Q I r ⟨a, d, .ref (CT.c j), .ref (CT.c j), _, rfl, ha, ?_, fun u e => e, Kp.kit c j y hc hj, kq.at_ S (by simp only [IsD]) h⟩
        rcases hd with ⟨_, rfl⟩ | ⟨dx, gs, rfl, h2, _⟩
        · exact .inl rfl
        · exact .inr ⟨dx, gs, rfl, h2⟩
      · exact h.elim
    · exact h.elim
theorem r1_new {K : PySem.W.Frag} {o : O1} {v : V} {H : Hp} {Q : VK} {p : Addr} {ho : HO} (np : H p = none) (r : R1D K CT o v H Q) : R1D K CT o v (upd H p ho) Q := by
  obtain ⟨be, mu, x, Qd, S, dx, h, kq⟩ := r
  exact ⟨be, mu, x, Qd, S.fresh np, dx.mono (.fresh np), h, kq.mono (.fresh np)⟩
theorem dict_ok {be : List Addr} {H : Hp} {fs : List (Str × D)} {d : Option Addr} (hd : (fs = [] ∧ d = none) ∨ ∃ dx gs, d = some dx ∧ H dx = some (.xd gs) ∧ IsFs X.K H be fs gs) : MPK.DictOk H d := by
  rcases hd with ⟨_, rfl⟩ | ⟨dx, gs, rfl, h2, _⟩
  · exact .inl rfl
  · exact .inr ⟨dx, gs, rfl, h2⟩
theorem isv_D (Kp : KepOk n CT X) : CallR X (.builtin "isinstance") (fun xs H Q => ∃ v, xs = [v, .ty "ValueError"] ∧ R1D X.K CT (.isv n.nex) v H Q) := by
  intro pins s σ H xs us Q I r h
  obtain ⟨v, rfl, be, mu, x, Qd, S, dx, h, kq⟩ := h
  cases x <;> simp only [w1] at h
  case ref m =>
    split at h
    · rename_i c fs em
      obtain ⟨a, d, rfl, ha, hd⟩ := exn_of S dx em
      exact MPK.call_isK (Kp.kc c h.1) pins s σ H _ us Q I r ⟨a, d, .ty "ValueError", .type "ValueError", true, rfl, ha, dict_ok hd, fun u e => e, Kp.kiv c h.1, kq.at_ S (by simp only [IsD]) h.2⟩
    · exact h.elim
theorem isxt_D (Kp : KepOk n CT X) {i j : Nat} {y z : Str} (hi : n.exc[i]? = some y) (hj : n.exc[j]? = some z) : CallR X (.builtin "isinstance") (fun xs H Q => ∃ v tp, xs = [v, .ref tp] ∧ H tp = some (.tup [.ref (CT.c i), .ref (CT.c j)]) ∧ R1D X.K CT (.isxt ((List.range n.nex).map fun c => n.sub c i || n.sub c j)) v H Q) := by
  intro pins s σ H xs us Q I r h
  obtain ⟨v, tp, rfl, ht, be, mu, x, Qd, S, dx, h, kq⟩ := h
  cases x <;> simp only [w1] at h
  case ref m =>
    split at h
    · rename_i c fs em
      obtain ⟨a, d, rfl, ha, hd⟩ := exn_of S dx em
      split at h
      · rename_i b eb
        rw [List.getElem?_map] at eb
        obtain ⟨c', ec, rfl⟩ := Option.map_eq_some_iff.mp eb
        have hc := (List.getElem?_eq_some_iff.mp ec).1
        rw [List.length_range] at hc
        rw [List.getElem?_range hc] at ec
        cases ec
        refine MPK.call_isKT (Kp.kc c hc) pins s σ H _ us Q I r ⟨a, tp, d, [.ref (CT.c i), .ref (CT.c j)], [.ref (CT.c i), .ref (CT.c j)], n.sub c i || n.sub c j, rfl, ha, dict_ok hd, ht, fun ws rv => ?_, ?_, kq.at_ S (by simp only [IsD]) h⟩
        · cases rv with
          | cons r1 r2 =>
            cases r2 with
            | cons r2 r3 =>
              cases r3
              cases r1
              cases r2
              rfl
        · have k1 := Kp.kit c i y hc hi
          have k2 := Kp.kit c j z hc hj
          simp only [PySem.W.kitAny, k1, k2]
          cases n.sub c i <;> cases n.sub c j <;> rfl
      · exact h.elim
    · exact h.elim
theorem pe_veN {p : Pos} (hg : Gl X ("ValueError" : Str)) (hm : X.mg ("ValueError" : Str) = none) : PE X (.Name "ValueError" p) (tC (.ty "ValueError")) := by
  refine ⟨fun pins s σ H Q I q => ?_⟩
  exact ld_blt (u := .type "ValueError") I hg hm (by decide +kernel) ⟨.ty "ValueError", H, I, rfl, q⟩ (by decide +kernel) (by decide +kernel)
theorem sortd_D (hc : X.calm = true) : CallR X (.builtin "sorted") (One X.K CT .sortd) := by
  intro pins s σ H vs us Q I r h
  obtain ⟨v, rfl, be, mu, x, Qd, S, dx, h, kq⟩ := h
  cases x <;> simp only [w1] at h
  case ref m =>
    obtain ⟨a, kvs, lk, gs, rfl, ea, em, hr, _, ks', ks, e1, e2, h⟩ := dct_of S dx h
    refine L2.call_sortedD hc pins s σ H _ us Q I r ⟨a, gs, ks, rfl, hr, ?_, e2, fun ys p h1 h2 np => ?_⟩
    · rw [← e1]
      exact ks'.1.symm
    · exact kq.lst (xs := ys.map .str) S (is_strs ys) (h ys h1 h2) np
theorem pe_kf {e : Expr} {te : TE} {f : Str} {pos : Pos} (he : PE X e te) (hb : attributeBase e f X.env (eval e X.env) = eval e X.env) :
    PE X (.Attribute e f pos) (fun σ H Q => te σ H fun x H1 => ∃ a C dx fs v, MPK.KeptC X.K C ∧ PySem.W.findIn X.K (.ref C) f = some none ∧ x = .ref a ∧ H1 a = some (MPK.exk a C (some dx)) ∧ H1 dx = some (.xd fs) ∧ fs.lookup f = some v ∧ Q v H1) := by
  refine ⟨fun pins s σ H Q I h => ?_⟩
  refine attr_of hb (thn (he.run pins s σ H _ I h) fun u s1 hh => ?_)
  obtain ⟨x, H1, I1, rx, a, C, dx, fs, v, hC, hno, rfl, ha, hx, hl, q⟩ := hh
  obtain rfl : u = Value.ref a := rx
  obtain ⟨oe, vs, h1, h2, h3⟩ := MPK.exk_at I1.hok ha
  have hx' : ObjOk X.prog X.w H1 s1.heap dx (.xd fs) := I1.hok dx _ hx
  obtain ⟨mA, hns, hr⟩ := hx'
  obtain ⟨od, ho, hlk⟩ := lookIn_ns hns
  obtain ⟨u, hu, ru⟩ := RelO.some_of (v := v) (o := mA f) (by rw [← hl]; exact hr f)
  have J : PySem.W.InstAt s1.heap a oe C (some od) := ⟨h1, h2.1, by unfold PySem.W.notCls; rw [h3] <;> rfl, by rw [h2.2]; exact ho⟩
  exact HandSPX.exc_get I1.kIn J hC.ga hC.gt hC.sb (PySem.W.findObj_own hC.hd hno rfl (by rw [hlk, hu])) (handed_of ru) ⟨v, H1, I1.tok _, ru, q⟩
theorem fs_lookup {K : PySem.W.Frag} {H : Hp} {be : List Addr} {f : Str} {d : D} : ∀ {fs : List (Str × D)} {gs : List (Str × V)}, fs.map (·.1) = gs.map (·.1) → IsDs K H be (fs.map (·.2)) (gs.map (·.2)) → fs.lookup f = some d → ∃ v, gs.lookup f = some v ∧ IsD K H be d v
  | [], _, _, _, h => by simp at h
  | _ :: _, [], h, _, _ => by simp at h
  | (k, x) :: r, (k', y) :: r', h, i, e => by
    simp only [List.map_cons, List.cons.injEq] at h
    simp only [List.map_cons, IsDs] at i
    obtain ⟨v, w, e1, i1, i2⟩ := i
    simp only [List.cons.injEq] at e1
    obtain ⟨rfl, rfl⟩ := e1
    obtain ⟨rfl, h⟩ := h
    rw [List.lookup_cons] at e ⊢
    split at e
    · cases e
      exact ⟨y, rfl, i1⟩
    · exact fs_lookup h i2 e
theorem fld_D (Kp : KepOk n CT X) {f : Str} (hf : f ∈ n.flds) {v : V} {H : Hp} {Q : VK} (h : R1D X.K CT (.fld f n.nex) v H Q) : ∃ a C dx fs u, MPK.KeptC X.K C ∧ PySem.W.findIn X.K (.ref C) f = some none ∧ v = .ref a ∧ H a = some (MPK.exk a C (some dx)) ∧ H dx = some (.xd fs) ∧ fs.lookup f = some u ∧ Q u H := by
  obtain ⟨be, mu, x, Qd, S, dx, h, kq⟩ := h
  cases x <;> simp only [w1] at h
  case ref m =>
    split at h
    · rename_i c fs em
      obtain ⟨a, d, rfl, ha, hd⟩ := exn_of S dx em
      split at h
      · rename_i y ey
        have hc := h.1
        rcases hd with ⟨rfl, _⟩ | ⟨dx, gs, rfl, h2, h3, h4⟩
        · simp at ey
        · obtain ⟨u, hu, iu⟩ := fs_lookup h3 h4 ey
          exact ⟨a, CT.c c, dx, gs, u, Kp.kc c hc, Kp.nof c f hc hf, rfl, ha, h2, hu, kq.at_ S iu h.2⟩
      · exact h.elim
    · exact h.elim
/-- a one-place operation -/
theorem snd1 (O : XO n sc0 sc X) (Kp : KepOk n CT X) (C : CtOk CT X) (o : O1) {e a : Expr} {c : CE} (h : sh1 n sc o e = some a) (ha : PE X a (LE G X.K CT W c)) : PE X e (LE G X.K CT W (.op1 o c)) := by
  unfold sh1 at h
  have hu := O.hu
  split at h
  · cases h
    exact PE.imp (pe_un neg_D ha) fun σ H Q q => le_op1 q
  · split at h <;> cases h
    rename_i k
    exact call1 O (len_D C) PySem.boot_len k ha
  · split at h <;> cases h
    rename_i k
    exact call1 O abs_D (by decide +kernel) k ha
  · split at h <;> cases h
    rename_i k
    exact call1T O int_D (by decide +kernel) k ha
  · split at h <;> cases h
    rename_i k
    exact call1T O str_D (by decide +kernel) k ha
  · split at h <;> cases h
    rename_i k
    exact call1T O tuple_D (by decide +kernel) k ha
  · split at h <;> cases h
    rename_i k
    exact call1T O list_D (by decide +kernel) k ha
  · split at h <;> cases h
    rename_i k
    exact call1 O (all_D O.calm) (by decide +kernel) k ha
  · split at h <;> cases h
    rename_i k
    exact call1 O (any_D O.calm) (by decide +kernel) k ha
  · split at h <;> cases h
    rename_i k
    exact call1 O (sum_D O.calm) (by decide +kernel) k ha
  · split at h <;> cases h
    rename_i k
    exact call1 O (repr_D O.hg (by omega)) (by decide +kernel) k ha
  · split at h <;> cases h
    rename_i k
    exact call1 O (sorted_D (by omega)) (by decide +kernel) k ha
  · cases h
    refine PE.imp (pe_cmpR (isN_D (CT := CT)) ha pe_non (nomark _)) fun σ H Q q => ?_
    exact (le_op1 q).mono fun v H1 r => ⟨rfl, r⟩
  · cases h
    refine PE.imp (pe_cmpR (notN_D (CT := CT)) ha pe_non (nomark _)) fun σ H Q q => ?_
    exact (le_op1 q).mono fun v H1 r => ⟨rfl, r⟩
  · cases h
    refine PE.imp (pe_cmpR (isB_D (CT := CT) false) ha pe_bl (nomark _)) fun σ H Q q => ?_
    exact (le_op1 q).mono fun v H1 r => ⟨rfl, r⟩
  · cases h
    refine PE.imp (pe_cmpR (isB_D (CT := CT) true) ha pe_bl (nomark _)) fun σ H Q q => ?_
    exact (le_op1 q).mono fun v H1 r => ⟨rfl, r⟩
  · split at h <;> cases h
    rename_i k
    simp only [Bool.and_eq_true, decide_eq_true_eq] at k
    obtain ⟨⟨rfl, k2⟩, k3⟩ := k
    refine PE.imp (pe_bm0 PySem.F.plainAttrs_list PySem.F.slot_list_pop PySem.F.type_list_pop (pop_D (CT := CT)) ha (base_of k2) k3) fun σ H Q q => ?_
    refine (le_op1 q).mono fun v H1 r => ⟨?_, rfl, r⟩
    obtain ⟨be, mu, x, Qd, S, dx, r, kq⟩ := r
    cases x <;> simp only [w1] at r
    case ref m =>
      obtain ⟨a, vs, xs, rfl, _, _, h1, _⟩ := lst_of S dx r
      exact .inl ⟨rfl, vs, SqL.of h1⟩
  · split at h <;> cases h
    rename_i t f y p _ k
    simp only [Bool.and_eq_true] at k
    obtain ⟨⟨k1, k2⟩, k3⟩ := k
    obtain ⟨pf, rfl, hg, hm, hd, hn⟩ := blt_of O k1
    obtain ⟨py, ey, hg2, hm2, _, _⟩ := blt_of O k3
    cases ey
    refine PE.imp (pe_callB (isinst_D (CT := CT) t) hg hm PyProof.Rows.boot_isinstance (pa_cons ha (pa_cons (pe_tyN t hg2 hm2) pa_nil rfl) (star1 k2 _ _)) hn hd (star1 k2 _ _) rfl) fun σ H Q q => ?_
    exact (le_op1 q).mono fun v H1 r => ⟨v, rfl, r⟩
  · split at h <;> cases h
    rename_i k
    simp only [Bool.and_eq_true] at k
    obtain ⟨⟨k1, k2⟩, k3⟩ := k
    obtain ⟨pf, rfl, hg, hm, _, _⟩ := blt_of O k1
    obtain ⟨pg, rfl, hg2, hm2, _, _⟩ := blt_of O k2
    exact PE.imp (pe_listRg O.calm hg hm (prg_1 hg2 hm2 ha (star1 k3 _ _))) fun σ H Q q => (le_op1 q).mono fun v H1 r => lrng_D r
  · split at h <;> cases h
    rename_i k
    simp only [Bool.and_eq_true] at k
    obtain ⟨⟨k1, k2⟩, k3⟩ := k
    obtain ⟨pf, rfl, hg, hm, _, _⟩ := blt_of O k1
    obtain ⟨pg, rfl, hg2, hm2, _, _⟩ := blt_of O k2
    exact PE.imp (pe_tupRg O.calm hg hm (prg_1 hg2 hm2 ha (star1 k3 _ _))) fun σ H Q q => (le_op1 q).mono fun v H1 r => trng_D r
  · split at h <;> cases h
    rename_i k
    simp only [Bool.and_eq_true] at k
    obtain ⟨⟨k1, k2⟩, k3⟩ := k
    obtain ⟨pf, rfl, hg, hm, _, _⟩ := blt_of O k1
    obtain ⟨pg, rfl, hg2, hm2, _, _⟩ := blt_of O k2
    exact PE.imp (pe_sortSet O.calm hg hm hg2 hm2 ha (star1 k3 _ _)) fun σ H Q q => (le_op1 q).mono fun v H1 r => sortset_D r
  · split at h <;> cases h
    rename_i k
    simp only [Bool.and_eq_true] at k
    obtain ⟨⟨k1, k2⟩, k3⟩ := k
    obtain ⟨pf, rfl, hg, hm, _, _⟩ := blt_of O k1
    obtain ⟨pg, rfl, hg2, hm2, _, _⟩ := blt_of O k2
    exact PE.imp (pe_lenSetT O.calm hg hm hg2 hm2 ha (star1 k3 _ _)) fun σ H Q q => (le_op1 q).mono fun v H1 r => lenset_D r
  · split at h <;> cases h
    rename_i k
    exact PE.imp (pe_back ha k) fun σ H Q q => (le_op1 q).mono fun v H1 r => by
      obtain ⟨be, mu, x, Qd, S, dx, r, kq⟩ := r
      cases x <;> simp only [w1] at r
      case tup xs =>
        simp only [IsD] at dx
        obtain ⟨a, vs, rfl, q, i⟩ := dx
        exact ⟨a, vs, rfl, .inr ⟨q, fun p hp => kq.tup S i.rev r hp⟩⟩
      case ref m =>
        obtain ⟨a, vs, xs, rfl, _, _, h1, i, r⟩ := lst_of S dx r
        exact ⟨a, vs, rfl, .inl ⟨SqL.of h1, rfl, fun p hp => kq.lst S i.rev r hp⟩⟩
  · split at h <;> cases h
    rename_i k
    exact PE.imp (pe_back ha k) fun σ H Q q => (le_op1 q).mono fun v H1 r => by
      obtain ⟨be, mu, x, Qd, S, dx, r, kq⟩ := r
      cases x <;> simp only [w1] at r
      case tup xs =>
        simp only [IsD] at dx
        obtain ⟨a, vs, rfl, q, i⟩ := dx
        exact ⟨a, vs, rfl, .inr ⟨q, fun p hp => kq.tup S (i.drop 1).rev r hp⟩⟩
  · split at h <;> cases h
    rename_i k
    exact call1T O (dictc_D O.calm) (by decide +kernel) k ha
  · split at h <;> cases h
    rename_i k
    simp only [Bool.and_eq_true, decide_eq_true_eq] at k
    obtain ⟨⟨rfl, k1⟩, k2⟩ := k
    refine PE.imp (pe_m0 PySem.F.slot_str_upper PySem.F.type_str_upper (upper_D (CT := CT)) ha (base_of k1) k2) fun σ H Q q => ?_
    refine (le_op1 q).mono fun v H1 r => ⟨?_, rfl, v, rfl, r⟩
    obtain ⟨be, mu, x, Qd, S, dx, r, kq⟩ := r
    cases x <;> simp only [w1] at r
    simp only [IsD] at dx
    exact ⟨_, dx⟩
  · split at h <;> cases h
    rename_i k
    simp only [Bool.and_eq_true, decide_eq_true_eq] at k
    obtain ⟨⟨⟨k1, k2⟩, k3⟩, k4⟩ := k
    obtain ⟨pf, rfl, hg, hm, hd, hn⟩ := blt_of O k1
    obtain ⟨j, hj, e⟩ := Option.map_eq_some_iff.mp k4
    subst e
    obtain ⟨hlt, hx, _⟩ := List.findIdx?_eq_some_iff_getElem.mp hj
    have hx := eq_of_beq hx
    have hjx := List.getElem?_eq_getElem hlt
    rw [hx] at hjx
    obtain ⟨g1, g2, _⟩ := gl_of O k3
    refine PE.imp (pe_callB (isx_D (CT := CT) Kp hjx) hg hm PyProof.Rows.boot_isinstance (pa_cons ha (pa_cons (pe_glob (v := V.ref (CT.c j)) g1 (Kp.mgE j _ hjx) rfl g2) pa_nil rfl) (star1 k2 _ _)) hn hd (star1 k2 _ _) rfl) fun σ H Q q => ?_
    exact (le_op1 q).mono fun v H1 r => ⟨v, rfl, r⟩
  · split at h <;> cases h
    rename_i k
    simp only [Bool.and_eq_true, decide_eq_true_eq] at k
    obtain ⟨⟨⟨k1, k2⟩, k3⟩, rfl⟩ := k
    obtain ⟨pf, rfl, hg, hm, hd, hn⟩ := blt_of O k1
    obtain ⟨py, ey, hg2, hm2, _, _⟩ := blt_of O k3
    cases ey
    refine PE.imp (pe_callB (isv_D (CT := CT) Kp) hg hm PyProof.Rows.boot_isinstance (pa_cons ha (pa_cons (pe_veN hg2 hm2) pa_nil rfl) (star1 k2 _ _)) hn hd (star1 k2 _ _) rfl) fun σ H Q q => ?_
    exact (le_op1 q).mono fun v H1 r => ⟨v, rfl, r⟩
  · split at h <;> cases h
    rename_i k
    simp only [Bool.and_eq_true, decide_eq_true_eq] at k
    obtain ⟨⟨⟨⟨k1, k2⟩, k3⟩, k3'⟩, k4⟩ := k
    obtain ⟨pf, rfl, hg, hm, hd, hn⟩ := blt_of O k1
    obtain ⟨i, hi, e⟩ := Option.bind_eq_some_iff.mp k4
    obtain ⟨j, hj, e⟩ := Option.map_eq_some_iff.mp e
    subst e
    obtain ⟨hlt, hx, _⟩ := List.findIdx?_eq_some_iff_getElem.mp hi
    have hx := eq_of_beq hx
    have hix := List.getElem?_eq_getElem hlt
    rw [hx] at hix
    obtain ⟨hlt2, hx2, _⟩ := List.findIdx?_eq_some_iff_getElem.mp hj
    have hx2 := eq_of_beq hx2
    have hjx := List.getElem?_eq_getElem hlt2
    rw [hx2] at hjx
    obtain ⟨g1, g2, _⟩ := gl_of O k3
    obtain ⟨g1', g2', _⟩ := gl_of O k3'
    refine PE.imp (pe_callB (isxt_D (CT := CT) Kp hix hjx) hg hm PyProof.Rows.boot_isinstance (pa_cons ha (pa_cons (pe_tup (pa_cons (pe_glob (v := V.ref (CT.c i)) g1 (Kp.mgE i _ hix) rfl g2) (pa_cons (pe_glob (v := V.ref (CT.c j)) g1' (Kp.mgE j _ hjx) rfl g2') pa_nil rfl) rfl)) pa_nil rfl) (star1 k2 _ _)) hn hd (star1 k2 _ _) rfl) fun σ H Q q => ?_
    exact (le_op1 q).mono fun v H1 r => ⟨(show (2 : Nat) ≤ 16777216 by decide), fun p np => ⟨v, p, rfl, upd_same, r1_new np r⟩⟩
  · split at h <;> cases h
    rename_i k
    exact call1 O (sortd_D O.calm) (by decide +kernel) k ha
  · split at h <;> cases h
    rename_i k
    exact call1 O (reprd_D O.hg (by omega)) (by decide +kernel) k ha
  · split at h <;> cases h
    rename_i k
    simp only [Bool.and_eq_true, decide_eq_true_eq] at k
    obtain ⟨⟨⟨rfl, k2⟩, k3⟩, rfl⟩ := k
    exact PE.imp (pe_kf ha (base_of k2)) fun σ H Q q => (le_op1 q).mono fun v H1 r => fld_D (CT := CT) Kp k3 r
  · cases h
/-- a two-place operation -/
theorem snd2 (O : XO n sc0 sc X) (C : CtOk CT X) (o : O2) {e a b : Expr} {c d : CE} (h : sh2 n sc o e = some (a, b)) (ha : PE X a (LE G X.K CT W c)) (hb : PE X b (LE G X.K CT W d)) : PE X e (LE G X.K CT W (.op2 o c d)) := by
  unfold sh2 at h
  have hu := O.hu
  have ls : ∀ {a : Expr} {m : Str} {id : String} {o : O2} {b : Expr} {p q : Pos} (slot : Slot "list" m id) (hty : typeOf (.builtin id) = pure (.type "method_descriptor")) (hm : MtR X id (fun v us H Q => ∃ u, us = [u] ∧ R2D X.K CT o v u H Q))
      (hp : ∀ v H, Pre2 X.K CT o v H → tyV X.K "list" v H) (ha : PE X a (LE G X.K CT W c)) (hb : PE X b (LE G X.K CT W d)), (plainB a && sameLine p q && nst b) = true → PE X (.Call (.Attribute a m p) [b] [] q) (LE G X.K CT W (.op2 o c d)) :=
    fun {a m id o b p q} slot hty hm hp ha hb k => by
      simp only [Bool.and_eq_true] at k
      obtain ⟨⟨k1, k2⟩, k3⟩ := k
      refine PE.imp (pe_bm PySem.F.plainAttrs_list slot hty hm ha (pa_cons hb pa_nil (star1 k3 _ _)) (base_of k1) (by rw [star1 k3]; rfl) k2 (star1 k3 _ _) rfl) fun σ H Q r => ?_
      exact (le_meth2 r).mono fun v H1 r => ⟨hp v H1 r.1, LE.mono r.2 fun u H2 r => ⟨u, rfl, r⟩⟩
  have isl : ∀ (v : V) (H : Hp) (o : O2), (∀ x mu, pre2 o x mu → ∃ m, x = .ref m ∧ lstAt mu m fun _ => True) → Pre2 X.K CT o v H → tyV X.K "list" v H := fun v H o k ⟨be, mu, x, S, dx, r⟩ => by
    obtain ⟨m, rfl, r1⟩ := k x mu r
    obtain ⟨a, vs, xs, rfl, _, _, h1, _⟩ := lst_of S dx r1
    exact .inl ⟨rfl, vs, SqL.of h1⟩
  have hl : ∀ (x : D) (mu : Store), (match x with | .ref n => lstAt mu n fun _ => True | _ => False) → ∃ m, x = .ref m ∧ lstAt mu m fun _ => True := fun x mu r => by
    cases x <;> simp only at r
    case ref m => exact ⟨m, rfl, r⟩
  split at h
  · cases h; exact PE.imp (pe_op add_D ha hb) fun σ H Q q => le_op2 q
  · cases h; exact PE.imp (pe_op sub_D ha hb) fun σ H Q q => le_op2 q
  · cases h; exact PE.imp (pe_op mul_D ha hb) fun σ H Q q => le_op2 q
  · cases h; exact PE.imp (pe_op fdiv_D ha hb) fun σ H Q q => le_op2 q
  · cases h; exact PE.imp (pe_op mod_D ha hb) fun σ H Q q => le_op2 q
  · cases h; exact PE.imp (pe_op pow_D ha hb) fun σ H Q q => le_op2 q
  · cases h; exact PE.imp (pe_cmpR (eq_D (by omega)) ha hb (nomark _)) fun σ H Q q => le_op2 q
  · cases h; exact PE.imp (pe_cmpR (ne_D (by omega)) ha hb (nomark _)) fun σ H Q q => le_op2 q
  · cases h; exact PE.imp (pe_cmpR (eqd_D (by omega)) ha hb (nomark _)) fun σ H Q q => le_op2 q
  · cases h; exact PE.imp (pe_cmpR (ned_D (by omega)) ha hb (nomark _)) fun σ H Q q => le_op2 q
  · cases h; exact PE.imp (pe_cmpR lt_D ha hb (nomark _)) fun σ H Q q => le_op2 q
  · cases h; exact PE.imp (pe_cmpR le_D ha hb (nomark _)) fun σ H Q q => le_op2 q
  · cases h; exact PE.imp (pe_cmpR gt_D ha hb (nomark _)) fun σ H Q q => le_op2 q
  · cases h; exact PE.imp (pe_cmpR ge_D ha hb (nomark _)) fun σ H Q q => le_op2 q
  · split at h <;> cases h
    rename_i k
    exact PE.imp (pe_cmpR (in_D (by omega) C) ha hb (nset_mark k)) fun σ H Q q => le_op2 q
  · split at h <;> cases h
    rename_i k
    exact PE.imp (pe_cmpR (nin_D (by omega) C) ha hb (nset_mark k)) fun σ H Q q => le_op2 q
  · split at h <;> cases h
    rename_i k
    exact call2 O (max_D O.calm) (by decide +kernel) k ha hb
  · split at h <;> cases h
    rename_i k
    exact call2 O (min_D O.calm) (by decide +kernel) k ha hb
  · split at h <;> cases h
    rename_i k
    exact PE.imp (pe_ix (ix_D (by omega) C) ha hb (ix_of k)) fun σ H Q q => le_op2 q
  · split at h <;> cases h
    rename_i k
    simp only [Bool.and_eq_true, decide_eq_true_eq] at k
    obtain ⟨⟨⟨rfl, k1⟩, k2⟩, k3⟩ := k
    exact ls PySem.F.slot_list_append PySem.F.type_list_append append_D (fun v H q => isl v H .append (fun x mu r => hl x mu r) q) ha hb (by simp [k1, k2, k3])
  · split at h <;> cases h
    rename_i k
    simp only [Bool.and_eq_true, decide_eq_true_eq] at k
    obtain ⟨⟨⟨rfl, k1⟩, k2⟩, k3⟩ := k
    exact ls PySem.F.slot_list_extend PySem.F.type_list_extend extend_D (fun v H q => isl v H .extend (fun x mu r => hl x mu r) q) ha hb (by simp [k1, k2, k3])
  · split at h <;> cases h
    rename_i k
    simp only [Bool.and_eq_true] at k
    obtain ⟨⟨⟨k1, k2⟩, k3⟩, k4⟩ := k
    obtain ⟨pf, rfl, hg, hm, _, _⟩ := blt_of O k1
    obtain ⟨pg, rfl, hg2, hm2, _, _⟩ := blt_of O k2
    exact PE.imp (pe_listRg O.calm hg hm (prg_2 hg2 hm2 ha hb (star1 k3 _ _) (star1 k4 _ _) (star_any (by simp [k4])))) fun σ H Q q => (LE.mono (le_op2 q) fun v H1 r => LE.mono r fun u H2 r => lrng2_D r)
  · split at h <;> cases h
    rename_i k
    simp only [Bool.and_eq_true] at k
    obtain ⟨⟨⟨k1, k2⟩, k3⟩, k4⟩ := k
    obtain ⟨pf, rfl, hg, hm, _, _⟩ := blt_of O k1
    obtain ⟨pg, rfl, hg2, hm2, _, _⟩ := blt_of O k2
    exact PE.imp (pe_tupRg O.calm hg hm (prg_2 hg2 hm2 ha hb (star1 k3 _ _) (star1 k4 _ _) (star_any (by simp [k4])))) fun σ H Q q => (LE.mono (le_op2 q) fun v H1 r => LE.mono r fun u H2 r => trng2_D r)
  · split at h <;> cases h
    rename_i k
    simp only [Bool.and_eq_true, decide_eq_true_eq] at k
    obtain ⟨⟨⟨rfl, k1⟩, k2⟩, k3⟩ := k
    exact ls PySem.F.slot_list_pop PySem.F.type_list_pop popAt_D (fun v H q => isl v H .popAt (fun x mu r => hl x mu r) q) ha hb (by simp [k1, k2, k3])
  · split at h <;> cases h
    rename_i k
    simp only [Bool.and_eq_true, decide_eq_true_eq] at k
    obtain ⟨⟨⟨rfl, k1⟩, k2⟩, k3⟩ := k
    refine PE.imp (pe_mU PySem.F.plainAttrs_dict PySem.F.slot_dict_get PySem.F.type_dict_get (isDV_type C) (r := fun v us H Q => ∃ u, us = [u] ∧ R2D X.K CT .get1 v u H Q) (fun pins s σ H x xs v us Q I rx ru ⟨u, e, be, mu, xd, y, Qd, S, dx, dy, h, kq⟩ => by
      subst e
      obtain ⟨u1, rfl, r1⟩ := vals1 ru
      exact get1_run (by omega) I C S dx dy rx r1 h kq) ha (pa_cons hb pa_nil (star1 k3 _ _)) (base_of k1) (by rw [star1 k3]; rfl) k2 (star1 k3 _ _) rfl) fun σ H Q r => ?_
    refine (le_meth2 r).mono fun v H1 r => ⟨?_, LE.mono r.2 fun u H2 r => ⟨u, rfl, r⟩⟩
    obtain ⟨⟨be, mu, x, S, dx, p⟩, _⟩ := r
    cases x <;> simp only [pre2] at p
    exact ⟨be, mu, _, S, dx, p⟩
  · split at h <;> cases h
    rename_i k
    simp only [Bool.and_eq_true, decide_eq_true_eq] at k
    obtain ⟨⟨⟨rfl, k1⟩, k2⟩, k3⟩ := k
    refine PE.imp (pe_mU PySem.F.plainAttrs_dict PySem.F.slot_dict_update PySem.F.type_dict_update (isDV_type C) (r := fun v us H Q => ∃ u, us = [u] ∧ R2D X.K CT .update v u H Q) (fun pins s σ H x xs v us Q I rx ru ⟨u, e, be, mu, xd, y, Qd, S, dx, dy, h, kq⟩ => by
      subst e
      obtain ⟨u1, rfl, r1⟩ := vals1 ru
      exact update_run I S dx dy rx r1 h kq) ha (pa_cons hb pa_nil (star1 k3 _ _)) (base_of k1) (by rw [star1 k3]; rfl) k2 (star1 k3 _ _) rfl) fun σ H Q r => ?_
    refine (le_meth2 r).mono fun v H1 r => ⟨?_, LE.mono r.2 fun u H2 r => ⟨u, rfl, r⟩⟩
    obtain ⟨⟨be, mu, x, S, dx, p⟩, _⟩ := r
    cases x <;> simp only [pre2] at p
    exact ⟨be, mu, _, S, dx, p⟩
  · split at h <;> cases h
    rename_i k
    exact PE.imp (pe_cmpR (ind_D (by omega)) ha hb (nset_mark k)) fun σ H Q q => le_op2 q
  · split at h <;> cases h
    rename_i k
    exact PE.imp (pe_cmpR (nind_D (by omega)) ha hb (nset_mark k)) fun σ H Q q => le_op2 q
  · split at h <;> cases h
    rename_i k
    simp only [Bool.and_eq_true, decide_eq_true_eq] at k
    obtain ⟨⟨⟨rfl, k1⟩, k2⟩, k3⟩ := k
    exact ls PySem.F.slot_list_index PySem.F.type_list_index (index_D (by omega)) (fun v H q => isl v H .index (fun x mu r => hl x mu r) q) ha hb (by simp [k1, k2, k3])
  · split at h <;> cases h
    rename_i k
    simp only [Bool.and_eq_true, decide_eq_true_eq] at k
    obtain ⟨⟨⟨rfl, k1⟩, k2⟩, k3⟩ := k
    exact ls PySem.F.slot_list_count PySem.F.type_list_count (count_D (by omega)) (fun v H q => isl v H .count (fun x mu r => hl x mu r) q) ha hb (by simp [k1, k2, k3])
  · split at h <;> cases h
    rename_i k
    simp only [Bool.and_eq_true, decide_eq_true_eq] at k
    obtain ⟨⟨⟨rfl, k1⟩, k2⟩, k3⟩ := k
    refine PE.imp (pe_m1 PySem.F.slot_str_join PySem.F.type_str_join (join_D (CT := CT)) ha hb (star1 k3 _ _) (base_of k1) k2) fun σ H Q r => ?_
    refine (le_meth2 r).mono fun v H1 r => ⟨?_, LE.mono r.2 fun u H2 r => ⟨u, rfl, r⟩⟩
    obtain ⟨⟨be, mu, x, S, dx, p⟩, _⟩ := r
    cases x <;> simp only [pre2] at p
    simp only [IsD] at dx
    exact ⟨_, dx⟩
  · cases h
/-- a three-place operation -/
theorem snd3 (O : XO n sc0 sc X) (C : CtOk CT X) (o : O3) {e a b c : Expr} {ca cb cc : CE} (h : sh3 o e = some (a, b, c)) (ha : PE X a (LE G X.K CT W ca)) (hb : PE X b (LE G X.K CT W cb)) (hc : PE X c (LE G X.K CT W cc)) : PE X e (LE G X.K CT W (.op3 o ca cb cc)) := by
  unfold sh3 at h
  have hu := O.hu
  split at h
  · split at h <;> cases h
    rename_i k
    simp only [Bool.and_eq_true, decide_eq_true_eq] at k
    obtain ⟨⟨⟨⟨rfl, k1⟩, k2⟩, k3⟩, k4⟩ := k
    refine PE.imp (pe_mU PySem.F.plainAttrs_dict PySem.F.slot_dict_get PySem.F.type_dict_get (isDV_type C) (r := fun v us H Q => ∃ u w, us = [u, w] ∧ R3D X.K CT .get2 v u w H Q) (fun pins s σ H x xs v us Q I rx ru ⟨u, w, e, be, mu, xd, y, z, Qd, S, dx, dy, dz, h, kq⟩ => by
      subst e
      obtain ⟨u1, u2, rfl, r1, r2⟩ := vals2 ru
      exact get2_run (by omega) I C S dx dy dz rx r1 r2 h kq) ha (pa_cons hb (pa_cons hc pa_nil (star1 k4 _ _)) (star1 k3 _ _)) (base_of k1) (by rw [star1 k3, star1 k4]; rfl) k2 (star1 k3 _ _) (star_any (by simp [k4]))) fun σ H Q r => ?_
    exact le_meth3 r
  · split at h <;> cases h
    rename_i k
    simp only [Bool.and_eq_true, decide_eq_true_eq] at k
    obtain ⟨⟨⟨⟨rfl, k1⟩, k2⟩, k3⟩, k4⟩ := k
    refine PE.imp (pe_mU PySem.F.plainAttrs_dict PySem.F.slot_dict_setdefault PySem.F.type_dict_setdefault (isDV_type C) (r := fun v us H Q => ∃ u w, us = [u, w] ∧ R3D X.K CT .setd v u w H Q) (fun pins s σ H x xs v us Q I rx ru ⟨u, w, e, be, mu, xd, y, z, Qd, S, dx, dy, dz, h, kq⟩ => by
      subst e
      obtain ⟨u1, u2, rfl, r1, r2⟩ := vals2 ru
      exact setd_run (by omega) I C S dx dy dz rx r1 r2 h kq) ha (pa_cons hb (pa_cons hc pa_nil (star1 k4 _ _)) (star1 k3 _ _)) (base_of k1) (by rw [star1 k3, star1 k4]; rfl) k2 (star1 k3 _ _) (star_any (by simp [k4]))) fun σ H Q r => ?_
    exact le_meth3 r
  · cases h
theorem chain_op (O : XO n sc0 sc X) {o : O2} {op : CmpOp} (h : shC o = some op) : OpR X (compareOp op) (R2D X.K CT o) ∧ op ≠ .In ∧ op ≠ .NotIn := by
  have hu := O.hu
  unfold shC at h
  split at h <;> cases h
  · exact ⟨lt_D, by decide, by decide⟩
  · exact ⟨le_D, by decide, by decide⟩
  · exact ⟨gt_D, by decide, by decide⟩
  · exact ⟨ge_D, by decide, by decide⟩
  · exact ⟨eq_D (by omega), by decide, by decide⟩
  · exact ⟨ne_D (by omega), by decide, by decide⟩
  · exact ⟨eqd_D (by omega), by decide, by decide⟩
  · exact ⟨ned_D (by omega), by decide, by decide⟩
end
end MP
namespace MP
open PySem PySem.Spec PyProof.Rows L2
/-- the tuple at a, each item in a new pair with its number -/
def IteT (K : PySem.W.Frag) (a : Addr) : It :=
  ⟨fun i H => ∃ (xs : List V) (x : V), SqT K H a xs ∧ xs[i]? = some x, fun i H v H' => ∃ T x, v = .ref T ∧ H T = none ∧ H' = upd H T (.tup [.int (i : Nat), x]) ∧ ∀ xs, SqT K H a xs → xs[i]? = some x, fun i H => ∃ xs : List V, SqT K H a xs ∧ xs.length ≤ i⟩
theorem turn_enumT {P : Program} {w : World} {K : PySem.W.Frag} {elts : List Expr} {kk : Nat} {tpos : Pos} (a e it : Addr) :
    Turn P w K (.Tuple elts kk tpos) (IteT K a) [e, it] e (fun i h => (∃ old, IsEnum h e it ((i : Nat) : Int) old) ∧ h.IsTupleIter it a i ∧ e ≠ it) where
  mem := List.mem_cons_self
  obj := fun i h ⟨⟨old, he⟩, ⟨o, ho, hc, hd⟩, _⟩ b hb => by
    rcases List.mem_cons.mp hb with rfl | hb
    · exact ⟨_, he, fun v q => nomatch q⟩
    · have : b = it := by simpa using hb
      subst this
      exact ⟨o, ho, fun v q => by rw [hd] at q; cases q⟩
  keep := fun i h h' ⟨⟨old, he⟩, hi, hne⟩ k => ⟨⟨old, k e List.mem_cons_self _ he⟩, hi.at fun o q => k it (by simp) o q, hne⟩
  item := by
    rintro X rfl rfl rfl hc i pins s σ H E I hf ⟨⟨old, he⟩, hit, hne⟩ ⟨xs, x, hq, hx⟩
    obtain ⟨its, rv, p, hz⟩ := I.tuple hq
    obtain ⟨u, hu, ru⟩ := rv.get hx
    have hT : s.heap.IsTuple a its.toArray := let ⟨o, h1, h2, h3⟩ := p; ⟨o, h1, h2, h3⟩
    have ai : a ≠ it := fun z => by
      subst z
      obtain ⟨o, h1, h2, _⟩ := p
      obtain ⟨o', h1', h2', _⟩ := hit
      rw [h1] at h1'; cases h1'
      rw [h2] at h2'
      exact absurd (Value.type.inj h2') (by decide)
    have ae : e ≠ a := fun z => by
      subst z
      obtain ⟨o, h1, h2, _⟩ := p
      rw [he] at h1; cases h1
      exact absurd (Value.type.inj h2) (by decide)
    have hel : e < s.heap.objs.size := Heap.lt_size he
    have hil : it < s.heap.objs.size := by obtain ⟨_, q, _⟩ := hit; exact Heap.lt_size q
    have hi : i < its.toArray.size := by simpa using (List.getElem?_eq_some_iff.mp hu).1
    refine wpAny_pyNext_enum_itemD (Draws.tuple (A := X.A.in1) (I.ok.hd hc) it a ai its.toArray) he ⟨hit, hT⟩ hi hne (by simp [hne, ae]) fun y h' tk ey ho st' hTup hsz hk => ?_
    have : y = u := by
      have : its[i]? = some y := by simpa using ey
      rw [hu] at this
      exact (Option.some.inj this).symm
    subst this
    refine ⟨_, rfl, wpAny_letOwnedTupleGo_enum (s := { s with heap := h', toks := tk + 1 }) ho fun h'' he' sb => ?_⟩
    have new2 := (sb.2 _ (Nat.ne_of_gt hel)).trans hTup
    have laid : ObjOk X.prog X.w (upd H s.heap.objs.size (.tup [.int (i : Nat), x])) h'' s.heap.objs.size (.tup [.int (i : Nat), x]) :=
      ⟨show 2 ≤ sizeLine by decide, [.int i tk, y], .cons ⟨_, rfl⟩ (.cons ru .nil), ⟨_, new2, rfl, _, rfl⟩⟩
    have I1 : Inv X pins σ (upd H s.heap.objs.size (.tup [.int (i : Nat), x])) { s with heap := h'', toks := tk + 1 } :=
      I.turnedNew (ch := [e, it]) (fun b ob hb q => (sb.2 b (fun z => hb (by simp [z]))).trans (hk b ob (fun z => hb (by simp [z])) (fun z => hb (by simp [z])) q)) hf (Nat.le_refl _) laid
    refine ⟨.ref s.heap.objs.size, _, I1, rfl, ⟨_, x, rfl, I.hok.fresh (Nat.le_refl _), rfl, fun ys hy => by rw [I.tuple_inj hy hq]; exact hx⟩, ⟨⟨y, ?_⟩, st'.1.at fun o q => (sb.2 it (Ne.symm hne)).trans q, hne⟩, fun b hb => ?_⟩
    · have e1 : ((i + 1 : Nat) : Int) = (i : Int) + 1 := by omega
      rw [e1]; exact he'
    · have hlt : b < s.heap.objs.size := by
        rcases List.mem_cons.mp hb with rfl | hb
        · exact hel
        · have : b = it := by simpa using hb
          subst this
          exact hil
      rw [upd_ne (Nat.ne_of_lt hlt)]
      exact (hf b hb).1
  done := by
    rintro X rfl rfl rfl hc i pins s σ H E I hf ⟨⟨old, he⟩, hit, hne⟩ ⟨xs, hq, hx⟩
    obtain ⟨its, rv, p, hz⟩ := I.tuple hq
    obtain ⟨f0, f1, f2, f3, f4, f5⟩ := hf it (by simp)
    have hT : s.heap.IsTuple a its.toArray := let ⟨o, h1, h2, h3⟩ := p; ⟨o, h1, h2, h3⟩
    have hl := rv.length
    have hh : X.A.in1.handled = none := I.ok.hd hc
    unfold pyNext
    have tyE : s.TypeIs (.ref e) "enumerate" := ⟨_, he, rfl⟩
    refine wpAny_bind (wpAny_attempt (wpAny_callSpecial?_slot (name := Str.ofString "__next__") tyE F.slot_enumerate_next
      (wpAny_call_entry F.slot_enumerate_next tyE F.entry_enumerate_next ?_ (F.args_enumerate_next_1 _))))
    show wpAny _ _ (field (.ref e) 2 >>= _) _ _ _
    refine wpAny_bind (wpAny_field he rfl (x := .ref it) rfl ?_)
    refine wpAny_bind (wpAny_nextOf_tuple_end hh hit hT (by simp; omega) fun h' y hy hx' => ?_)
    obtain ⟨o, ho, hcl⟩ := hx'
    refine wpAny_bind (wpAny_isInstance (T := "StopIteration") (b := true) ⟨o, ho, hcl⟩ isSubtype_stop ?_)
    exact wpAny_pure ⟨rfl, I.turned (t' := s.toks) (fun b o hb q => hy b o hb q) f0 f1 f3 f4 f5⟩
  self := fun A i s Q E ⟨⟨_, he⟩, _⟩ h => wpAny_pyIter_enum he h
theorem meets_enumT (t : Addr) (items : Array Value) :
    Meets (Builtin.«enumerate.__new__» ⟨[.type "enumerate", .ref t], []⟩) (fun _ R s => s.heap.IsTuple t items ∧
      R (.ok (.ret (.ref (s.heap.push { cls := .type "tuple_iterator", data := .fields #[.ref t, .int 0 0] }).objs.size)))
        { s with heap := (s.heap.push { cls := .type "tuple_iterator", data := .fields #[.ref t, .int 0 0] }).push { cls := .type "enumerate", data := .fields #[.none, .bool false, .ref s.heap.objs.size, rawInt 0, .none, .none] } }) :=
  .of_wp fun prog w A R s h => by
    obtain ⟨hp, g, d, tk, os⟩ := s
    obtain ⟨hL, h⟩ := h
    have hsub := sub_enumerate
    have tyT : (Shared.mk hp g d tk os).TypeIs (.ref t) "tuple" := let ⟨o, h1, h2, _⟩ := hL; ⟨o, h1, h2⟩
    wp_walk using wpAny_pyIter_tuple hL
    refine wpAny_stack_any fun st => wpAny_pure ?_
    split
    · rename_i c _ _ _ _ _
      cases (c == Value.type "enumerate")
      · wp_walk using wpAny_pyIter_tuple hL
        exact ⟨_, rfl, h⟩
      · wp_walk using wpAny_pyIter_tuple hL
        exact ⟨_, rfl, h⟩
    · wp_walk using wpAny_pyIter_tuple hL
      exact ⟨_, rfl, h⟩
section
variable {prog : Program} {w : World} {A : Around} {E : Value → Shared → Prop} {s : Shared}
theorem call_enumT {t : Addr} {items : Array Value} {Q : Value → Shared → Prop} (hL : s.heap.IsTuple t items)
    (h : ∀ h', IsEnum h' (s.heap.objs.size + 1) s.heap.objs.size 0 .none → h'.IsTupleIter s.heap.objs.size t 0 → h'.objs.size = s.heap.objs.size + 2 → (∀ b o, s.heap.get? b = some o → h'.get? b = some o) → Q (.ref (s.heap.objs.size + 1)) { s with heap := h' }) :
    wpAny (model prog w) A (call (.type "enumerate") [.ref t]) Q E s := by
  refine callType_new F.called_enumerate (by decide) (F.typeCall_enumerate_1 _) (F.newCall_enumerate_1 _) (fun obj => F.args_object_init_2 obj _) F.entry_enumerate_new (meets_enumT t items) ⟨hL, ?_⟩
  have hz : (s.heap.push { cls := .type "tuple_iterator", data := .fields #[.ref t, .int 0 0] }).objs.size = s.heap.objs.size + 1 := Heap.size_push ..
  show _ ∧ _
  rw [hz]
  have he : IsEnum ((s.heap.push { cls := .type "tuple_iterator", data := .fields #[.ref t, .int 0 0] }).push { cls := .type "enumerate", data := .fields #[.none, .bool false, .ref s.heap.objs.size, rawInt 0, .none, .none] }) (s.heap.objs.size + 1) s.heap.objs.size 0 .none := by
    have := Heap.get?_push_size (s.heap.push { cls := .type "tuple_iterator", data := .fields #[.ref t, .int 0 0] }) (o := { cls := .type "enumerate", data := .fields #[.none, .bool false, .ref s.heap.objs.size, rawInt 0, .none, .none] }) rfl
    rw [hz] at this
    exact this
  refine ⟨⟨_, he, rfl⟩, h _ he ⟨_, Heap.get?_push_of_some _ (Heap.get?_push_size _ rfl), rfl, rfl⟩ (by rw [Heap.size_push, hz]) fun b o x => Heap.get?_push_of_some _ (Heap.get?_push_of_some _ x)⟩
end
theorem pi_enumA {X : Cx} {e : Expr} {ta : TA} {p pos tpos : Pos} {elts : List Expr} {kk : Nat} (hg : Gl X "enumerate") (hm : X.mg "enumerate" = none) (ha : PA X [e] ta) (hs : starEach [e] X.env = [(false, eval e X.env)]) :
    PI X (.Tuple elts kk tpos) (.Call (.Name "enumerate" p) [e] [] pos) (fun σ H R => ta σ H fun vs H1 => ∃ a xs, vs = [.ref a] ∧ ((SqL X.K H1 a xs ∧ (xs.length ≤ sizeLine → R (Ite X.K a) H1)) ∨ (SqT X.K H1 a xs ∧ (xs.length ≤ sizeLine → R (IteT X.K a) H1)))) := by
  refine ⟨fun pins s σ H R I h => ?_⟩
  refine Call_ (ld_blt I hg hm PyProof.Rows.boot_enumerate (PyProof.Rows.callWith_type1 (thn (ha.run pos pins s σ H _ I h) fun us s1 ⟨vs, H1, I1, r1, q1⟩ => ?_) hs rfl))
  obtain ⟨a, xs, ex, q⟩ := q1
  subst ex
  cases r1 with
  | cons r rr =>
    cases rr
    cases r
    have fp : ∀ b, b ∈ [s1.heap.objs.size + 1, s1.heap.objs.size] → FpOk X pins H1 b := fun b hb => by
      have : s1.heap.objs.size ≤ b := by
        rcases List.mem_cons.mp hb with rfl | hb
        · omega
        · have : b = s1.heap.objs.size := by simpa using hb
          omega
      exact I1.fpOk this (I1.hok.fresh this)
    rcases q with ⟨hq, q⟩ | ⟨hq, q⟩
    · obtain ⟨its, rv, p', hz⟩ := I1.list hq
      refine call_enumerate_list p'.isList fun h' he hit hsz hk => wpAny_pyIter_enum he ?_
      have I2 : Inv X pins σ H1 { s1 with heap := h' } := I1.kept (t' := s1.toks) hk
      exact ⟨s1.heap.objs.size + 1, [s1.heap.objs.size + 1, s1.heap.objs.size], _, _, H1, rfl, I2, turn_enum a (s1.heap.objs.size + 1) s1.heap.objs.size, ⟨⟨.none, he⟩, hit, Nat.succ_ne_self _⟩, fp, q hz⟩
    · obtain ⟨its, rv, p', hz⟩ := I1.tuple hq
      refine call_enumT (show s1.heap.IsTuple a its.toArray from p') fun h' he hit hsz hk => wpAny_pyIter_enum he ?_
      have I2 : Inv X pins σ H1 { s1 with heap := h' } := I1.kept (t' := s1.toks) hk
      exact ⟨s1.heap.objs.size + 1, [s1.heap.objs.size + 1, s1.heap.objs.size], _, _, H1, rfl, I2, turn_enumT a (s1.heap.objs.size + 1) s1.heap.objs.size, ⟨⟨.none, he⟩, hit, Nat.succ_ne_self _⟩, fp, q hz⟩
end MP
namespace MP
open PySem PySem.Spec PyProof.Rows L2
mutual
/-- the slots that a target binds -/
def CP.slots : CP → List Nat
  | .name i => [i]
  | .tup ps => CP.slotss ps
def CP.slotss : List CP → List Nat
  | [] => []
  | p :: ps => p.slots ++ CP.slotss ps
end
mutual
def mP (n : Nm) (sc0 : Scope) : CP → Expr → Bool
  | .name i, .Name x _ => decide (n.N[i]? = some x) && locB sc0 x
  | .tup ps, .Tuple es _ _ => mPs n sc0 ps es
  | _, _ => false
def mPs (n : Nm) (sc0 : Scope) : List CP → List Expr → Bool
  | [], [] => true
  | p :: ps, e :: es => mP n sc0 p e && mPs n sc0 ps es
  | _, _ => false
end
theorem wipe_get (vs : List Nat) (sg : L2.St) (j : Nat) : (wipe sg vs)[j]? = if j ∈ vs then sg[j]?.map fun _ => none else sg[j]? := by
  induction vs with
  | nil => simp [wipe]
  | cons v r ih =>
    unfold wipe
    by_cases hv : v = j
    · subst hv
      rw [List.getElem?_set]
      simp only [if_pos rfl, List.mem_cons, true_or, if_true, wipe_length]
      by_cases hl : v < sg.length
      · rw [if_pos hl, List.getElem?_eq_getElem hl]; rfl
      · rw [if_neg hl, List.getElem?_eq_none (by omega)]; rfl
    · rw [List.getElem?_set_ne hv, ih]
      have : (j ∈ v :: r) ↔ j ∈ r := by simp [Ne.symm hv]
      by_cases hj : j ∈ r
      · rw [if_pos hj, if_pos (this.mpr hj)]
      · rw [if_neg hj, if_neg (fun z => hj (this.mp z))]
theorem wipe_set {vs : List Nat} {sg : L2.St} {i : Nat} {x : Option V} (h : i ∈ vs) : wipe (sg.set i x) vs = wipe sg vs := by
  apply List.ext_getElem?
  intro j
  rw [wipe_get, wipe_get]
  by_cases hj : j ∈ vs
  · rw [if_pos hj, if_pos hj, List.getElem?_set]
    by_cases hij : i = j
    · subst hij
      rw [if_pos rfl]
      by_cases hl : i < sg.length
      · rw [if_pos hl, List.getElem?_eq_getElem hl]; rfl
      · rw [if_neg hl, List.getElem?_eq_none (by omega)]
    · rw [if_neg hij]
  · rw [if_neg hj, if_neg hj, List.getElem?_set_ne (fun z => hj (by rw [← z]; exact h))]
theorem wipe_wipe (vs : List Nat) (sg : L2.St) : wipe (wipe sg vs) vs = wipe sg vs := by
  apply List.ext_getElem?
  intro j
  rw [wipe_get, wipe_get]
  by_cases hj : j ∈ vs
  · simp [hj, Option.map_map, Function.comp_def]
  · simp [hj]
theorem RepL.wiped {K : PySem.W.Frag} {H : Hp} {be : List Addr} {rh : Sl} {sg : L2.St} (h : RepL K H be rh sg) : ∀ vs : List Nat, RepL K H be (wipeD rh vs) (wipe sg vs)
  | [] => h
  | v :: r => (RepL.wiped h r).setNone
def LP (K : PySem.W.Frag) (p : CP) : TG := fun v sg H Q => ∃ be d rh rh', IsD K H be d v ∧ RepL K H be rh sg ∧ p.bind d rh = some rh' ∧
  ∀ sg', RepL K H be rh' sg' → (∀ vs, (∀ i ∈ p.slots, i ∈ vs) → wipe sg' vs = wipe sg vs) → Q sg' H
def LPs (K : PySem.W.Frag) (ps : List CP) : TGs := fun us sg H Q => ∃ be ds rh rh', IsDs K H be ds us ∧ RepL K H be rh sg ∧ CP.binds ps ds rh = some rh' ∧
  ∀ sg', RepL K H be rh' sg' → (∀ vs, (∀ i ∈ CP.slotss ps, i ∈ vs) → wipe sg' vs = wipe sg vs) → Q sg' H
section
variable {n : Nm} {sc0 sc : Scope} {X : Cx} {CT : Cls} {G : Ctx} {W : WX}
theorem PG.imp {e : Expr} {t u : TG} (h : PG X e t) (k : ∀ v σ H Q, u v σ H Q → t v σ H Q) : PG X e u := ⟨fun pins s σ H v w Q I r q => h.run pins s σ H v w Q I r (k _ _ _ _ q)⟩
theorem PGs.imp {e : List Expr} {t u : TGs} (h : PGs X e t) (k : ∀ v σ H Q, u v σ H Q → t v σ H Q) : PGs X e u := ⟨fun pins s σ H v w Q I r q => h.run pins s σ H v w Q I r (k _ _ _ _ q)⟩
theorem mP_nst {p : CP} {e : Expr} (h : mP n sc0 p e = true) : nst e = true := by
  cases p <;> cases e <;> first | rfl | simp [mP] at h
theorem mPs_all : ∀ {ps : List CP} {es : List Expr}, mPs n sc0 ps es = true → es.all nst = true ∧ es.length = ps.length
  | [], [], _ => ⟨rfl, rfl⟩
  | [], _ :: _, h => by simp [mPs] at h
  | _ :: _, [], h => by simp [mPs] at h
  | p :: ps, e :: es, h => by
    simp only [mPs, Bool.and_eq_true] at h
    obtain ⟨a, b⟩ := mPs_all h.2
    exact ⟨by rw [List.all_cons, mP_nst h.1, a]; rfl, by simp [b]⟩
theorem asg_cons {e : Expr} (h : nst e = true) (es : List Expr) (env : Env) : assignEach (e :: es) env = (false, assign e env) :: assignEach es env := by
  cases e <;> first | rfl | cases h
theorem asg_len : ∀ {es : List Expr} {env : Env}, es.all nst = true → (assignEach es env).length = es.length ∧ (assignEach es env).findIdx? (·.1) = none
  | [], _, _ => ⟨rfl, rfl⟩
  | e :: es, env, h => by
    rw [List.all_cons, Bool.and_eq_true] at h
    obtain ⟨a, b⟩ := asg_len (env := env) h.2
    rw [asg_cons h.1]
    refine ⟨by simp [a], ?_⟩
    rw [List.findIdx?_cons]
    simp [b]
mutual
theorem sndP (O : XO n sc0 sc X) : ∀ (p : CP) (e : Expr), mP n sc0 p e = true → PG X e (LP X.K p)
  | .name i, e, h => by
    cases e <;> simp only [mP] at h <;> try (cases h)
    rename_i x pos
    rw [Bool.and_eq_true, decide_eq_true_eq] at h
    obtain ⟨h1, h2⟩ := h
    obtain ⟨l1, l2⟩ := O.loc x h2
    refine PG.imp (pg_name (by rw [O.N]; exact O.nd) (by rw [O.N]; exact h1) (by rw [O.scp]; exact l1) (by rw [O.scp]; exact l2)) fun v σ H Q q => ?_
    obtain ⟨be, d, rh, rh', id, L, e, k⟩ := q
    simp only [CP.bind, Option.some.injEq] at e
    subst e
    exact k _ (L.set id) fun vs hv => wipe_set (hv i (by simp [CP.slots]))
  | .tup ps, e, h => by
    cases e <;> simp only [mP] at h <;> try (cases h)
    rename_i es kk pos
    obtain ⟨a, b⟩ := mPs_all h
    obtain ⟨c1, c2⟩ := asg_len (env := X.env) a
    refine PG.imp (pg_tup O.calm (sndPs O ps es h) (by rw [c1, b]) c2) fun v σ H Q q => ?_
    obtain ⟨be, d, rh, rh', id, L, e, k⟩ := q
    cases d <;> simp only [CP.bind] at e <;> try (cases e)
    rename_i xs
    simp only [IsD] at id
    obtain ⟨u, us, rfl, q, r⟩ := id
    have hl : us.length = ps.length := by
      rw [← r.len]
      have : ∀ (ps : List CP) (xs : List D) (rh rh' : Sl), CP.binds ps xs rh = some rh' → xs.length = ps.length := by
        intro ps
        induction ps with
        | nil => intro xs rh rh' e; cases xs <;> simp [CP.binds] at e ⊢
        | cons p ps ih =>
          intro xs rh rh' e
          cases xs with
          | nil => simp [CP.binds] at e
          | cons x xs =>
            simp only [CP.binds] at e
            split at e
            · simp [ih xs _ _ e]
            · cases e
      exact this ps xs _ _ e
    exact ⟨u, us, rfl, q, hl, be, xs, rh, rh', r, L, e, fun sg' L' w => k sg' L' fun vs hv => w vs (by simpa [CP.slots] using hv)⟩
theorem sndPs (O : XO n sc0 sc X) : ∀ (ps : List CP) (es : List Expr), mPs n sc0 ps es = true → PGs X es (LPs X.K ps)
  | [], es, h => by
    cases es <;> simp only [mPs] at h <;> try (cases h)
    refine PGs.imp pgs_nil fun v σ H Q q => ?_
    obtain ⟨be, ds, rh, rh', id, L, e, k⟩ := q
    cases ds <;> simp only [CP.binds] at e <;> try (cases e)
    simp only [IsDs] at id
    exact ⟨id, k _ L fun _ _ => rfl⟩
  | p :: ps, es, h => by
    cases es <;> simp only [mPs] at h <;> try (cases h)
    rename_i e es
    rw [Bool.and_eq_true] at h
    refine PGs.imp (pgs_cons (sndP O p e h.1) (sndPs O ps es h.2) (by rw [asg_cons (mP_nst h.1)]; rfl)) fun v σ H Q q => ?_
    obtain ⟨be, ds, rh, rh', id, L, e, k⟩ := q
    cases ds <;> simp only [CP.binds] at e <;> try (cases e)
    rename_i x xs
    split at e
    · rename_i r0 e0
      simp only [IsDs] at id
      obtain ⟨u, w, rfl, i1, i2⟩ := id
      refine ⟨u, w, rfl, be, x, rh, r0, i1, L, e0, fun sg1 L1 w1 => ⟨be, xs, r0, rh', i2, L1, e, fun sg2 L2 w2 => k sg2 L2 fun vs hv => ?_⟩⟩
      rw [w2 vs fun i hi => hv i (by simp [CP.slotss, hi]), w1 vs fun i hi => hv i (by simp [CP.slotss, hi])]
    · cases e
end
end
structure IsIt (K : PySem.W.Frag) (CT : Cls) (H0 : Hp) (be0 : List Addr) (J : It) (xs : List D) (still : Store → Prop) : Prop where
  go : ∀ i H be mu, Ext H0 H be0 be → RepS K CT H be mu → still mu → i < xs.length → J.go i H
  stop : ∀ H be mu, Ext H0 H be0 be → RepS K CT H be mu → still mu → J.stop xs.length H
  yld : ∀ i H be mu v H', Ext H0 H be0 be → RepS K CT H be mu → still mu → i < xs.length → J.yld i H v H' → ∃ x, xs[i]? = some x ∧ IsD K H' be x v ∧ Ext H H' be be ∧ RepS K CT H' be mu
  len : xs.length ≤ sizeLine
/-- a walked dict is let go -/
def Unl (X : Cx) (H H' : Hp) : Prop := H' = H ∨ ∃ d od u, H d = some (.frz od u) ∧ (∀ o' u', X.H_0 d ≠ some (.frz o' u')) ∧ H' = upd H d u
/-- the way back from a walk -/
def PostOk (X : Cx) (CT : Cls) (Hs : Hp) (bes : List Addr) (H0 : Hp) (be0 : List Addr) (post : Post) : Prop :=
  ∀ H be mu k, Ext H0 H be0 be → RepS X.K CT H be mu → post mu k → ∃ H' nu, Unl X H H' ∧ Ext Hs H' bes be ∧ RepS X.K CT H' be nu ∧ k nu ∧ (∀ a xs, SqT X.K H a xs → SqT X.K H' a xs) ∧ (∀ a xs, RoL X.K H a xs → RoL X.K H' a xs) ∧ ∀ b, b ∉ be → H' b = H b
theorem PostOk.zero {X : Cx} {CT : Cls} {Hs H0 : Hp} {bes be0 : List Addr} (x : Ext Hs H0 bes be0) : PostOk X CT Hs bes H0 be0 post0 :=
  fun H be mu k y S p => ⟨H, mu, .inl rfl, x.trans y, S, p, fun _ _ q => q, fun _ _ q => q, fun _ _ => rfl⟩
theorem PostOk.unlk {X : Cx} {CT : Cls} {Hs H0 : Hp} {bes be0 : List Addr} {d : Addr} {n : Nat} {kvs : List (Key × D)} {od : Obj} {gs : List (Key × V)} (x : Ext Hs H0 bes be0) (hb : be0[n]? = some d) (hd : H0 d = some (.dK gs)) (hn : ∀ o' u', X.H_0 d ≠ some (.frz o' u')) :
    PostOk X CT Hs bes (upd H0 d (.frz od (.dK gs))) be0 (unlk n kvs) := by
  intro H be mu k y S p
  obtain ⟨hm, p⟩ := p
  have hbe := y.at_ hb
  obtain ⟨gs', o', h1, h2, h3⟩ := S.get hbe hm
  have e2 := y.fr d _ upd_same (.inr rfl)
  rw [h1] at e2
  cases e2
  have tp : ∀ a xs, SqT X.K H a xs → SqT X.K (upd H d (.dK gs)) a xs := fun a xs h => h.upd0 h1 rfl
  have rp : ∀ a xs, RoL X.K H a xs → RoL X.K (upd H d (.dK gs)) a xs := fun a xs h => h.upd0 h1 rfl
  have hbm := List.mem_of_getElem? hbe
  refine ⟨upd H d (.dK gs), mu.set n (.dct kvs false), .inr ⟨d, od, _, h1, hn, rfl⟩, ⟨?_, fun b o e q => ?_, fun b hb => ?_⟩, S.write (c := .dct kvs false) hbe h1 rfl ⟨gs, upd_same, h2, h3.on tp rp fun _ _ _ q => q⟩, p, tp, rp, fun b hb => upd_ne fun z => hb (z ▸ hbm)⟩
  · exact x.pre.trans y.pre
  · have e1 := x.fr b o e q
    have nd : b ≠ d := by
      rintro rfl
      rw [hd] at e1
      cases e1
      rcases q with q | q
      · rcases x.new b (List.mem_of_getElem? hb) with z | z
        · exact q z
        · rw [e] at z; cases z
      · cases q
    rw [upd_ne nd]
    have nb : b ∉ be0 ∨ imm o = true := by
      rcases q with q | q
      · by_cases z : b ∈ be0
        · rcases x.new b z with w | w
          · exact absurd w q
          · rw [e] at w; cases w
        · exact .inl z
      · exact .inr q
    exact y.fr b o (by rw [upd_ne nd]; exact e1) nb
  · rcases y.new b hb with z | z
    · exact x.new b z
    · have nd : b ≠ d := by
        rintro rfl
        rw [upd_same] at z; cases z
      rw [upd_ne nd] at z
      cases q : Hs b with
      | none => exact .inr rfl
      | some o =>
        by_cases hbs : b ∈ bes
        · exact .inl hbs
        · rw [x.fr b o q (.inl hbs)] at z; cases z
theorem PostOk.mono {X : Cx} {CT : Cls} {Hs H0 H1 : Hp} {bes be0 be1 : List Addr} {post : Post} (x : Ext H0 H1 be0 be1) (h : PostOk X CT Hs bes H0 be0 post) : PostOk X CT Hs bes H1 be1 post := fun H be mu k y => h H be mu k (x.trans y)
def LI (X : Cx) (G : Ctx) (CT : Cls) (W : WX) (c : CI) : TI := fun sg H R => ∃ be mu rh Rd Ed, RepS X.K CT H be mu ∧ RepL X.K H be rh sg ∧ wpI G c Ed rh mu Rd ∧
  (∀ xs still post nu be' H' J, Ext H H' be be' → RepS X.K CT H' be' nu → IsIt X.K CT H' be' J xs still → PostOk X CT H be H' be' post → Rd xs still post nu → R J H') ∧ KX X.K CT H be Ed (fun c d => W c d sg)
def tUnl (X : Cx) (t : TE) : TE := fun σ H Q => t σ H fun v H' => ∃ H2, Unl X H' H2 ∧ Q v H2
def tUnlS (X : Cx) (t : TS) : TS := fun D σ H => t ⟨fun σ' H' => ∃ H2, Unl X H' H2 ∧ D.nx σ' H2, fun v H' => ∃ H2, Unl X H' H2 ∧ D.rt v H2, fun σ' H' => ∃ H2, Unl X H' H2 ∧ D.bk σ' H2, fun σ' H' => ∃ H2, Unl X H' H2 ∧ D.ct σ' H2⟩ σ H
theorem inv_unl {X : Cx} {pins : List (Addr × Obj)} {σ : L2.St} {H H' : Hp} {s : Shared} (I : Inv X pins σ H s) (u : Unl X H H') : Inv X pins σ H' s := by
  rcases u with rfl | ⟨d, od, u, h, hn, rfl⟩
  · exact I
  · exact I.unlock h hn
theorem pe_unl {X : Cx} {e : Expr} {t : TE} (h : PE X e t) : PE X e (tUnl X t) :=
  ⟨fun pins s σ H Q I q => thn (h.run pins s σ H _ I q) fun v s1 ⟨x, H1, I1, r, H2, u, q1⟩ => ⟨x, H2, inv_unl I1 u, r, q1⟩⟩
theorem ps_unl {X : Cx} {st : Stmt} {t : TS} (h : PS X st t) : PS X st (tUnlS X t) := by
  refine ⟨fun pins s σ H D I q => thn (h.run pins s σ H _ I q) fun f s1 q => ?_⟩
  cases f with
  | next => obtain ⟨σ', H', I2, H2, u, q⟩ := q; exact ⟨σ', H2, inv_unl I2 u, q⟩
  | brk => obtain ⟨σ', H', I2, H2, u, q⟩ := q; exact ⟨σ', H2, inv_unl I2 u, q⟩
  | cont => obtain ⟨σ', H', I2, H2, u, q⟩ := q; exact ⟨σ', H2, inv_unl I2 u, q⟩
  | ret v => obtain ⟨x, σ', H', I2, r, H2, u, q⟩ := q; exact ⟨x, σ', H2, inv_unl I2 u, r, q⟩
/-- the thing is locked once it is known -/
def tLockA (X : Cx) (t : TE) : TE := fun σ H Q => t σ H fun x H1 => ∃ d u, H1 d = some u ∧ Mut (some u) ∧ ∀ od, (∀ o' u', X.H_0 d ≠ some (.frz o' u')) → Q x (upd H1 d (.frz od u))
theorem pe_lockA {X : Cx} {e : Expr} {t : TE} (h : PE X e t) : PE X e (tLockA X t) := by
  refine ⟨fun pins s σ H Q I q => thn (h.run pins s σ H _ I q) fun v s1 ⟨x, H1, I1, r, d, u, hd, mu, q1⟩ => ?_⟩
  obtain ⟨od, I2⟩ := I1.lock hd mu
  exact ⟨x, _, I2, r, q1 od (I1.nofrz hd mu)⟩
section
variable {K : PySem.W.Frag} {CT : Cls} {H : Hp} {be : List Addr} {mu : Store}
/-- what stays of a list while its cell stays -/
theorem stay_sq {d : D} {xs : List D} {v : V} (S : RepS K CT H be mu) (i : IsD K H be d v) (h : seqAt d mu fun ys => ys = xs) :
    ∃ a vs, v = .ref a ∧ IsDs K H be xs vs ∧ ((SqL K H a vs ∧ ∀ H' be' nu, Ext H H' be be' → RepS K CT H' be' nu → stay d xs nu → ∃ ws, SqL K H' a ws ∧ IsDs K H' be' xs ws) ∨
      (SqT K H a vs ∧ ∀ H' be' nu, Ext H H' be be' → RepS K CT H' be' nu → stay d xs nu → ∃ ws, SqT K H' a ws ∧ IsDs K H' be' xs ws)) := by
  cases d <;> simp only [seqAt] at h
  case tup ys =>
    subst h
    simp only [IsD] at i
    obtain ⟨a, vs, rfl, q, r⟩ := i
    exact ⟨a, vs, rfl, r, .inr ⟨q, fun H' be' nu x S' _ => ⟨vs, x.tup _ _ q, r.mono x⟩⟩⟩
  case ref n =>
    have i0 := i
    obtain ⟨a, vs, ys, rfl, e, hm, h1, i1, rfl⟩ := lst_of S i h
    refine ⟨a, vs, rfl, i1, .inl ⟨SqL.of h1, fun H' be' nu x S' st => ?_⟩⟩
    have st : lstAt nu n fun zs => zs = ys := st
    obtain ⟨b, ws, zs, e1, e2, _, h2, i2, rfl⟩ := lst_of S' (i0.mono x) st
    cases e1
    exact ⟨ws, SqL.of h2, i2⟩
  case ro ys =>
    subst h
    simp only [IsD] at i
    obtain ⟨a, vs, rfl, q, r⟩ := i
    exact ⟨a, vs, rfl, r, .inl ⟨q.sq, fun H' be' nu x S' _ => ⟨vs, (x.rol _ _ q).sq, r.mono x⟩⟩⟩
theorem it_list {H0 : Hp} {be0 : List Addr} {a : Addr} {xs : List D} {still : Store → Prop} (hl : xs.length ≤ sizeLine) (h : ∀ H' be' nu, Ext H0 H' be0 be' → RepS K CT H' be' nu → still nu → ∃ ws, SqL K H' a ws ∧ IsDs K H' be' xs ws) : IsIt K CT H0 be0 (Itl K a) xs still where
  go := fun i H be mu x S st hi => by
    obtain ⟨ws, q, r⟩ := h H be mu x S st
    exact ⟨ws, _, q, List.getElem?_eq_getElem (by rw [← r.len]; exact hi)⟩
  stop := fun H be mu x S st => by
    obtain ⟨ws, q, r⟩ := h H be mu x S st
    exact ⟨ws, q, by rw [r.len]; exact Nat.le_refl _⟩
  yld := fun i H be mu v H' x S st hi y => by
    obtain ⟨ws, q, r⟩ := h H be mu x S st
    obtain ⟨rfl, y⟩ := y
    obtain ⟨d, e, id⟩ := r.get' (y ws q)
    exact ⟨d, e, id, .refl, S⟩
  len := hl
theorem it_tup {H0 : Hp} {be0 : List Addr} {a : Addr} {xs : List D} {still : Store → Prop} (hl : xs.length ≤ sizeLine) (h : ∀ H' be' nu, Ext H0 H' be0 be' → RepS K CT H' be' nu → still nu → ∃ ws, SqT K H' a ws ∧ IsDs K H' be' xs ws) : IsIt K CT H0 be0 (Itt K a) xs still where
  go := fun i H be mu x S st hi => by
    obtain ⟨ws, q, r⟩ := h H be mu x S st
    exact ⟨ws, _, q, List.getElem?_eq_getElem (by rw [← r.len]; exact hi)⟩
  stop := fun H be mu x S st => by
    obtain ⟨ws, q, r⟩ := h H be mu x S st
    exact ⟨ws, q, by rw [r.len]; exact Nat.le_refl _⟩
  yld := fun i H be mu v H' x S st hi y => by
    obtain ⟨ws, q, r⟩ := h H be mu x S st
    obtain ⟨rfl, y⟩ := y
    obtain ⟨d, e, id⟩ := r.get' (y ws q)
    exact ⟨d, e, id, .refl, S⟩
  len := hl
theorem it_range {H0 : Hp} {be0 : List Addr} {lo : Int} {n : Nat} (hn : n ≤ sizeLine) : IsIt K CT H0 be0 (Itr lo n) (intsD lo n) (fun _ => True) where
  go := fun i H be mu x S st hi => by simpa [intsD, Itr] using hi
  stop := fun H be mu x S st => by simp [intsD, Itr]
  yld := fun i H be mu v H' x S st hi y => by
    obtain ⟨rfl, rfl⟩ := y
    have hi : i < n := by simpa [intsD] using hi
    exact ⟨.int (lo + i), by simp [intsD, hi], by simp only [IsD], .refl, S⟩
  len := by simpa [intsD] using hn
theorem it_str {H0 : Hp} {be0 : List Addr} {z : Str} (hn : z.length ≤ sizeLine) : IsIt K CT H0 be0 (Its z) (chars z) (fun _ => True) where
  go := fun i H be mu x S st hi => by simpa [chars, Its] using hi
  stop := fun H be mu x S st => by simp [chars, Its]
  yld := fun i H be mu v H' x S st hi y => by
    obtain ⟨rfl, c, e, rfl⟩ := y
    refine ⟨.str ⟨#[c]⟩, ?_, by simp only [IsD], .refl, S⟩
    unfold chars
    rw [List.getElem?_map, Array.getElem?_toList, e]
    rfl
  len := by simpa [chars, Str.length] using hn
end
theorem it_rangeC {K : PySem.W.Frag} {CT : Cls} {H0 : Hp} {be0 : List Addr} {lo c : Int} {n : Nat} (hn : n ≤ sizeLine) : IsIt K CT H0 be0 (Itc lo c n) ((List.range n).map fun t => D.int (lo + (t : Nat) * c)) (fun _ => True) where
  go := fun i H be mu x S st hi => by simpa [Itc] using hi
  stop := fun H be mu x S st => by simp [Itc]
  yld := fun i H be mu v H' x S st hi y => by
    obtain ⟨rfl, rfl⟩ := y
    have hi : i < n := by simpa using hi
    exact ⟨.int (lo + (i : Nat) * c), by simp [hi], by simp only [IsD], .refl, S⟩
  len := by simpa using hn
section
variable {K : PySem.W.Frag} {CT : Cls} {H0 : Hp} {be0 : List Addr} {d : Addr} {o : Obj} {kvs : List (Key × D)} {gs : List (Key × V)}
theorem kd_is {H : Hp} {be : List Addr} (k : Key) : IsD K H be (kD k) (kV k) := by cases k <;> simp only [kD, kV, IsD]
theorem ks_get {H : Hp} {be : List Addr} (h : IsKs K H be kvs gs) {i : Nat} {k : Key} {v : V} (e : gs[i]? = some (k, v)) : ∃ dd, kvs[i]? = some (k, dd) ∧ IsD K H be dd v := by
  have e1 : (gs.map (·.1))[i]? = some k := by rw [List.getElem?_map, e]; rfl
  rw [← h.1, List.getElem?_map] at e1
  obtain ⟨p, ep, rfl⟩ := Option.map_eq_some_iff.mp e1
  have e2 : (gs.map (·.2))[i]? = some v := by rw [List.getElem?_map, e]; rfl
  obtain ⟨x, ex, ix⟩ := h.2.get' e2
  rw [List.getElem?_map, ep] at ex
  cases ex
  exact ⟨p.2, ep, ix⟩
theorem ks_len {H : Hp} {be : List Addr} (h : IsKs K H be kvs gs) : kvs.length = gs.length := by simpa using congrArg List.length h.1
theorem IsKs.mono {H H' : Hp} {be be' : List Addr} (x : Ext H H' be be') (h : IsKs K H be kvs gs) : IsKs K H' be' kvs gs := ⟨h.1, h.2.mono x⟩
theorem it_keys (hl : kvs.length ≤ sizeLine) (hd : H0 d = some (.frz o (.dK gs))) (ik : IsKs K H0 be0 kvs gs) : IsIt K CT H0 be0 (Itk d o gs) (kvs.map fun p => kD p.1) (fun _ => True) where
  go := fun i H be mu x S st hi => ⟨x.fr d _ hd (.inr rfl), by rw [← ks_len ik]; simpa using hi⟩
  stop := fun H be mu x S st => ⟨x.fr d _ hd (.inr rfl), by rw [← ks_len ik]; simp⟩
  yld := fun i H be mu v H' x S st hi y => by
    obtain ⟨rfl, k, w, e, rfl⟩ := y
    obtain ⟨dd, e2, _⟩ := ks_get ik e
    exact ⟨kD k, by rw [List.getElem?_map, e2]; rfl, kd_is k, .refl, S⟩
  len := by simpa using hl
theorem it_vals (hl : kvs.length ≤ sizeLine) (hd : H0 d = some (.frz o (.dK gs))) (ik : IsKs K H0 be0 kvs gs) : IsIt K CT H0 be0 (Itd d o gs) (kvs.map fun p => p.2) (fun _ => True) where
  go := fun i H be mu x S st hi => ⟨x.fr d _ hd (.inr rfl), by rw [← ks_len ik]; simpa using hi⟩
  stop := fun H be mu x S st => ⟨x.fr d _ hd (.inr rfl), by rw [← ks_len ik]; simp⟩
  yld := fun i H be mu v H' x S st hi y => by
    obtain ⟨rfl, k, e⟩ := y
    obtain ⟨dd, e2, i2⟩ := ks_get (ik.mono x) e
    exact ⟨dd, by rw [List.getElem?_map, e2]; rfl, i2, .refl, S⟩
  len := by simpa using hl
theorem it_items (hl : kvs.length ≤ sizeLine) (hd : H0 d = some (.frz o (.dK gs))) (ik : IsKs K H0 be0 kvs gs) : IsIt K CT H0 be0 (Iti d o gs) (kvs.map fun p => .tup [kD p.1, p.2]) (fun _ => True) where
  go := fun i H be mu x S st hi => ⟨x.fr d _ hd (.inr rfl), by rw [← ks_len ik]; simpa using hi⟩
  stop := fun H be mu x S st => ⟨x.fr d _ hd (.inr rfl), by rw [← ks_len ik]; simp⟩
  yld := fun i H be mu v H' x S st hi y => by
    obtain ⟨T, k, w, e, rfl, hT, rfl⟩ := y
    obtain ⟨dd, e2, i2⟩ := ks_get (ik.mono x) e
    have xx : Ext H (upd H T (.tup [kV k, w])) be be := .fresh hT
    refine ⟨.tup [kD k, dd], by rw [List.getElem?_map, e2]; rfl, ?_, xx, S.fresh hT⟩
    simp only [IsD]
    exact ⟨T, _, rfl, SqT.of upd_same, .cons (kd_is k) (.one (i2.mono xx))⟩
  len := by simpa using hl
theorem pairs_get : ∀ {xs ys : List D} {i : Nat} {x y : D}, xs[i]? = some x → ys[i]? = some y → (pairs xs ys)[i]? = some (.tup [x, y])
  | [], _, _, _, _, e, _ => by simp at e
  | _ :: _, [], _, _, _, _, e => by simp at e
  | a :: xs, b :: ys, 0, x, y, e1, e2 => by simp at e1 e2; subst e1 e2; rfl
  | a :: xs, b :: ys, i + 1, x, y, e1, e2 => by
    show (pairs xs ys)[i]? = _
    exact pairs_get (by simpa using e1) (by simpa using e2)
theorem pairs_len : ∀ (xs ys : List D), (pairs xs ys).length = min xs.length ys.length
  | [], _ => by simp [pairs]
  | _ :: _, [] => by simp [pairs]
  | a :: xs, b :: ys => by
    show (pairs xs ys).length + 1 = _
    rw [pairs_len xs ys]
    simp only [List.length_cons]
    omega
theorem ints_get (n i : Nat) (h : i < n) : (intsD 0 n)[i]? = some (.int (i : Nat)) := by
  unfold intsD
  rw [List.getElem?_map, List.getElem?_range h]
  simp
theorem it_enum {a : Addr} {xs : List D} {still : Store → Prop} (hl : xs.length ≤ sizeLine) (h : ∀ H' be' nu, Ext H0 H' be0 be' → RepS K CT H' be' nu → still nu → ∃ ws, SqL K H' a ws ∧ IsDs K H' be' xs ws) : IsIt K CT H0 be0 (Ite K a) (pairs (intsD 0 xs.length) xs) still where
  go := fun i H be mu x S st hi => by
    obtain ⟨ws, q, r⟩ := h H be mu x S st
    have hi : i < xs.length := by rw [pairs_len] at hi; simp [intsD] at hi; exact hi
    exact ⟨ws, _, q, List.getElem?_eq_getElem (by rw [← r.len]; exact hi)⟩
  stop := fun H be mu x S st => by
    obtain ⟨ws, q, r⟩ := h H be mu x S st
    exact ⟨ws, q, by rw [pairs_len]; simp [intsD]; exact Nat.le_of_eq r.len.symm⟩
  yld := fun i H be mu v H' x S st hi y => by
    obtain ⟨ws, q, r⟩ := h H be mu x S st
    have hi : i < xs.length := by rw [pairs_len] at hi; simp [intsD] at hi; exact hi
    obtain ⟨T, u, rfl, hT, rfl, y⟩ := y
    obtain ⟨dd, e, id⟩ := r.get' (y ws q)
    have xx : Ext H (upd H T (.tup [.int (i : Nat), u])) be be := .fresh hT
    refine ⟨.tup [.int (i : Nat), dd], pairs_get (ints_get _ _ hi) e, ?_, xx, S.fresh hT⟩
    simp only [IsD]
    exact ⟨T, _, rfl, SqT.of upd_same, .cons (by simp only [IsD]) (.one (id.mono xx))⟩
  len := by rw [pairs_len]; omega
theorem it_enumT {a : Addr} {xs : List D} {still : Store → Prop} (hl : xs.length ≤ sizeLine) (h : ∀ H' be' nu, Ext H0 H' be0 be' → RepS K CT H' be' nu → still nu → ∃ ws, SqT K H' a ws ∧ IsDs K H' be' xs ws) : IsIt K CT H0 be0 (IteT K a) (pairs (intsD 0 xs.length) xs) still where
  go := fun i H be mu x S st hi => by
    obtain ⟨ws, q, r⟩ := h H be mu x S st
    have hi : i < xs.length := by rw [pairs_len] at hi; simp [intsD] at hi; exact hi
    exact ⟨ws, _, q, List.getElem?_eq_getElem (by rw [← r.len]; exact hi)⟩
  stop := fun H be mu x S st => by
    obtain ⟨ws, q, r⟩ := h H be mu x S st
    exact ⟨ws, q, by rw [pairs_len]; simp [intsD]; exact Nat.le_of_eq r.len.symm⟩
  yld := fun i H be mu v H' x S st hi y => by
    obtain ⟨ws, q, r⟩ := h H be mu x S st
    have hi : i < xs.length := by rw [pairs_len] at hi; simp [intsD] at hi; exact hi
    obtain ⟨T, u, rfl, hT, rfl, y⟩ := y
    obtain ⟨dd, e, id⟩ := r.get' (y ws q)
    have xx : Ext H (upd H T (.tup [.int (i : Nat), u])) be be := .fresh hT
    refine ⟨.tup [.int (i : Nat), dd], pairs_get (ints_get _ _ hi) e, ?_, xx, S.fresh hT⟩
    simp only [IsD]
    exact ⟨T, _, rfl, SqT.of upd_same, .cons (by simp only [IsD]) (.one (id.mono xx))⟩
  len := by rw [pairs_len]; omega
theorem it_zip {a b : Addr} {xs ys : List D} {s1 s2 : Store → Prop} (hl : xs.length ≤ sizeLine) (h : ∀ H' be' nu, Ext H0 H' be0 be' → RepS K CT H' be' nu → s1 nu → ∃ ws, SqL K H' a ws ∧ IsDs K H' be' xs ws) (h2 : ∀ H' be' nu, Ext H0 H' be0 be' → RepS K CT H' be' nu → s2 nu → ∃ ws, SqL K H' b ws ∧ IsDs K H' be' ys ws) :
    IsIt K CT H0 be0 (Itz K a b) (pairs xs ys) (fun nu => s1 nu ∧ s2 nu) where
  go := fun i H be mu x S st hi => by
    obtain ⟨ws, q, r⟩ := h H be mu x S st.1
    obtain ⟨zs, q2, r2⟩ := h2 H be mu x S st.2
    rw [pairs_len] at hi
    exact ⟨ws, zs, _, _, q, q2, List.getElem?_eq_getElem (by rw [← r.len]; omega), List.getElem?_eq_getElem (by rw [← r2.len]; omega)⟩
  stop := fun H be mu x S st => by
    obtain ⟨ws, q, r⟩ := h H be mu x S st.1
    obtain ⟨zs, q2, r2⟩ := h2 H be mu x S st.2
    exact ⟨ws, zs, q, q2, by rw [pairs_len, ← r.len, ← r2.len]; omega⟩
  yld := fun i H be mu v H' x S st hi y => by
    obtain ⟨ws, q, r⟩ := h H be mu x S st.1
    obtain ⟨zs, q2, r2⟩ := h2 H be mu x S st.2
    obtain ⟨T, u, w, rfl, hT, rfl, y1, y2⟩ := y
    obtain ⟨d1, e1, i1⟩ := r.get' (y1 ws q)
    obtain ⟨d2, e2, i2⟩ := r2.get' (y2 zs q2)
    have xx : Ext H (upd H T (.tup [u, w])) be be := .fresh hT
    refine ⟨.tup [d1, d2], pairs_get e1 e2, ?_, xx, S.fresh hT⟩
    simp only [IsD]
    exact ⟨T, _, rfl, SqT.of upd_same, .cons (i1.mono xx) (.one (i2.mono xx))⟩
  len := by rw [pairs_len]; omega
theorem it_zipT {a b : Addr} {xs ys : List D} {s1 s2 : Store → Prop} (hl : xs.length ≤ sizeLine) (h : ∀ H' be' nu, Ext H0 H' be0 be' → RepS K CT H' be' nu → s1 nu → ∃ ws, SqT K H' a ws ∧ IsDs K H' be' xs ws) (h2 : ∀ H' be' nu, Ext H0 H' be0 be' → RepS K CT H' be' nu → s2 nu → ∃ ws, SqT K H' b ws ∧ IsDs K H' be' ys ws) :
    IsIt K CT H0 be0 (RZ.ItzT K a b) (pairs xs ys) (fun nu => s1 nu ∧ s2 nu) where
  go := fun i H be mu x S st hi => by
    obtain ⟨ws, q, r⟩ := h H be mu x S st.1
    obtain ⟨zs, q2, r2⟩ := h2 H be mu x S st.2
    rw [pairs_len] at hi
    exact ⟨ws, zs, _, _, q, q2, List.getElem?_eq_getElem (by rw [← r.len]; omega), List.getElem?_eq_getElem (by rw [← r2.len]; omega)⟩
  stop := fun H be mu x S st => by
    obtain ⟨ws, q, r⟩ := h H be mu x S st.1
    obtain ⟨zs, q2, r2⟩ := h2 H be mu x S st.2
    exact ⟨ws, zs, q, q2, by rw [pairs_len, ← r.len, ← r2.len]; omega⟩
  yld := fun i H be mu v H' x S st hi y => by
    obtain ⟨ws, q, r⟩ := h H be mu x S st.1
    obtain ⟨zs, q2, r2⟩ := h2 H be mu x S st.2
    obtain ⟨T, u, w, rfl, hT, rfl, y1, y2⟩ := y
    obtain ⟨d1, e1, i1⟩ := r.get' (y1 ws q)
    obtain ⟨d2, e2, i2⟩ := r2.get' (y2 zs q2)
    have xx : Ext H (upd H T (.tup [u, w])) be be := .fresh hT
    refine ⟨.tup [d1, d2], pairs_get e1 e2, ?_, xx, S.fresh hT⟩
    simp only [IsD]
    exact ⟨T, _, rfl, SqT.of upd_same, .cons (i1.mono xx) (.one (i2.mono xx))⟩
  len := by rw [pairs_len]; omega
end
/-- an iterable by its value: a list, a tuple, a text, a dict -/
def iSeq (X : Cx) (tl : TE) : TI := fun σ H R => tl σ H fun x H1 =>
  (∃ a xs, x = .ref a ∧ SqL X.K H1 a xs ∧ (xs.length ≤ sizeLine → R (Itl X.K a) H1)) ∨ (∃ a xs, x = .ref a ∧ SqT X.K H1 a xs ∧ (xs.length ≤ sizeLine → R (Itt X.K a) H1)) ∨ (∃ z, x = .str z ∧ R (Its z) H1) ∨
    ∃ d gs, x = .ref d ∧ H1 d = some (.dK gs) ∧ ∀ od, (∀ o' u', X.H_0 d ≠ some (.frz o' u')) → R (Itk d od gs) (upd H1 d (.frz od (.dK gs)))
theorem pi_seq {X : Cx} {tg l : Expr} {tl : TE} (hl : PE X l tl) : PI X tg l (iSeq X tl) := by
  refine ⟨fun pins s σ H R I h => thn (hl.run pins s σ H _ I h) fun v s1 ⟨x, H1, I1, r1, q1⟩ => ?_⟩
  have nh := I1.hok.fresh (Nat.le_refl _)
  have kp : ∀ o : Obj, Inv X pins σ H1 { s1 with heap := s1.heap.push o } := fun o => I1.kept (t' := s1.toks) fun b ob e => Heap.get?_push_of_some _ e
  have fp : ∀ b ∈ [s1.heap.objs.size], FpOk X pins H1 b := fun b hb => by
    obtain rfl : b = s1.heap.objs.size := by simpa using hb
    exact I1.fpOk (Nat.le_refl _) nh
  rcases q1 with ⟨a, xs, rfl, hq, q⟩ | ⟨a, xs, rfl, hq, q⟩ | ⟨z, rfl, q⟩ | ⟨d, gs, rfl, hd, q⟩
  · cases r1
    obtain ⟨its, rv, p, hz⟩ := I1.list hq
    exact wpAny_pyIter_list p.isList ⟨_, _, _, _, H1, rfl, kp _, turn_list a _, ⟨_, Heap.get?_push_size _ rfl, rfl, rfl⟩, fp, q hz⟩
  · cases r1
    obtain ⟨its, rv, p, hz⟩ := I1.tuple hq
    exact wpAny_pyIter_tuple (show s1.heap.IsTuple a its.toArray from p) ⟨_, _, _, _, H1, rfl, kp _, turn_tuple a _, ⟨_, Heap.get?_push_size _ rfl, rfl, rfl⟩, fp, q hz⟩
  · obtain ⟨t, rfl⟩ := r1
    cases ha : z.cps.all (· < 128)
    · exact wpAny_pyIter_wide ha (pi_one (tk := s1.toks) I1 _ (turn_str _ z t _ (.inr rfl)) ⟨_, Heap.get?_push_size _ rfl, rfl, rfl⟩ q)
    · exact wpAny_pyIter_ascii ha (pi_one (tk := s1.toks) I1 _ (turn_str _ z t _ (.inl rfl)) ⟨_, Heap.get?_push_size _ rfl, rfl, rfl⟩ q)
  · obtain ⟨od, I2⟩ := I1.lock hd trivial
    have q := q od (I1.nofrz hd trivial)
    obtain rfl : v = Value.ref d := r1
    obtain ⟨hs, hgd, hx, es, ep, vs, hdt, hsz, kv, hm⟩ := I2.frzK upd_same
    refine iter_keys hs hgd hx hdt (pi_one (tk := s1.toks) I2 _ (turn_keys _ hdt) ⟨_, Heap.get?_push_size _ rfl, rfl, ?_⟩ q)
    rw [hsz] <;> rfl
section
variable {X : Cx} {G : Ctx} {CT : Cls} {W : WX} {sg : L2.St} {H : Hp} {R : It → Hp → Prop}
theorem seqAt_eq {d : D} {mu : Store} {Q : List D → Prop} (h : seqAt d mu Q) : ∃ xs, Q xs ∧ seqAt d mu fun ys => ys = xs := by
  cases d <;> simp only [seqAt] at h ⊢
  case tup xs => exact ⟨xs, h, rfl⟩
  case ro xs => exact ⟨xs, h, rfl⟩
  case ref n =>
    unfold lstAt at h ⊢
    split at h
    · rename_i xs e
      exact ⟨xs, h, rfl⟩
    · exact h.elim
/-- a dict is locked and walked -/
theorem lock_go {Hs H1 : Hp} {bes be1 : List Addr} {mu1 : Store} {x : D} {f : Key × D → D} {v : V} {Rd : List D → (Store → Prop) → Post → Store → Prop} (x1 : Ext Hs H1 bes be1) (S1 : RepS X.K CT H1 be1 mu1) (d1 : IsD X.K H1 be1 x v) (h : wLock x f mu1 Rd)
    (J : Addr → Obj → List (Key × V) → It) (hJ : ∀ {H0 : Hp} {be0 : List Addr} {d : Addr} {o : Obj} {kvs : List (Key × D)} {gs : List (Key × V)}, kvs.length ≤ sizeLine → H0 d = some (.frz o (.dK gs)) → IsKs X.K H0 be0 kvs gs → IsIt X.K CT H0 be0 (J d o gs) (kvs.map f) (fun _ => True))
    (kr : ∀ xs still post nu be' H' J, Ext Hs H' bes be' → RepS X.K CT H' be' nu → IsIt X.K CT H' be' J xs still → PostOk X CT Hs bes H' be' post → Rd xs still post nu → R J H') :
    ∃ d gs, v = .ref d ∧ H1 d = some (.dK gs) ∧ ∀ od, (∀ o' u', X.H_0 d ≠ some (.frz o' u')) → R (J d od gs) (upd H1 d (.frz od (.dK gs))) := by
  cases x <;> simp only [wLock] at h
  rename_i n
  obtain ⟨a, kvs, lk, gs, rfl, hb, hm, r1, r2, ik, rfl, hz, h⟩ := dct_of S1 d1 h
  have hd := r2 rfl
  refine ⟨a, gs, rfl, hd, fun od hn => ?_⟩
  have x2 : Ext H1 (upd H1 a (.frz od (.dK gs))) be1 be1 := .write hb hd rfl
  have ik2 := ik.mono x2
  refine kr _ _ _ _ be1 _ _ (x1.trans x2) (S1.write (c := .dct kvs true) hb hd rfl ⟨gs, od, upd_same, ik2⟩) (hJ hz upd_same ik2) ?_ h
  exact PostOk.unlk x1 hb hd hn
theorem li_seq {e : CE} (h : LI X G CT W (.seq e) sg H R) : iSeq X (LE G X.K CT W e) sg H R := by
  obtain ⟨be, mu, rh, Rd, Ed, S, L, h, kr, kx⟩ := h
  refine ⟨be, mu, rh, _, Ed, S, L, by simpa only [wpI] using h, fun x mu1 be1 H1 v x1 S1 d1 h1 => ?_, kx⟩
  simp only [wSeq] at h1
  split at h1
  · rename_i z
    simp only [IsD] at d1
    exact .inr (.inr (.inl ⟨z, d1, kr _ _ _ mu1 be1 H1 _ x1 S1 (it_str h1.1) (.zero x1) h1.2⟩))
  · rename_i xs
    simp only [IsD] at d1
    obtain ⟨a, vs, rfl, q, i⟩ := d1
    exact .inr (.inl ⟨a, vs, rfl, q, fun hz => kr xs _ _ mu1 be1 H1 _ x1 S1 (it_tup (by rw [i.len]; exact hz) fun H' be' nu y S' _ => ⟨vs, y.tup _ _ q, i.mono y⟩) (.zero x1) h1⟩)
  · rename_i xs
    simp only [IsD] at d1
    obtain ⟨a, vs, rfl, q, i⟩ := d1
    exact .inl ⟨a, vs, rfl, q.sq, fun hz => kr xs _ _ mu1 be1 H1 _ x1 S1 (it_list (by rw [i.len]; exact hz) fun H' be' nu y S' _ => ⟨vs, (y.rol _ _ q).sq, i.mono y⟩) (.zero x1) h1⟩
  · rename_i n
    split at h1
    · rename_i xs hm
      obtain ⟨a, vs, rfl, i, q⟩ := stay_sq (xs := xs) S1 d1 (by simp only [seqAt]; unfold lstAt; rw [hm])
      rcases q with ⟨q, st⟩ | ⟨q, st⟩
      · exact .inl ⟨a, vs, rfl, q, fun hz => kr xs _ _ mu1 be1 H1 _ x1 S1 (it_list (by rw [i.len]; exact hz) st) (.zero x1) h1⟩
      · exact .inr (.inl ⟨a, vs, rfl, q, fun hz => kr xs _ _ mu1 be1 H1 _ x1 S1 (it_tup (by rw [i.len]; exact hz) st) (.zero x1) h1⟩)
    · obtain ⟨d, gs, rfl, hd, q⟩ := lock_go (R := R) x1 S1 d1 h1 (fun d o gs => Itk d o gs) (fun a b c => it_keys a b c) kr
      exact .inr (.inr (.inr ⟨d, gs, rfl, hd, q⟩))
  · exact h1.elim
theorem li_items {e : CE} (h : LI X G CT W (.items e) sg H R) : iItems (tLockA X (LE G X.K CT W e)) sg H R := by
  obtain ⟨be, mu, rh, Rd, Ed, S, L, h, kr, kx⟩ := h
  refine ⟨be, mu, rh, _, Ed, S, L, by simpa only [wpI] using h, fun x mu1 be1 H1 v x1 S1 d1 h1 => ?_, kx⟩
  obtain ⟨d, gs, rfl, hd, q⟩ := lock_go (R := R) x1 S1 d1 h1 (fun d o gs => Iti d o gs) (fun a b c => it_items a b c) kr
  exact ⟨d, _, hd, trivial, fun od hn => ⟨d, od, gs, rfl, upd_same, q od hn⟩⟩
theorem li_vals {e : CE} (h : LI X G CT W (.vals e) sg H R) : iVals (tLockA X (LE G X.K CT W e)) sg H R := by
  obtain ⟨be, mu, rh, Rd, Ed, S, L, h, kr, kx⟩ := h
  refine ⟨be, mu, rh, _, Ed, S, L, by simpa only [wpI] using h, fun x mu1 be1 H1 v x1 S1 d1 h1 => ?_, kx⟩
  obtain ⟨d, gs, rfl, hd, q⟩ := lock_go (R := R) x1 S1 d1 h1 (fun d o gs => Itd d o gs) (fun a b c => it_vals a b c) kr
  exact ⟨d, _, hd, trivial, fun od hn => ⟨d, od, gs, rfl, upd_same, q od hn⟩⟩
theorem li_rng1 {e : CE} (h : LI X G CT W (.rng1 e) sg H R) : LE G X.K CT W e sg H fun v H1 => ∃ j : Int, v = .int j ∧ -(2 ^ 62) ≤ j ∧ j < 2 ^ 62 ∧ R (Itr 0 j.toNat) H1 := by
  obtain ⟨be, mu, rh, Rd, Ed, S, L, h, kr, kx⟩ := h
  refine ⟨be, mu, rh, _, Ed, S, L, by simpa only [wpI] using h, fun x mu1 be1 H1 v x1 S1 d1 h1 => ?_, kx⟩
  cases x <;> simp only [onI] at h1
  case int j =>
    simp only [IsD] at d1
    have hs := sizeLine_eq
    have b1 := h1.1.1
    have b2 := h1.1.2
    exact ⟨j, d1, by omega, by omega, kr _ _ _ mu1 be1 H1 _ x1 S1 (it_range (by omega)) (.zero x1) h1.2⟩
theorem li_rng2 {a b : CE} (h : LI X G CT W (.rng2 a b) sg H R) : LE G X.K CT W a sg H fun v H1 => LE G X.K CT W b sg H1 fun u H2 => ∃ i j : Int, v = .int i ∧ u = .int j ∧ (-(2 ^ 62) ≤ i ∧ i < 2 ^ 62 ∧ -(2 ^ 62) ≤ j ∧ j < 2 ^ 62) ∧ R (Itr i (j - i).toNat) H2 := by
  obtain ⟨be, mu, rh, Rd, Ed, S, L, h, kr, kx⟩ := h
  refine ⟨be, mu, rh, _, Ed, S, L, by simpa only [wpI] using h, fun x mu1 be1 H1 v x1 S1 d1 h1 => ⟨be1, mu1, rh, _, Ed, S1, L.mono x1, h1, fun y mu2 be2 H2 u x2 S2 d2 h2 => ?_, kx.mono x1⟩, kx⟩
  cases x <;> cases y <;> simp only [onI] at h2
  case int.int i j =>
    simp only [IsD] at d1 d2
    have hs := sizeLine_eq
    have b1 := h2.1.1.1
    have b2 := h2.1.1.2
    have b3 := h2.1.2.1
    have b4 := h2.1.2.2
    exact ⟨i, j, d1, d2, by omega, kr _ _ _ mu2 be2 H2 _ (x1.trans x2) S2 (it_range (by omega)) (.zero (x1.trans x2)) h2.2⟩
theorem li_rng3 {a b c : CE} (h : LI X G CT W (.rng3 a b c) sg H R) : LE G X.K CT W a sg H fun v H1 => LE G X.K CT W b sg H1 fun u H2 => LE G X.K CT W c sg H2 fun w H3 => ∃ (i j k : Int) (n : Nat), [v, u, w] = [.int i, .int j, .int k] ∧ RgC i j k n ∧ R (Itc i k n) H3 := by
  obtain ⟨be, mu, rh, Rd, Ed, S, L, h, kr, kx⟩ := h
  refine ⟨be, mu, rh, _, Ed, S, L, by simpa only [wpI] using h, fun x mu1 be1 H1 v x1 S1 d1 h1 => ⟨be1, mu1, rh, _, Ed, S1, L.mono x1, h1, fun y mu2 be2 H2 u x2 S2 d2 h2 => ⟨be2, mu2, rh, _, Ed, S2, L.mono (x1.trans x2), h2, fun z mu3 be3 H3 w x3 S3 d3 h3 => ?_, kx.mono (x1.trans x2)⟩, kx.mono x1⟩, kx⟩
  cases x <;> simp only [onI] at h3
  cases y <;> simp only [onI] at h3
  cases z <;> simp only [onI] at h3
  simp only [IsD] at d1 d2 d3
  obtain ⟨n, r, hn, h3⟩ := h3
  exact ⟨_, _, _, n, by rw [d1, d2, d3], r, kr _ _ _ mu3 be3 H3 _ ((x1.trans x2).trans x3) S3 (it_rangeC hn) (.zero ((x1.trans x2).trans x3)) h3⟩
theorem li_enum {e : CE} (h : LI X G CT W (.enum e) sg H R) : LE G X.K CT W e sg H fun v H1 => ∃ a xs, [v] = [V.ref a] ∧ ((SqL X.K H1 a xs ∧ (xs.length ≤ sizeLine → R (Ite X.K a) H1)) ∨ (SqT X.K H1 a xs ∧ (xs.length ≤ sizeLine → R (IteT X.K a) H1))) := by
  obtain ⟨be, mu, rh, Rd, Ed, S, L, h, kr, kx⟩ := h
  refine ⟨be, mu, rh, _, Ed, S, L, by simpa only [wpI] using h, fun x mu1 be1 H1 v x1 S1 d1 h1 => ?_, kx⟩
  obtain ⟨xs, h1, hs⟩ := seqAt_eq h1
  obtain ⟨a, vs, rfl, i, q⟩ := stay_sq S1 d1 hs
  rcases q with ⟨q, st⟩ | ⟨q, st⟩
  · exact ⟨a, vs, rfl, .inl ⟨q, fun hz => kr _ _ _ mu1 be1 H1 _ x1 S1 (it_enum (by rw [i.len]; exact hz) st) (.zero x1) h1⟩⟩
  · exact ⟨a, vs, rfl, .inr ⟨q, fun hz => kr _ _ _ mu1 be1 H1 _ x1 S1 (it_enumT (by rw [i.len]; exact hz) st) (.zero x1) h1⟩⟩
/-- a tuple, or a list -/
theorem stay_k {K : PySem.W.Frag} {H : Hp} {be : List Addr} {mu : Store} {d : D} {xs : List D} {v : V} (S : RepS K CT H be mu) (i : IsD K H be d v) (h : seqAt d mu fun ys => ys = xs) :
    ∃ a vs, v = .ref a ∧ IsDs K H be xs vs ∧ (((∀ ys, d ≠ .tup ys) ∧ SqL K H a vs ∧ ∀ H' be' nu, Ext H H' be be' → RepS K CT H' be' nu → stay d xs nu → ∃ ws, SqL K H' a ws ∧ IsDs K H' be' xs ws) ∨
      ((∃ ys, d = .tup ys) ∧ SqT K H a vs ∧ ∀ H' be' nu, Ext H H' be be' → RepS K CT H' be' nu → stay d xs nu → ∃ ws, SqT K H' a ws ∧ IsDs K H' be' xs ws)) := by
  cases d <;> simp only [seqAt] at h
  case tup ys =>
    subst h
    simp only [IsD] at i
    obtain ⟨a, vs, rfl, q, r⟩ := i
    exact ⟨a, vs, rfl, r, .inr ⟨⟨_, rfl⟩, q, fun H' be' nu x S' _ => ⟨vs, x.tup _ _ q, r.mono x⟩⟩⟩
  case ref n =>
    have i0 := i
    obtain ⟨a, vs, ys, rfl, e, hm, h1, i1, rfl⟩ := lst_of S i h
    refine ⟨a, vs, rfl, i1, .inl ⟨(fun _ z => by cases z), SqL.of h1, fun H' be' nu x S' st => ?_⟩⟩
    have st : lstAt nu n fun zs => zs = ys := st
    obtain ⟨b, ws, zs, e1, e2, _, h2, i2, rfl⟩ := lst_of S' (i0.mono x) st
    cases e1
    exact ⟨ws, SqL.of h2, i2⟩
  case ro ys =>
    subst h
    simp only [IsD] at i
    obtain ⟨a, vs, rfl, q, r⟩ := i
    exact ⟨a, vs, rfl, r, .inl ⟨(fun _ z => by cases z), q.sq, fun H' be' nu x S' _ => ⟨vs, (x.rol _ _ q).sq, r.mono x⟩⟩⟩
theorem li_zip {a b : CE} (hl : ∀ (X : Cx) (pins : List (Addr × Obj)) (σ : L2.St) (H : Hp) (s : Shared), True) (h : LI X G CT W (.zip a b) sg H R) : LE G X.K CT W a sg H fun v H1 => LE G X.K CT W b sg H1 fun u H2 => ∃ p q xs ys, [v, u] = [V.ref p, V.ref q] ∧
    ((SqL X.K H2 p xs ∧ SqL X.K H2 q ys ∧ (xs.length ≤ sizeLine → R (Itz X.K p q) H2)) ∨ (SqT X.K H2 p xs ∧ SqT X.K H2 q ys ∧ (xs.length ≤ sizeLine → R (RZ.ItzT X.K p q) H2))) := by
  obtain ⟨be, mu, rh, Rd, Ed, S, L, h, kr, kx⟩ := h
  refine ⟨be, mu, rh, _, Ed, S, L, by simpa only [wpI] using h, fun x mu1 be1 H1 v x1 S1 d1 h1 => ⟨be1, mu1, rh, _, Ed, S1, L.mono x1, h1, fun y mu2 be2 H2 u x2 S2 d2 h2 => ?_, kx.mono x1⟩, kx⟩
  obtain ⟨zo, h2⟩ := h2
  obtain ⟨xs, h2, hs⟩ := seqAt_eq h2
  obtain ⟨ys, h2, hs2⟩ := seqAt_eq h2
  obtain ⟨p, vs, rfl, i, q⟩ := stay_k S2 (d1.mono x2) hs
  obtain ⟨p2, vs2, rfl, i2, q2⟩ := stay_k S2 d2 hs2
  have xx := x1.trans x2
  refine ⟨p, p2, vs, vs2, rfl, ?_⟩
  rcases q with ⟨nt, q, st⟩ | ⟨⟨_, rfl⟩, q, st⟩
  · rcases q2 with ⟨_, q2, st2⟩ | ⟨⟨_, rfl⟩, q2, st2⟩
    · exact .inl ⟨q, q2, fun hz => kr _ _ _ mu2 be2 H2 _ xx S2 (it_zip (by rw [i.len]; exact hz) st st2) (.zero xx) h2⟩
    · exfalso
      cases x <;> first | exact nt _ rfl | (simp [zipOk] at zo)
  · rcases q2 with ⟨nt, q2, st2⟩ | ⟨_, q2, st2⟩
    · exfalso
      cases y <;> first | exact nt _ rfl | (simp [zipOk] at zo)
    · exact .inr ⟨q, q2, fun hz => kr _ _ _ mu2 be2 H2 _ xx S2 (it_zipT (by rw [i.len]; exact hz) st st2) (.zero xx) h2⟩
/-- a comprehension -/
theorem le_lc {vs : List Nat} {p : CP} {it : CI} {c e : CE} {Q : VK} (hv : ∀ i ∈ p.slots, i ∈ vs) (h : LE G X.K CT W (.lc vs p it c e) sg H Q) :
    tUnl X (tLc (LI X G CT W it) (LP X.K p) (LT G X.K CT (fun _ _ _ _ => False) c) (LE G X.K CT (fun _ _ _ _ => False) e) vs) sg H Q := by
  obtain ⟨be, mu, rh, Qd, Ed, S, L, h, kq, kx⟩ := h
  simp only [wpE] at h
  refine ⟨be, mu, rh, _, Ed, S, L, h, fun xs still post mu1 be1 H1 J x1 S1 ij po h1 => ?_, kx⟩
  intro D hD
  have hL := ij.len
  refine ⟨fun i m H2 => m = xs.length - i ∧ i ≤ xs.length ∧ ∃ be2 mu2 acc vacc, Ext H1 H2 be1 be2 ∧ D ∉ be2 ∧ RepS X.K CT H2 be2 mu2 ∧ H2 D = some (.lst vacc) ∧ IsDs X.K H2 be2 acc vacc ∧ acc.length ≤ i ∧
    lcGo (fun x mu2 k => onP p x (wipeD rh vs) fun rh1 => wpE G c (fun _ _ => False) rh1 mu2 fun y mu3 => onB y fun b => if b = true then wpE G e (fun _ _ => False) rh1 mu3 fun d mu4 => k (some d) mu4 else k none mu3) still (fun acc mu2 => post mu2 fun mu3 => newLst acc mu3 Qd) (xs.drop i) acc mu2, ⟨xs.length, rfl, Nat.zero_le _, be1, mu1, [], [], .fresh hD, S1.out hD, S1.fresh hD, upd_same, .nil, Nat.zero_le _, by simpa using h1⟩, ?_⟩
  rintro i m H2 ⟨rfl, hi, be2, mu2, acc, vacc, x2, nD, S2, eD, iacc, hacc, go⟩
  by_cases hlt : i < xs.length
  · right
    rw [List.drop_eq_getElem_cons hlt] at go
    simp only [lcGo] at go
    obtain ⟨st, go⟩ := go
    refine ⟨ij.go i H2 be2 mu2 x2 S2 st hlt, fun H' => (fun i m H2 => m = xs.length - i ∧ i ≤ xs.length ∧ ∃ be2 mu2 acc vacc, Ext H1 H2 be1 be2 ∧ D ∉ be2 ∧ RepS X.K CT H2 be2 mu2 ∧ H2 D = some (.lst vacc) ∧ IsDs X.K H2 be2 acc vacc ∧ acc.length ≤ i ∧
      lcGo (fun x mu2 k => onP p x (wipeD rh vs) fun rh1 => wpE G c (fun _ _ => False) rh1 mu2 fun y mu3 => onB y fun b => if b = true then wpE G e (fun _ _ => False) rh1 mu3 fun d mu4 => k (some d) mu4 else k none mu3) still (fun acc mu2 => post mu2 fun mu3 => newLst acc mu3 Qd) (xs.drop i) acc mu2) (i + 1) (xs.length - (i + 1)) H', fun H' w => ⟨_, by omega, w⟩, fun v H3 y => ?_⟩
    obtain ⟨x, ex, ix, x3, S3⟩ := ij.yld i H2 be2 mu2 v H3 x2 S2 st hlt y
    have ex' : xs[i] = x := by
      rw [List.getElem?_eq_getElem hlt] at ex
      exact Option.some.inj ex
    rw [ex'] at go
    unfold onP at go
    split at go
    · rename_i rh1 eb
      have y3 := (x1.trans x2).trans x3
      refine ⟨be2, x, wipeD rh vs, rh1, ix, (L.mono y3).wiped vs, eb, fun sg1 L1 w1 => ⟨by rw [w1 vs hv, wipe_wipe], ?_⟩⟩
      refine ⟨be2, mu2, rh1, fun b nu => if b = true then wpE G e (fun _ _ => False) rh1 nu fun d mu4 => lcGo _ still (fun acc mu2 => post mu2 fun mu3 => newLst acc mu3 Qd) (xs.drop (i + 1)) (acc ++ [d]) mu4 else lcGo _ still (fun acc mu2 => post mu2 fun mu3 => newLst acc mu3 Qd) (xs.drop (i + 1)) acc nu, fun _ _ => False, S3, L1, go, fun b nu be4 H4 x4 S4 h4 => ?_, fun _ _ _ _ _ _ _ _ _ z => z⟩
      have nD4 : D ∉ be4 := fun z => by
        rcases (x3.trans x4).new D z with z | z
        · exact nD z
        · rw [eD] at z; cases z
      have eD4 : H4 D = some (.lst vacc) := (x3.trans x4).fr D _ eD (.inl nD)
      cases b with
      | false =>
        rw [if_neg Bool.false_ne_true] at h4
        show if false = true then _ else _
        rw [if_neg Bool.false_ne_true]
        exact ⟨rfl, by omega, be4, nu, acc, vacc, (x2.trans x3).trans x4, nD4, S4, eD4, iacc.mono (x3.trans x4), by omega, h4⟩
      | true =>
        rw [if_pos rfl] at h4
        show if true = true then _ else _
        rw [if_pos rfl]
        refine ⟨be4, nu, rh1, _, fun _ _ => False, S4, L1.mono x4, h4, fun d mu5 be5 H5 w x5 S5 d5 h5 => ?_, fun _ _ _ _ _ _ _ _ _ z => z⟩
        have nD5 : D ∉ be5 := fun z => by
          rcases x5.new D z with z | z
          · exact nD4 z
          · rw [eD4] at z; cases z
        have eD5 : H5 D = some (.lst vacc) := x5.fr D _ eD4 (.inl nD4)
        have ia5 := iacc.mono ((x3.trans x4).trans x5)
        have xx : Ext H1 H5 be1 be5 := ((x2.trans x3).trans x4).trans x5
        refine ⟨vacc, eD5, by rw [← ia5.len]; omega, rfl, by omega, be5, mu5, acc ++ [d], vacc ++ [w], ⟨xx.pre, fun b o q z => ?_, xx.new⟩, nD5, S5.beside nD5 eD5 rfl, upd_same, (ia5.append (.one d5)).beside eD5 rfl, by simp; omega, h5⟩
        rw [upd_ne (ne_of_none q hD)]
        exact xx.fr b o q z
    · exact go.elim
  · left
    have e : i = xs.length := by omega
    subst e
    rw [List.drop_length] at go
    simp only [lcGo] at go
    obtain ⟨st, go⟩ := go
    refine ⟨ij.stop H2 be2 mu2 x2 S2 st, ?_⟩
    obtain ⟨H3, mu3, un, x13, S3, go, tp, rp, fr3⟩ := po H2 be2 mu2 _ x2 S2 go
    refine ⟨H3, un, ?_⟩
    have eD3 : H3 D = some (.lst vacc) := by rw [fr3 D nD]; exact eD
    have nHD : H D = none ∨ D ∈ be := by
      cases q : H D with
      | none => exact .inl rfl
      | some o =>
        by_cases hb : D ∈ be
        · exact .inr hb
        · have := x1.fr D o q (.inl hb)
          rw [hD] at this; cases this
    have nHD : H D = none := by
      rcases nHD with h | h
      · exact h
      · exact absurd (x13.pre.subset h) nD
    have x12 : Ext H H3 be (be2 ++ [D]) := ⟨x13.pre.trans (List.prefix_append _ _), x13.fr, fun b hb => by
      rcases List.mem_append.mp hb with hb | hb
      · exact x13.new b hb
      · have : b = D := by simpa using hb
        rw [this]; exact .inr nHD⟩
    have up : ∀ n a, n < be2.length → be2[n]? = some a → (be2 ++ [D])[n]? = some a := fun n a hn e => by rw [List.getElem?_append_left hn]; exact e
    refine kq _ _ (be2 ++ [D]) H3 _ x12 (S3.adopt (c := .lst acc) nD ⟨vacc, eD3, iacc.on tp rp up⟩) ?_ go
    simp only [IsD]
    exact ⟨D, by rw [← S3.len]; simp, rfl⟩
/-- a dict comprehension -/
theorem le_dc {vs : List Nat} {p : CP} {it : CI} {c k e : CE} {Q : VK} (hv : ∀ i ∈ p.slots, i ∈ vs) (h : LE G X.K CT W (.dc vs p it c k e) sg H Q) :
    tUnl X (tDc (LI X G CT W it) (LP X.K p) (LT G X.K CT (fun _ _ _ _ => False) c) (LE G X.K CT (fun _ _ _ _ => False) k) (LE G X.K CT (fun _ _ _ _ => False) e) vs) sg H Q := by
  obtain ⟨be, mu, rh, Qd, Ed, S, L, h, kq, kx⟩ := h
  simp only [wpE] at h
  refine ⟨be, mu, rh, _, Ed, S, L, h, fun xs still post mu1 be1 H1 J x1 S1 ij po h1 => ?_, kx⟩
  intro D hD
  generalize hT : (fun (x : MP.D) (mu2 : Store) (kk : Option (Key × MP.D) → Store → Prop) => onP p x (wipeD rh vs) fun rh1 => wpE G c (fun _ _ => False) rh1 mu2 fun y mu3 => onB y fun b => if b = true then wpE G k (fun _ _ => False) rh1 mu3 fun kd mu4 => wpE G e (fun _ _ => False) rh1 mu4 fun d mu5 => onKey kd fun ky => kk (some (ky, d)) mu5 else kk none mu3) = T at h1
  have hT' : ∀ (x : MP.D) (mu2 : Store) (kk : Option (Key × MP.D) → Store → Prop), T x mu2 kk = onP p x (wipeD rh vs) fun rh1 => wpE G c (fun _ _ => False) rh1 mu2 fun y mu3 => onB y fun b => if b = true then wpE G k (fun _ _ => False) rh1 mu3 fun kd mu4 => wpE G e (fun _ _ => False) rh1 mu4 fun d mu5 => onKey kd fun ky => kk (some (ky, d)) mu5 else kk none mu3 := fun x mu2 kk => by rw [← hT]
  have hL := ij.len
  refine ⟨fun i m H2 => m = xs.length - i ∧ i ≤ xs.length ∧ ∃ be2 mu2 acc vacc, Ext H1 H2 be1 be2 ∧ D ∉ be2 ∧ RepS X.K CT H2 be2 mu2 ∧ H2 D = some (.dK vacc) ∧ IsKs X.K H2 be2 acc vacc ∧ acc.length ≤ i ∧
    dcGo T still (fun acc mu2 => post mu2 fun mu3 => Qd (.ref mu3.length) (mu3 ++ [Cell.dct acc false])) (xs.drop i) acc mu2, ⟨xs.length, rfl, Nat.zero_le _, be1, mu1, [], [], .fresh hD, S1.out hD, S1.fresh hD, upd_same, ⟨rfl, .nil⟩, Nat.zero_le _, by simpa using h1⟩, ?_⟩
  rintro i m H2 ⟨rfl, hi, be2, mu2, acc, vacc, x2, nD, S2, eD, iacc, hacc, go⟩
  by_cases hlt : i < xs.length
  · right
    rw [List.drop_eq_getElem_cons hlt] at go
    simp only [dcGo] at go
    obtain ⟨st, go⟩ := go
    refine ⟨ij.go i H2 be2 mu2 x2 S2 st hlt, fun H' => (fun i m H2 => m = xs.length - i ∧ i ≤ xs.length ∧ ∃ be2 mu2 acc vacc, Ext H1 H2 be1 be2 ∧ D ∉ be2 ∧ RepS X.K CT H2 be2 mu2 ∧ H2 D = some (.dK vacc) ∧ IsKs X.K H2 be2 acc vacc ∧ acc.length ≤ i ∧
      dcGo T still (fun acc mu2 => post mu2 fun mu3 => Qd (.ref mu3.length) (mu3 ++ [Cell.dct acc false])) (xs.drop i) acc mu2) (i + 1) (xs.length - (i + 1)) H', fun H' w => ⟨_, by omega, w⟩, fun v H3 y => ?_⟩
    obtain ⟨x, ex, ix, x3, S3⟩ := ij.yld i H2 be2 mu2 v H3 x2 S2 st hlt y
    have ex' : xs[i] = x := by
      rw [List.getElem?_eq_getElem hlt] at ex
      exact Option.some.inj ex
    rw [ex'] at go
    rw [hT'] at go
    unfold onP at go
    split at go
    · rename_i rh1 eb
      have y3 := (x1.trans x2).trans x3
      refine ⟨be2, x, wipeD rh vs, rh1, ix, (L.mono y3).wiped vs, eb, fun sg1 L1 w1 => ⟨by rw [w1 vs hv, wipe_wipe], ?_⟩⟩
      refine ⟨be2, mu2, rh1, fun b nu => if b = true then wpE G k (fun _ _ => False) rh1 nu fun kd mu4 => wpE G e (fun _ _ => False) rh1 mu4 fun d mu5 => onKey kd fun ky => dcGo T still (fun acc mu2 => post mu2 fun mu3 => Qd (.ref mu3.length) (mu3 ++ [Cell.dct acc false])) (xs.drop (i + 1)) (putD acc ky d) mu5 else dcGo T still (fun acc mu2 => post mu2 fun mu3 => Qd (.ref mu3.length) (mu3 ++ [Cell.dct acc false])) (xs.drop (i + 1)) acc nu, fun _ _ => False, S3, L1, go, fun b nu be4 H4 x4 S4 h4 => ?_, fun _ _ _ _ _ _ _ _ _ z => z⟩
      have nD4 : D ∉ be4 := fun z => by
        rcases (x3.trans x4).new D z with z | z
        · exact nD z
        · rw [eD] at z; cases z
      have eD4 : H4 D = some (.dK vacc) := (x3.trans x4).fr D _ eD (.inl nD)
      cases b with
      | false =>
        rw [if_neg Bool.false_ne_true] at h4
        show if false = true then _ else _
        rw [if_neg Bool.false_ne_true]
        exact ⟨rfl, by omega, be4, nu, acc, vacc, (x2.trans x3).trans x4, nD4, S4, eD4, iacc.mono (x3.trans x4), by omega, h4⟩
      | true =>
        rw [if_pos rfl] at h4
        show if true = true then _ else _
        rw [if_pos rfl]
        refine ⟨be4, nu, rh1, _, fun _ _ => False, S4, L1.mono x4, h4, fun kd mu5 be5 H5 w x5 S5 d5 h5 => ⟨be5, mu5, rh1, _, fun _ _ => False, S5, L1.mono (x4.trans x5), h5, fun d mu6 be6 H6 z x6 S6 d6 h6 => ?_, fun _ _ _ _ _ _ _ _ _ z => z⟩, fun _ _ _ _ _ _ _ _ _ z => z⟩
        unfold onKey at h6
        split at h6
        · rename_i ky ek
          have x56 := x5.trans x6
          have nD6 : D ∉ be6 := fun z => by
            rcases x56.new D z with z | z
            · exact nD4 z
            · rw [eD4] at z; cases z
          have eD6 : H6 D = some (.dK vacc) := x56.fr D _ eD4 (.inl nD4)
          have ia6 := iacc.mono ((x3.trans x4).trans x56)
          have xx : Ext H1 H6 be1 be6 := ((x2.trans x3).trans x4).trans x56
          have pr := putD_rel (k := ky) ia6.1 ia6.2 d6
          have pl := putD_len acc ky d
          refine ⟨vacc, ky, keyV ek (d5.mono x6), eD6, by rw [← ks_len ia6]; omega, rfl, by omega, be6, mu6, putD acc ky d, putK vacc ky z, ⟨xx.pre, fun b o q z => ?_, xx.new⟩, nD6, S6.beside nD6 eD6 rfl, upd_same, ⟨pr.1, pr.2.beside eD6 rfl⟩, by omega, h6⟩
          rw [upd_ne (ne_of_none q hD)]
          exact xx.fr b o q z
        · exact h6.elim
    · exact go.elim
  · left
    have e : i = xs.length := by omega
    subst e
    rw [List.drop_length] at go
    simp only [dcGo] at go
    obtain ⟨st, go⟩ := go
    refine ⟨ij.stop H2 be2 mu2 x2 S2 st, ?_⟩
    obtain ⟨H3, mu3, un, x13, S3, go, tp, rp, fr3⟩ := po H2 be2 mu2 _ x2 S2 go
    refine ⟨H3, un, ?_⟩
    have eD3 : H3 D = some (.dK vacc) := by rw [fr3 D nD]; exact eD
    have nHD : H D = none ∨ D ∈ be := by
      cases q : H D with
      | none => exact .inl rfl
      | some o =>
        by_cases hb : D ∈ be
        · exact .inr hb
        · have := x1.fr D o q (.inl hb)
          rw [hD] at this; cases this
    have nHD : H D = none := by
      rcases nHD with h | h
      · exact h
      · exact absurd (x13.pre.subset h) nD
    have x12 : Ext H H3 be (be2 ++ [D]) := ⟨x13.pre.trans (List.prefix_append _ _), x13.fr, fun b hb => by
      rcases List.mem_append.mp hb with hb | hb
      · exact x13.new b hb
      · have : b = D := by simpa using hb
        rw [this]; exact .inr nHD⟩
    have up : ∀ n a, n < be2.length → be2[n]? = some a → (be2 ++ [D])[n]? = some a := fun n a hn e => by rw [List.getElem?_append_left hn]; exact e
    refine kq _ _ (be2 ++ [D]) H3 _ x12 (S3.adopt (c := .dct acc false) nD ⟨vacc, eD3, iacc.1, iacc.2.on tp rp up⟩) ?_ go
    simp only [IsD]
    exact ⟨D, by rw [← S3.len]; simp, rfl⟩
end
end MP
namespace MP
open PySem PySem.Spec PyProof.Rows L2
structure FnG (P : Program) (w : World) (K : PySem.W.Frag) (mg : Str → Option Value) (base : Heap) (k : Nat) (f : Addr) (fd : FuncData) (ps : List Str) (sp : Sp) : Prop where
  run : ∀ (A : Around) (outer : List Env) (s : Shared) (H : Hp) (args : Args) (us : List Value) (vs : List V) (Q : VK) (E : XK),
    Room k A → A.guards = some [] → Env0 P w K mg base A outer s H → BindsTo s fd args (ps.zip us) → Vals vs us → vs.length = ps.length → sp vs H Q E →
      codeAny (model P w) A (.call (.ref f) args) (CR (L2.CX P w) outer P w H s Q E) s
theorem FnG.mono {P : Program} {w : World} {K : PySem.W.Frag} {mg : Str → Option Value} {base : Heap} {j k : Nat} {f : Addr} {fd : FuncData} {ps : List Str} {sp : Sp} (F : FnG P w K mg base j f fd ps sp) (h : j ≤ k) :
    FnG P w K mg base k f fd ps sp := ⟨fun A outer s H args us vs Q E hr => F.run A outer s H args us vs Q E (hr.mono h)⟩
theorem FnG.imp {P : Program} {w : World} {K : PySem.W.Frag} {mg : Str → Option Value} {base : Heap} {k : Nat} {f : Addr} {fd : FuncData} {ps : List Str} {sp sp' : Sp} (F : FnG P w K mg base k f fd ps sp) (h : ∀ vs H Q E, sp' vs H Q E → sp vs H Q E) :
    FnG P w K mg base k f fd ps sp' := ⟨fun A outer s H args us vs Q E hr hg e b r l q => F.run A outer s H args us vs Q E hr hg e b r l (h _ _ _ _ q)⟩
/-- a promise over data as one over the heap -/
def liftF (K : PySem.W.Frag) (CT : Cls) (sp : DSp) : Sp := fun vs H Q E => ∃ be mu ds Qd Ed, RepS K CT H be mu ∧ IsDs K H be ds vs ∧ sp ds mu Qd Ed ∧ KQ K CT H be Qd Q ∧ KX K CT H be Ed E
def permV (ps : List Nat) (vs : List V) : List V := ps.map fun i => vs.getD i .non
def permU (ps : List Nat) (us : List Value) : List Value := ps.map fun i => us.getD i .none
theorem perm_rel {vs : List V} {us : List Value} (r : Vals vs us) (ps : List Nat) : Vals (permV ps vs) (permU ps us) := by
  induction ps with
  | nil => exact .nil
  | cons i ps ih =>
    refine .cons ?_ ih
    cases e : vs[i]? with
    | none =>
      have e2 := r.none_of e
      simp [List.getD_eq_getElem?_getD, e, e2, L2.RelV]
    | some v =>
      obtain ⟨u, e2, q⟩ := r.get e
      simpa [List.getD_eq_getElem?_getD, e, e2] using q
theorem perm_is {K : PySem.W.Frag} {H : Hp} {be : List Addr} {ds : List D} {vs : List V} (r : IsDs K H be ds vs) (ps : List Nat) : IsDs K H be (perm ps ds) (permV ps vs) := by
  induction ps with
  | nil => exact .nil
  | cons i ps ih =>
    refine .cons ?_ ih
    cases e : ds[i]? with
    | none =>
      have e2 : vs[i]? = none := by
        rw [List.getElem?_eq_none_iff] at e ⊢
        rw [← r.len]; exact e
      simp [List.getD_eq_getElem?_getD, e, e2, IsD]
    | some d =>
      obtain ⟨v, e2, q⟩ := r.get e
      simpa [List.getD_eq_getElem?_getD, e, e2] using q
/-- the text's defs -/
structure XF (n : Nm) (G : Ctx) (CT : Cls) (k : Nat) (X : Cx) : Prop where
  kep : KepOk n CT X
  ct : CtOk CT X
  room : Room k X.A
  fns : ∀ i x, n.fns[i]? = some x → ∃ f fd ps, X.mg x = some (.ref f) ∧ PySem.W.keepIn X.K (.ref f) = true ∧ FnG X.prog X.w X.K X.mg X.base k f fd ps (liftF X.K CT (G.fn i)) ∧
    ∀ np ks pm, (i, np, ks, pm) ∈ n.kwp → pm.length = ps.length ∧ ∀ (s : Shared) (us ws : List Value), X.K.In s.heap → us.length = np → ws.length = ks.length → BindsTo s fd ⟨us, ks.zip ws⟩ (ps.zip (permU pm (us ++ ws)))
section
variable {X : Cx} {k : Nat} {f : Addr} {fd : FuncData} {ps ks : List Str} {sp : Sp} {W : WX} {x : Str} {p pos : Pos}
theorem run_G {pins : List (Addr × Obj)} {σ : L2.St} {H : Hp} {s : Shared} {Q : VK} {args : Args} {us : List Value} {vs : List V} (F : FnG X.prog X.w X.K X.mg X.base k f fd ps sp) (hr : Room k X.A) (hg : X.A.guards = some []) (tk : Takes X W) (I : Inv X pins σ H s)
    (b : BindsTo s fd args (ps.zip us)) (r : Vals vs us) (hl : vs.length = ps.length) (h : sp vs H Q (WE W σ)) : codeAny (model X.prog X.w) X.A (.call (.ref f) args) (fun r s' => match r with | .ok (.ret u) => EP X pins σ Q u s' | .ok _ => False | .error e => X.xe e s') s := by
  refine codeAny_mono (F.run X.A X.stack s H args us vs Q (WE W σ) hr hg I.env0 b r hl h) fun r s' hq => ?_
  match r, hq with
  | .error e, hq => exact passAt tk σ pins H s e s' I hq
  | .ok (.ret u), hq => exact I.after hq
  | .ok .next, hq => exact hq.elim
  | .ok .brk, hq => exact hq.elim
  | .ok .cont, hq => exact hq.elim
/-- f(e, .., k = v, ..), any number of either -/
theorem pe_G {args : List Expr} {kws : List Keyword} {t tk' : TA} {pm : List Nat} (F : FnG X.prog X.w X.K X.mg X.base k f fd ps sp) (hr : Room k X.A) (hgd : X.A.guards = some []) (tk : Takes X W) (hg : Gl X x) (hm : X.mg x = some (.ref f)) (hk : PySem.W.keepIn X.K (.ref f) = true)
    (hpm : pm.length = ps.length) (hb : ∀ (s : Shared) (us ws : List Value), X.K.In s.heap → us.length = args.length → ws.length = ks.length → BindsTo s fd ⟨us, ks.zip ws⟩ (ps.zip (permU pm (us ++ ws))))
    (ha : PA X args t) (hkw : PK X kws tk') (hst : args.all nst = true) (hks : kws.map (·.arg) = ks.map some) (hdb : (x == ("__debug__" : Str)) = false)
    (hnil : args = [] → ∀ σ H Q, t σ H Q → Q [] H) (hl : ∀ σ H Q, t σ H Q → t σ H fun vs H1 => vs.length = args.length ∧ Q vs H1) (hl2 : ∀ σ H Q, tk' σ H Q → tk' σ H fun vs H1 => vs.length = ks.length ∧ Q vs H1) :
    PE X (.Call (.Name x p) args kws pos) (fun σ H Q => t σ H fun vs H1 => tk' σ H1 fun zs H2 => sp (permV pm (vs ++ zs)) H2 Q (WE W σ)) := by
  refine ⟨fun pins s σ H Q I h => wpAny_Call_Name_kw (ld_glob I hg hm ?_ hdb)⟩
  have hsome : (backToKw pos (keywordEach kws X.env)).all (·.1.isSome) = true ∧ (backToKw pos (keywordEach kws X.env)).filterMap (·.1) = ks ∧ (backToKw pos (keywordEach kws X.env)).any (·.1.isNone) = false := by
    have gen : ∀ (kws : List Keyword) (ks : List Str), kws.map (·.arg) = ks.map some → (backToKw pos (keywordEach kws X.env)).all (·.1.isSome) = true ∧ (backToKw pos (keywordEach kws X.env)).filterMap (·.1) = ks ∧ (backToKw pos (keywordEach kws X.env)).any (·.1.isNone) = false := by
      intro kws
      induction kws with
      | nil =>
        intro ks e
        have : ks = [] := by cases ks <;> simp_all
        subst this
        exact ⟨rfl, rfl, rfl⟩
      | cons q kws ih =>
        intro ks e
        obtain ⟨nm, ex, kp⟩ := q
        cases ks with
        | nil => simp at e
        | cons y ks =>
          simp only [List.map_cons, List.cons.injEq] at e
          obtain ⟨e1, e2⟩ := e
          subst e1
          obtain ⟨a, b, c⟩ := ih ks e2
          show ((true && (backToKw pos (keywordEach kws X.env)).all (·.1.isSome)) = true) ∧ (y :: (backToKw pos (keywordEach kws X.env)).filterMap (·.1)) = y :: ks ∧ (false || (backToKw pos (keywordEach kws X.env)).any (·.1.isNone)) = false
          rw [a, b, c]
          exact ⟨rfl, rfl, rfl⟩
    exact gen kws ks hks
  obtain ⟨h1, h2, h3⟩ := hsome
  have fin : ∀ (us ws : List Value) (vs zs : List V) (s2 : Shared) (H2 : Hp), Inv X pins σ H2 s2 → Vals vs us → Vals zs ws → vs.length = args.length → zs.length = ks.length → sp (permV pm (vs ++ zs)) H2 Q (WE W σ) →
      wpAny (model X.prog X.w) X.A (call (.ref f) us (ks.zip ws)) (EP X pins σ Q) X.xe s2 := fun us ws vs zs s2 H2 I2 r rz e1 e2 q => by
    refine wpAny_call (codeAny_mono (run_G F hr hgd tk I2 (hb s2 us ws I2.kIn (by rw [← r.length]; exact e1) (by rw [← rz.length]; exact e2)) (perm_rel (r.append rz) pm) (by simp [permV, hpm]) q) fun r s' hq => ?_)
    match r, hq with
    | .error e, hq => exact hq
    | .ok (.ret u), hq => exact hq
    | .ok .next, hq => exact hq.elim
    | .ok .brk, hq => exact hq.elim
    | .ok .cont, hq => exact hq.elim
  have kin := I.ok.mod.kin
  cases args with
  | nil =>
    have q1 := hnil rfl σ H _ h
    refine PySem.W.callWith_KW0 (h₀ := X.base) kin hk h1 (thn (hkw.run pos pins s σ H _ I (hl2 _ _ _ q1)) fun ws s2 ⟨zs, H2, I2, rz, e2, q2⟩ => ⟨I2.kIn, ?_⟩) h3
    rw [h2]
    exact fin [] ws [] zs s2 H2 I2 .nil rz rfl e2 q2
  | cons e es =>
    have hst' : nst e = true ∧ es.all nst = true := by
      rw [List.all_cons, Bool.and_eq_true] at hst
      exact hst
    refine PySem.W.callWith_KW (h₀ := X.base) kin hk h1 (thn (ha.run pos pins s σ H _ I (hl _ _ _ h)) fun us s1 ⟨vs, H1, I1, r, e1, q⟩ => ?_) (by rw [star_any hst, h3]; rfl) (star1 hst'.1 _ _)
    refine thn (hkw.run pos pins s1 σ H1 _ I1 (hl2 _ _ _ q)) fun ws s2 ⟨zs, H2, I2, rz, e2, q2⟩ => ⟨I2.kIn, ?_⟩
    rw [h2]
    exact fin us ws vs zs s2 H2 I2 r rz e1 e2 q2
end
end MP
namespace MP
open PySem PySem.Spec PyProof.Rows L2
def ownOf (n : Nm) (vs : List Nat) : List (Str × Nat) := vs.map fun i => (n.N.getD i Str.empty, i)
theorem ownOf_snd (n : Nm) (vs : List Nat) : (ownOf n vs).map (·.2) = vs := by
  unfold ownOf
  rw [List.map_map]
  exact List.map_id' vs
def mCon (n : Nm) (sc : Scope) (d : D) : Expr → Bool
  | .Constant (.int i) _ _ => D.beq (.int i) d
  | .Constant (.str x) _ _ => D.beq (.str x) d
  | .Constant (.bool b) _ _ => D.beq (.bl b) d
  | .Constant .none _ _ => D.beq .non d
  | .Name x _ => glB sc x && (match n.cons.lookup x with
    | some e => D.beq e d
    | none => false)
  | _ => false
/-- a call that «super» does not look at -/
def callB : Expr → Bool
  | .Call (.Name x _) _ _ _ => !decide (x = ("super" : Str))
  | .Call (.Attribute _ _ _) _ _ _ => true
  | _ => false
/-- no test of a comprehension -/
def isTrueC : CE → Bool
  | .con (.bl true) => true
  | _ => false
mutual
def mE (n : Nm) : CE → Scope → Scope → Expr → Bool
  | .con d, _, sc, e => mCon n sc d e
  | .var i, _, sc, e => match e with
    | .Name x _ => decide (n.N[i]? = some x) && visB sc x && okN x
    | _ => false
  | .tup es, s0, sc, e => match e with
    | .Tuple xs _ _ => mEs n es s0 sc xs
    | _ => false
  | .lst es, s0, sc, e => match e with
    | .List xs _ => mEs n es s0 sc xs
    | _ => false
  | .op1 o a, s0, sc, e => match sh1 n sc o e with
    | some x => mE n a s0 sc x
    | none => false
  | .op2 o a b, s0, sc, e => match sh2 n sc o e with
    | some (x, y) => mE n a s0 sc x && mE n b s0 sc y
    | none => false
  | .op3 o a b c, s0, sc, e => match sh3 o e with
    | some (x, y, z) => mE n a s0 sc x && mE n b s0 sc y && mE n c s0 sc z
    | none => false
  | .dnew _, _, _, e => match e with
    | .Dict [] [] _ => true
    | _ => false
  | .disp es, s0, sc, e => match e with
    | .Dict ks vs _ => mDs n es s0 sc ks vs && decide (ks ≠ []) && decide (ks.length ≤ 15)
    | _ => false
  | .dc vs p it c k e, s0, sc, x => match x with
    | .DictComp kx vx [⟨tg, iter, ifs, 0⟩] scope _ => blkC n.N sc scope (ownOf n vs) && mP n scope p tg && p.slots.all (fun i => vs.contains i) && nset iter && mI n it s0 sc tg iter &&
        (match ifs with
          | [] => isTrueC c
          | [f] => mE n c scope (relS scope sc) f
          | _ => false) && mE n k scope (relS scope sc) kx && mE n e scope (relS scope sc) vx
    | _ => false
  | .cond t a b, s0, sc, e => match e with
    | .IfExp x y z _ => mE n t s0 sc x && mE n a s0 sc y && mE n b s0 sc z
    | _ => false
  | .and a b, s0, sc, e => match e with
    | .BoolOp .And (x :: y :: r) p => mE n a s0 sc x && (match r with
      | [] => mE n b s0 sc y
      | _ => mE n b s0 sc (.BoolOp .And (y :: r) p))
    | _ => false
  | .or a b, s0, sc, e => match e with
    | .BoolOp .Or (x :: y :: r) p => mE n a s0 sc x && (match r with
      | [] => mE n b s0 sc y
      | _ => mE n b s0 sc (.BoolOp .Or (y :: r) p))
    | _ => false
  | .not a, s0, sc, e => match e with
    | .UnaryOp .Not x _ => mE n a s0 sc x
    | _ => false
  | .chain o p a b c, s0, sc, e => match e with
    | .Compare x [u, v] [y, z] _ => decide (shC o = some u) && decide (shC p = some v) && mE n a s0 sc x && mE n b s0 sc y && mE n c s0 sc z
    | _ => false
  | .sl e lo hi, s0, sc, x => match x with
    | .Subscript y (.Slice l h none _) _ => mE n e s0 sc y && mO n lo s0 sc l && mO n hi s0 sc h
    | _ => false
  | .call f pm es ks, s0, sc, e => match e with
    | .Call (.Name x _) args kws _ => decide (n.fns[f]? = some x) && glB sc x && args.all nst && mEs n es s0 sc args && mEs n ks s0 sc (kws.map (·.value)) &&
        n.kwp.any fun q => decide (q.1 = f) && decide (q.2.1 = args.length) && decide (kws.map (·.arg) = q.2.2.1.map some) && decide (q.2.2.2 = pm)
    | _ => false
  | .lc vs p it c e, s0, sc, x => match x with
    | .ListComp elt [⟨tg, iter, ifs, 0⟩] scope _ => blkC n.N sc scope (ownOf n vs) && mP n scope p tg && p.slots.all (fun i => vs.contains i) && nset iter && mI n it s0 sc tg iter &&
        (match ifs with
          | [] => isTrueC c
          | [f] => mE n c scope (relS scope sc) f
          | _ => false) && mE n e scope (relS scope sc) elt
    | _ => false
  | .gc e, s0, sc, x => mE n e s0 sc x
def mEs (n : Nm) : CEs → Scope → Scope → List Expr → Bool
  | .nil, _, _, es => match es with
    | [] => true
    | _ => false
  | .cons e r, s0, sc, es => match es with
    | x :: xs => nst x && mE n e s0 sc x && mEs n r s0 sc xs
    | [] => false
/-- a display: keys and values by turns -/
def mDs (n : Nm) : CEs → Scope → Scope → List (Option Expr) → List Expr → Bool
  | .nil, _, _, ks, vs => match ks, vs with
    | [], [] => true
    | _, _ => false
  | .cons k (.cons v r), s0, sc, ks, vs => match ks, vs with
    | some x :: ks, y :: vs => mE n k s0 sc x && mE n v s0 sc y && mDs n r s0 sc ks vs
    | _, _ => false
  | _, _, _, _, _ => false
def mO (n : Nm) : CO → Scope → Scope → Option Expr → Bool
  | .no, _, _, e => match e with
    | none => true
    | _ => false
  | .some e, s0, sc, x => match x with
    | some y => mE n e s0 sc y
    | none => false
def mI (n : Nm) : CI → Scope → Scope → Expr → Expr → Bool
  | .seq e, s0, sc, _, x => mE n e s0 sc x
  | .rng1 e, s0, sc, _, x => match x with
    | .Call f [a] [] _ => bltB n sc f "range" && nst a && mE n e s0 sc a
    | _ => false
  | .rng2 a b, s0, sc, _, x => match x with
    | .Call f [y, z] [] _ => bltB n sc f "range" && nst y && nst z && mE n a s0 sc y && mE n b s0 sc z
    | _ => false
  | .rng3 a b c, s0, sc, _, x => match x with
    | .Call f [y, z, w] [] _ => bltB n sc f "range" && nst y && nst z && nst w && mE n a s0 sc y && mE n b s0 sc z && mE n c s0 sc w
    | _ => false
  | .enum e, s0, sc, tg, x => match tg, x with
    | .Tuple _ _ _, .Call f [y] [] _ => bltB n sc f "enumerate" && nst y && mE n e s0 sc y
    | _, _ => false
  | .zip a b, s0, sc, tg, x => match tg, x with
    | .Tuple _ _ _, .Call f [y, z] [] _ => bltB n sc f "zip" && nst y && nst z && mE n a s0 sc y && mE n b s0 sc z
    | _, _ => false
  | .items e, s0, sc, tg, x => match tg, x with
    | .Tuple _ _ _, .Call (.Attribute a m p) [] [] q => decide (m = ("items" : Str)) && (plainB a || callB a) && sameLine p q && mE n e s0 sc a
    | _, _ => false
  | .vals e, s0, sc, _, x => match x with
    | .Call (.Attribute a m p) [] [] q => decide (m = ("values" : Str)) && (plainB a || callB a) && sameLine p q && mE n e s0 sc a
    | _ => false
end
section
variable {n : Nm} {sc0 sc : Scope} {X : Cx} {CT : Cls} {G : Ctx} {W : WX} {k : Nat}
theorem rel_scope (scope : Scope) (cl : List (Str × Addr)) (C : Addr) (env : Env) : (compEnvC scope cl C env).scope = relS scope env.scope := rfl
theorem XO.blk (O : XO n sc0 sc X) {scope : Scope} {own : List (Str × Nat)} (h : blkC n.N sc scope own = true) (s : Shared) (H : Hp) (C : Addr) (cl : List (Str × Addr)) (fp : List Addr) : XO n scope (relS scope sc) (X.blk s H scope (compEnvC scope cl C X.env) fp) := by
  have B := blkOk_by h
  refine ⟨by show (compEnvC scope cl C X.env).scope = _; rw [rel_scope, O.scp], O.N, O.nd, O.calm, O.hu, O.hg, O.blt, O.cons, PassesOwn.never, fun x hx => ?_, B.kind⟩
  unfold locB at hx
  split at hx
  · rename_i e
    have e2 := lookup_relS_keep (sc := sc) (k := .local) (by decide) e
    exact ⟨.inl e2, .inr e2⟩
  · rename_i e
    have e2 := lookup_relS_keep (sc := sc) (k := .cell) (by decide) e
    refine ⟨.inr e2, .inl ?_⟩
    show (scope.names.lookup x == some .cell) = true
    rw [e]; rfl
  · cases hx
theorem XF.blk (F : XF n G CT k X) (s : Shared) (H : Hp) (scope : Scope) (C : Addr) (cl : List (Str × Addr)) (fp : List Addr) : XF n G CT k (X.blk s H scope (compEnvC scope cl C X.env) fp) := ⟨⟨F.kep.mgE, F.kep.kc, F.kep.kit, F.kep.nof, F.kep.kiv⟩, F.ct, F.room, F.fns⟩
def CEs.len : CEs → Nat
  | .nil => 0
  | .cons _ r => r.len + 1
theorem wpEs_len : ∀ (c : CEs) {E : QX} {rh : Sl} {mu : Store} {Q : List D → Store → Prop}, wpEs G c E rh mu Q → wpEs G c E rh mu fun ds nu => ds.length = c.len ∧ Q ds nu
  | .nil, _, _, _, _, h => by
    simp only [wpEs] at h ⊢
    exact ⟨rfl, h⟩
  | .cons e r, _, _, _, _, h => by
    simp only [wpEs] at h ⊢
    exact wpE_mono e (fun _ _ z => z) (fun x nu q => wpEs_mono r (fun _ _ z => z) (fun xs nu q => ⟨by simp [CEs.len, q.1], q.2⟩) (wpEs_len r q)) h
theorem la_len {K : PySem.W.Frag} {c : CEs} {sg : L2.St} {H : Hp} {Q : List V → Hp → Prop} (h : LA G K CT W c sg H Q) : LA G K CT W c sg H fun vs H1 => vs.length = c.len ∧ Q vs H1 := by
  obtain ⟨be, mu, rh, Qd, Ed, S, L, h, kq, kx⟩ := h
  exact ⟨be, mu, rh, _, Ed, S, L, wpEs_len c h, fun ds nu be' H' vs x S' i q => ⟨by rw [← i.len]; exact q.1, kq ds nu be' H' vs x S' i q.2⟩, kx⟩
theorem mEs_len : ∀ (c : CEs) {es : List Expr}, mEs n c sc0 sc es = true → es.length = c.len ∧ es.all nst = true
  | .nil, es, h => by
    cases es <;> simp only [mEs] at h
    · exact ⟨rfl, rfl⟩
    · cases h
  | .cons e r, es, h => by
    cases es <;> simp only [mEs] at h
    · cases h
    · simp only [Bool.and_eq_true] at h
      obtain ⟨a, b⟩ := mEs_len r h.2
      exact ⟨by simp [CEs.len, a], by rw [List.all_cons, h.1.1, b]; rfl⟩
theorem PO.imp {e : Option Expr} {t u : TO} (h : PO X e t) (k : ∀ σ H Q, u σ H Q → t σ H Q) : PO X e u := ⟨fun pins s σ H Q I q => h.run pins s σ H Q I (k _ _ _ q)⟩
theorem PA.imp {e : List Expr} {t u : TA} (h : PA X e t) (k : ∀ σ H Q, u σ H Q → t σ H Q) : PA X e u := ⟨fun pos pins s σ H Q I q => h.run pos pins s σ H Q I (k _ _ _ q)⟩
theorem PK.imp {e : List Keyword} {t u : TA} (h : PK X e t) (k : ∀ σ H Q, u σ H Q → t σ H Q) : PK X e u := ⟨fun pos pins s σ H Q I q => h.run pos pins s σ H Q I (k _ _ _ q)⟩
theorem PI.imp {tg e : Expr} {t u : TI} (h : PI X tg e t) (k : ∀ σ H Q, u σ H Q → t σ H Q) : PI X tg e u := ⟨fun pins s σ H Q I q => h.run pins s σ H Q I (k _ _ _ q)⟩
theorem PTs.imp {e : List Expr} {t u : TT} (h : PTs X e t) (k : ∀ σ H Q, u σ H Q → t σ H Q) : PTs X e u := ⟨fun pins s σ H Q I q => h.run pins s σ H Q I (k _ _ _ q)⟩
theorem sndCon (O : XO n sc0 sc X) (d : D) (e : Expr) (h : mCon n sc d e = true) : PE X e (LE G X.K CT W (.con d)) := by
  unfold mCon at h
  split at h
  · have := beq_D h; subst this
    refine PE.imp pe_int fun σ H Q q => ?_
    obtain ⟨be, mu, Qd, S, q, kq⟩ := le_con q
    exact kq.at_ S (by simp only [IsD]) q
  · have := beq_D h; subst this
    refine PE.imp pe_str fun σ H Q q => ?_
    obtain ⟨be, mu, Qd, S, q, kq⟩ := le_con q
    exact kq.at_ S (by simp only [IsD]) q
  · have := beq_D h; subst this
    refine PE.imp pe_bl fun σ H Q q => ?_
    obtain ⟨be, mu, Qd, S, q, kq⟩ := le_con q
    exact kq.at_ S (by simp only [IsD]) q
  · have := beq_D h; subst this
    refine PE.imp pe_non fun σ H Q q => ?_
    obtain ⟨be, mu, Qd, S, q, kq⟩ := le_con q
    exact kq.at_ S (by simp only [IsD]) q
  · rename_i x pos
    rw [Bool.and_eq_true] at h
    obtain ⟨h1, h2⟩ := h
    obtain ⟨g1, g2, g3⟩ := gl_of O h1
    split at h2
    · rename_i e0 el
      have := beq_D h2; subst this
      obtain ⟨u, hm, hu⟩ := O.cons (x, e0) (mem_of_lookup el)
      refine ⟨fun pins s σ H Q I q => ld_glob I g1 hm ?_ g2⟩
      obtain ⟨be, mu, Qd, S, q, kq⟩ := le_con q
      obtain ⟨v, r, id⟩ := hu H be
      exact ⟨v, H, I, r, kq.at_ S id q⟩
    · cases h2
  · cases h
theorem vis_of {sc : Scope} {x : Str} (h : visB sc x = true) : Vis sc x := by
  unfold visB at h
  split at h
  · exact .inl (by assumption)
  · exact .inr (.inl (by assumption))
  · exact .inr (.inr (by assumption))
  · cases h
theorem fset_of {e : Expr} {env : Env} (h : nset e = true) (x : Value) : foldedSetIterable e env x = pure x := by
  cases e <;> first | rfl | cases h
end
section
variable {n : Nm} {sc0 sc : Scope} {X : Cx} {CT : Cls} {G : Ctx} {W : WX} {K : PySem.W.Frag} {sg : L2.St} {H : Hp}
theorem pw_of {op : BoolOp} {es : List Expr} {p : Pos} {t : TT} (h : PT X (.BoolOp op es p) t) : PW X (.BoolOp op es p) t := ⟨fun _ => h.run⟩
theorem snd1T (O : XO n sc0 sc X) (Kp : KepOk n CT X) (C : CtOk CT X) (o : O1) {e a : Expr} {c : CE} (h : sh1 n sc o e = some a) (ha : PE X a (LE G X.K CT W c)) : PT X e (LT G X.K CT W (.op1 o c)) := by
  have p := snd1 (CT := CT) (G := G) (W := W) O Kp C o h ha
  unfold sh1 at h
  split at h
  case h_13 =>
    cases h
    refine PT.imp (pt_cmpR (isN_D (CT := CT)) ha pe_non (nomark _)) fun σ H Q q => ?_
    exact (le_op1 (lt_le q)).mono fun v H1 r => ⟨rfl, r⟩
  case h_14 =>
    cases h
    refine PT.imp (pt_cmpR (notN_D (CT := CT)) ha pe_non (nomark _)) fun σ H Q q => ?_
    exact (le_op1 (lt_le q)).mono fun v H1 r => ⟨rfl, r⟩
  case h_15 =>
    cases h
    refine PT.imp (pt_cmpR (isB_D (CT := CT) false) ha pe_bl (nomark _)) fun σ H Q q => ?_
    exact (le_op1 (lt_le q)).mono fun v H1 r => ⟨rfl, r⟩
  case h_16 =>
    cases h
    refine PT.imp (pt_cmpR (isB_D (CT := CT) true) ha pe_bl (nomark _)) fun σ H Q q => ?_
    exact (le_op1 (lt_le q)).mono fun v H1 r => ⟨rfl, r⟩
  all_goals first
    | exact PT.imp (pt_val p) fun σ H Q q => lt_le q
    | cases h
theorem snd2T (O : XO n sc0 sc X) (C : CtOk CT X) (o : O2) {e a b : Expr} {c d : CE} (h : sh2 n sc o e = some (a, b)) (ha : PE X a (LE G X.K CT W c)) (hb : PE X b (LE G X.K CT W d)) : PT X e (LT G X.K CT W (.op2 o c d)) := by
  have p := snd2 (CT := CT) (G := G) (W := W) O C o h ha hb
  have hu := O.hu
  unfold sh2 at h
  split at h
  case h_7 => cases h; exact PT.imp (pt_cmpR (eq_D (by omega)) ha hb (nomark _)) fun σ H Q q => le_op2 (lt_le q)
  case h_8 => cases h; exact PT.imp (pt_cmpR (ne_D (by omega)) ha hb (nomark _)) fun σ H Q q => le_op2 (lt_le q)
  case h_9 => cases h; exact PT.imp (pt_cmpR (eqd_D (by omega)) ha hb (nomark _)) fun σ H Q q => le_op2 (lt_le q)
  case h_10 => cases h; exact PT.imp (pt_cmpR (ned_D (by omega)) ha hb (nomark _)) fun σ H Q q => le_op2 (lt_le q)
  case h_11 => cases h; exact PT.imp (pt_cmpR lt_D ha hb (nomark _)) fun σ H Q q => le_op2 (lt_le q)
  case h_12 => cases h; exact PT.imp (pt_cmpR le_D ha hb (nomark _)) fun σ H Q q => le_op2 (lt_le q)
  case h_13 => cases h; exact PT.imp (pt_cmpR gt_D ha hb (nomark _)) fun σ H Q q => le_op2 (lt_le q)
  case h_14 => cases h; exact PT.imp (pt_cmpR ge_D ha hb (nomark _)) fun σ H Q q => le_op2 (lt_le q)
  case h_15 =>
    split at h <;> cases h
    rename_i k
    exact PT.imp (pt_cmpR (in_D (by omega) C) ha hb (nset_mark k)) fun σ H Q q => le_op2 (lt_le q)
  case h_16 =>
    split at h <;> cases h
    rename_i k
    exact PT.imp (pt_cmpR (nin_D (by omega) C) ha hb (nset_mark k)) fun σ H Q q => le_op2 (lt_le q)
  case h_27 =>
    split at h <;> cases h
    rename_i k
    exact PT.imp (pt_cmpR (ind_D (by omega)) ha hb (nset_mark k)) fun σ H Q q => le_op2 (lt_le q)
  case h_28 =>
    split at h <;> cases h
    rename_i k
    exact PT.imp (pt_cmpR (nind_D (by omega)) ha hb (nset_mark k)) fun σ H Q q => le_op2 (lt_le q)
  all_goals first
    | exact PT.imp (pt_val p) fun σ H Q q => lt_le q
    | cases h
/-- values by turns as pairs -/
def pairUp : List V → List (V × V)
  | k :: v :: r => (k, v) :: pairUp r
  | _ => []
theorem disp_is {be : List Addr} : ∀ {ds : List MP.D} {kvs : List (Key × MP.D)} {vs : List V}, dispOf ds = some kvs → IsDs K H be ds vs → ∃ gs : List (Key × V), pairUp vs = gs.map (fun kv => (kV kv.1, kv.2)) ∧ IsKs K H be kvs gs
  | [], kvs, vs, e, i => by
    simp only [dispOf, Option.some.injEq] at e
    subst e
    simp only [IsDs] at i
    subst i
    exact ⟨[], rfl, rfl, .nil⟩
  | [_], kvs, vs, e, i => by simp only [dispOf] at e; cases e
  | k :: v :: r, kvs, vs, e, i => by
    simp only [dispOf] at e
    split at e
    · rename_i kk ek
      simp only [Option.map_eq_some_iff] at e
      obtain ⟨r2, e2, rfl⟩ := e
      simp only [IsDs] at i
      obtain ⟨v1, w, rfl, i1, v2, w2, rfl, i2, i3⟩ := i
      obtain ⟨gs, q1, q2, q3⟩ := disp_is e2 i3
      exact ⟨(kk, v2) :: gs, by simp only [pairUp, List.map_cons]; rw [q1, keyV ek i1], by simp [q2], .cons i2 q3⟩
    · cases e
theorem le_disp {es : CEs} {trs : List (TE × TE)} {Q : VK} (q : ∀ σ H (Q : List (V × V) → Hp → Prop), LA G K CT W es σ H (fun vs H' => Q (pairUp vs) H') → tPairs trs σ H Q) (h : LE G K CT W (.disp es) sg H Q) : tDisp trs sg H Q := by
  obtain ⟨be, mu, rh, Qd, Ed, S, L, h, kq, kx⟩ := h
  simp only [wpE] at h
  intro p hp
  have x0 : Ext H (upd H p (.dK [])) be be := .fresh hp
  refine q _ _ _ ⟨be, mu, rh, _, Ed, S.fresh hp, L.mono x0, h, fun ds mu1 be1 H1 vs x1 S1 d1 h1 => ?_, kx.mono x0⟩
  have np : p ∉ be1 := fun z => by
    rcases x1.new p z with z | z
    · exact S.out hp z
    · rw [upd_same] at z; cases z
  have e1 : H1 p = some (.dK []) := x1.fr p _ upd_same (.inl (S.out hp))
  unfold onDisp at h1
  split at h1
  · rename_i kvs ek
    obtain ⟨gs, eg, ik⟩ := disp_is ek d1
    have ln := ks_len ik
    refine ⟨e1, gs, eg, by rw [← ln]; exact h1.1, ?_⟩
    have mr := merge_rel (kvs := []) (gs := []) ik ⟨rfl, .nil⟩
    have xx : Ext H (upd H1 p (.dK (mergeK [] gs))) be (be1 ++ [p]) := ⟨x1.pre.trans (List.prefix_append _ _), fun b o e z => by
        have nb : b ≠ p := ne_of_none e hp
        rw [upd_ne nb]
        exact x1.fr b o (by rw [upd_ne nb]; exact e) z, fun b hb => by
        rcases List.mem_append.mp hb with hb | hb
        · rcases x1.new b hb with z | z
          · exact .inl z
          · by_cases nb : b = p
            · subst nb; exact .inr hp
            · rw [upd_ne nb] at z; exact .inr z
        · have : b = p := by simpa using hb
          rw [this]; exact .inr hp⟩
    have S2 := S1.beside np e1 (o := .dK (mergeK [] gs)) rfl
    have up : ∀ n a, n < be1.length → be1[n]? = some a → (be1 ++ [p])[n]? = some a := fun n a hn e => by rw [List.getElem?_append_left hn]; exact e
    refine kq _ _ (be1 ++ [p]) _ _ xx (S2.adopt (c := .dct (mergeD [] kvs) false) np ⟨_, upd_same, mr.1, (mr.2.beside e1 rfl).on (fun _ _ q => q) (fun _ _ q => q) up⟩) ?_ h1.2
    simp only [IsD]
    exact ⟨p, by rw [← S1.len]; simp, rfl⟩
  · exact h1.elim
/-- {} -/
theorem sndNew {p : Pos} (C : CtOk CT X) (t : Bool) : PE X (.Dict [] [] p) (LE G X.K CT W (.dnew t)) := by
  cases t with
  | false =>
    refine PE.imp pe_dnewK fun σ H Q q => ?_
    obtain ⟨be, mu, rh, Qd, Ed, S, L, h, kq, kx⟩ := q
    simp only [wpE, Bool.false_eq_true, if_false] at h
    intro p hp
    have x : Ext H (upd H p (.dK [])) be (be ++ [p]) := .cell hp
    exact kq _ _ (be ++ [p]) _ _ x (S.cell (c := .dct [] false) hp ⟨[], upd_same, rfl, .nil⟩) (by simp only [IsD]; exact ⟨p, by rw [← S.len]; simp, rfl⟩) h
  | true =>
    refine ⟨fun pins s σ H Q I q => ?_⟩
    obtain ⟨be, mu, rh, Qd, Ed, S, L, h, kq, kx⟩ := q
    simp only [wpE, if_true] at h
    have hp := I.hok.fresh (Nat.le_refl s.heap.objs.size)
    have nm : (s.heap.objs.size == sysModules) = false := beq_eq_false_iff_ne.mpr (Ne.symm (Nat.ne_of_lt I.big))
    have x : Ext H (upd H s.heap.objs.size (TkO CT s.heap.objs.size [])) be (be ++ [s.heap.objs.size]) := .cell hp
    refine wpAny_Dict_empty ⟨.ref s.heap.objs.size, _, I.laid (a := s.heap.objs.size) (o := TkO CT s.heap.objs.size []) (t' := s.toks) (fun _ _ q => Heap.get?_push_of_some _ q) (Nat.le_refl _) ?_, rfl,
      kq _ _ (be ++ [s.heap.objs.size]) _ _ x (S.cell (c := .dtk []) hp ⟨[], upd_same, rfl, Nat.zero_le _, ⟨[], .nil, .nil⟩, fun x hx => absurd hx List.not_mem_nil⟩) (by simp only [IsD]; exact ⟨_, by rw [← S.len]; simp, rfl⟩) h⟩
    have ob := Heap.get?_push_size s.heap (o := { cls := .type "dict", data := .dict #[] }) rfl
    exact ⟨⟨_, #[], 0, ob, ⟨rfl, rfl, rfl⟩, rfl, rfl, List.nodup_nil, nm⟩, ⟨_, ob⟩, fun h1 h2 ⟨o, es, ep, z1, z⟩ kp => ⟨o, es, ep, kp o z1, z⟩⟩
theorem base_or {o : Expr} {m : Str} {env : Env} {w : Sem Value} (h : plainB o = true ∨ callB o = true) : attributeBase o m env w = w := by
  rcases h with h | h
  · exact base_of h
  · unfold callB at h
    split at h
    · rename_i x p a k q
      simp only [Bool.not_eq_true', decide_eq_false_iff_not] at h
      unfold attributeBase
      split
      · rename_i heq
        simp only [Expr.Call.injEq, Expr.Name.injEq] at heq
        obtain ⟨⟨rfl, _⟩, _⟩ := heq
        have : (x == Str.ofString "super") = false := by simpa using h
        simp [this]
        exact fun e => absurd e h
      · rfl
    · rfl
    · cases h
theorem pi_zipB {e e2 : Expr} {ta : TA} {p pos tpos : Pos} {elts : List Expr} {kk : Nat} (hg : Gl X "zip") (hm : X.mg "zip" = none) (ha : PA X [e, e2] ta) (hs : starEach [e, e2] X.env = (false, eval e X.env) :: starEach [e2] X.env) (hpl : (backTo pos (starEach [e2] X.env)).any (·.1) = false) :
    PI X (.Tuple elts kk tpos) (.Call (.Name "zip" p) [e, e2] [] pos) (fun σ H R => ta σ H fun vs H1 => ∃ p q xs ys, vs = [V.ref p, V.ref q] ∧
    ((SqL X.K H1 p xs ∧ SqL X.K H1 q ys ∧ (xs.length ≤ sizeLine → R (Itz X.K p q) H1)) ∨ (SqT X.K H1 p xs ∧ SqT X.K H1 q ys ∧ (xs.length ≤ sizeLine → R (RZ.ItzT X.K p q) H1)))) := by
  refine ⟨fun pins s σ H R I h => ?_⟩
  refine Call_ (ld_blt I hg hm PyProof.Rows.boot_zip (PyProof.Rows.callWith_type1 (thn (ha.run pos pins s σ H _ I h) fun us s1 ⟨vs, H1, I1, r1, q1⟩ => ?_) hs hpl))
  obtain ⟨a, b, xs, ys, ex, q1⟩ := q1
  subst ex
  cases r1 with
  | cons r rr =>
    cases rr with
    | cons r' rr =>
      cases rr
      cases r
      cases r'
      have fresh5 : ∀ c, c ∈ [s1.heap.objs.size + 4, s1.heap.objs.size + 2, s1.heap.objs.size + 3, s1.heap.objs.size, s1.heap.objs.size + 1] → FpOk X pins H1 c := fun c hcm => by
        have e' : c = s1.heap.objs.size + 4 ∨ c = s1.heap.objs.size + 2 ∨ c = s1.heap.objs.size + 3 ∨ c = s1.heap.objs.size ∨ c = s1.heap.objs.size + 1 := by simpa using hcm
        have hle : s1.heap.objs.size ≤ c := by
          rcases e' with z | z | z | z | z
          · rw [z]; exact Nat.le_add_right _ _
          · rw [z]; exact Nat.le_add_right _ _
          · rw [z]; exact Nat.le_add_right _ _
          · rw [z]; exact Nat.le_refl _
          · rw [z]; exact Nat.le_add_right _ _
        exact I1.fpOk hle (I1.hok.fresh hle)
      rcases q1 with ⟨hqx, hqy, q⟩ | ⟨hqx, hqy, q⟩
      · obtain ⟨its, rv, p1, hz0⟩ := I1.list hqx
        obtain ⟨its2, rv2, p2, _⟩ := I1.list hqy
        refine call_zip_2 p1.isList p2.isList fun h' hz hTI hTO h1 h2 hsz hk => wpAny_pyIter_zip hz ?_
        have I2 : Inv X pins σ H1 { s1 with heap := h' } := I1.kept (t' := s1.toks) hk
        exact ⟨s1.heap.objs.size + 4, [s1.heap.objs.size + 4, s1.heap.objs.size + 2, s1.heap.objs.size + 3, s1.heap.objs.size, s1.heap.objs.size + 1], _, _, H1, rfl, I2, turn_zip (PySem.W.ktu_apart s1.heap.objs.size a b p1.lt p2.lt), ⟨hz, hTI, ⟨_, _, hTO⟩, h1, h2⟩, fresh5, q hz0⟩
      · obtain ⟨its, rv, p1, hz0⟩ := I1.tuple hqx
        obtain ⟨its2, rv2, p2, _⟩ := I1.tuple hqy
        obtain ⟨o1, ho1, _⟩ := id p1
        obtain ⟨o2, ho2, _⟩ := id p2
        refine RZ.call_zipT (show s1.heap.IsTuple a its.toArray from p1) (show s1.heap.IsTuple b its2.toArray from p2) fun h' hz hTI hTO h1 h2 hsz hk => wpAny_pyIter_zip hz ?_
        have I2 : Inv X pins σ H1 { s1 with heap := h' } := I1.kept (t' := s1.toks) hk
        exact ⟨s1.heap.objs.size + 4, [s1.heap.objs.size + 4, s1.heap.objs.size + 2, s1.heap.objs.size + 3, s1.heap.objs.size, s1.heap.objs.size + 1], _, _, H1, rfl, I2, RZ.turn_zipT (PySem.W.ktu_apart s1.heap.objs.size a b (Heap.lt_size ho1) (Heap.lt_size ho2)), ⟨hz, hTI, ⟨_, _, hTO⟩, h1, h2⟩, fresh5, q hz0⟩
theorem pt_ifExp' {c a b : Expr} {tc ta tb : TT} {pos : Pos} (hc : PT X c tc) (ha : PT X a ta) (hb : PT X b tb) : PT X (.IfExp c a b pos) (fun σ H Q => tc σ H fun d H1 => if d = true then ta σ H1 Q else tb σ H1 Q) := by
  refine ⟨fun pins s σ H Q I h => ?_⟩
  show wpAny _ _ (do if ← isTrue c X.env (eval c X.env) then isTrue a X.env (eval a X.env) else isTrue b X.env (eval b X.env)) _ _ _
  refine wpAny_bind (thn (hc.run pins s σ H _ I h) fun d s1 ⟨H1, I1, q1⟩ => ?_)
  cases d with
  | true => exact ha.run pins s1 σ H1 Q I1 q1
  | false => exact hb.run pins s1 σ H1 Q I1 q1
theorem lt_cond {t a b : CE} {Q : Bool → Hp → Prop} (h : LT G K CT W (.cond t a b) sg H Q) : LT G K CT W t sg H fun d H1 => if d = true then LT G K CT W a sg H1 Q else LT G K CT W b sg H1 Q := by
  obtain ⟨be, mu, rh, Qd, Ed, S, L, h, kq, kx⟩ := h
  refine ⟨be, mu, rh, fun c nu => if c = true then wpT G a Ed rh nu Qd else wpT G b Ed rh nu Qd, Ed, S, L, by simpa only [wpE, wpT] using h, fun c mu1 be1 H1 x1 S1 h1 => ?_, kx⟩
  cases c with
  | true => exact ⟨be1, mu1, rh, Qd, Ed, S1, L.mono x1, h1, fun b nu be' H' y => kq b nu be' H' (x1.trans y), kx.mono x1⟩
  | false => exact ⟨be1, mu1, rh, Qd, Ed, S1, L.mono x1, h1, fun b nu be' H' y => kq b nu be' H' (x1.trans y), kx.mono x1⟩
theorem lt_gc {a : CE} {Q : Bool → Hp → Prop} (h : LT G K CT W (.gc a) sg H Q) : LT G K CT W a sg H Q := by
  obtain ⟨be, mu, rh, Qd, Ed, S, L, h, kq, kx⟩ := h
  refine ⟨be, mu, rh, fun b nu' => ∃ nu, nu <+: nu' ∧ nu.length = mu.length ∧ (WF mu → WF nu) ∧ Qd b nu, Ed, S, L, ?_, fun b mu1 be1 H1 x1 S1 h1 => ?_, kx⟩
  · simp only [wpT, wpE] at h ⊢
    refine wpE_mono a (fun _ _ z => z) (fun x nu' ⟨nu, a1, a2, a3, a4, q⟩ => ?_) h
    cases x <;> simp only [onB] at q ⊢
    exact ⟨nu, a1, a2, a3, q⟩
  · obtain ⟨nu, a1, a2, a3, h2⟩ := h1
    have e : nu.length = be.length := by rw [a2, S.len]
    exact kq b nu (be1.take nu.length) H1 (x1.forget (by omega)) (S1.forget a1 (a3 S.wf)) h2
theorem chain_tt {o p : O2} {a b c : CE} {Q : Bool → Hp → Prop} (h : tB (LE G K CT W (.chain o p a b c)) sg H Q) : tTest (tChain (R2D K CT o) (R2D K CT p) (LE G K CT W a) (LE G K CT W b) (LE G K CT W c)) sg H Q := le_chain h
end
mutual
theorem sndE {n : Nm} {CT : Cls} {G : Ctx} {k : Nat} : ∀ (c : CE) {sc0 sc : Scope} {X : Cx} {W : WX} (e : Expr), XO n sc0 sc X → XF n G CT k X → Takes X W → mE n c sc0 sc e = true → PE X e (LE G X.K CT W c)
  | .con d, _, _, _, _, e, O, _, _, h => sndCon O d e (by simpa only [mE] using h)
  | .var i, _, _, _, _, e, O, _, _, h => by
    cases e <;> simp only [mE] at h <;> try (cases h)
    simp only [Bool.and_eq_true, decide_eq_true_eq] at h
    obtain ⟨⟨h1, h2⟩, h3⟩ := h
    obtain ⟨a, b, _⟩ := okN_of h3
    exact PE.imp (pe_var (by rw [O.N]; exact h1) (by rw [O.scp]; exact vis_of h2) a b) fun σ H Q q => le_var q
  | .tup es, _, _, _, _, e, O, F, T, h => by
    cases e <;> simp only [mE] at h <;> try (cases h)
    exact PE.imp (pe_tup (sndEs es _ O F T h).1) fun σ H Q q => le_tup q
  | .lst es, _, _, _, _, e, O, F, T, h => by
    cases e <;> simp only [mE] at h <;> try (cases h)
    exact PE.imp (pe_lst (sndEs es _ O F T h).1) fun σ H Q q => le_lst q
  | .op1 o a, _, _, _, _, e, O, F, T, h => by
    simp only [mE] at h
    split at h
    · rename_i x hx
      exact snd1 O F.kep F.ct o hx (sndE a x O F T h)
    · cases h
  | .op2 o a b, _, _, _, _, e, O, F, T, h => by
    simp only [mE] at h
    split at h
    · rename_i x y hx
      rw [Bool.and_eq_true] at h
      exact snd2 O F.ct o hx (sndE a x O F T h.1) (sndE b y O F T h.2)
    · cases h
  | .op3 o a b c, _, _, _, _, e, O, F, T, h => by
    simp only [mE] at h
    split at h
    · rename_i x y z hx
      simp only [Bool.and_eq_true] at h
      exact snd3 O F.ct o hx (sndE a x O F T h.1.1) (sndE b y O F T h.1.2) (sndE c z O F T h.2)
    · cases h
  | .dnew t, _, _, _, _, e, O, F, T, h => by
    simp only [mE] at h
    split at h
    · exact sndNew F.ct t
    · cases h
  | .disp es, _, _, _, _, e, O, F, T, h => by
    simp only [mE] at h
    split at h
    · simp only [Bool.and_eq_true, decide_eq_true_eq] at h
      obtain ⟨⟨h1, h2⟩, h3⟩ := h
      obtain ⟨trs, p, l1, l2, q⟩ := sndDs es _ _ O F T h1 _
      exact PE.imp (pe_disp p l1 l2 h2 h3) fun σ H Q r => le_disp q r
    · cases h
  | .dc vs p it c ke e, sc0, sc, X, W, x, O, F, T, h => by
    simp only [mE] at h
    split at h
    · rename_i kx vx tg iter ifs scope pos
      simp only [Bool.and_eq_true] at h
      obtain ⟨⟨⟨⟨⟨⟨⟨h1, h2⟩, h3⟩, h4⟩, h5⟩, h6⟩, h7⟩, h8⟩ := h
      have hv : ∀ i ∈ p.slots, i ∈ vs := fun i hi => by
        have := List.all_eq_true.mp h3 i hi
        simpa using this
      have bk : BlkOk X.N X.env.scope scope (ownOf n vs) := by rw [O.N, O.scp]; exact blkOk_by h1
      refine PE.imp (pe_unl (pe_dc (g := LP X.K p) (tt := LT G X.K CT (fun _ _ _ _ => False) c) (tk := LE G X.K CT (fun _ _ _ _ => False) ke) (tv := LE G X.K CT (fun _ _ _ _ => False) e) O.calm (by rw [O.N]; exact O.nd) (sndI it tg iter O F T h5) bk
        (fun s H C cl fp => sndP (O.blk h1 s H C cl fp) p tg h2) (fun s H C cl fp => ?_) (fun s H C cl fp => sndE ke kx (O.blk h1 s H C cl fp) (F.blk s H scope C cl fp) takes0 h7) (fun s H C cl fp => sndE e vx (O.blk h1 s H C cl fp) (F.blk s H scope C cl fp) takes0 h8) (fset_of h4))) fun σ H Q q => ?_
      · have O' := O.blk h1 s H C cl fp
        split at h6
        · refine PTs.imp pts_nil fun σ H Q q => ?_
          obtain ⟨be, mu, rh, Qd, Ed, S, L, h, kq, kx⟩ := q
          unfold isTrueC at h6
          split at h6
          · simp only [wpT, wpE, onB] at h
            exact kq true mu be H .refl S h
          · cases h6
        · exact pts_one (sndT c _ O' (F.blk s H scope C cl fp) takes0 h6)
        · cases h6
      · rw [ownOf_snd]
        exact le_dc hv q
    · cases h
  | .cond t a b, _, _, _, _, e, O, F, T, h => by
    cases e <;> simp only [mE] at h <;> try (cases h)
    simp only [Bool.and_eq_true] at h
    exact PE.imp (pe_ifExp (sndT t _ O F T h.1.1) (sndE a _ O F T h.1.2) (sndE b _ O F T h.2)) fun σ H Q q => le_cond q
  | .and a b, _, _, _, _, e, O, F, T, h => by
    simp only [mE] at h
    split at h
    · rename_i x y r p
      rw [Bool.and_eq_true] at h
      obtain ⟨h1, h2⟩ := h
      split at h2
      · exact PE.imp (pe_and (sndE a x O F T h1) (pe_one (sndE b y O F T h2))) fun σ H Q q => le_and q
      · exact PE.imp (pe_and (sndE a x O F T h1) (sndE b _ O F T h2)) fun σ H Q q => le_and q
    · cases h
  | .or a b, _, _, _, _, e, O, F, T, h => by
    simp only [mE] at h
    split at h
    · rename_i x y r p
      rw [Bool.and_eq_true] at h
      obtain ⟨h1, h2⟩ := h
      split at h2
      · exact PE.imp (pe_or (sndE a x O F T h1) (pe_one (sndE b y O F T h2))) fun σ H Q q => le_or q
      · exact PE.imp (pe_or (sndE a x O F T h1) (sndE b _ O F T h2)) fun σ H Q q => le_or q
    · cases h
  | .not a, _, _, _, _, e, O, F, T, h => by
    simp only [mE] at h
    split at h
    · exact PE.imp (pe_not (sndE a _ O F T h)) fun σ H Q q => le_not q
    · cases h
  | .chain o p a b c, _, _, _, _, e, O, F, T, h => by
    simp only [mE] at h
    split at h
    · simp only [Bool.and_eq_true, decide_eq_true_eq] at h
      obtain ⟨⟨⟨⟨h1, h2⟩, h3⟩, h4⟩, h5⟩ := h
      obtain ⟨r1, a1, b1⟩ := chain_op (CT := CT) O h1
      obtain ⟨r2, a2, b2⟩ := chain_op (CT := CT) O h2
      exact PE.imp (pe_chain r1 r2 (sndE a _ O F T h3) (sndE b _ O F T h4) (sndE c _ O F T h5) (nomark' _ a2 b2)) fun σ H Q q => le_chain q
    · cases h
  | .sl e lo hi, _, _, _, _, x, O, F, T, h => by
    simp only [mE] at h
    split at h
    · simp only [Bool.and_eq_true] at h
      exact PE.imp (pe_slice sl_D (sndE e _ O F T h.1.1) (sndO lo _ O F T h.1.2) (sndO hi _ O F T h.2)) fun σ H Q q => le_sl q
    · cases h
  | .call f pm es ks, _, _, X, W, e, O, F, T, h => by
    simp only [mE] at h
    split at h
    · rename_i x px args kws pos
      simp only [Bool.and_eq_true, decide_eq_true_eq, List.any_eq_true] at h
      obtain ⟨⟨⟨⟨⟨h1, h2⟩, h3⟩, h4⟩, h5⟩, ⟨i, np, kn, pm'⟩, hq, ⟨⟨q1, q2⟩, q3⟩, q4⟩ := h
      simp only at q1 q2 q3 q4
      subst q1 q2 q4
      obtain ⟨g1, g2, _⟩ := gl_of O h2
      obtain ⟨fa, fd, ps, m1, m2, m3, m4⟩ := F.fns i x h1
      obtain ⟨l1, b1⟩ := m4 _ _ _ hq
      obtain ⟨e1, _⟩ := mEs_len es h4
      obtain ⟨e2, _⟩ := mEs_len ks h5
      have ek : ks.len = kn.length := by
        have := congrArg List.length q3
        simp only [List.length_map] at this e2
        omega
      refine PE.imp (pe_G m3 F.room O.hg T g1 m1 m2 l1 (ks := kn) (fun s us ws k1 k2 k3 => b1 s us ws k1 k2 k3) (sndEs es args O F T h4).1 ((sndEs ks _ O F T h5).2 kws rfl) h3 q3 g2
        (fun z σ H Q q => ?_) (fun σ H Q q => (la_len q).mono fun v H1 r => ⟨by rw [r.1, e1], r.2⟩) (fun σ H Q q => (la_len q).mono fun v H1 r => ⟨by rw [r.1, ek], r.2⟩)) fun σ H Q q => ?_
      · subst z
        cases es with
        | nil => exact la_nil q
        | cons a b => simp [CEs.len] at e1
      · obtain ⟨be, mu, rh, Qd, Ed, S, L, h, kq, kx⟩ := q
        simp only [wpE] at h
        refine ⟨be, mu, rh, _, Ed, S, L, h, fun ds mu1 be1 H1 vs x1 S1 d1 h1 => ⟨be1, mu1, rh, _, Ed, S1, L.mono x1, h1, fun es mu2 be2 H2 ws x2 S2 d2 h2 => ?_, kx.mono x1⟩, kx⟩
        obtain ⟨Q0, E0, a, b, c⟩ := h2
        exact ⟨be2, mu2, _, Q0, E0, S2, perm_is ((d1.mono x2).append d2) pm', a, fun d nu be' H' v x S' i q => (kq.mono (x1.trans x2)) d nu be' H' v x S' i (b d nu q), fun y nu be' H' c' d' x S' i q => (kx.mono (x1.trans x2)) y nu be' H' c' d' x S' i (c y nu q)⟩
    · cases h
  | .lc vs p it c e, sc0, sc, X, W, x, O, F, T, h => by
    simp only [mE] at h
    split at h
    · rename_i elt tg iter ifs scope pos
      simp only [Bool.and_eq_true] at h
      obtain ⟨⟨⟨⟨⟨⟨h1, h2⟩, h3⟩, h4⟩, h5⟩, h6⟩, h7⟩ := h
      have hv : ∀ i ∈ p.slots, i ∈ vs := fun i hi => by
        have := List.all_eq_true.mp h3 i hi
        simpa using this
      have bk : BlkOk X.N X.env.scope scope (ownOf n vs) := by rw [O.N, O.scp]; exact blkOk_by h1
      refine PE.imp (pe_unl (pe_lc (g := LP X.K p) (tt := LT G X.K CT (fun _ _ _ _ => False) c) (te := LE G X.K CT (fun _ _ _ _ => False) e) O.calm (by rw [O.N]; exact O.nd) (sndI it tg iter O F T h5) bk
        (fun s H C cl fp => sndP (O.blk h1 s H C cl fp) p tg h2) (fun s H C cl fp => ?_) (fun s H C cl fp => sndE e elt (O.blk h1 s H C cl fp) (F.blk s H scope C cl fp) takes0 h7) (fset_of h4))) fun σ H Q q => ?_
      · have O' := O.blk h1 s H C cl fp
        split at h6
        · refine PTs.imp pts_nil fun σ H Q q => ?_
          obtain ⟨be, mu, rh, Qd, Ed, S, L, h, kq, kx⟩ := q
          unfold isTrueC at h6
          split at h6
          · simp only [wpT, wpE, onB] at h
            exact kq true mu be H .refl S h
          · cases h6
        · exact pts_one (sndT c _ O' (F.blk s H scope C cl fp) takes0 h6)
        · cases h6
      · rw [ownOf_snd]
        exact le_lc hv q
    · cases h
  | .gc e, _, _, _, _, x, O, F, T, h => PE.imp (sndE e x O F T (by simpa only [mE] using h)) fun σ H Q q => le_gc q
theorem sndEs {n : Nm} {CT : Cls} {G : Ctx} {k : Nat} : ∀ (c : CEs) {sc0 sc : Scope} {X : Cx} {W : WX} (es : List Expr), XO n sc0 sc X → XF n G CT k X → Takes X W → mEs n c sc0 sc es = true → PA X es (LA G X.K CT W c) ∧ ∀ kws : List Keyword, kws.map (·.value) = es → PK X kws (LA G X.K CT W c)
  | .nil, _, _, _, _, es, O, F, T, h => by
    cases es <;> simp only [mEs] at h
    · refine ⟨PA.imp pa_nil fun σ H Q q => la_nil q, fun kws e => ?_⟩
      have : kws = [] := by simpa using e
      subst this
      exact PK.imp pk_nil fun σ H Q q => la_nil q
    · cases h
  | .cons e r, _, _, _, _, es, O, F, T, h => by
    cases es <;> simp only [mEs] at h
    · cases h
    · rename_i x xs
      simp only [Bool.and_eq_true] at h
      have a := sndE e x O F T h.1.2
      have b := sndEs r xs O F T h.2
      refine ⟨PA.imp (pa_cons a b.1 (star1 h.1.1 _ _)) fun σ H Q q => la_cons q, fun kws e => ?_⟩
      cases kws with
      | nil => simp at e
      | cons q kws =>
        obtain ⟨nm, v, kp⟩ := q
        simp only [List.map_cons, List.cons.injEq] at e
        obtain ⟨e1, e2⟩ := e
        subst e1
        exact PK.imp (pk_cons a (b.2 kws e2)) fun σ H Q q => la_cons q
theorem sndDs {n : Nm} {CT : Cls} {G : Ctx} {k : Nat} : ∀ (c : CEs) {sc0 sc : Scope} {X : Cx} {W : WX} (ks : List (Option Expr)) (vs : List Expr), XO n sc0 sc X → XF n G CT k X → Takes X W → mDs n c sc0 sc ks vs = true → ∀ pos : Pos,
    ∃ trs, PPs X pos ks vs trs ∧ ks.all (·.isSome) = true ∧ ks.length = vs.length ∧ ∀ σ H (Q : List (V × V) → Hp → Prop), LA G X.K CT W c σ H (fun vs H' => Q (pairUp vs) H') → tPairs trs σ H Q
  | .nil, _, _, _, _, ks, vs, O, F, T, h, pos => by
    cases ks <;> cases vs <;> simp only [mDs] at h <;> try (cases h)
    exact ⟨[], pps_nil, rfl, rfl, fun σ H Q q => la_nil q⟩
  | .cons e .nil, _, _, _, _, ks, vs, O, F, T, h, pos => by simp only [mDs] at h; cases h
  | .cons ek (.cons ev r), _, _, _, _, ks, vs, O, F, T, h, pos => by
    cases ks with
    | nil => simp only [mDs] at h; cases h
    | cons k1 ks =>
      cases k1 with
      | none => simp only [mDs] at h; cases h
      | some k1 =>
        cases vs with
        | nil => simp only [mDs] at h; cases h
        | cons v1 vs =>
          simp only [mDs, Bool.and_eq_true] at h
          obtain ⟨trs, p, l1, l2, q⟩ := sndDs r ks vs O F T h.2 pos
          refine ⟨_, pps_cons (sndE ek k1 O F T h.1.1) (sndE ev v1 O F T h.1.2) p, by rw [List.all_cons, l1]; rfl, by simp [l2], fun σ H Q z => ?_⟩
          exact LE.mono (la_cons z) fun x H1 z => LE.mono (la_cons z) fun y H2 z => q σ H2 _ z
theorem sndO {n : Nm} {CT : Cls} {G : Ctx} {k : Nat} : ∀ (c : CO) {sc0 sc : Scope} {X : Cx} {W : WX} (e : Option Expr), XO n sc0 sc X → XF n G CT k X → Takes X W → mO n c sc0 sc e = true → PO X e (LO G X.K CT W c)
  | .no, _, _, _, _, e, O, F, T, h => by
    cases e <;> simp only [mO] at h
    · exact PO.imp po_none fun σ H Q q => lo_no q
    · cases h
  | .some c, _, _, _, _, e, O, F, T, h => by
    cases e <;> simp only [mO] at h
    · cases h
    · exact PO.imp (po_some (sndE c _ O F T h)) fun σ H Q q => lo_some q
theorem sndI {n : Nm} {CT : Cls} {G : Ctx} {k : Nat} : ∀ (c : CI) {sc0 sc : Scope} {X : Cx} {W : WX} (tg e : Expr), XO n sc0 sc X → XF n G CT k X → Takes X W → mI n c sc0 sc tg e = true → PI X tg e (LI X G CT W c)
  | .seq c, _, _, _, _, tg, e, O, F, T, h => PI.imp (pi_seq (sndE c e O F T (by simpa only [mI] using h))) fun σ H Q q => li_seq q
  | .rng1 c, _, _, _, _, tg, e, O, F, T, h => by
    simp only [mI] at h
    split at h
    · rename_i f a pos
      simp only [Bool.and_eq_true] at h
      obtain ⟨p, rfl, hg, hm, hd, hn⟩ := blt_of O h.1.1
      refine PI.imp (pi_range1 hg hm (pa_cons (sndE c a O F T h.2) pa_nil (star1 h.1.2 _ _)) (star1 h.1.2 _ _)) fun σ H Q q => ?_
      exact (li_rng1 q).mono fun v H1 ⟨j, e, a, b, r⟩ => ⟨j, by rw [e], a, b, r⟩
    · cases h
  | .rng2 a b, _, _, _, _, tg, e, O, F, T, h => by
    simp only [mI] at h
    split at h
    · rename_i f y z pos
      simp only [Bool.and_eq_true] at h
      obtain ⟨p, rfl, hg, hm, hd, hn⟩ := blt_of O h.1.1.1.1
      refine PI.imp (pi_range2 hg hm (pa_cons (sndE a y O F T h.1.2) (pa_cons (sndE b z O F T h.2) pa_nil (star1 h.1.1.2 _ _)) (star1 h.1.1.1.2 _ _)) (by rw [star1 h.1.1.1.2, star1 h.1.1.2]; rfl) (star1 h.1.1.2 _ _)) fun σ H Q q => ?_
      exact (li_rng2 q).mono fun v H1 r => LE.mono r fun u H2 ⟨i, j, e1, e2, a, r⟩ => ⟨i, j, by rw [e1, e2], a, r⟩
    · cases h
  | .rng3 a b c, _, _, _, _, tg, e, O, F, T, h => by
    simp only [mI] at h
    split at h
    · rename_i f y z w pos
      simp only [Bool.and_eq_true] at h
      obtain ⟨⟨⟨⟨⟨⟨h1, h2⟩, h3⟩, h4⟩, h5⟩, h6⟩, h7⟩ := h
      obtain ⟨p, rfl, hg, hm, hd, hn⟩ := blt_of O h1
      refine PI.imp (pi_range3 hg hm (pa_cons (sndE a y O F T h5) (pa_cons (sndE b z O F T h6) (pa_cons (sndE c w O F T h7) pa_nil (star1 h4 _ _)) (star1 h3 _ _)) (star1 h2 _ _)) (star1 h2 _ _) (star_any (by simp [h3, h4]))) fun σ H Q q => ?_
      exact LE.mono (li_rng3 q) fun v H1 r => LE.mono r fun u H2 r => LE.mono r fun u H3 r => r
    · cases h
  | .enum c, _, _, _, _, tg, e, O, F, T, h => by
    simp only [mI] at h
    split at h
    · simp only [Bool.and_eq_true] at h
      obtain ⟨p, rfl, hg, hm, hd, hn⟩ := blt_of O h.1.1
      exact PI.imp (pi_enumA hg hm (pa_cons (sndE c _ O F T h.2) pa_nil (star1 h.1.2 _ _)) (star1 h.1.2 _ _)) fun σ H Q q => LE.mono (li_enum q) fun v H1 r => r
    · cases h
  | .zip a b, _, _, _, _, tg, e, O, F, T, h => by
    simp only [mI] at h
    split at h
    · rename_i f y z pos
      simp only [Bool.and_eq_true] at h
      obtain ⟨⟨⟨⟨h1, h2⟩, h3⟩, h4⟩, h5⟩ := h
      obtain ⟨p, rfl, hg, hm, hd, hn⟩ := blt_of O h1
      refine PI.imp (pi_zipB hg hm (pa_cons (sndE a y O F T h4) (pa_cons (sndE b z O F T h5) pa_nil (star1 h3 _ _)) (star1 h2 _ _)) (star1 h2 _ _) (star_any (by simp [h3]))) fun σ H Q q => ?_
      exact LE.mono (li_zip (fun _ _ _ _ _ => trivial) q) fun v H1 r => LE.mono r fun u H2 r => r
    · cases h
  | .items c, _, _, _, _, tg, e, O, F, T, h => by
    simp only [mI] at h
    split at h
    · simp only [Bool.and_eq_true, decide_eq_true_eq, Bool.or_eq_true] at h
      obtain ⟨⟨⟨rfl, h1⟩, h2⟩, h3⟩ := h
      exact PI.imp (pi_items (pe_lockA (sndE c _ O F T h3)) (base_or h1) h2) fun σ H Q q => li_items q
    · cases h
  | .vals c, _, _, _, _, tg, e, O, F, T, h => by
    simp only [mI] at h
    split at h
    · simp only [Bool.and_eq_true, decide_eq_true_eq, Bool.or_eq_true] at h
      obtain ⟨⟨⟨rfl, h1⟩, h2⟩, h3⟩ := h
      exact PI.imp (pi_values (pe_lockA (sndE c _ O F T h3)) (base_or h1) h2) fun σ H Q q => li_vals q
    · cases h
theorem sndT {n : Nm} {CT : Cls} {G : Ctx} {k : Nat} : ∀ (c : CE) {sc0 sc : Scope} {X : Cx} {W : WX} (e : Expr), XO n sc0 sc X → XF n G CT k X → Takes X W → mE n c sc0 sc e = true → PT X e (LT G X.K CT W c)
  | .con d, _, _, _, _, e, O, _, _, h => by
    have p := sndCon (CT := CT) (G := G) (W := by assumption) O d e (by simpa only [mE] using h)
    simp only [mE] at h
    unfold mCon at h
    split at h
    · exact PT.imp (pt_val p) fun σ H Q q => lt_le q
    · exact PT.imp (pt_val p) fun σ H Q q => lt_le q
    · exact PT.imp (pt_val p) fun σ H Q q => lt_le q
    · exact PT.imp (pt_val p) fun σ H Q q => lt_le q
    · exact PT.imp (pt_val p) fun σ H Q q => lt_le q
    · cases h
  | .var i, _, _, _, _, e, O, F, T, h => by
    have p := sndE (.var i) e O F T h
    cases e <;> simp only [mE] at h <;> try (cases h)
    exact PT.imp (pt_val p) fun σ H Q q => lt_le q
  | .tup es, _, _, _, _, e, O, F, T, h => by
    have p := sndE (.tup es) e O F T h
    cases e <;> simp only [mE] at h <;> try (cases h)
    exact PT.imp (pt_val p) fun σ H Q q => lt_le q
  | .lst es, _, _, _, _, e, O, F, T, h => by
    have p := sndE (.lst es) e O F T h
    cases e <;> simp only [mE] at h <;> try (cases h)
    exact PT.imp (pt_val p) fun σ H Q q => lt_le q
  | .op1 o a, _, _, _, _, e, O, F, T, h => by
    simp only [mE] at h
    split at h
    · rename_i x hx
      exact snd1T O F.kep F.ct o hx (sndE a x O F T h)
    · cases h
  | .op2 o a b, _, _, _, _, e, O, F, T, h => by
    simp only [mE] at h
    split at h
    · rename_i x y hx
      rw [Bool.and_eq_true] at h
      exact snd2T O F.ct o hx (sndE a x O F T h.1) (sndE b y O F T h.2)
    · cases h
  | .op3 o a b c, _, _, _, _, x, O, F, T, h => by
    have p := sndE (.op3 o a b c) x O F T h
    simp only [mE] at h
    split at h
    · rename_i hx
      unfold sh3 at hx
      split at hx
      · exact PT.imp (pt_val p) fun σ H Q q => lt_le q
      · exact PT.imp (pt_val p) fun σ H Q q => lt_le q
      · cases hx
    · cases h
  | .dnew t, _, _, _, _, x, O, F, T, h => by
    have p := sndE (.dnew t) x O F T h
    simp only [mE] at h
    split at h
    · exact PT.imp (pt_val p) fun σ H Q q => lt_le q
    · cases h
  | .disp es, _, _, _, _, x, O, F, T, h => by
    have p := sndE (.disp es) x O F T h
    simp only [mE] at h
    split at h
    · exact PT.imp (pt_val p) fun σ H Q q => lt_le q
    · cases h
  | .dc vs p it c k e, sc0, sc, X, W, x, O, F, T, h => by
    have q := sndE (.dc vs p it c k e) x O F T h
    simp only [mE] at h
    split at h
    · exact PT.imp (pt_val q) fun σ H Q q => lt_le q
    · cases h
  | .cond t a b, _, _, _, _, e, O, F, T, h => by
    cases e <;> simp only [mE] at h <;> try (cases h)
    simp only [Bool.and_eq_true] at h
    exact PT.imp (pt_ifExp' (sndT t _ O F T h.1.1) (sndT a _ O F T h.1.2) (sndT b _ O F T h.2)) fun σ H Q q => lt_cond q
  | .and a b, _, _, _, _, e, O, F, T, h => by
    simp only [mE] at h
    split at h
    · rename_i x y r p
      rw [Bool.and_eq_true] at h
      obtain ⟨h1, h2⟩ := h
      split at h2
      · exact PT.imp (pw_and (sndT a x O F T h1) (pw_and1 (sndT b y O F T h2))).pt fun σ H Q q => lt_and q
      · exact PT.imp (pw_and (sndT a x O F T h1) (pw_of (sndT b _ O F T h2))).pt fun σ H Q q => lt_and q
    · cases h
  | .or a b, _, _, _, _, e, O, F, T, h => by
    simp only [mE] at h
    split at h
    · rename_i x y r p
      rw [Bool.and_eq_true] at h
      obtain ⟨h1, h2⟩ := h
      split at h2
      · exact PT.imp (pw_or (sndT a x O F T h1) (pw_or1 (sndT b y O F T h2))).pt fun σ H Q q => lt_or q
      · exact PT.imp (pw_or (sndT a x O F T h1) (pw_of (sndT b _ O F T h2))).pt fun σ H Q q => lt_or q
    · cases h
  | .not a, _, _, _, _, e, O, F, T, h => by
    simp only [mE] at h
    split at h
    · exact PT.imp (pt_not (sndT a _ O F T h)) fun σ H Q q => lt_not q
    · cases h
  | .chain o p a b c, _, _, _, _, e, O, F, T, h => by
    simp only [mE] at h
    split at h
    · simp only [Bool.and_eq_true, decide_eq_true_eq] at h
      obtain ⟨⟨⟨⟨h1, h2⟩, h3⟩, h4⟩, h5⟩ := h
      obtain ⟨r1, a1, b1⟩ := chain_op (CT := CT) O h1
      obtain ⟨r2, a2, b2⟩ := chain_op (CT := CT) O h2
      exact PT.imp (pt_chain r1 r2 (sndE a _ O F T h3) (sndE b _ O F T h4) (sndE c _ O F T h5) (nomark' _ a2 b2)) fun σ H Q q => chain_tt (lt_le q)
    · cases h
  | .sl e lo hi, _, _, _, _, x, O, F, T, h => by
    have p := sndE (.sl e lo hi) x O F T h
    simp only [mE] at h
    split at h
    · exact PT.imp (pt_val p) fun σ H Q q => lt_le q
    · cases h
  | .call f pm es ks, _, _, X, W, e, O, F, T, h => by
    have p := sndE (.call f pm es ks) e O F T h
    simp only [mE] at h
    split at h
    · exact PT.imp (pt_val p) fun σ H Q q => lt_le q
    · cases h
  | .lc vs p it c e, sc0, sc, X, W, x, O, F, T, h => by
    have q := sndE (.lc vs p it c e) x O F T h
    simp only [mE] at h
    split at h
    · exact PT.imp (pt_val q) fun σ H Q q => lt_le q
    · cases h
  | .gc e, _, _, _, _, x, O, F, T, h => PT.imp (sndT e x O F T (by simpa only [mE] using h)) fun σ H Q q => lt_gc q
end
end MP
namespace MP
open PySem PySem.Spec PyProof.Rows L2
section
variable {X : Cx} {e : Expr} {es : List Expr} {ta : TA} {p1 p2 pos : Pos} {C : Addr}
end
/-- the promise of such an __init__: fields fs -/
def spIni (K : PySem.W.Frag) (C : Addr) (fs : List Str) : Sp := fun vs H Q _ => ∃ a ws, vs = .ref a :: ws ∧ ws.length = fs.length ∧ OexC K C ∧ H a = some (exo a C none) ∧
  match fs, ws with
  | [], _ => Q .non H
  | [f], [v] => PySem.W.findIn K (.ref C) f = some none ∧ ∀ d, H d = none → d ≠ a → Q .non (upd (upd H d (exd d [(f, v)])) a (exo a C (some d)))
  | _, _ => False
section
variable {P : Program} {w : World} {K : PySem.W.Frag} {mg : Str → Option Value} {base : Heap} {C CM f : Addr} {fd : FuncData} {st : Stmt} {q nm : Str} {j : Nat} {sc : Scope} {p1 p2 p3 p4 p5 p6 p7 p8 p9 p10 : Pos}
end
section
variable {X : Cx} {pins : List (Addr × Obj)} {σ : L2.St} {H1 H2 : Hp} {a C : Addr}
theorem mk_endN0 {hp hp2 h2 : Heap} {g1 g2 : Array GenState} {d1 d2 : Drawn} {t1 t2 : Nat} {os1 os2 : OsState} (I1 : Inv X pins σ H1 ⟨hp, g1, d1, t1, os1⟩)
    (ha : hp.objs.size ≤ a) (k : ∀ b o, hp.get? b = some o → hp2.get? b = some o) (un : Un (frs X.stack) [] (upd H1 a (exo a C none)) H2 hp2 h2) (hok : HOk X.prog X.w H2 h2) (ho : os2 = os1) (hb : AllBare g2)
    (ea : H2 a = some (exo a C none)) :
    ∃ (t0 : Addr) (G : Heap), Inv X pins σ (del H2 a) ⟨G, g2, d2, t2, os2⟩ ∧ (∀ b o, G.get? b = some o → h2.get? b = some o) ∧ G.get? a = none ∧
      h2.get? a = some ({ cls := .ref C, dict := none, data := .fields #[.ref t0, .none, .none, .none, .bool false, .none] } : Obj) ∧ (del H2 a) a = none := by
  obtain ⟨t0, hoe⟩ := exo_at hok ea
  have hn : H1 a = none := I1.hok.fresh ha
  obtain ⟨G, g1', g2'⟩ := restrict h2 fun b => decide (b ≠ a)
  have gk : ∀ b, b ≠ a → G.get? b = h2.get? b := fun b hb => g1' b (decide_eq_true hb)
  have ge : G.get? a = none := g2' a (by simp)
  have nha : ∀ {b : Addr} {o : Obj}, hp.get? b = some o → b ≠ a := fun {b o} z => Nat.ne_of_lt (Nat.lt_of_lt_of_le (Heap.lt_size z) ha)
  have up : ∀ {b : Addr}, b ≠ a → H1 b = none → upd H1 a (exo a C none) b = none := fun {b} hb n => by rw [upd_ne hb]; exact n
  have U : Un (frs X.stack) [] H1 (del H2 a) hp G := {
    keep := fun b o z n hf hx => by
      rw [gk b (nha z)]
      exact un.keep b o (k b o z) (up (nha z) n) hf hx
    slot := fun b o z n hf hx => by
      rw [gk b (nha z)]
      exact un.slot b o (k b o z) (up (nha z) n) hf hx
    free := fun b o z n hx => by
      rw [del_ne (nha z)]
      exact un.free b o (k b o z) (up (nha z) n) hx
    there := fun b o z hx => by
      rw [gk b (nha z)]
      exact un.there b o (k b o z) hx
    tups := fun b xs z => by
      rw [del_ne (ne_of_none z hn)]
      exact un.tups b xs (by rw [upd_ne (ne_of_none z hn)]; exact z)
    frzs := fun b o v z => by
      rw [del_ne (ne_of_none z hn)]
      exact un.frzs b o v (by rw [upd_ne (ne_of_none z hn)]; exact z)
    tbls := fun b ps z => by
      rw [del_ne (ne_of_none z hn)]
      exact un.tbls b ps (by rw [upd_ne (ne_of_none z hn)]; exact z) }
  have hok3 : HOk X.prog X.w (del H2 a) G := fun b o z => by
    have hba : b ≠ a := fun e => by
      rw [e, del_same] at z
      cases z
    rw [del_ne hba] at z
    have noa : ∀ {c : Addr}, H2 c = some (.own b) → c ≠ a := fun {c} hc => L2.at_ne ea hc exo_own
    exact (hok b o z).stay (fun c v hc y => by
        have hca : c ≠ a := by
          rcases hc with hc | hc
          · rw [hc]
            exact hba
          · exact noa hc
        rw [gk c hca]
        exact y)
      (fun c hc => by rw [del_ne (noa hc)]; exact hc) (fun c xs hc => by rw [del_ne (L2.at_ne ea hc exo_tup)]; exact hc)
  have J : Inv X pins σ (del H2 a) ⟨G, g2, d2, t2, os2⟩ := I1.call' (ch := []) ho U hok3 hb (fun b z => absurd z (by simp))
  refine ⟨t0, G, J, fun b o z => ?_, ge, hoe, del_same⟩
  by_cases hba : b = a
  · rw [hba, ge] at z
    cases z
  · exact (gk b hba).symm.trans z
theorem pmk_0 {x : Str} {fI : Addr} {k : Nat} {fd : FuncData} {p pos : Pos} (T : OexC X.K C) (iC : PySem.W.findIn X.K (.ref C) "__init__" = some (some (.ref fI))) (tI : PySem.W.typeIn X.K (.ref fI) = some (.type "function"))
    (F1 : FnOk X.prog X.w X.K X.mg X.base L2.CX0 k fI fd ["self"] (spIni X.K C [])) (hr : Room (k + 1) X.A) (hb : Binds X.K fd ["self"] []) (hg : Gl X x) (hm : X.mg x = some (.ref C)) (hdb : (x == ("__debug__" : Str)) = false) :
    PMk X (.Call (.Name x p) [] [] pos) (fun _ H Q => Q (.ref C) none H) := by
  intro pins s σ H Q I h
  obtain ⟨nm, q, N, bs, bm, sn, sub, ab, col, dd, k0, k1, k2, k3, k5, hC, hbm⟩ := T.cls
  refine wpAny_Call_Name_kw (ld_glob I hg hm ?_ hdb)
  refine PySem.W.callWith_K0 I.kIn T.kC ?_
  show wpAny _ _ (call (.ref C) []) _ _ _
  obtain ⟨hp, g, dr, tk, os⟩ := s
  have hsz : hp.objs.size ≤ hp.objs.size + 1 := Nat.le_succ _
  have hn : H (hp.objs.size + 1) = none := I.hok.fresh hsz
  have kk : ∀ b o, hp.get? b = some o → ((hp.push (PySem.W.kdv_tup [])).push (PySem.HandSPX.excO C hp.objs.size)).get? b = some o := fun b o e => Heap.get?_push_of_some _ (Heap.get?_push_of_some _ e)
  have hget : ((hp.push (PySem.W.kdv_tup [])).push (PySem.HandSPX.excO C hp.objs.size)).get? (hp.objs.size + 1) = some (PySem.HandSPX.excO C hp.objs.size) := by heap_get
  have I2 : Inv X pins σ (upd H (hp.objs.size + 1) (exo (hp.objs.size + 1) C none)) ⟨(hp.push (PySem.W.kdv_tup [])).push (PySem.HandSPX.excO C hp.objs.size), g, dr, tk, os⟩ :=
    I.laid (t' := tk) (a := hp.objs.size + 1) (o := exo (hp.objs.size + 1) C none) (h' := (hp.push (PySem.W.kdv_tup [])).push (PySem.HandSPX.excO C hp.objs.size)) kk hsz (exo_ok hget)
  refine wpAny_call (PySem.HandSPX.call_own F.excBase_ValueError (fun Y => PySem.HandSPX.refsVE_contains Y bm hbm) (I.kIn _ _ hC) (PySem.W.looks_findIn I.kIn iC) (fun self => PySem.W.bind_fn I.kIn self tI) (Nat.zero_le _)
    (codeAny_mono (F1.run _ X.stack _ _ ⟨[Value.ref (hp.objs.size + 1)], []⟩ [Value.ref (hp.objs.size + 1)] [V.ref (hp.objs.size + 1)] (fun v H2 => v = .non ∧ H2 = upd H (hp.objs.size + 1) (exo (hp.objs.size + 1) C none)) (fun _ _ _ => False) (hr.make C [] []) (I2.env0.make C [] []) (hb _ [Value.ref (hp.objs.size + 1)] I2.kIn rfl) (.cons rfl .nil)
      ⟨_, [], rfl, rfl, T, upd_same, rfl, rfl⟩) fun r s' hq' => ?_))
  cases r with
  | error er => exact pass0 pins σ _ _ er s' I2 hq'
  | ok fl =>
    cases fl with
    | ret u =>
      obtain ⟨v, H2, os2, bare2, un2, hok2, rv, ev, eH⟩ := hq'
      subst ev
      subst eH
      obtain ⟨h2, g2, d2, t2, os'⟩ := s'
      obtain ⟨t0, G, J, kG, ge, hoe, na⟩ := mk_endN0 (d2 := d2) (t2 := t2) I hsz kk un2 hok2 os2 bare2 upd_same
      have eD : del (upd H (hp.objs.size + 1) (exo (hp.objs.size + 1) C none)) (hp.objs.size + 1) = H := by
        funext b
        by_cases hb : b = hp.objs.size + 1
        · rw [hb, del_same, hn]
        · rw [del_ne hb, upd_ne hb]
      rw [eD] at J na
      exact ⟨rv, _, _, _, ⟨G, g2, d2, t2, os'⟩, _, .ref C, none, rfl, J, kG, ge, hoe, ⟨rfl, rfl⟩, rfl, rfl, na, rfl, bare2, raises_own T.exC T.tyC, h⟩
    | next => exact False.elim hq'
    | brk => exact False.elim hq'
    | cont => exact False.elim hq'
theorem pmk_1 {x fl : Str} {fI : Addr} {k : Nat} {fd : FuncData} {p pos : Pos} {e : Expr} {ta : TA} (T : OexC X.K C) (hno : PySem.W.findIn X.K (.ref C) fl = some none) (iC : PySem.W.findIn X.K (.ref C) "__init__" = some (some (.ref fI))) (tI : PySem.W.typeIn X.K (.ref fI) = some (.type "function"))
    (F1 : FnOk X.prog X.w X.K X.mg X.base L2.CX0 k fI fd ["self", fl] (spIni X.K C [fl])) (hr : Room (k + 1) X.A) (hb : Binds X.K fd ["self", fl] []) (hg : Gl X x) (hm : X.mg x = some (.ref C)) (hdb : (x == ("__debug__" : Str)) = false) (ha : PA X [e] ta) (he : nst e = true) :
    PMk X (.Call (.Name x p) [e] [] pos) (tMkO C (spIni X.K C [fl]) [] ta) :=
  pmk_oex (p := p) (pos := pos) (CX := L2.CX0) (ds := []) (dvs := []) T iC tI F1 hr hb .nil pass0 hg hm ha hdb (star1 he _ _) rfl
theorem mk_in {K : PySem.W.Frag} {fl : Str} {vs : List V} {Q : XK} (T : OexC K C) (hno : PySem.W.findIn K (.ref C) fl = some none) (h : ∃ v, vs = [v] ∧ ∀ d, H1 d = none → Q (.ref C) (some d) (upd H1 d (.xd [(fl, v)]))) :
    vs.length ≤ 1000 ∧ ∀ a, H1 a = none → spIni K C [fl] (.ref a :: (vs ++ [])) (upd H1 a (exo a C none))
      (fun v H2 => v = .non ∧ ∃ (d : Addr) (fs : List (Str × V)), H2 a = some (exo a C (some d)) ∧ H2 d = some (exd d fs) ∧ H1 d = none ∧ Q (.ref C) (some d) (upd (del H2 a) d (.xd fs))) (fun _ _ _ => False) := by
  obtain ⟨v, rfl, q⟩ := h
  refine ⟨by simp, fun a ha => ⟨a, [v], rfl, rfl, T, upd_same, hno, fun d hd hne => ⟨rfl, d, [(fl, v)], upd_same, by rw [upd_ne hne]; exact upd_same, ?_, ?_⟩⟩⟩
  · rw [upd_ne hne] at hd; exact hd
  · have hd1 : H1 d = none := by rw [upd_ne hne] at hd; exact hd
    have e : upd (del (upd (upd (upd H1 a (exo a C none)) d (exd d [(fl, v)])) a (exo a C (some d))) a) d (.xd [(fl, v)]) = upd H1 d (.xd [(fl, v)]) := by
      funext b
      by_cases hb : b = d
      · rw [hb, upd_same, upd_same]
      · rw [upd_ne hb, upd_ne hb]
        by_cases hba : b = a
        · rw [hba, del_same, ha]
        · rw [del_ne hba, upd_ne hba, upd_ne hb, upd_ne hba]
    rw [e]
    exact q d hd1
end
/-- what the text says of an exception's class: its fields, its __init__ -/
structure ExF (P : Program) (w : World) (K : PySem.W.Frag) (mg : Str → Option Value) (base : Heap) (x : Str) (C : Addr) (fs : List Str) : Prop where
  gl : mg x = some (.ref C)
  T : OexC K C
  ini : ∃ fI fd, PySem.W.findIn K (.ref C) "__init__" = some (some (.ref fI)) ∧ PySem.W.typeIn K (.ref fI) = some (.type "function") ∧ FnOk P w K mg base L2.CX0 1 fI fd ("self" :: fs) (spIni K C fs) ∧ Binds K fd ("self" :: fs) []
  nof : ∀ f ∈ fs, PySem.W.findIn K (.ref C) f = some none
  few : fs.length ≤ 1
end MP
namespace MP
open PySem PySem.Spec PyProof.Rows L2
/-- wishes behind a statement -/
structure KEnds (K : PySem.W.Frag) (CT : Cls) (H : Hp) (be : List Addr) (W : WX) (C : CEnds) (D : L2.Ends) : Prop where
  nx : ∀ rh nu be' H' sg', Ext H H' be be' → RepS K CT H' be' nu → RepL K H' be' rh sg' → C.nx rh nu → D.nx sg' H'
  rt : KQ K CT H be C.rt D.rt
  bk : ∀ rh nu be' H' sg', Ext H H' be be' → RepS K CT H' be' nu → RepL K H' be' rh sg' → C.bk rh nu → D.bk sg' H'
  ct : ∀ rh nu be' H' sg', Ext H H' be be' → RepS K CT H' be' nu → RepL K H' be' rh sg' → C.ct rh nu → D.ct sg' H'
  ex : ∀ x rh nu be' H' cls d sg', Ext H H' be be' → RepS K CT H' be' nu → RepL K H' be' rh sg' → IsX K CT H' be' x cls d → C.ex x rh nu → W cls d sg' H'
def LS (G : Ctx) (K : PySem.W.Frag) (CT : Cls) (W : WX) (c : CS) : TS := fun D sg H => ∃ be mu rh C, RepS K CT H be mu ∧ RepL K H be rh sg ∧ wpS G c C rh mu ∧ KEnds K CT H be W C D
def LSs (G : Ctx) (K : PySem.W.Frag) (CT : Cls) (W : WX) (c : CSs) : TS := fun D sg H => ∃ be mu rh C, RepS K CT H be mu ∧ RepL K H be rh sg ∧ wpSs G c C rh mu ∧ KEnds K CT H be W C D
section
variable {X : Cx} {G : Ctx} {K : PySem.W.Frag} {CT : Cls} {W : WX} {sg : L2.St} {H H1 : Hp} {be be1 : List Addr} {C : CEnds} {De : L2.Ends}
theorem KEnds.mono (x : Ext H H1 be be1) (k : KEnds K CT H be W C De) : KEnds K CT H1 be1 W C De :=
  ⟨fun rh nu be' H' sg' y => k.nx rh nu be' H' sg' (x.trans y), k.rt.mono x, fun rh nu be' H' sg' y => k.bk rh nu be' H' sg' (x.trans y), fun rh nu be' H' sg' y => k.ct rh nu be' H' sg' (x.trans y), fun e rh nu be' H' c d sg' y => k.ex e rh nu be' H' c d sg' (x.trans y)⟩
theorem KEnds.kx {rh : Sl} (L : RepL K H be rh sg) (k : KEnds K CT H be W C De) : KX K CT H be (fun x nu => C.ex x rh nu) (fun c d => W c d sg) :=
  fun x nu be' H' c d y S i q => k.ex x rh nu be' H' c d sg y S (L.mono y) i q
theorem two_of {a b : D} {v w : V} (h : IsDs K H be [a, b] [v, w]) : IsD K H be a v ∧ IsD K H be b w := by
  obtain ⟨x, e, p⟩ := h.get (i := 0) rfl
  obtain ⟨y, e', q⟩ := h.get (i := 1) rfl
  cases e; cases e'
  exact ⟨p, q⟩
theorem three_of {a b c : D} {u v w : V} (h : IsDs K H be [a, b, c] [u, v, w]) : IsD K H be a u ∧ IsD K H be b v ∧ IsD K H be c w := by
  obtain ⟨x, e, p⟩ := h.get (i := 0) rfl
  obtain ⟨y, e', q⟩ := h.get (i := 1) rfl
  obtain ⟨z, e'', r⟩ := h.get (i := 2) rfl
  cases e; cases e'; cases e''
  exact ⟨p, q, r⟩
theorem lss_nil (h : LSs G K CT W .nil De sg H) : tNext De sg H := by
  obtain ⟨be, mu, rh, C, S, L, h, k⟩ := h
  exact k.nx rh mu be H sg .refl S L (by simpa only [wpSs] using h)
theorem lss_cons {s : CS} {r : CSs} (h : LSs G K CT W (.cons s r) De sg H) : tSeq (LS G K CT W s) (LSs G K CT W r) De sg H := by
  obtain ⟨be, mu, rh, C, S, L, h, k⟩ := h
  simp only [wpSs] at h
  exact ⟨be, mu, rh, { C with nx := wpSs G r C }, S, L, h, ⟨fun rh1 nu be' H' sg' y S1 L1 q => ⟨be', nu, rh1, C, S1, L1, q, k.mono y⟩, k.rt, k.bk, k.ct, k.ex⟩⟩
theorem ls_asg {p : CP} {e : CE} (h : LS G K CT W (.asg p e) De sg H) : tAsg (LE G K CT W e) (LP K p) De sg H := by
  obtain ⟨be, mu, rh, C, S, L, h, k⟩ := h
  simp only [wpS] at h
  refine ⟨be, mu, rh, _, _, S, L, h, fun d nu be1 H1 v x1 S1 i1 q => ?_, k.kx L⟩
  simp only [onP] at q
  split at q
  · rename_i rh1 e1
    exact ⟨be1, d, rh, rh1, i1, L.mono x1, e1, fun sg' L' _ => k.nx rh1 nu be1 H1 sg' x1 S1 L' q⟩
  · exact q.elim
/-- a name -/
theorem ls_name {i : Nat} {e : CE} (h : LS G K CT W (.asg (.name i) e) De sg H) : tAsg (LE G K CT W e) (gName i) De sg H := by
  obtain ⟨be, mu, rh, C, S, L, h, k⟩ := h
  simp only [wpS, onP, CP.bind] at h
  exact ⟨be, mu, rh, _, _, S, L, h, fun d nu be1 H1 v x1 S1 i1 q => k.nx _ nu be1 H1 _ x1 S1 ((L.mono x1).set i1) q, k.kx L⟩
theorem ls_par {i j : Nat} {es : CEs} (h : LS G K CT W (.asg (.tup [.name i, .name j]) (.tup es)) De sg H) : tPar i j (LA G K CT W es) De sg H := by
  obtain ⟨be, mu, rh, C, S, L, h, k⟩ := h
  simp only [wpS, wpE] at h
  refine ⟨be, mu, rh, _, _, S, L, h, fun ds nu be1 H1 vs x1 S1 i1 q => ?_, k.kx L⟩
  obtain ⟨_, q⟩ := q
  have Lm := L.mono x1
  match ds, vs, i1 with
  | [], _, _ => exact absurd q (by simp [onP, CP.bind, CP.binds])
  | [_], _, _ => exact absurd q (by simp [onP, CP.bind, CP.binds])
  | [a, b], [], i1 => have := i1.len; simp at this
  | [a, b], [_], i1 => have := i1.len; simp at this
  | [a, b], [v, w], i1 =>
    obtain ⟨a1, b1⟩ := two_of i1
    simp only [onP, CP.bind, CP.binds] at q
    exact ⟨v, w, rfl, k.nx _ nu be1 H1 _ x1 S1 ((Lm.set a1).set b1) q⟩
  | [a, b], _ :: _ :: _ :: _, i1 => have := i1.len; simp at this
  | _ :: _ :: _ :: _, _, _ => exact absurd q (by simp [onP, CP.bind, CP.binds])
theorem ls_par3 {i j l : Nat} {es : CEs} (h : LS G K CT W (.asg (.tup [.name i, .name j, .name l]) (.tup es)) De sg H) : tPar3 i j l (LA G K CT W es) De sg H := by
  obtain ⟨be, mu, rh, C, S, L, h, k⟩ := h
  simp only [wpS, wpE] at h
  refine ⟨be, mu, rh, _, _, S, L, h, fun ds nu be1 H1 vs x1 S1 i1 q => ?_, k.kx L⟩
  obtain ⟨_, q⟩ := q
  have Lm := L.mono x1
  have ln := i1.len
  match ds with
  | [] => exact absurd q (by simp [onP, CP.bind, CP.binds])
  | [_] => exact absurd q (by simp [onP, CP.bind, CP.binds])
  | [_, _] => exact absurd q (by simp [onP, CP.bind, CP.binds])
  | _ :: _ :: _ :: _ :: _ => exact absurd q (by simp [onP, CP.bind, CP.binds])
  | [a, b, c] =>
    obtain ⟨u, v, w, rfl⟩ : ∃ u v w, vs = [u, v, w] := by
      match vs, ln with
      | [u, v, w], _ => exact ⟨u, v, w, rfl⟩
    obtain ⟨a1, b1, c1⟩ := three_of i1
    simp only [onP, CP.bind, CP.binds] at q
    exact ⟨u, v, w, rfl, k.nx _ nu be1 H1 _ x1 S1 (((Lm.set a1).set b1).set c1) q⟩
/-- forgotten cells -/
theorem RepL.less {n : Nat} {rh : Sl} (L : RepL K H be rh sg) (h : ∀ (i : Nat) (d : MP.D), rh[i]? = some (some d) → d.cl n) : RepL K H (be.take n) rh sg :=
  ⟨L.len, fun i d e => let ⟨v, e1, i1⟩ := L.at_ i d e; ⟨v, e1, i1.less (h i d e)⟩⟩
theorem ls_gcb {s : CS} (h : LS G K CT W (.gcb s) De sg H) : LS G K CT W s De sg H := by
  obtain ⟨be, mu, rh, C, S, L, h, k⟩ := h
  simp only [wpS] at h
  refine ⟨be, mu, rh, _, S, L, h, fun rh1 nu be' H' sg' y S1 L1 q => ?_, k.rt, k.bk, k.ct, k.ex⟩
  rcases q with q | ⟨xi, a1, a2, a3, a4, q⟩
  · exact k.nx rh1 nu be' H' sg' y S1 L1 q
  · exact k.nx rh1 xi _ H' sg' (y.forget (by rw [S.len]; exact a2)) (S1.forget a1 (a3 S.wf S1.wf)) (L1.less a4) q
theorem ls_fail (h : LS G K CT W .fail De sg H) : False := by
  obtain ⟨be, mu, rh, C, S, L, h, k⟩ := h
  simpa only [wpS] using h
theorem ls_thru {b : CSs} (h : LS G K CT W (.thru b) De sg H) : LSs G K CT (fun _ _ _ _ => False) b De sg H := by
  obtain ⟨be, mu, rh, C, S, L, h, k⟩ := h
  simp only [wpS] at h
  exact ⟨be, mu, rh, _, S, L, h, k.nx, k.rt, k.bk, k.ct, fun _ _ _ _ _ _ _ _ _ _ _ _ z => z⟩
/-- any wish about exceptions, where none is let out -/
theorem KEnds.any {W' : WX} (k : KEnds K CT H be W C De) : KEnds K CT H be W' { C with ex := fun _ _ _ => False } De := ⟨k.nx, k.rt, k.bk, k.ct, fun _ _ _ _ _ _ _ _ _ _ _ _ z => z.elim⟩
/-- a suite of one step that raises nothing -/
def quiet : CS → Bool
  | .asg (.name _) (.con _) => true
  | .ret (.con _) => true
  | .retN => true
  | .pass => true
  | .cont => true
  | .brk => true
  | _ => false
theorem quiet_ex {s : CS} (hq : quiet s = true) {rh : Sl} {mu : Store} (h : wpS G s C rh mu) : wpS G s { C with ex := fun _ _ _ => False } rh mu := by
  cases s with
  | asg p e =>
    cases p with
    | name i =>
      cases e with
      | con d =>
        simp only [wpS, wpE] at h ⊢
        exact h
      | _ => cases hq
    | tup ps => cases hq
  | ret e =>
    cases e with
    | con d =>
      simp only [wpS, wpE] at h ⊢
      exact h
    | _ => cases hq
  | retN => simpa only [wpS] using h
  | pass => simpa only [wpS] using h
  | cont => simpa only [wpS] using h
  | brk => simpa only [wpS] using h
  | _ => cases hq
theorem ls_try {b : CSs} {c : Nat} {s : CS} (hq : quiet s = true) (hx : ∀ i, i < G.nex → PySem.W.exmOne K (.ref (CT.c i)) (.ref (CT.c c)) = some (G.sub i c)) (h : LS G K CT W (.tryO b c s) De sg H) :
    LSs G K CT (wOnly K (.ref (CT.c c)) (fun _ _ _ => LS G K CT (fun _ _ _ _ => False) s) W De) b De sg H := by
  obtain ⟨be, mu, rh, C, S, L, h, k⟩ := h
  simp only [wpS] at h
  refine ⟨be, mu, rh, _, S, L, h, k.nx, k.rt, k.bk, k.ct, fun x rh1 nu be' H' cls d sg' y S1 L1 i q => ?_⟩
  obtain ⟨q0, q⟩ := q
  refine ⟨G.sub x.c c, by rw [i.1]; exact hx _ q0, fun e a _ => ?_, fun e => ?_⟩
  · rw [if_pos e] at q
    exact ⟨be', nu, rh1, _, S1, L1, quiet_ex hq q, (k.mono y).any⟩
  · rw [if_neg (by rw [e]; exact Bool.false_ne_true)] at q
    exact k.ex x rh1 nu be' H' cls d sg' y S1 L1 i q
theorem set3 {α : Type} (l : List α) (i j : Nat) (x y z : α) : ((l.set i x).set j y).set i z = (l.set j y).set i z := by
  by_cases h : i = j
  · subst h; rw [List.set_set, List.set_set, List.set_set]
  · rw [List.set_comm _ _ h, List.set_set]
/-- the exception is kept under the j-th name -/
theorem ls_tryK {b : CSs} {c i j : Nat} (hx : ∀ i, i < G.nex → PySem.W.exmOne K (.ref (CT.c i)) (.ref (CT.c c)) = some (G.sub i c)) (h : LS G K CT W (.tryK b c i j) De sg H) :
    LSs G K CT (MPK.wKept K (.ref (CT.c c)) i (fun _ => tAsg (tVar i) (gName j)) W De) b De sg H := by
  obtain ⟨be, mu, rh, C, S, L, h, k⟩ := h
  simp only [wpS] at h
  refine ⟨be, mu, rh, _, S, L, h, k.nx, k.rt, k.bk, k.ct, fun x rh1 nu be' H' cls d sg' y S1 L1 q1 q => ?_⟩
  obtain ⟨q0, q⟩ := q
  refine ⟨G.sub x.c c, by rw [q1.1]; exact hx _ q0, fun e => ⟨CT.c x.c, q1.1, fun a ha hi' => ?_⟩, fun e => ?_⟩
  · rw [if_pos e] at q
    have x2 : Ext H' (upd H' a (MPK.exk a (CT.c x.c) d)) be' (be' ++ [a]) := .cell ha
    have ic : IsC K CT (upd H' a (MPK.exk a (CT.c x.c) d)) (be' ++ [a]) (.exn x.c x.fs) a := ⟨d, upd_same, q1.2.imp id fun ⟨dx, gs, p1, p2, p3⟩ => ⟨dx, gs, p1, x2.fr _ _ p2 (.inr rfl), p3.1, p3.2.mono x2⟩⟩
    have S2 := S1.cell ha ic
    have hb : (be' ++ [a])[nu.length]? = some a := by rw [← S1.len]; simp
    have L2 := ((L1.mono x2).set (i := j) (d := .ref nu.length) (v := .ref a) (by simp only [IsD]; exact ⟨a, hb, rfl⟩)).setNone (i := i)
    refine ⟨.ref a, List.getElem?_set_self hi', ?_⟩
    show De.nx (((sg'.set i (some (.ref a))).set j (some (.ref a))).set i none) _
    rw [set3]
    exact k.nx _ _ _ _ _ (y.trans x2) S2 L2 q
  · rw [if_neg (by rw [e]; exact Bool.false_ne_true)] at q
    exact k.ex x rh1 nu be' H' cls d sg' y S1 L1 q1 q
theorem ls_raise0 {c : Nat} (hf : G.fld c = []) (h : LS G K CT W (.raise c .nil) De sg H) : W (.ref (CT.c c)) none sg H := by
  obtain ⟨be, mu, rh, C, S, L, h, k⟩ := h
  simp only [wpS, wpEs, hf] at h
  exact k.ex _ rh mu be H _ none sg .refl S L ⟨rfl, .inl ⟨rfl, rfl⟩⟩ h.2
theorem ls_raise1 {c : Nat} {es : CEs} {f : Str} (hf : G.fld c = [f]) (h : LS G K CT W (.raise c es) De sg H) :
    LA G K CT W es sg H fun vs H1 => ∃ v, vs = [v] ∧ ∀ d, H1 d = none → W (.ref (CT.c c)) (some d) sg (upd H1 d (.xd [(f, v)])) := by
  obtain ⟨be, mu, rh, C, S, L, h, k⟩ := h
  simp only [wpS] at h
  refine ⟨be, mu, rh, _, _, S, L, h, fun ds nu be1 H1 vs x1 S1 i1 q => ?_, k.kx L⟩
  obtain ⟨q0, q⟩ := q
  rw [hf] at q0 q
  match ds, vs, i1, q0, q with
  | [a], [v], i1, _, q =>
    refine ⟨v, rfl, fun d hd => ?_⟩
    have x2 : Ext H1 (upd H1 d (.xd [(f, v)])) be1 be1 := .fresh hd
    refine k.ex _ rh nu be1 _ _ (some d) sg (x1.trans x2) (S1.fresh hd) (L.mono (x1.trans x2)) ⟨rfl, .inr ⟨d, [(f, v)], rfl, upd_same, rfl, ?_⟩⟩ q
    have := i1.mono x2
    simpa using this
  | [a], [], i1, _, _ => have := i1.len; simp at this
  | [a], _ :: _ :: _, i1, _, _ => have := i1.len; simp at this
  | [], _, _, h, _ => simp at h
  | _ :: _ :: _, _, _, h, _ => simp at h
theorem ls_setSub {o i e : CE} (h : LS G K CT W (.setSub o i e) De sg H) : tAsg (LE G K CT W e) (gSub (LE G K CT W o) (LE G K CT W i) (rSetD K CT)) De sg H := by
  obtain ⟨be, mu, rh, C, S, L, h, k⟩ := h
  simp only [wpS] at h
  refine ⟨be, mu, rh, _, _, S, L, h, fun v mu1 be1 H1 vv x1 S1 d1 h1 => ⟨be1, mu1, rh, _, _, S1, L.mono x1, h1, fun od mu2 be2 H2 ov x2 S2 d2 h2 => ⟨be2, mu2, rh, _, _, S2, L.mono (x1.trans x2), h2, fun id mu3 be3 H3 iv x3 S3 d3 h3 => ?_, (k.mono (x1.trans x2)).kx (L.mono (x1.trans x2))⟩, (k.mono x1).kx (L.mono x1)⟩, k.kx L⟩
  have xx := (x1.trans x2).trans x3
  exact ⟨be3, mu3, od, id, v, _, S3, d2.mono x3, d3, d1.mono (x2.trans x3), h3, fun nu H' x4 S4 q => k.nx rh nu be3 H' sg (xx.trans x4) S4 (L.mono (xx.trans x4)) q⟩
theorem drop_rel {K : PySem.W.Frag} {H : Hp} {be : List Addr} (k : Key) : ∀ {kvs : List (Key × D)} {gs : List (Key × V)}, IsKs K H be kvs gs → IsKs K H be (dropD kvs k) (dropK gs k)
  | [], [], _ => ⟨rfl, .nil⟩
  | [], _ :: _, h => by have := h.1; simp at this
  | _ :: _, [], h => by have := h.1; simp at this
  | p :: r, q :: t, h => by
    obtain ⟨e, i⟩ := h
    simp only [List.map_cons, List.cons.injEq] at e
    simp only [List.map_cons, IsDs] at i
    obtain ⟨v, w, e2, i1, i2⟩ := i
    simp only [List.cons.injEq] at e2
    have ih := drop_rel k (kvs := r) (gs := t) ⟨e.2, by rw [e2.2]; exact i2⟩
    unfold dropD dropK at *
    rw [List.filter_cons, List.filter_cons, e.1]
    by_cases hk : q.1 = k
    · rw [if_neg (by simp [hk]), if_neg (by simp [hk])]
      exact ih
    · rw [if_pos (by simp [hk]), if_pos (by simp [hk])]
      exact ⟨by simp only [List.map_cons, e.1]; rw [ih.1], by simp only [List.map_cons]; exact .cons (by rw [e2.1]; exact i1) ih.2⟩
theorem ls_del {o i : CE} (h : LS G K CT W (.del o i) De sg H) : sDDel (LE G K CT W o) (LE G K CT W i) De sg H := by
  obtain ⟨be, mu, rh, C, S, L, h, k⟩ := h
  simp only [wpS] at h
  refine ⟨be, mu, rh, _, _, S, L, h, fun od mu1 be1 H1 ov x1 S1 d1 h1 => ⟨be1, mu1, rh, _, _, S1, L.mono x1, h1, fun id mu2 be2 H2 iv x2 S2 d2 h2 => ?_, (k.mono x1).kx (L.mono x1)⟩, k.kx L⟩
  unfold wDel at h2
  split at h2
  · rename_i n
    obtain ⟨a, kvs, lk, gs, rfl, hb, hm, r1, r2, ik, rfl, h2⟩ := dct_of S2 (d1.mono x2) h2
    have hd := r2 rfl
    unfold onKey at h2
    split at h2
    · rename_i ky ek
      have vr := val_rel ky ik.1 ik.2
      have hsome : (valV gs ky).isSome = true := by
        have h0 := h2.1
        cases q : valD kvs ky with
        | none => rw [q] at h0; cases h0
        | some d0 =>
          rw [q] at vr
          cases q2 : valV gs ky with
          | none => rw [q2] at vr; exact vr.elim
          | some v0 => rfl
      have x3 : Ext H2 (upd H2 a (.dK (dropK gs ky))) be2 be2 := .write hb hd rfl
      have dr := drop_rel ky ik
      have xx := (x1.trans x2).trans x3
      exact ⟨a, gs, ky, rfl, hd, keyV ek d2, hsome, k.nx rh _ be2 _ sg xx (S2.write (c := .dct (dropD kvs ky) false) hb hd rfl ⟨_, upd_same, dr.1, dr.2.mono x3⟩) (L.mono xx) h2.2⟩
    · exact h2.elim
  · exact h2.elim
theorem ls_aug {i : Nat} {o : O2} {f : Int → Int → Int} {e : CE} (hf : ∀ x y mu Q, wAug o x y mu Q → ∃ a b, x = .int a ∧ y = .int b ∧ Q (.int (f a b)) mu) (h : LS G K CT W (.augN i o e) De sg H) : tAug i (LE G K CT W e) (ipI f) De sg H := by
  obtain ⟨be, mu, rh, C, S, L, h, k⟩ := h
  simp only [wpS] at h
  split at h
  · rename_i x ex
    obtain ⟨v, e2, i2⟩ := L.at_ i x ex
    refine ⟨v, e2, be, mu, rh, _, _, S, L, h, fun y mu1 be1 H1 u x1 S1 d1 h1 => ?_, k.kx L⟩
    obtain ⟨a, b, rfl, rfl, q⟩ := hf _ _ _ _ h1
    simp only [IsD] at i2 d1
    exact ⟨a, b, i2, d1, k.nx _ mu1 be1 H1 _ x1 S1 ((L.mono x1).set (by simp only [IsD])) q⟩
  · exact h.elim
theorem ls_expr {e : CE} (h : LS G K CT W (.expr e) De sg H) : tDrop (LE G K CT W e) De sg H := by
  obtain ⟨be, mu, rh, C, S, L, h, k⟩ := h
  simp only [wpS] at h
  exact ⟨be, mu, rh, _, _, S, L, h, fun d nu be1 H1 v x1 S1 i1 q => k.nx _ nu be1 H1 _ x1 S1 (L.mono x1) q, k.kx L⟩
theorem ls_ret {e : CE} (h : LS G K CT W (.ret e) De sg H) : tRet (LE G K CT W e) De sg H := by
  obtain ⟨be, mu, rh, C, S, L, h, k⟩ := h
  simp only [wpS] at h
  exact ⟨be, mu, rh, _, _, S, L, h, fun d nu be1 H1 v x1 S1 i1 q => k.rt d nu be1 H1 v x1 S1 i1 q, k.kx L⟩
theorem ls_retN (h : LS G K CT W .retN De sg H) : tRetN De sg H := by
  obtain ⟨be, mu, rh, C, S, L, h, k⟩ := h
  simp only [wpS] at h
  exact k.rt.at_ S (by simp only [IsD]) h
theorem ls_pass (h : LS G K CT W .pass De sg H) : tNext De sg H := by
  obtain ⟨be, mu, rh, C, S, L, h, k⟩ := h
  simp only [wpS] at h
  exact k.nx rh mu be H sg .refl S L h
theorem ls_brk (h : LS G K CT W .brk De sg H) : tBreak De sg H := by
  obtain ⟨be, mu, rh, C, S, L, h, k⟩ := h
  simp only [wpS] at h
  exact k.bk rh mu be H sg .refl S L h
theorem ls_cont (h : LS G K CT W .cont De sg H) : tCont De sg H := by
  obtain ⟨be, mu, rh, C, S, L, h, k⟩ := h
  simp only [wpS] at h
  exact k.ct rh mu be H sg .refl S L h
theorem ls_ite {c : CE} {a b : CSs} (h : LS G K CT W (.ite c a b) De sg H) : tIfS (LT G K CT W c) (LSs G K CT W a) (LSs G K CT W b) De sg H := by
  obtain ⟨be, mu, rh, C, S, L, h, k⟩ := h
  simp only [wpS] at h
  refine ⟨be, mu, rh, _, _, S, L, h, fun t nu be1 H1 x1 S1 q => ?_, k.kx L⟩
  cases t with
  | true => exact ⟨be1, nu, rh, C, S1, L.mono x1, q, k.mono x1⟩
  | false => exact ⟨be1, nu, rh, C, S1, L.mono x1, q, k.mono x1⟩
theorem ls_while {c : CE} {b : CSs} (h : LS G K CT W (.while c b) De sg H) : tWhile (LT G K CT W c) (LSs G K CT W b) De sg H := by
  obtain ⟨be, mu, rh, C, S, L, h, k⟩ := h
  simp only [wpS] at h
  obtain ⟨n, h⟩ := h
  let Pw : Nat → L2.St → Hp → Prop := fun m sg1 H1 => ∃ be1 mu1 rh1, Ext H H1 be be1 ∧ RepS K CT H1 be1 mu1 ∧ RepL K H1 be1 rh1 sg1 ∧ whileGo (fun rh1 mu1 k => wpT G c (fun x nu => C.ex x rh1 nu) rh1 mu1 fun t mu2 => if t = true then wpSs G b { C with nx := k, ct := k, bk := C.nx } rh1 mu2 else C.nx rh1 mu2) m rh1 mu1
  refine ⟨Pw, ⟨n, be, mu, rh, .refl, S, L, h⟩, ?_⟩
  rintro m sg1 H1 ⟨be1, mu1, rh1, x1, S1, L1, h1⟩
  cases m with
  | zero => exact h1.elim
  | succ m =>
    refine ⟨be1, mu1, rh1, _, _, S1, L1, h1, fun t nu be2 H2 x2 S2 q => ?_, (k.mono x1).kx L1⟩
    cases t with
    | true =>
      rw [if_pos rfl] at q
      show if true = true then _ else _
      rw [if_pos rfl]
      refine ⟨Pw m, fun sg3 H3 q3 => ⟨m, Nat.lt_succ_self m, q3⟩, be2, nu, rh1, _, S2, L1.mono x2, q, ?_⟩
      have kk := k.mono (x1.trans x2)
      have nx : ∀ rh3 nu3 be3 H3 sg3, Ext H2 H3 be2 be3 → RepS K CT H3 be3 nu3 → RepL K H3 be3 rh3 sg3 → whileGo _ m rh3 nu3 → Pw m sg3 H3 := fun rh3 nu3 be3 H3 sg3 x3 S3 L3 q3 => ⟨be3, nu3, rh3, (x1.trans x2).trans x3, S3, L3, q3⟩
      exact ⟨nx, kk.rt, kk.nx, nx, kk.ex⟩
    | false => exact k.nx _ nu be2 H2 _ (x1.trans x2) S2 (L1.mono x2) q
theorem ls_for {p : CP} {it : CI} {b : CSs} (h : LS G X.K CT W (.for p it b) De sg H) : tUnlS X (tFor (LI X G CT W it) (LP X.K p) (LSs G X.K CT W b)) De sg H := by
  obtain ⟨be, mu, rh, C, S, L, h, k⟩ := h
  simp only [wpS] at h
  refine ⟨be, mu, rh, _, _, S, L, h, fun xs still post mu1 be1 H1 J x1 S1 ij po h1 => ?_, k.kx L⟩
  let turn : D → Sl → Store → (Sl → Store → Prop) → Prop := fun x rh1 mu2 k => onP p x rh1 fun rh2 => wpSs G b { C with nx := k, ct := k, bk := fun r nu => post nu (C.nx r), rt := fun d nu => post nu (C.rt d) } rh2 mu2
  let fin : Sl → Store → Prop := fun r nu => post nu (C.nx r)
  let Pw : Nat → Nat → L2.St → Hp → Prop := fun i m sg2 H2 => m = xs.length - i ∧ i ≤ xs.length ∧ ∃ be2 mu2 rh2, Ext H1 H2 be1 be2 ∧ RepS X.K CT H2 be2 mu2 ∧ RepL X.K H2 be2 rh2 sg2 ∧ forGo turn still fin (xs.drop i) rh2 mu2
  have back : ∀ rh4 nu4 be4 H4 sg4, Ext H1 H4 be1 be4 → RepS X.K CT H4 be4 nu4 → RepL X.K H4 be4 rh4 sg4 → post nu4 (C.nx rh4) → ∃ H5, Unl X H4 H5 ∧ De.nx sg4 H5 := fun rh4 nu4 be4 H4 sg4 x4 S4 L4 q4 => by
    obtain ⟨H5, nu5, un, x5, S5, q5, tp, rp, _⟩ := po H4 be4 nu4 _ x4 S4 q4
    exact ⟨H5, un, k.nx rh4 nu5 be4 H5 sg4 x5 S5 ⟨L4.len, fun i d e => let ⟨v, e1, i1⟩ := L4.at_ i d e; ⟨v, e1, i1.on tp rp fun _ _ _ q => q⟩⟩ q5⟩
  refine ⟨Pw, ⟨xs.length, rfl, Nat.zero_le _, be1, mu1, rh, .refl, S1, L.mono x1, by simpa using h1⟩, ?_⟩
  rintro i m sg2 H2 ⟨rfl, hi, be2, mu2, rh2, x2, S2, L2', go⟩
  by_cases hlt : i < xs.length
  · right
    rw [List.drop_eq_getElem_cons hlt] at go
    simp only [forGo] at go
    obtain ⟨st, go⟩ := go
    refine ⟨ij.go i H2 be2 mu2 x2 S2 st hlt, Pw (i + 1) (xs.length - (i + 1)), fun sg' H' w => ⟨_, by omega, w⟩, fun v H3 y => ?_⟩
    obtain ⟨x, ex, ix, x3, S3⟩ := ij.yld i H2 be2 mu2 v H3 x2 S2 st hlt y
    have ex' : xs[i] = x := by
      rw [List.getElem?_eq_getElem hlt] at ex
      exact Option.some.inj ex
    rw [ex'] at go
    have go' : onP p x rh2 fun rh3 => wpSs G b { C with nx := forGo turn still fin (xs.drop (i + 1)), ct := forGo turn still fin (xs.drop (i + 1)), bk := fun r nu => post nu (C.nx r), rt := fun d nu => post nu (C.rt d) } rh3 mu2 := go
    unfold onP at go'
    split at go'
    · rename_i rh3 eb
      refine ⟨be2, x, rh2, rh3, ix, L2'.mono x3, eb, fun sg3 L3 _ => ⟨be2, mu2, rh3, _, S3, L3, go', ?_⟩⟩
      have x13 := x2.trans x3
      have kk := k.mono (x1.trans x13)
      have nx : ∀ rh4 nu4 be4 H4 sg4, Ext H3 H4 be2 be4 → RepS X.K CT H4 be4 nu4 → RepL X.K H4 be4 rh4 sg4 → forGo turn still fin (xs.drop (i + 1)) rh4 nu4 → Pw (i + 1) (xs.length - (i + 1)) sg4 H4 := fun rh4 nu4 be4 H4 sg4 x4 S4 L4 q4 => ⟨rfl, by omega, be4, nu4, rh4, x13.trans x4, S4, L4, q4⟩
      refine ⟨nx, fun d nu be4 H4 v x4 S4 i4 q4 => ?_, fun rh4 nu4 be4 H4 sg4 x4 S4 L4 q4 => back rh4 nu4 be4 H4 sg4 (x13.trans x4) S4 L4 q4, nx, kk.ex⟩
      obtain ⟨H5, nu5, un, x5, S5, q5, tp, rp, _⟩ := po H4 be4 nu _ (x13.trans x4) S4 q4
      exact ⟨H5, un, k.rt d nu5 be4 H5 v x5 S5 (i4.on tp rp fun _ _ _ q => q) q5⟩
    · exact go'.elim
  · left
    have e : i = xs.length := by omega
    subst e
    rw [List.drop_length] at go
    simp only [forGo] at go
    exact ⟨ij.stop H2 be2 mu2 x2 S2 go.1, back _ _ be2 H2 _ x2 S2 L2' go.2⟩
end
end MP
namespace MP
open PySem PySem.Spec PyProof.Rows L2
def ncmp : Expr → Bool
  | .ListComp _ _ _ _ => false
  | .SetComp _ _ _ _ => false
  | .DictComp _ _ _ _ _ => false
  | _ => true
theorem sw_no {e : Expr} {t : Option Expr} {l : Nat} {env : Env} (h : ncmp e = true) : swapsWith e t l env = pure false := by
  cases e <;> first | rfl | cases h
theorem sw_sub {e o i : Expr} {p : Pos} {l : Nat} {env : Env} : swapsWith e (some (.Subscript o i p)) l env = pure false := by
  cases e <;> rfl
/-- which names are stored from the right; none: not known -/
def swB (sc : Scope) (ts vs : List Expr) : Option (Option (List Str)) :=
  if !(ts.length == 2 || ts.length == 3) || vs.length != ts.length then some none
  else if (vs.all nst) = false then some none
  else
    let line := (ts.head?.map (·.pos.line)).getD 0
    let names := ts.filterMap fun
      | .Name id pos => if sc.names.lookup id == some .local && pos.line == line then some id else none
      | _ => none
    if names.length != ts.length || names.eraseDups.length != names.length then some none
    else if vs.all (foldedForSure 8) then some none
    else if vs.all (constantsAlone 8) then none
    else some (some names)
theorem swB_ok {sc : Scope} {env : Env} {ts vs : List Expr} {k k2 : Nat} {p p2 : Pos} {r : Option (List Str)} (he : env.scope = sc) (hk : sc.kind = .function) (h : swB sc ts vs = some r) :
    swappedStores [.Tuple ts k p] (.Tuple vs k2 p2) env = pure r := by
  have hb : env.blockKind = .function := by unfold Env.blockKind; rw [he, hk]; rfl
  have ha : (vs.any fun | .Starred .. => true | _ => false) = !(vs.all nst) := by
    induction vs with
    | nil => rfl
    | cons v vs ih => 
      have : (vs.any fun | .Starred .. => true | _ => false) = !(vs.all nst) := by
        clear ih h
        induction vs with
        | nil => rfl
        | cons v vs ih => rw [List.any_cons, List.all_cons, ih]; cases v <;> simp [nst]
      rw [List.any_cons, List.all_cons, this]
      cases v <;> simp [nst]
  have hn : (fun (id : Str) => env.kindOf id) = fun id => sc.names.lookup id := by funext id; show env.scope.names.lookup id = _; rw [he]
  have hn' : ∀ id, env.kindOf id = sc.names.lookup id := fun id => congrFun hn id
  have hb2 : (env.blockKind != .function) = false := by rw [hb]; decide
  unfold swB at h
  unfold swappedStores
  simp only [ha, hn', hb2, Bool.or_false]
  split at h
  · rename_i c; cases h; rw [if_pos c]
  · rename_i c
    rw [if_neg c]
    split at h
    · rename_i c2; cases h; exact if_pos (ha.trans (by rw [c2]; rfl))
    · rename_i c2
      have c2' : vs.all nst = true := by simpa using c2
      refine (if_neg (fun z => ?_)).trans ?_
      · have := ha.symm.trans z
        rw [c2'] at this
        cases this
      dsimp only at h ⊢
      split at h
      · rename_i c3; cases h; exact if_pos c3
      · rename_i c3
        refine (if_neg c3).trans ?_
        split at h
        · rename_i c4; cases h; exact if_pos c4
        · rename_i c4
          refine (if_neg c4).trans ?_
          split at h
          · cases h
          · rename_i c5; cases h; exact if_neg c5
/-- a constant -/
def mK (d : D) : Expr → Bool
  | .Constant (.int i) _ _ => D.beq (.int i) d
  | .Constant (.str x) _ _ => D.beq (.str x) d
  | .Constant (.bool b) _ _ => D.beq (.bl b) d
  | .Constant .none _ _ => D.beq .non d
  | _ => false
/-- the one step of an except suite -/
def mQ (n : Nm) (s : CS) (s0 : Scope) (st : Stmt) : Bool := match s, st with
  | .asg (.name i) (.con d), .Assign [.Name x _] v _ => decide (n.N[i]? = some x) && locB s0 x && mK d v
  | .ret (.con d), .Return (some v) _ => mK d v
  | .retN, .Return none _ => true
  | .pass, .Pass _ => true
  | .cont, .Continue _ => true
  | .brk, .Break _ => true
  | _, _ => false
mutual
def mS (n : Nm) : CS → Scope → Scope → Stmt → Bool
  | .asg p e, s0, sc, st => match st with
    | .Assign [tg] v pos => mP n s0 p tg && mE n e s0 sc v && (match p, tg, v with
      | .name _, .Name y py, .ListComp _ _ scope vp => (match sc.names.lookup y with
        | some .local => py.line == vp.line && !(scope.names.any fun (m, k) => m == y && (k == .local || k == .cell))
        | _ => true)
      | .name _, .Name y py, .DictComp _ _ _ scope vp => (match sc.names.lookup y with
        | some .local => py.line == vp.line && !(scope.names.any fun (m, k) => m == y && (k == .local || k == .cell))
        | _ => true)
      | .name _, _, v => ncmp v
      | .tup ps, .Tuple ts _ _, .Tuple vs _ _ => (match swB sc ts vs with
        | some none => true
        | some (some _) => (match e, ps with
          | .tup _, [.name i, .name j] => i != j
          | .tup _, [.name i, .name j, .name l] => i != j && i != l && j != l
          | _, _ => false)
        | none => false)
      | .tup _, _, .Tuple _ _ _ => false
      | .tup _, _, v => ncmp v)
    | _ => false
  | .setSub o i e, s0, sc, st => match st with
    | .Assign [.Subscript a b _] v _ => mE n o s0 sc a && mE n i s0 sc b && mE n e s0 sc v && nsl b
    | _ => false
  | .augN i o e, s0, sc, st => match st with
    | .AugAssign (.Name x _) op v _ => decide (n.N[i]? = some x) && locB s0 x && mE n e s0 sc v && (match o, op with
      | .add, .Add => true
      | .sub, .Sub => true
      | _, _ => false)
    | _ => false
  | .expr e, s0, sc, st => match st with
    | .Expr v _ => ncmp v && mE n e s0 sc v
    | _ => false
  | .ret e, s0, sc, st => match st with
    | .Return (some v) _ => mE n e s0 sc v
    | _ => false
  | .retN, _, _, st => match st with
    | .Return none _ => true
    | _ => false
  | .ite c a b, s0, sc, st => match st with
    | .If t x y _ => mE n c s0 sc t && mSs n a s0 sc x && mSs n b s0 sc y
    | _ => false
  | .for p it b, s0, sc, st => match st with
    | .For tg iter body [] _ => mP n s0 p tg && mI n it s0 sc tg iter && mSs n b s0 sc body && nset iter
    | _ => false
  | .while c b, s0, sc, st => match st with
    | .While t body [] _ => mE n c s0 sc t && mSs n b s0 sc body
    | _ => false
  | .pass, _, _, st => match st with
    | .Pass _ => true
    | .Expr (.Constant (.str _) _ _) _ => true
    | _ => false
  | .del o i, s0, sc, st => match st with
    | .Delete [.Subscript a b _] _ => mE n o s0 sc a && mE n i s0 sc b
    | _ => false
  | .gcb s, s0, sc, st => mS n s s0 sc st
  | .fail, _, _, _ => true
  | .thru b, s0, sc, st => match st with
    | .Try body (_ :: _) [] [] _ => mSs n b s0 sc body
    | _ => false
  | .tryO b c s, s0, sc, st => match st with
    | .Try body [.ExceptHandler (some (.Name x _)) none [st1] _] [] [] _ => mSs n b s0 sc body && glB sc x && decide (n.exc[c]? = some x) && quiet s && mQ n s s0 st1
    | _ => false
  | .tryK b c i j, s0, sc, st => match st with
    | .Try body [.ExceptHandler (some (.Name x _)) (some nm) [.Assign [.Name y _] (.Name z _) _] _] [] [] _ => mSs n b s0 sc body && glB sc x && decide (n.exc[c]? = some x) && decide (n.N[i]? = some nm) && decide (sc.names.lookup nm = some .local) && decide (n.N[j]? = some y) && locB s0 y && decide (z = nm) && okN nm
    | _ => false
  | .raise c es, s0, sc, st => match st with
    | .Raise (some (.Call (.Name x _) args [] _)) none _ => glB sc x && decide (n.exc[c]? = some x) && (match es, args with
      | .nil, [] => n.rai.any fun p => decide (p.1 = c) && decide (p.2 = [])
      | .cons e .nil, [a] => nst a && mE n e s0 sc a && n.rai.any fun p => decide (p.1 = c) && decide (p.2.length = 1)
      | _, _ => false)
    | _ => false
  | .brk, _, _, st => match st with
    | .Break _ => true
    | _ => false
  | .cont, _, _, st => match st with
    | .Continue _ => true
    | _ => false
def mSs (n : Nm) : CSs → Scope → Scope → List Stmt → Bool
  | .nil, _, _, sts => match sts with
    | [] => true
    | _ => false
  | .cons s r, s0, sc, sts => match sts with
    | st :: rest => mS n s s0 sc st && mSs n r s0 sc rest
    | [] => false
end
section
variable {n : Nm} {sc0 sc : Scope} {X : Cx} {CT : Cls} {G : Ctx} {W : WX} {k : Nat}
theorem PS.imp {st : Stmt} {t u : TS} (h : PS X st t) (j : ∀ D σ H, u D σ H → t D σ H) : PS X st u := ⟨fun pins s σ H D I q => h.run pins s σ H D I (j _ _ _ q)⟩
theorem PSs.imp {st : List Stmt} {t u : TS} (h : PSs X st t) (j : ∀ D σ H, u D σ H → t D σ H) : PSs X st u := ⟨fun pins s σ H D I q => h.run pins s σ H D I (j _ _ _ q)⟩
/-- the parts of a comprehension -/
theorem lc_parts (O : XO n sc0 sc X) (F : XF n G CT k X) (T : Takes X W) {vs : List Nat} {p : CP} {it : CI} {c e : CE} {elt tg iter : Expr} {ifs : List Expr} {scope : Scope} {pos : Pos} (h : mE n (.lc vs p it c e) sc0 sc (.ListComp elt [⟨tg, iter, ifs, 0⟩] scope pos) = true) :
    (∀ i ∈ p.slots, i ∈ vs) ∧ PI X tg iter (LI X G CT W it) ∧ BlkOk X.N X.env.scope scope (ownOf n vs) ∧ (∀ (s : Shared) (H : Hp) (C : Addr) (cl : List (Str × Addr)) (fp : List Addr), PG (X.blk s H scope (compEnvC scope cl C X.env) fp) tg (LP X.K p)) ∧
    (∀ (s : Shared) (H : Hp) (C : Addr) (cl : List (Str × Addr)) (fp : List Addr), PTs (X.blk s H scope (compEnvC scope cl C X.env) fp) ifs (LT G X.K CT (fun _ _ _ _ => False) c)) ∧
    (∀ (s : Shared) (H : Hp) (C : Addr) (cl : List (Str × Addr)) (fp : List Addr), PE (X.blk s H scope (compEnvC scope cl C X.env) fp) elt (LE G X.K CT (fun _ _ _ _ => False) e)) ∧ (∀ x, foldedSetIterable iter X.env x = pure x) := by
  simp only [mE] at h
  simp only [Bool.and_eq_true] at h
  obtain ⟨⟨⟨⟨⟨⟨h1, h2⟩, h3⟩, h4⟩, h5⟩, h6⟩, h7⟩ := h
  have hv : ∀ i ∈ p.slots, i ∈ vs := fun i hi => by
    have := List.all_eq_true.mp h3 i hi
    simpa using this
  have bk : BlkOk X.N X.env.scope scope (ownOf n vs) := by rw [O.N, O.scp]; exact blkOk_by h1
  refine ⟨hv, sndI it tg iter O F T h5, bk, fun s H C cl fp => sndP (O.blk h1 s H C cl fp) p tg h2, fun s H C cl fp => ?_, fun s H C cl fp => sndE e elt (O.blk h1 s H C cl fp) (F.blk s H scope C cl fp) takes0 h7, fset_of h4⟩
  have O' := O.blk h1 s H C cl fp
  split at h6
  · refine PTs.imp pts_nil fun σ H Q q => ?_
    obtain ⟨be, mu, rh, Qd, Ed, S, L, h, kq, kx⟩ := q
    unfold isTrueC at h6
    split at h6
    · simp only [wpT, wpE, onB] at h
      exact kq true mu be H .refl S h
    · cases h6
  · exact pts_one (sndT c _ O' (F.blk s H scope C cl fp) takes0 h6)
  · cases h6
/-- the parts of a dict comprehension -/
theorem dc_parts (O : XO n sc0 sc X) (F : XF n G CT k X) (T : Takes X W) {vs : List Nat} {p : CP} {it : CI} {c ke e : CE} {kx vx tg iter : Expr} {ifs : List Expr} {scope : Scope} {pos : Pos} (h : mE n (.dc vs p it c ke e) sc0 sc (.DictComp kx vx [⟨tg, iter, ifs, 0⟩] scope pos) = true) :
    (∀ i ∈ p.slots, i ∈ vs) ∧ PI X tg iter (LI X G CT W it) ∧ BlkOk X.N X.env.scope scope (ownOf n vs) ∧ (∀ (s : Shared) (H : Hp) (C : Addr) (cl : List (Str × Addr)) (fp : List Addr), PG (X.blk s H scope (compEnvC scope cl C X.env) fp) tg (LP X.K p)) ∧
    (∀ (s : Shared) (H : Hp) (C : Addr) (cl : List (Str × Addr)) (fp : List Addr), PTs (X.blk s H scope (compEnvC scope cl C X.env) fp) ifs (LT G X.K CT (fun _ _ _ _ => False) c)) ∧
    (∀ (s : Shared) (H : Hp) (C : Addr) (cl : List (Str × Addr)) (fp : List Addr), PE (X.blk s H scope (compEnvC scope cl C X.env) fp) kx (LE G X.K CT (fun _ _ _ _ => False) ke)) ∧
    (∀ (s : Shared) (H : Hp) (C : Addr) (cl : List (Str × Addr)) (fp : List Addr), PE (X.blk s H scope (compEnvC scope cl C X.env) fp) vx (LE G X.K CT (fun _ _ _ _ => False) e)) ∧ (∀ x, foldedSetIterable iter X.env x = pure x) := by
  simp only [mE] at h
  simp only [Bool.and_eq_true] at h
  obtain ⟨⟨⟨⟨⟨⟨⟨h1, h2⟩, h3⟩, h4⟩, h5⟩, h6⟩, h7⟩, h8⟩ := h
  have hv : ∀ i ∈ p.slots, i ∈ vs := fun i hi => by
    have := List.all_eq_true.mp h3 i hi
    simpa using this
  have bk : BlkOk X.N X.env.scope scope (ownOf n vs) := by rw [O.N, O.scp]; exact blkOk_by h1
  refine ⟨hv, sndI it tg iter O F T h5, bk, fun s H C cl fp => sndP (O.blk h1 s H C cl fp) p tg h2, fun s H C cl fp => ?_, fun s H C cl fp => sndE ke kx (O.blk h1 s H C cl fp) (F.blk s H scope C cl fp) takes0 h7, fun s H C cl fp => sndE e vx (O.blk h1 s H C cl fp) (F.blk s H scope C cl fp) takes0 h8, fset_of h4⟩
  have O' := O.blk h1 s H C cl fp
  split at h6
  · refine PTs.imp pts_nil fun σ H Q q => ?_
    obtain ⟨be, mu, rh, Qd, Ed, S, L, h, kq, kx⟩ := q
    unfold isTrueC at h6
    split at h6
    · simp only [wpT, wpE, onB] at h
      exact kq true mu be H .refl S h
    · cases h6
  · exact pts_one (sndT c _ O' (F.blk s H scope C cl fp) takes0 h6)
  · cases h6
/-- name = {..} on one line, the name a local -/
theorem ps_setDc {i : Nat} {y : Str} {py : Pos} {kx vx tg iter : Expr} {ifs : List Expr} {scope : Scope} {own : List (Str × Nat)} {pos spos : Pos} {wi : TI} {g : TG} {tt : TT} {tk tv : TE} (hc : X.calm = true) (hN : X.N.Nodup) (hy : X.N[i]? = some y) (hyl : X.env.scope.names.lookup y = some .local)
    (hsw : swapsWith (.DictComp kx vx [⟨tg, iter, ifs, 0⟩] scope pos) (some (.Name y py)) spos.line X.env = pure true) (hi : PI X tg iter wi) (ok : BlkOk X.N X.env.scope scope own)
    (hg : ∀ (s : Shared) (H : Hp) (C : Addr) (cl : List (Str × Addr)) (fp : List Addr), PG (X.blk s H scope (compEnvC scope cl C X.env) fp) tg g) (ht : ∀ (s : Shared) (H : Hp) (C : Addr) (cl : List (Str × Addr)) (fp : List Addr), PTs (X.blk s H scope (compEnvC scope cl C X.env) fp) ifs tt)
    (hk : ∀ (s : Shared) (H : Hp) (C : Addr) (cl : List (Str × Addr)) (fp : List Addr), PE (X.blk s H scope (compEnvC scope cl C X.env) fp) kx tk)
    (he : ∀ (s : Shared) (H : Hp) (C : Addr) (cl : List (Str × Addr)) (fp : List Addr), PE (X.blk s H scope (compEnvC scope cl C X.env) fp) vx tv) (hs : ∀ x, foldedSetIterable iter X.env x = pure x) :
    PS X (.Assign [.Name y py] (.DictComp kx vx [⟨tg, iter, ifs, 0⟩] scope pos) spos) (tAsg (tDc wi g tt tk tv (own.map (·.2))) (gName i)) := by
  refine ⟨fun pins s σ H D I h => ?_⟩
  rw [exec_Assign_Name_used _ _ _ _ hsw]
  refine wpAny_bind (wpAny_standAt (wpAny_bind ?_))
  show wpAny _ X.A (do let _ ← comprehension (.DictComp kx vx [⟨tg, iter, ifs, 0⟩] scope pos) scope X.env (firstIterPos [⟨tg, iter, ifs, 0⟩] pos) newDict false (eval iter X.env) (some (assign (.Name y py) X.env))) _ _ s
  have h : tDc wi g tt tk tv (own.map (·.2)) σ H (fun x H1 => gName i x σ H1 D.nx) := h
  refine wpAny_bind (thn (dc_core (Qf := fun _ s' => SP X pins D .next s') hc hN I hi ok hg ht hk he hs h fun L C s' m H' I' q hn f => ?_) fun _ s' hq => wpAny_pure (wpAny_pure hq))
  show wpAny _ _ (assign (.Name y py) X.env (.ref L)) _ _ _
  refine wpAny_assign_Name (store_ok2 (v := V.ref L) I' hN hy (.inl hyl) rfl (fun s2 I2 ⟨a, sb, ha⟩ => ?_) (.inr hyl))
  obtain ⟨f0, f1, f2, f3, f4, f5⟩ := f
  have haC : C ≠ a := by
    rcases ha with z | z
    · rw [z]; exact f1
    · exact fun e => f4 y a z e.symm
  refine ⟨m, hn.sameBut sb haC, fun h3 sb3 => ?_⟩
  exact ⟨_, H', I2.turned (t' := s2.toks) (fun b o hb e => (sb3.2 b hb).trans e) f0 f1 f3 f4 f5, q⟩
theorem sw_trueD {kx vx : Expr} {gs : List Comprehension} {scope : Scope} {pos py : Pos} {y : Str} {l : Nat} {env : Env} (hk : env.scope.kind = .function) (hy : env.scope.names.lookup y = some .local) (hl : (py.line == pos.line) = true)
    (ha : (scope.names.any fun (n, k) => n == y && (k == .local || k == .cell)) = false) : swapsWith (.DictComp kx vx gs scope pos) (some (.Name y py)) l env = pure true := by
  have ky : env.kindOf y = some .local := hy
  have hb : env.blockKind = .function := by unfold Env.blockKind; rw [hk]; rfl
  unfold swapsWith
  simp only [hb, ky, ha, Expr.pos, hl]
  rfl
theorem sw_cell {e : Expr} {py : Pos} {y : Str} {l : Nat} {env : Env} (he : (∃ elt gs scope pos, e = .ListComp elt gs scope pos) ∨ ∃ kx vx gs scope pos, e = .DictComp kx vx gs scope pos) (hy : env.scope.names.lookup y ≠ some .local) : swapsWithSole [.Name y py] e l env = pure false := by
  have ky : (env.kindOf y == some .local) = false := by
    cases q : env.kindOf y == some .local with
    | false => rfl
    | true => exact absurd (show env.scope.names.lookup y = some .local from (by simpa using q : env.kindOf y = some .local)) hy
  rcases he with ⟨elt, gs, scope, pos, rfl⟩ | ⟨kx, vx, gs, scope, pos, rfl⟩
  · show swapsWith (.ListComp elt gs scope pos) (some (.Name y py)) l env = pure false
    unfold swapsWith
    simp only [ky, Bool.and_false, Bool.false_and]
  · show swapsWith (.DictComp kx vx gs scope pos) (some (.Name y py)) l env = pure false
    unfold swapsWith
    simp only [ky, Bool.and_false, Bool.false_and]
theorem dc_any {K : PySem.W.Frag} : ∀ (e : CE) {kx vx : Expr} {gs : List Comprehension} {scope : Scope} {pos : Pos}, mE n e sc0 sc (.DictComp kx vx gs scope pos) = true →
    ∃ tg iter ifs vs p it c k' e', gs = [⟨tg, iter, ifs, 0⟩] ∧ mE n (.dc vs p it c k' e') sc0 sc (.DictComp kx vx gs scope pos) = true ∧ ∀ (sg : L2.St) (H : Hp) (Q : VK), LE G K CT W e sg H Q → LE G K CT W (.dc vs p it c k' e') sg H Q
  | .con _, _, _, _, _, _, h => by simp only [mE, mCon] at h; cases h
  | .var _, _, _, _, _, _, h => by simp only [mE] at h; cases h
  | .tup _, _, _, _, _, _, h => by simp only [mE] at h; cases h
  | .lst _, _, _, _, _, _, h => by simp only [mE] at h; cases h
  | .op1 o _, _, _, _, _, _, h => by
    simp only [mE] at h
    cases o <;> simp [sh1] at h
  | .op2 o _ _, _, _, _, _, _, h => by
    simp only [mE] at h
    cases o <;> simp [sh2] at h
  | .op3 o _ _ _, _, _, _, _, _, h => by
    simp only [mE] at h
    cases o <;> simp [sh3] at h
  | .dnew _, _, _, _, _, _, h => by simp only [mE] at h; cases h
  | .disp _, _, _, _, _, _, h => by simp only [mE] at h; cases h
  | .cond _ _ _, _, _, _, _, _, h => by simp only [mE] at h; cases h
  | .and _ _, _, _, _, _, _, h => by simp only [mE] at h; cases h
  | .or _ _, _, _, _, _, _, h => by simp only [mE] at h; cases h
  | .not _, _, _, _, _, _, h => by simp only [mE] at h; cases h
  | .chain _ _ _ _ _, _, _, _, _, _, h => by simp only [mE] at h; cases h
  | .sl _ _ _, _, _, _, _, _, h => by simp only [mE] at h; cases h
  | .call _ _ _ _, _, _, _, _, _, h => by simp only [mE] at h; cases h
  | .lc _ _ _ _ _, _, _, _, _, _, h => by simp only [mE] at h; cases h
  | .dc vs p it c k' e, _, _, gs, _, _, h => by
    have h0 := h
    simp only [mE] at h
    split at h
    · rename_i heq
      cases heq
      exact ⟨_, _, _, vs, p, it, c, k', e, rfl, h0, fun _ _ _ q => q⟩
    · cases h
  | .gc e, _, _, _, _, _, h => by
    obtain ⟨tg, iter, ifs, vs, p, it, c, k', e', h1, h2, h3⟩ := dc_any (K := K) e (by simpa only [mE] using h)
    exact ⟨tg, iter, ifs, vs, p, it, c, k', e', h1, h2, fun sg H Q q => h3 sg H Q (le_gc q)⟩
theorem aug_f : ∀ x y mu Q, wAug .add x y mu Q → ∃ a b, x = .int a ∧ y = .int b ∧ Q (.int (a + b)) mu := by
  intro x y mu Q h
  cases x <;> cases y <;> simp only [wAug] at h
  exact ⟨_, _, rfl, rfl, h⟩
theorem aug_g : ∀ x y mu Q, wAug .sub x y mu Q → ∃ a b, x = .int a ∧ y = .int b ∧ Q (.int (a - b)) mu := by
  intro x y mu Q h
  cases x <;> cases y <;> simp only [wAug] at h
  exact ⟨_, _, rfl, rfl, h⟩
theorem lc_any {K : PySem.W.Frag} : ∀ (e : CE) {elt : Expr} {gs : List Comprehension} {scope : Scope} {pos : Pos}, mE n e sc0 sc (.ListComp elt gs scope pos) = true →
    ∃ tg iter ifs vs p it c e', gs = [⟨tg, iter, ifs, 0⟩] ∧ mE n (.lc vs p it c e') sc0 sc (.ListComp elt gs scope pos) = true ∧ ∀ (sg : L2.St) (H : Hp) (Q : VK), LE G K CT W e sg H Q → LE G K CT W (.lc vs p it c e') sg H Q
  | .con _, _, _, _, _, h => by simp only [mE, mCon] at h; cases h
  | .var _, _, _, _, _, h => by simp only [mE] at h; cases h
  | .tup _, _, _, _, _, h => by simp only [mE] at h; cases h
  | .lst _, _, _, _, _, h => by simp only [mE] at h; cases h
  | .op1 o _, _, _, _, _, h => by
    simp only [mE] at h
    cases o <;> simp [sh1] at h
  | .op2 o _ _, _, _, _, _, h => by
    simp only [mE] at h
    cases o <;> simp [sh2] at h
  | .op3 o _ _ _, _, _, _, _, h => by
    simp only [mE] at h
    cases o <;> simp [sh3] at h
  | .dnew _, _, _, _, _, h => by simp only [mE] at h; cases h
  | .disp _, _, _, _, _, h => by simp only [mE] at h; cases h
  | .dc _ _ _ _ _ _, _, _, _, _, h => by simp only [mE] at h; cases h
  | .cond _ _ _, _, _, _, _, h => by simp only [mE] at h; cases h
  | .and _ _, _, _, _, _, h => by simp only [mE] at h; cases h
  | .or _ _, _, _, _, _, h => by simp only [mE] at h; cases h
  | .not _, _, _, _, _, h => by simp only [mE] at h; cases h
  | .chain _ _ _ _ _, _, _, _, _, h => by simp only [mE] at h; cases h
  | .sl _ _ _, _, _, _, _, h => by simp only [mE] at h; cases h
  | .call _ _ _ _, _, _, _, _, h => by simp only [mE] at h; cases h
  | .lc vs p it c e, _, gs, _, _, h => by
    have h0 := h
    simp only [mE] at h
    split at h
    · rename_i heq
      cases heq
      exact ⟨_, _, _, vs, p, it, c, e, rfl, h0, fun _ _ _ q => q⟩
    · cases h
  | .gc e, _, _, _, _, h => by
    obtain ⟨tg, iter, ifs, vs, p, it, c, e', h1, h2, h3⟩ := lc_any (K := K) e (by simpa only [mE] using h)
    exact ⟨tg, iter, ifs, vs, p, it, c, e', h1, h2, fun sg H Q q => h3 sg H Q (le_gc q)⟩
theorem asg_one {tg : Expr} {env : Env} (h : nst tg = true) : (assignEach [tg] env).map (·.2) = [assign tg env] := by rw [asg_cons h]; rfl
theorem mP_name {sc0 : Scope} {i : Nat} {e : Expr} (h : mP n sc0 (.name i) e = true) : ∃ x p, e = .Name x p ∧ n.N[i]? = some x ∧ locB sc0 x = true := by
  cases e <;> simp only [mP] at h <;> try (cases h)
  simp only [Bool.and_eq_true, decide_eq_true_eq] at h
  exact ⟨_, _, rfl, h.1, h.2⟩
theorem mP_tup {sc0 : Scope} {ps : List CP} {es : List Expr} {k : Nat} {q : Pos} (h : mP n sc0 (.tup ps) (.Tuple es k q) = true) : mPs n sc0 ps es = true := by simpa only [mP] using h
theorem mPs_cons {sc0 : Scope} {p : CP} {ps : List CP} {es : List Expr} (h : mPs n sc0 (p :: ps) es = true) : ∃ e r, es = e :: r ∧ mP n sc0 p e = true ∧ mPs n sc0 ps r = true := by
  cases es with
  | nil => simp only [mPs] at h; cases h
  | cons e r =>
    simp only [mPs] at h
    rw [Bool.and_eq_true] at h
    exact ⟨e, r, rfl, h.1, h.2⟩
theorem mPs_nil {sc0 : Scope} {es : List Expr} (h : mPs n sc0 [] es = true) : es = [] := by
  cases es with
  | nil => rfl
  | cons e r => simp only [mPs] at h; cases h
theorem sw_sole {v tg : Expr} {l : Nat} {env : Env} (h : ncmp v = true) : swapsWithSole [tg] v l env = pure false := sw_no h
theorem sw_nt {v tg : Expr} {env : Env} (h : (∀ ts k p, tg = .Tuple ts k p → False) ∨ ∀ vs k p, v = .Tuple vs k p → False) (hl : ∀ ts p, tg = .List ts p → False) : swappedStores [tg] v env = pure none := by
  cases tg <;> first | rfl | exact (hl _ _ rfl).elim | (cases v <;> first | rfl | (rcases h with h | h <;> exact (h _ _ _ rfl).elim))
theorem swB_len {sc : Scope} {ts vs : List Expr} {nms : List Str} (h : swB sc ts vs = some (some nms)) : (ts.length = 2 ∨ ts.length = 3) ∧ vs.length = ts.length ∧ nms.length = ts.length ∧ vs.all nst = true ∧
    nms = ts.filterMap fun
      | .Name id pos => if sc.names.lookup id == some .local && pos.line == (ts.head?.map (·.pos.line)).getD 0 then some id else none
      | _ => none := by
  unfold swB at h
  split at h
  · cases h
  · rename_i c1
    split at h
    · cases h
    · rename_i c2
      dsimp only at h
      split at h
      · cases h
      · rename_i c3
        split at h
        · cases h
        · split at h
          · cases h
          · cases h
            simp only [Bool.or_eq_true, not_or, bne_iff_ne, ne_eq, Classical.not_not] at c1 c3
            refine ⟨?_, c1.2, c3.1, by simpa using c2, rfl⟩
            have := c1.1
            by_cases e : ts.length = 2
            · exact .inl e
            · exact .inr ((by simpa using this : ¬ts.length = 2 → ts.length = 3) e)
theorem swB2 {sc : Scope} {x y : Str} {px py : Pos} {vs : List Expr} {nms : List Str} (h : swB sc [.Name x px, .Name y py] vs = some (some nms)) :
    nms = [x, y] ∧ sc.names.lookup x = some .local ∧ sc.names.lookup y = some .local ∧ vs.all nst = true ∧ ∃ a b, vs = [a, b] := by
  obtain ⟨_, h2, h3, h4, rfl⟩ := swB_len h
  refine ⟨?_, ?_, ?_, h4, ?_⟩
  all_goals first
    | (match vs, h2 with
        | [a, b], _ => exact ⟨a, b, rfl⟩)
    | (simp only [List.filterMap_cons, List.filterMap_nil] at h3 ⊢
       split at h3 <;> rename_i e1 <;> split at h3 <;> rename_i e2 <;> simp at h3
       split at e1 <;> cases e1
       split at e2 <;> cases e2
       rename_i k1 k2
       simp only [Bool.and_eq_true, beq_iff_eq] at k1 k2
       first
         | exact k1.1
         | exact k2.1
         | simp [k1, k2])
theorem swB3 {sc : Scope} {x y z : Str} {px py pz : Pos} {vs : List Expr} {nms : List Str} (h : swB sc [.Name x px, .Name y py, .Name z pz] vs = some (some nms)) :
    nms = [x, y, z] ∧ sc.names.lookup x = some .local ∧ sc.names.lookup y = some .local ∧ sc.names.lookup z = some .local ∧ vs.all nst = true ∧ ∃ a b c, vs = [a, b, c] := by
  obtain ⟨_, h2, h3, h4, rfl⟩ := swB_len h
  refine ⟨?_, ?_, ?_, ?_, h4, ?_⟩
  all_goals first
    | (match vs, h2 with
        | [a, b, c], _ => exact ⟨a, b, c, rfl⟩)
    | (simp only [List.filterMap_cons, List.filterMap_nil] at h3 ⊢
       split at h3 <;> rename_i e1 <;> split at h3 <;> rename_i e2 <;> split at h3 <;> rename_i e3 <;> simp at h3
       split at e1 <;> cases e1
       split at e2 <;> cases e2
       split at e3 <;> cases e3
       rename_i k1 k2 k3
       simp only [Bool.and_eq_true, beq_iff_eq] at k1 k2 k3
       first
         | exact k1.1
         | exact k2.1
         | exact k3.1
         | simp [k1, k2, k3])
theorem sndAsg (O : XO n sc0 sc X) (F : XF n G CT k X) (T : Takes X W) {p : CP} {e : CE} {st : Stmt} (h : mS n (.asg p e) sc0 sc st = true) : PS X st (LS G X.K CT W (.asg p e)) := by
  simp only [mS] at h
  split at h
  case h_2 => cases h
  rename_i tg v pos
  simp only [Bool.and_eq_true] at h
  obtain ⟨⟨h1, h2⟩, h3⟩ := h
  have hN : X.N.Nodup := by rw [O.N]; exact O.nd
  split at h3
  · -- a name, a comprehension
    rename_i i y py elt gs scope vp
    simp only [mP, Bool.and_eq_true, decide_eq_true_eq] at h1
    split at h3
    rotate_left
    · rename_i hne
      exact PS.imp (ps_asg (sndE e _ O F T h2) (sndP O (.name i) _ (by simp only [mP, Bool.and_eq_true, decide_eq_true_eq]; exact h1)) (sw_cell (.inl ⟨_, _, _, _, rfl⟩) (by rw [O.scp]; exact hne)) (sw_nt (.inl fun _ _ _ z => by cases z) fun _ _ z => by cases z) (asg_one rfl)) fun D σ H q => ls_asg q
    · rename_i hl
      simp only [Bool.and_eq_true, Bool.not_eq_true'] at h3
      obtain ⟨tg, iter, ifs, vs, p, it, c, e', rfl, m2, m3⟩ := lc_any (CT := CT) (G := G) (W := W) (K := X.K) e h2
      obtain ⟨a1, a2, a3, a4, a5, a6, a7⟩ := lc_parts O F T m2
      refine PS.imp (ps_unl (ps_setLc (i := i) O.calm hN (by rw [O.N]; exact h1.1) (by rw [O.scp]; exact hl) (sw_true (by rw [O.scp]; exact O.kind) (by rw [O.scp]; exact hl) h3.1 h3.2) a2 a3 a4 a5 a6 a7)) fun D σ H q => ?_
      have q1 : LE G X.K CT W (.lc vs p it c e') σ H _ := m3 _ _ _ (ls_name q)
      rw [ownOf_snd]
      exact le_lc a1 q1
  · -- a name, a dict comprehension
    rename_i i y py kx vx gs scope vp
    simp only [mP, Bool.and_eq_true, decide_eq_true_eq] at h1
    split at h3
    rotate_left
    · rename_i hne
      exact PS.imp (ps_asg (sndE e _ O F T h2) (sndP O (.name i) _ (by simp only [mP, Bool.and_eq_true, decide_eq_true_eq]; exact h1)) (sw_cell (.inr ⟨_, _, _, _, _, rfl⟩) (by rw [O.scp]; exact hne)) (sw_nt (.inl fun _ _ _ z => by cases z) fun _ _ z => by cases z) (asg_one rfl)) fun D σ H q => ls_asg q
    · rename_i hl
      simp only [Bool.and_eq_true, Bool.not_eq_true'] at h3
      obtain ⟨tg, iter, ifs, vs, p, it, c, k', e', rfl, m2, m3⟩ := dc_any (CT := CT) (G := G) (W := W) (K := X.K) e h2
      obtain ⟨a1, a2, a3, a4, a5, a6, a7, a8⟩ := dc_parts O F T m2
      refine PS.imp (ps_unl (ps_setDc (i := i) O.calm hN (by rw [O.N]; exact h1.1) (by rw [O.scp]; exact hl) (sw_trueD (by rw [O.scp]; exact O.kind) (by rw [O.scp]; exact hl) h3.1 h3.2) a2 a3 a4 a5 a6 a7 a8)) fun D σ H q => ?_
      have q1 : LE G X.K CT W (.dc vs p it c k' e') σ H _ := m3 _ _ _ (ls_name q)
      rw [ownOf_snd]
      exact le_dc a1 q1
  · -- a name
    rename_i i hne
    have hc : ncmp v = true := h3
    exact PS.imp (ps_asg (sndE e v O F T h2) (sndP O _ tg h1) (sw_sole hc) (sw_nt (.inl fun ts k p z => by subst z; simp only [mP] at h1; cases h1) (fun ts p z => by subst z; simp only [mP] at h1; cases h1)) (asg_one (mP_nst h1))) fun D σ H q => ls_asg q
  · -- tuples
    rename_i ps ts kt pt vs kv pv
    split at h3
    · rename_i hs
      exact PS.imp (ps_asg (sndE e _ O F T h2) (sndP O (.tup ps) _ h1) rfl (swB_ok O.scp O.kind hs) (asg_one rfl)) fun D σ H q => ls_asg q
    · rename_i nms hs
      split at h3
      · rename_i es i j
        obtain ⟨a, r, rfl, h1a, h1⟩ := mPs_cons (mP_tup h1)
        obtain ⟨b, r, rfl, h1b, h1⟩ := mPs_cons h1
        cases mPs_nil h1
        obtain ⟨x, px, rfl, n1, k1⟩ := mP_name h1a
        obtain ⟨y, py, rfl, n2, k2⟩ := mP_name h1b
        obtain ⟨rfl, l1, l2, hn, u, w, rfl⟩ := swB2 hs
        simp only [mE] at h2
        exact PS.imp (ps_par O.calm hN (by rw [O.N]; exact n1) (by rw [O.N]; exact n2) (by simpa using h3) (by rw [O.scp]; exact l1) (by rw [O.scp]; exact l2) (sndEs es _ O F T h2).1 (swB_ok O.scp O.kind hs)) fun D σ H q => ls_par q
      · rename_i es i j l
        obtain ⟨a, r, rfl, h1a, h1⟩ := mPs_cons (mP_tup h1)
        obtain ⟨b, r, rfl, h1b, h1⟩ := mPs_cons h1
        obtain ⟨c, r, rfl, h1c, h1⟩ := mPs_cons h1
        cases mPs_nil h1
        obtain ⟨x, px, rfl, n1, k1⟩ := mP_name h1a
        obtain ⟨y, py, rfl, n2, k2⟩ := mP_name h1b
        obtain ⟨z, pz, rfl, n3, k3⟩ := mP_name h1c
        obtain ⟨rfl, l1, l2, l3, hn, u, w, t, rfl⟩ := swB3 hs
        simp only [mE] at h2
        simp only [Bool.and_eq_true, bne_iff_ne, ne_eq] at h3
        exact PS.imp (ps_par3 O.calm hN (by rw [O.N]; exact n1) (by rw [O.N]; exact n2) (by rw [O.N]; exact n3) h3.1.1 h3.1.2 h3.2 (by rw [O.scp]; exact l1) (by rw [O.scp]; exact l2) (by rw [O.scp]; exact l3) (sndEs es _ O F T h2).1 (swB_ok O.scp O.kind hs)) fun D σ H q => ls_par3 q
      · cases h3
    · cases h3
  · cases h3
  · rename_i ps hne hne2
    exact PS.imp (ps_asg (sndE e v O F T h2) (sndP O (.tup ps) tg h1) (sw_sole h3) (sw_nt (.inr fun vs k p z => by subst z; first | exact hne2 _ _ _ rfl | exact hne _ _ _ _ _ _ rfl rfl | exact hne _ _ _ rfl | exact hne2 rfl) (fun ts p z => by subst z; simp only [mP] at h1; cases h1)) (asg_one (mP_nst h1))) fun D σ H q => ls_asg q
theorem sw_subS {e o i : Expr} {p : Pos} {l : Nat} {env : Env} : swapsWithSole [.Subscript o i p] e l env = pure false := by
  show swapsWith e (some (.Subscript o i p)) l env = pure false
  exact sw_sub
theorem nsl_asg {o i : Expr} {pos : Pos} {env : Env} (h : nsl i = true) (v : Value) : assign (.Subscript o i pos) env v = (do
      let ov ← holding [v] (eval o env)
      let iv ← holding [v, ov] (eval i env)
      standAt pos
      holding [v, ov, iv] (setItem ov iv v)
      release [v, ov, iv] []) := by
  cases i <;> first | rfl | cases h
end
/-- what a statement leans on besides -/
structure XZ (n : Nm) (G : Ctx) (CT : Cls) (k : Nat) (X : Cx) : Prop where
  exN : ∀ i x, n.exc[i]? = some x → X.mg x = some (.ref (CT.c i))
  exM : ∀ i j x, i < G.nex → n.exc[j]? = some x → PySem.W.exmOne X.K (.ref (CT.c i)) (.ref (CT.c j)) = some (G.sub i j)
  exR : ∀ p, p ∈ n.rai → ∀ x, n.exc[p.1]? = some x → 2 ≤ k ∧ G.fld p.1 = p.2 ∧ ExF X.prog X.w X.K X.mg X.base x (CT.c p.1) p.2
  stk : X.stack = X.env :: X.outer
  frm : X.env.frame = some X.env.locals
section
variable {X : Cx} {G : Ctx} {CT : Cls} {W : WX} {n : Nm} {sc0 sc : Scope} {k : Nat}
theorem XO.tr (O : XO n sc0 sc X) (pn : List (Addr × Obj)) (xe : Value → Shared → Prop) (h : PassesOwn (model X.prog X.w) X.A X.env xe) : XO n sc0 sc (X.tr pn xe) :=
  ⟨O.scp, O.N, O.nd, O.calm, O.hu, O.hg, O.blt, O.cons, h, O.loc, O.kind⟩
theorem XF.tr (F : XF n G CT k X) (pn : List (Addr × Obj)) (xe : Value → Shared → Prop) : XF n G CT k (X.tr pn xe) := ⟨⟨F.kep.mgE, F.kep.kc, F.kep.kit, F.kep.nof, F.kep.kiv⟩, F.ct, F.room, F.fns⟩
theorem XZ.tr (Z : XZ n G CT k X) (pn : List (Addr × Obj)) (xe : Value → Shared → Prop) : XZ n G CT k (X.tr pn xe) := ⟨Z.exN, Z.exM, Z.exR, Z.stk, Z.frm⟩
theorem XO.nox (O : XO n sc0 sc X) : XO n sc0 sc X.nox := ⟨O.scp, O.N, O.nd, O.calm, O.hu, O.hg, O.blt, O.cons, PassesOwn.never, O.loc, O.kind⟩
theorem XF.nox (F : XF n G CT k X) : XF n G CT k X.nox := ⟨⟨F.kep.mgE, F.kep.kc, F.kep.kit, F.kep.nof, F.kep.kiv⟩, F.ct, F.room, F.fns⟩
theorem XZ.nox (Z : XZ n G CT k X) : XZ n G CT k X.nox := ⟨Z.exN, Z.exM, Z.exR, Z.stk, Z.frm⟩
theorem takes_nox : Takes X (fun _ _ _ _ => False) := fun _ _ ⟨_, _, _, _, _, _, _, _, _, _, _, _, _, _, _, _, w⟩ => w.elim
theorem pe_K {d : D} {e : Expr} {K : PySem.W.Frag} (h : mK d e = true) : PE X e (LE G K CT W (.con d)) := by
  unfold mK at h
  split at h
  · cases beq_D h
    exact PE.imp pe_int fun σ H Q q => by
      obtain ⟨be, mu, Qd, S, q, kq⟩ := le_con q
      exact kq.at_ S (by simp only [IsD]) q
  · cases beq_D h
    exact PE.imp pe_str fun σ H Q q => by
      obtain ⟨be, mu, Qd, S, q, kq⟩ := le_con q
      exact kq.at_ S (by simp only [IsD]) q
  · cases beq_D h
    exact PE.imp pe_bl fun σ H Q q => by
      obtain ⟨be, mu, Qd, S, q, kq⟩ := le_con q
      exact kq.at_ S (by simp only [IsD]) q
  · cases beq_D h
    exact PE.imp pe_non fun σ H Q q => by
      obtain ⟨be, mu, Qd, S, q, kq⟩ := le_con q
      exact kq.at_ S (by simp only [IsD]) q
  · cases h
theorem sw_K {d : D} {e : Expr} {t : Option Expr} {l : Nat} {env : Env} (h : mK d e = true) : swapsWith e t l env = pure false := by
  unfold mK at h
  split at h <;> first | rfl | cases h
theorem sndQ {s : CS} {st : Stmt} (hN : X.N = n.N) (nd : n.N.Nodup) (loc : ∀ x, locB sc0 x = true → L2.Loc X.env.scope x ∧ (X.fn x = true ∨ X.env.scope.names.lookup x = some .local)) (h : mQ n s sc0 st = true) (K : PySem.W.Frag) : PS X st (LS G K CT W s) := by
  unfold mQ at h
  split at h
  · simp only [Bool.and_eq_true, decide_eq_true_eq] at h
    obtain ⟨⟨h1, h2⟩, h3⟩ := h
    obtain ⟨l1, l2⟩ := loc _ h2
    exact PS.imp (ps_set (by rw [hN]; exact nd) (by rw [hN]; exact h1) l1 (pe_K (G := G) (CT := CT) (W := W) (K := K) h3) (sw_K h3) l2) fun D σ H q => ls_name q
  · exact PS.imp (ps_ret (pe_K (G := G) (CT := CT) (W := W) (K := K) h)) fun D σ H q => ls_ret q
  · exact PS.imp ps_retN fun D σ H q => ls_retN q
  · exact PS.imp ps_pass fun D σ H q => ls_pass q
  · exact PS.imp ps_continue fun D σ H q => ls_cont q
  · exact PS.imp ps_break fun D σ H q => ls_brk q
  · cases h
end
mutual
theorem sndS {n : Nm} {CT : Cls} {G : Ctx} {k : Nat} : ∀ (c : CS) {sc0 sc : Scope} {X : Cx} {W : WX} (st : Stmt), XO n sc0 sc X → XF n G CT k X → XZ n G CT k X → Takes X W → mS n c sc0 sc st = true → PS X st (LS G X.K CT W c)
  | .asg p e, _, _, _, _, st, O, F, Z, T, h => sndAsg O F T h
  | .setSub o i e, _, _, _, _, st, O, F, Z, T, h => by
    simp only [mS] at h
    split at h
    · simp only [Bool.and_eq_true] at h
      exact PS.imp (ps_asg (sndE e _ O F T h.1.2) (pg_sub (sndE o _ O F T h.1.1.1) (sndE i _ O F T h.1.1.2) (set_D (by have := O.hu; omega) F.ct) (nsl_asg h.2)) sw_subS (sw_nt (.inl fun _ _ _ z => by cases z) fun _ _ z => by cases z) rfl) fun D σ H q => ls_setSub q
    · cases h
  | .augN i o e, _, _, _, _, st, O, F, Z, T, h => by
    simp only [mS] at h
    split at h
    · simp only [Bool.and_eq_true, decide_eq_true_eq] at h
      obtain ⟨⟨⟨h1, h2⟩, h3⟩, h4⟩ := h
      obtain ⟨l1, l2⟩ := O.loc _ h2
      have hN := O.nd
      rw [← O.N] at hN h1
      split at h4
      · exact PS.imp (ps_aug hN h1 (by rw [O.scp]; exact l1) (sndE e _ O F T h3) ip_add (by rw [O.scp]; exact l2)) fun D σ H q => ls_aug aug_f q
      · exact PS.imp (ps_aug hN h1 (by rw [O.scp]; exact l1) (sndE e _ O F T h3) ip_sub (by rw [O.scp]; exact l2)) fun D σ H q => ls_aug aug_g q
      · cases h4
    · cases h
  | .expr e, _, _, _, _, st, O, F, Z, T, h => by
    simp only [mS] at h
    split at h
    · rw [Bool.and_eq_true] at h
      exact PS.imp (ps_expr (sndE e _ O F T h.2) (sw_no h.1)) fun D σ H q => ls_expr q
    · cases h
  | .ret e, _, _, _, _, st, O, F, Z, T, h => by
    simp only [mS] at h
    split at h
    · exact PS.imp (ps_ret (sndE e _ O F T h)) fun D σ H q => ls_ret q
    · cases h
  | .retN, _, _, _, _, st, O, F, Z, T, h => by
    simp only [mS] at h
    split at h
    · exact PS.imp ps_retN fun D σ H q => ls_retN q
    · cases h
  | .ite c a b, _, _, _, _, st, O, F, Z, T, h => by
    simp only [mS] at h
    split at h
    · simp only [Bool.and_eq_true] at h
      exact PS.imp (ps_if (sndT c _ O F T h.1.1) (sndSs a _ O F Z T h.1.2) (sndSs b _ O F Z T h.2)) fun D σ H q => ls_ite q
    · cases h
  | .for p it b, _, _, _, _, st, O, F, Z, T, h => by
    simp only [mS] at h
    split at h
    · simp only [Bool.and_eq_true] at h
      exact PS.imp (ps_unl (ps_for O.own O.calm (sndI it _ _ O F T h.1.1.2) (sndP O p _ h.1.1.1) (sndSs b _ O F Z T h.1.2) (fset_of h.2))) fun D σ H q => ls_for q
    · cases h
  | .while c b, _, _, _, _, st, O, F, Z, T, h => by
    simp only [mS] at h
    split at h
    · simp only [Bool.and_eq_true] at h
      exact PS.imp (ps_while O.own (sndT c _ O F T h.1) (sndSs b _ O F Z T h.2)) fun D σ H q => ls_while q
    · cases h
  | .pass, _, _, _, _, st, O, F, Z, T, h => by
    simp only [mS] at h
    split at h
    · exact PS.imp ps_pass fun D σ H q => ls_pass q
    · exact PS.imp ps_doc fun D σ H q => ls_pass q
    · cases h
  | .del o i, _, _, _, _, st, O, F, Z, T, h => by
    simp only [mS] at h
    split at h
    · rw [Bool.and_eq_true] at h
      exact PS.imp (ps_ddel (sndE o _ O F T h.1) (sndE i _ O F T h.2)) fun D σ H q => ls_del q
    · cases h
  | .gcb s, _, _, _, _, st, O, F, Z, T, h => PS.imp (sndS s st O F Z T (by simpa only [mS] using h)) fun D σ H q => ls_gcb q
  | .fail, _, _, _, _, st, O, F, Z, T, h => ⟨fun pins s σ H D I q => (ls_fail q).elim⟩
  | .thru b, _, _, _, _, st, O, F, Z, T, h => by
    simp only [mS] at h
    split at h
    · exact PS.imp (ps_try_thru0 (sndSs b _ O.nox F.nox Z.nox takes_nox h)) fun D σ H q => ls_thru q
    · cases h
  | .tryO b c s, _, _, X, W, st, O, F, Z, T, h => by
    simp only [mS] at h
    split at h
    · simp only [Bool.and_eq_true, decide_eq_true_eq] at h
      obtain ⟨⟨⟨⟨h1, h2⟩, h3⟩, h4⟩, h5⟩ := h
      obtain ⟨g1, g2, _⟩ := gl_of O h2
      refine PS.imp (ps_try_only (c := .ref (CT.c c)) (Wout := W) (tb := fun W' => LSs G X.K CT W' b) (ts := fun _ _ _ => LS G X.K CT (fun _ _ _ _ => False) s) Z.stk Z.frm ⟨g1, g2, .inl (Z.exN _ _ h3)⟩ T (fun W' pn xe tk own => sndSs b _ (O.tr pn xe own) (F.tr pn xe) (Z.tr pn xe) tk h1) (fun a oe cls d pn hz hf => pss_one (sndQ (X := X.suite a ((a, oe) :: pn)) O.N O.nd (fun y hy => by have := O.loc y hy; rw [← O.scp] at this; exact this) h5 X.K))) fun D σ H q => ls_try h4 (fun i hi => Z.exM i c _ hi h3) q
    · cases h
  | .tryK b c i j, _, _, X, W, st, O, F, Z, T, h => by
    simp only [mS] at h
    split at h
    · simp only [Bool.and_eq_true, decide_eq_true_eq] at h
      obtain ⟨⟨⟨⟨⟨⟨⟨⟨h1, h2⟩, h3⟩, h4⟩, h5⟩, h6⟩, h7⟩, h8⟩, h9⟩ := h
      subst h8
      obtain ⟨g1, g2, _⟩ := gl_of O h2
      obtain ⟨l1, l2⟩ := O.loc _ h7
      have hl := h5
      rw [← O.scp] at hl
      obtain ⟨n1, n2, _⟩ := okN_of h9
      rw [← O.scp] at l1 l2
      refine PS.imp (MPK.ps_try_kept (c := .ref (CT.c c)) (Wout := W) (tb := fun W' => LSs G X.K CT W' b) (ts := fun _ => tAsg (tVar i) (gName j)) Z.stk Z.frm (by rw [O.N]; exact O.nd) (by rw [O.N]; exact h4) hl ⟨g1, g2, .inl (Z.exN _ _ h3)⟩ T (fun W' pn xe tk own => sndSs b _ (O.tr pn xe own) (F.tr pn xe) (Z.tr pn xe) tk h1) (fun a pn => pss_one (ps_set (X := X.suite a pn) (by rw [O.N]; exact O.nd) (by rw [O.N]; exact h6) l1 (pv (X := X.suite a pn) i (by rw [O.N]; exact h4) (.inl hl) n1 n2) rfl l2))) fun D σ H q => ls_tryK (fun i hi => Z.exM i c _ hi h3) q
    · cases h
  | .raise c es, _, _, X, W, st, O, F, Z, T, h => by
    simp only [mS] at h
    split at h
    · simp only [Bool.and_eq_true, decide_eq_true_eq] at h
      obtain ⟨⟨h1, h2⟩, h3⟩ := h
      obtain ⟨g1, g2, _⟩ := gl_of O h1
      split at h3
      · obtain ⟨p, hp, e⟩ := List.any_eq_true.mp h3
        simp only [Bool.and_eq_true, decide_eq_true_eq] at e
        obtain ⟨rfl, e2⟩ := e
        obtain ⟨k2, hf, ex⟩ := Z.exR p hp _ h2
        rw [e2] at hf ex
        obtain ⟨fI, fd, i1, i2, i3, i4⟩ := ex.ini
        exact PS.imp (ps_raise O.calm T (pmk_0 ex.T i1 i2 i3 (F.room.mono k2) i4 g1 ex.gl g2)) fun D σ H q => ls_raise0 hf q
      · rename_i e a
        simp only [Bool.and_eq_true] at h3
        obtain ⟨⟨h4, h5⟩, h6⟩ := h3
        obtain ⟨p, hp, e⟩ := List.any_eq_true.mp h6
        simp only [Bool.and_eq_true, decide_eq_true_eq] at e
        obtain ⟨rfl, e2⟩ := e
        obtain ⟨k2, hf, ex⟩ := Z.exR p hp _ h2
        obtain ⟨f, hfs⟩ : ∃ f, p.2 = [f] := List.length_eq_one_iff.mp e2
        rw [hfs] at hf ex
        obtain ⟨fI, fd, i1, i2, i3, i4⟩ := ex.ini
        refine PS.imp (ps_raise O.calm T (pmk_1 ex.T (ex.nof f (by simp)) i1 i2 i3 (F.room.mono k2) i4 g1 ex.gl g2 (pa_cons (sndE e _ O F T h5) pa_nil (star1 h4 _ _)) h4)) fun D σ H q => ?_
        have q1 := LA.mono (ls_raise1 hf q) fun vs H1 z => mk_in (C := CT.c p.1) (fl := f) (Q := fun cls d H' => W cls d σ H') ex.T (ex.nof f (by simp)) z
        exact LE.mono (la_cons q1) fun v H1 z => la_nil z
      · cases h3
    · cases h
  | .brk, _, _, _, _, st, O, F, Z, T, h => by
    simp only [mS] at h
    split at h
    · exact PS.imp ps_break fun D σ H q => ls_brk q
    · cases h
  | .cont, _, _, _, _, st, O, F, Z, T, h => by
    simp only [mS] at h
    split at h
    · exact PS.imp ps_continue fun D σ H q => ls_cont q
    · cases h
theorem sndSs {n : Nm} {CT : Cls} {G : Ctx} {k : Nat} : ∀ (c : CSs) {sc0 sc : Scope} {X : Cx} {W : WX} (sts : List Stmt), XO n sc0 sc X → XF n G CT k X → XZ n G CT k X → Takes X W → mSs n c sc0 sc sts = true → PSs X sts (LSs G X.K CT W c)
  | .nil, _, _, _, _, sts, O, F, Z, T, h => by
    cases sts <;> simp only [mSs] at h
    · exact PSs.imp pss_nil fun D σ H q => lss_nil q
    · cases h
  | .cons s r, _, _, _, _, sts, O, F, Z, T, h => by
    cases sts <;> simp only [mSs] at h
    · cases h
    · rw [Bool.and_eq_true] at h
      exact PSs.imp (pss_cons (sndS s _ O F Z T h.1) (sndSs r _ O F Z T h.2)) fun D σ H q => lss_cons q
end
end MP
namespace MP
open PySem PySem.Spec PyProof.Rows L2
/-- the data at a def's entry -/
def startD (N : List Str) (ds : List D) : Sl := ds.map some ++ List.replicate (N.length - ds.length) none
/-- what a def's body is run for -/
def endsOf (Q : QD) (E : QX) : CEnds := { nx := fun _ nu => Q .non nu, rt := Q, bk := fun _ _ => False, ct := fun _ _ => False, ex := fun x _ nu => E x nu }
/-- at a def's end its own cells may be forgotten -/
def gcD (mu : Store) (Q : QD) : QD := fun d nu => Q d nu ∨ ∃ xi, xi <+: nu ∧ mu.length ≤ xi.length ∧ (WF mu → WF nu → WF xi) ∧ d.cl xi.length ∧ Q d xi
def gcX (mu : Store) (E : QX) : QX := fun x nu => E x nu ∨ ∃ xi, xi <+: nu ∧ mu.length ≤ xi.length ∧ (WF mu → WF nu → WF xi) ∧ D.cls xi.length (x.fs.map (·.2)) ∧ E x xi
/-- the text's defs as a body's calls want them -/
def FnsOk (P : Program) (w : World) (K : PySem.W.Frag) (mg : Str → Option Value) (base : Heap) (n : Nm) (G : Ctx) (CT : Cls) (k : Nat) : Prop :=
  ∀ i x, n.fns[i]? = some x → ∃ f fd ps, mg x = some (.ref f) ∧ PySem.W.keepIn K (.ref f) = true ∧ FnG P w K mg base k f fd ps (liftF K CT (G.fn i)) ∧
    ∀ np ks pm, (i, np, ks, pm) ∈ n.kwp → pm.length = ps.length ∧ ∀ (s : Shared) (us ws : List Value), K.In s.heap → us.length = np → ws.length = ks.length → BindsTo s fd ⟨us, ks.zip ws⟩ (ps.zip (permU pm (us ++ ws)))
/-- the text's classes of exceptions as a body wants them -/
structure ExsOk (P : Program) (w : World) (K : PySem.W.Frag) (mg : Str → Option Value) (base : Heap) (n : Nm) (G : Ctx) (CT : Cls) (k : Nat) : Prop where
  exN : ∀ i x, n.exc[i]? = some x → mg x = some (.ref (CT.c i))
  exM : ∀ i j x, i < G.nex → n.exc[j]? = some x → PySem.W.exmOne K (.ref (CT.c i)) (.ref (CT.c j)) = some (G.sub i j)
  exR : ∀ p, p ∈ n.rai → ∀ x, n.exc[p.1]? = some x → 2 ≤ k ∧ G.fld p.1 = p.2 ∧ ExF P w K mg base x (CT.c p.1) p.2
theorem ExsOk.none {P : Program} {w : World} {K : PySem.W.Frag} {mg : Str → Option Value} {base : Heap} {n : Nm} {G : Ctx} {CT : Cls} {k : Nat} (h : n.exc = []) : ExsOk P w K mg base n G CT k :=
  ⟨fun i x e => by rw [h] at e; simp at e, fun i j x _ e => by rw [h] at e; simp at e, fun p _ x e => by rw [h] at e; simp at e⟩
/-- what is asked of the classes of kept exceptions -/
structure KepK (n : Nm) (CT : Cls) (K : PySem.W.Frag) (mg : Str → Option Value) : Prop where
  mgE : ∀ j x, n.exc[j]? = some x → mg x = some (.ref (CT.c j))
  kc : ∀ i, i < n.nex → MPK.KeptC K (CT.c i)
  kit : ∀ i j x, i < n.nex → n.exc[j]? = some x → PySem.W.kitOne K (.ref (CT.c i)) (.ref (CT.c j)) = some (n.sub i j)
  nof : ∀ i f, i < n.nex → f ∈ n.flds → PySem.W.findIn K (.ref (CT.c i)) f = some none
  kiv : ∀ i, i < n.nex → PySem.W.kitOne K (.ref (CT.c i)) (.type "ValueError") = some true
theorem KepK.none {n : Nm} {CT : Cls} {K : PySem.W.Frag} {mg : Str → Option Value} (h : n.nex = 0) (e : n.exc = []) : KepK n CT K mg := ⟨fun j x q => by rw [e] at q; simp at q, fun i q => by omega, fun i j x q => by omega, fun i f q => by omega, fun i q => by omega⟩
/-- what the module's names stand for -/
structure GlbOk (K : PySem.W.Frag) (mg : Str → Option Value) (n : Nm) : Prop where
  blt : ∀ x ∈ n.blts, mg x = none
  cons : ∀ p ∈ n.cons, ∃ u, mg p.1 = some u ∧ ∀ H be, ∃ v, L2.RelV v u ∧ IsD K H be p.2 v
section
variable {P : Program} {w : World} {K : PySem.W.Frag} {mg : Str → Option Value} {base : Heap} {k : Nat} {f : Addr} {fd : FuncData} {x : Str} {st : Stmt} {N ps : List Str} {n : Nm} {body : CSs} {G : Ctx} {CT : Cls} {sp : DSp}
theorem kq_gc {H : Hp} {be : List Addr} {mu : Store} {Qd : QD} {Q : VK} (S : RepS K CT H be mu) (kq : KQ K CT H be Qd Q) : KQ K CT H be (gcD mu Qd) Q := fun d nu be' H' v y S1 i q => by
  rcases q with q | ⟨xi, a1, a2, a3, a4, q⟩
  · exact kq d nu be' H' v y S1 i q
  · exact kq d xi _ H' v (y.forget (by rw [S.len]; exact a2)) (S1.forget a1 (a3 S.wf S1.wf)) (i.less a4) q
theorem kx_gc {H : Hp} {be : List Addr} {mu : Store} {Ed : QX} {W : Value → Option Addr → Hp → Prop} (S : RepS K CT H be mu) (kx : KX K CT H be Ed W) : KX K CT H be (gcX mu Ed) W := fun x nu be' H' c d y S1 i q => by
  rcases q with q | ⟨xi, a1, a2, a3, a4, q⟩
  · exact kx x nu be' H' c d y S1 i q
  · refine kx x xi _ H' c d (y.forget (by rw [S.len]; exact a2)) (S1.forget a1 (a3 S.wf S1.wf)) ⟨i.1, ?_⟩ q
    rcases i.2 with i2 | ⟨dx, gs, e1, e2, e3, e4⟩
    · exact .inl i2
    · exact .inr ⟨dx, gs, e1, e2, e3, e4.less a4⟩
theorem startL {H : Hp} {be : List Addr} {ds : List D} {vs : List V} (r : IsDs K H be ds vs) : RepL K H be (startD N ds) (L2.start N vs) := by
  have hl := r.len
  have hsl : (startD N ds).length = (L2.start N vs).length := by unfold startD L2.start; simp [hl]
  refine ⟨hsl, fun i d e => ?_⟩
  unfold startD at e
  unfold L2.start
  by_cases hi : i < ds.length
  · rw [List.getElem?_append_left (by simpa using hi), List.getElem?_map] at e
    rw [List.getElem?_append_left (by simpa [← hl] using hi), List.getElem?_map]
    cases ed : ds[i]? with
    | none => rw [ed] at e; cases e
    | some d' =>
      rw [ed] at e
      cases e
      obtain ⟨v, ev, q⟩ := r.get ed
      exact ⟨v, by rw [ev]; rfl, q⟩
  · rw [List.getElem?_append_right (by simpa using hi), List.getElem?_replicate] at e
    split at e <;> cases e
/-- a def keeps the promise that its core tree keeps -/
theorem fng_of (F : L2.Fun K x x st f fd) (hsc : FnScope N ps (defScope st)) (hN : n.N = N) (hm : mSs n body (defScope st) (defScope st) (defBody st) = true) (hC : CT.P = P ∧ CT.w = w) (hF : FnsOk P w K mg base n G CT k) (hX : ExsOk P w K mg base n G CT k) (hG : GlbOk K mg n) (hK : KepK n CT K mg)
    (hw : ∀ ds mu Q E, ds.length = ps.length → sp ds mu Q E → wpSs G body (endsOf (gcD mu Q) (gcX mu E)) (startD N ds) mu) : FnG P w K mg base (k + 1) f fd ps (liftF K CT sp) := by
  refine ⟨fun A outer s H args us vs Q E room grd en bnd rel len spec => ?_⟩
  obtain ⟨oc, od, kV, doc, pm, an, cdv, ct, osl, rfl, look, code⟩ := F.ex
  have same : ∀ b o, base.get? b = some o → s.heap.get? b = some o := fun b o e => (en.bs b o e).1
  have kin : K.In s.heap := en.mod.kin.keeps same
  have nolim : s.heap.NoLimit := en.mod.nolimit.keeps same
  have parts : ∀ y ∈ ps.zip us, (defScope st).names.lookup y.1 = some .local ∨ ((defScope st).names.lookup y.1 = some .cell ∧ ((cellsFrom (s.heap.objs.size + 1) (defScope st).names []).lookup y.1).isSome = true) := by
    rintro ⟨nm, u⟩ hy
    exact (hsc.par nm (List.of_mem_zip hy).1).imp id fun c => ⟨c, PySem.W.cellsFrom_some _ _ _ (.inl c)⟩
  refine codeAny_call_function room.depth (kin _ _ look) rfl hsc.co hsc.gen rfl (PySem.W.codeRec_of kin code) (bnd _ _ _ _ ?_)
  refine wpAny_newFunctionEnv_cells hsc.kind parts fun env eqn s1 inn => ?_
  cases eqn
  refine ⟨nolim.keeps inn.toInCall.keep, codeAny_func ?_⟩
  let X : Cx := cxOf (L2.CX P w) P w K mg base N x (defScope st) f cdv A outer s H E
  have I : Inv X [] (L2.start N vs) H s1 := inv_start hsc room.hd en len rel inn
  have rm : Room k X.A := room.deeper _
  have un := rm.un
  have O : XO n (defScope st) (defScope st) X := ⟨rfl, hN.symm, by rw [hN]; exact hsc.nd, rfl, by omega, grd, hG.blt, hG.cons, passes_of rfl, fun y hy => by
    unfold locB at hy
    split at hy
    · rename_i e; exact ⟨.inl e, .inr e⟩
    · rename_i e; exact ⟨.inr e, .inl rfl⟩
    · exact absurd hy Bool.false_ne_true, hsc.kind⟩
  have T : Takes X (fun cls d _ H' => E cls d H') := takes_of rfl rfl rfl rfl
  obtain ⟨be, mu, ds, Qd, Ed, S, ids, q, kq0, kx0⟩ := spec
  have kq := kq_gc S kq0
  have kx := kx_gc S kx0
  have run := sndSs (CT := CT) (G := G) body (defBody st) O ⟨⟨hK.mgE, hK.kc, hK.kit, hK.nof, hK.kiv⟩, hC, rm, hF⟩ ⟨hX.exN, hX.exM, hX.exR, rfl, rfl⟩ T hm
  refine wpAny_mono (run.run [] s1 (L2.start N vs) H { nx := fun _ H' => Q .non H', rt := Q } I ⟨be, mu, startD N ds, endsOf (gcD mu Qd) (gcX mu Ed), S, startL ids, hw ds mu Qd Ed (by rw [ids.len]; exact len) q, ?_⟩) (fun fl s' r => ?_) fun e s' r => r
  · refine ⟨fun rh nu be' H' sg' y S' L' qn => ?_, kq, fun _ _ _ _ _ _ _ _ z => z.elim, fun _ _ _ _ _ _ _ _ z => z.elim, fun e rh nu be' H' cls d sg' y S' L' i qn => kx e nu be' H' cls d y S' i qn⟩
    exact kq .non nu be' H' .non y S' (by simp only [IsD]) qn
  · have out : ∀ {sg' : L2.St} {H' : Hp} {v : V} {u : Value}, Inv X [] sg' H' s' → L2.RelV v u → Q v H' → L2.CE outer P w H s Q u s' :=
      fun {_ H' v _} J rv z => ⟨v, H', J.os, J.bare, J.base, J.hok, rv, z⟩
    match fl, r with
    | .ret u, r => obtain ⟨v, _, _, J, rv, z⟩ := r; exact out J rv z
    | .next, r => obtain ⟨_, _, J, z⟩ := r; exact out (v := V.non) (u := Value.none) J rfl z
    | .brk, r => obtain ⟨_, _, _, z⟩ := r; exact z.elim
    | .cont, r => obtain ⟨_, _, _, z⟩ := r; exact z.elim
end
end MP
namespace MP
open PySem PySem.Spec PyProof.Rows L2
/-- the law's promise over data: the script is a list of its0, the answer is True -/
def LawD (sp : DSp) (n : Nat) : Prop := ∀ ns : List Int, ns.length ≤ n → sp [.ro (ns.map D.int)] [] (fun d _ => d = .bl true) fun _ _ => False
theorem ints_rel {K : PySem.W.Frag} {H : Hp} {be : List Addr} : ∀ ns : List Int, IsDs K H be (ns.map D.int) (ns.map V.int)
  | [] => .nil
  | _ :: r => .cons (by simp only [IsD]) (ints_rel r)
section
variable {P : Program} {w : World} {K : PySem.W.Frag} {mg mb : Str → Option Value} {k : Nat} {fa a : Addr} {fd : FuncData} {x : Str} {sp : DSp} {CT : Cls} {st : Shared} {vs : List Value} {ns : List Int} {n : Nat}
/-- the end that the head wants -/
abbrev HeadEnd (st : Shared) : Result → Shared → Prop := fun r s' => r = .ok (.ret (.bool true)) ∧ OldK st.heap s'.heap ∧ s'.os = st.os ∧ AllBare s'.gens
theorem head_at (kin : K.In st.heap) (ng : st.heap.Ns mainGlobals mg) (nb : st.heap.Ns builtinsNs mb) (hbb : ∀ x : Str, x ≠ "__name__" → mb x = bootBuiltins x) (nl : st.heap.NoLimit) (hg : st.gens = #[]) (obj : st.heap.get? a = some { cls := .type "list", data := .seq vs.toArray })
    (room : Room k callerA) (F : ∀ base : Heap, K.In base → base.Ns mainGlobals mg → FnG P w K mg base k fa fd [x] (liftF K CT sp)) (bind : ∀ (s : Shared) (u : Value), BindsTo s fd ⟨[u], []⟩ [(x, u)]) (law : LawD sp n) (hn : ns.length ≤ n)
    {H : Hp} (hr : RoL K H a (ns.map V.int)) (ok : HOk P w H st.heap) (one : ∀ b, H b ≠ none → b = a ∧ ∃ o xs, H b = some (.frz o (.lst xs))) (kn : H a ≠ none → K.lookup a = none) : codeAny (model P w) callerA (.call (.ref fa) ⟨[.ref a], []⟩) (HeadEnd st) st := by
  have free : ∀ {b : Addr} {o : Obj}, st.heap.get? b = some o → (∀ its : Array Value, o.data ≠ .seq its 0) → H b = none := fun {b o} e d => by
    cases q : H b with
    | none => rfl
    | some u =>
      obtain ⟨rfl, _⟩ := one b (by rw [q]; exact Option.some_ne_none u)
      rw [obj] at e; cases e
      exact absurd rfl (d _)
  have keepN : ∀ {b : Addr} {m : Str → Option Value}, st.heap.Ns b m → (hidT st.heap H).Ns b m := fun ⟨o, es, ep, e, d, r⟩ => ⟨o, es, ep, hidT_get e (free e fun its z => by rw [d] at z; cases z), d, r⟩
  have kin' : K.In (hidT st.heap H) := fun b o e => hidT_get (kin b o e) (by
    by_cases q : H b = none
    · exact q
    · obtain ⟨rfl, _⟩ := one b q
      rw [kn q] at e; cases e)
  have md : Mod K mg (hidT st.heap H) := ⟨kin', keepN ng, ⟨mb, keepN nb, hbb⟩, let ⟨mc, p, q⟩ := nl; ⟨mc, keepN p, q⟩⟩
  have env : Env0 P w K mg (hidT st.heap H) callerA [] st H := ⟨rfl, md, fun _ _ e => of_hidT e, Nat.le_of_eq (hidT_size _ _), trivial, (fun _ z => absurd (show _ ∈ ([] : List Addr) from z) List.not_mem_nil), ok, .of_eq hg⟩
  have spec : liftF K CT sp [V.ref a] H (fun v _ => v = .bl true) fun _ _ _ => False := by
    refine ⟨[], [], [.ro (ns.map D.int)], _, _, ⟨rfl, fun m c e => by simp at e, List.nodup_nil⟩, .one ?_, law ns hn, fun d nu be' H' v _ _ i q => ?_, fun _ _ _ _ _ _ _ _ _ z => z⟩
    · simp only [IsD]
      exact ⟨a, _, rfl, hr, ints_rel ns⟩
    · subst q
      simpa only [IsD] using i
  refine codeAny_mono ((F _ kin' (keepN ng)).run callerA [] st H ⟨[.ref a], []⟩ [.ref a] [.ref a] _ _ room rfl env (bind st (.ref a)) (.cons rfl .nil) rfl spec) fun r s' h => ?_
  match r, h with
  | .error e, h =>
    obtain ⟨_, _, _, _, _, _, _, _, _, _, _, _, z⟩ := h
    exact z.elim
  | .ok .next, h => exact False.elim h
  | .ok .brk, h => exact False.elim h
  | .ok .cont, h => exact False.elim h
  | .ok (.ret u), h =>
    obtain ⟨v, H', os, bare, un, ok', rv, q⟩ := h
    cases (show v = .bl true from q)
    cases (show u = Value.bool true from rv)
    refine ⟨rfl, OldK.of_keep fun b o e => ?_, os, bare⟩
    by_cases q : H b = none
    · exact un.keep b o e q (fun z => absurd (show _ ∈ ([] : List Addr) from z) List.not_mem_nil) (by simp)
    · obtain ⟨_, ob, xs, z⟩ := one b q
      have p1 := (ok b _ z).1
      have p2 := (ok' b _ (un.frzs b ob _ z)).1
      exact p2.trans (p1.symm.trans e)
theorem head_call (kin : K.In st.heap) (ng : st.heap.Ns mainGlobals mg) (nb : st.heap.Ns builtinsNs mb) (hbb : ∀ x : Str, x ≠ "__name__" → mb x = bootBuiltins x) (nl : st.heap.NoLimit) (hg : st.gens = #[]) (obj : st.heap.get? a = some { cls := .type "list", data := .seq vs.toArray })
    (its0 : IntsAre vs ns) (small : ns.length ≤ sizeLine) (room : Room k callerA) (F : ∀ base : Heap, K.In base → base.Ns mainGlobals mg → FnG P w K mg base k fa fd [x] (liftF K CT sp)) (bind : ∀ (s : Shared) (u : Value), BindsTo s fd ⟨[u], []⟩ [(x, u)]) (law : LawD sp n) (hn : ns.length ≤ n) :
    codeAny (model P w) callerA (.call (.ref fa) ⟨[.ref a], []⟩) (HeadEnd st) st := by
  have rel := vals_ints its0
  have len := its0.length
  cases own : K.lookup a with
  | some o =>
    have e := kin a o own
    rw [obj] at e
    cases e
    exact head_at kin ng nb hbb nl hg obj room F bind law hn (H := fun _ => none) (.inr ⟨_, vs.toArray, _, own, rfl, rfl, rfl, by simpa [len] using small, by simpa using rel⟩) (fun b u z => nomatch (show (none : Option HO) = some u from z)) (fun b z => absurd rfl z) fun z => absurd rfl z
  | none =>
    let o : Obj := { cls := .type "list", data := .seq vs.toArray }
    have at_a : ∀ {b : Addr} {u : HO}, (if b = a then some (HO.frz o (.lst (ns.map V.int))) else none) = some u → b = a ∧ u = .frz o (.lst (ns.map V.int)) := fun {b u} z => by
      split at z
      · rename_i e; exact ⟨e, (Option.some.inj z).symm⟩
      · cases z
    refine head_at kin ng nb hbb nl hg obj room F bind law hn (H := fun b => if b = a then some (.frz o (.lst (ns.map V.int))) else none) (.inl ⟨o, if_pos rfl⟩) (fun b u z => ?_) (fun b z => ?_) fun _ => own
    · obtain ⟨rfl, rfl⟩ := at_a z
      exact ⟨obj, by rw [List.length_map]; exact small, vs, _, rel, obj⟩
    · cases q : (if b = a then some (HO.frz o (.lst (ns.map V.int))) else none) with
      | none => exact absurd q z
      | some u =>
        obtain ⟨rfl, rfl⟩ := at_a q
        exact ⟨rfl, o, _, rfl⟩
end
/-- what k_head leaves -/
theorem walk_law {l : PySem.W.OpenLaw} {n k : Nat} {q : Program} {loose : List Str} {XP : (Str → Option Value) → Heap → Prop} {YP : World → Heap → Prop} {d : DefRec} {K : Params → PySem.W.Frag} {sp : DSp} {x : Str} (hn : l.most = some n) (hn2 : n ≤ sizeLine) (hdf : d.params.defaults = []) (room : Room k callerA)
    (hY : ∀ (w : World) (h : Heap), YP w h → (K w.params).In h) (law : LawD sp n)
    (F : ∀ (w : World) (mg : Str → Option Value) (fa : Addr) (h : Heap), (K w.params).In h → h.Ns mainGlobals mg → mg d.name = some (.ref fa) →
      ∃ (fd : FuncData) (CT : Cls), (∀ (s : Shared) (u : Value), BindsTo s fd ⟨[u], []⟩ [(x, u)]) ∧ ∀ base : Heap, (K w.params).In base → base.Ns mainGlobals mg → FnG l.prog w (K w.params) mg base k fa fd [x] (liftF (K w.params) CT sp)) :
    PySem.W.WalkO q loose XP YP l.row.toRowW d [] (fun f vs => PySem.call f vs) := by
  refine Att.attach_call hn hdf fun w s₀ st mg mb fa o pm cd doc a vs ns gr yp ho hd hcd hmg obj its0 len hg => ?_
  have kin := hY w _ yp
  obtain ⟨fd, CT, bind, pr⟩ := F w mg fa _ kin gr.T.g hmg
  exact head_call kin gr.T.g gr.T.b gr.T.builtins gr.T.nolimit hg obj its0 (Nat.le_trans len hn2) room pr bind law len
end MP
namespace MP
open PySem PySem.Spec PyProof.Rows L2
theorem forGo_inv {turn : D → Sl → Store → (Sl → Store → Prop) → Prop} {still : Store → Prop} {fin : Sl → Store → Prop} (I : Nat → Sl → Store → Prop) {xs : List D} {rh : Sl} {mu : Store} (h0 : I 0 rh mu)
    (hst : ∀ i rh mu, I i rh mu → still mu) (hs : ∀ i x rh mu k, xs[i]? = some x → I i rh mu → (∀ rh' mu', I (i + 1) rh' mu' → k rh' mu') → turn x rh mu k) (hd : ∀ rh mu, I xs.length rh mu → fin rh mu) : forGo turn still fin xs rh mu := by
  have go : ∀ (n i : Nat) rh mu, xs.length = i + n → I i rh mu → forGo turn still fin (xs.drop i) rh mu := by
    intro n
    induction n with
    | zero =>
      intro i rh mu e p
      rw [List.drop_eq_nil_of_le (by omega)]
      simp only [forGo]
      have : i = xs.length := by omega
      exact ⟨hst _ _ _ p, hd _ _ (this ▸ p)⟩
    | succ n ih =>
      intro i rh mu e p
      have hi : i < xs.length := by omega
      rw [List.drop_eq_getElem_cons hi]
      simp only [forGo]
      exact ⟨hst _ _ _ p, hs i _ rh mu _ (List.getElem?_eq_getElem hi) p fun rh' mu' q => ih (i + 1) rh' mu' (by omega) q⟩
  simpa using go xs.length 0 rh mu (by omega) h0
/-- a comprehension over mapped items without effects -/
theorem lcGo_of {α : Type} {g : α → D} {turn : D → Store → (Option D → Store → Prop) → Prop} {still : Store → Prop} {fin : List D → Store → Prop} (f : α → Option D) {ys : List α} {mu : Store} (hst : still mu)
    (hs : ∀ a ∈ ys, ∀ k, k (f a) mu → turn (g a) mu k) (hd : fin (ys.filterMap f) mu) : lcGo turn still fin (ys.map g) [] mu := by
  have go : ∀ (rest : List α) (acc : List D), (∀ a ∈ rest, a ∈ ys) → fin (acc ++ rest.filterMap f) mu → lcGo turn still fin (rest.map g) acc mu := by
    intro rest
    induction rest with
    | nil =>
      intro acc _ q
      simp only [List.map_nil, lcGo]
      exact ⟨hst, by simpa using q⟩
    | cons a rest ih =>
      intro acc hm q
      simp only [List.map_cons, lcGo]
      refine ⟨hst, hs a (hm a List.mem_cons_self) _ ?_⟩
      cases e : f a with
      | none =>
        rw [List.filterMap_cons, e] at q
        exact ih acc (fun b hb => hm b (List.mem_cons_of_mem _ hb)) q
      | some d =>
        rw [List.filterMap_cons, e] at q
        exact ih (acc ++ [d]) (fun b hb => hm b (List.mem_cons_of_mem _ hb)) (by simpa using q)
  exact go ys [] (fun _ h => h) hd
theorem lcGo_inv {turn : D → Store → (Option D → Store → Prop) → Prop} {still : Store → Prop} {fin : List D → Store → Prop} (I : Nat → List D → Store → Prop) {xs : List D} {mu : Store} (h0 : I 0 [] mu)
    (hst : ∀ i acc mu, I i acc mu → still mu) (hs : ∀ i x acc mu k, xs[i]? = some x → I i acc mu → (∀ o mu', I (i + 1) (acc ++ o.toList) mu' → k o mu') → turn x mu k) (hd : ∀ acc mu, I xs.length acc mu → fin acc mu) : lcGo turn still fin xs [] mu := by
  have go : ∀ (n i : Nat) acc mu, xs.length = i + n → I i acc mu → lcGo turn still fin (xs.drop i) acc mu := by
    intro n
    induction n with
    | zero =>
      intro i acc mu e p
      rw [List.drop_eq_nil_of_le (by omega)]
      simp only [lcGo]
      have : i = xs.length := by omega
      exact ⟨hst _ _ _ p, hd _ _ (this ▸ p)⟩
    | succ n ih =>
      intro i acc mu e p
      have hi : i < xs.length := by omega
      rw [List.drop_eq_getElem_cons hi]
      simp only [lcGo]
      refine ⟨hst _ _ _ p, hs i _ acc mu _ (List.getElem?_eq_getElem hi) p fun o mu' q => ?_⟩
      cases o with
      | none => exact ih (i + 1) acc mu' (by omega) (by simpa using q)
      | some d => exact ih (i + 1) (acc ++ [d]) mu' (by omega) (by simpa using q)
  simpa using go xs.length 0 [] mu (by omega) h0
/-- a comprehension without effects: its items one by one -/
theorem lcGo_map {turn : D → Store → (Option D → Store → Prop) → Prop} {still : Store → Prop} {fin : List D → Store → Prop} (f : Nat → D) {xs : List D} {mu : Store} (hst : still mu)
    (hs : ∀ i x k, xs[i]? = some x → k (some (f i)) mu → turn x mu k) (hd : fin ((List.range xs.length).map f) mu) : lcGo turn still fin xs [] mu := by
  refine lcGo_inv (fun i acc nu => nu = mu ∧ acc = (List.range i).map f) ⟨rfl, rfl⟩ (fun i acc nu h => h.1 ▸ hst) (fun i x acc nu k e h hk => ?_) (fun acc nu h => ?_)
  · obtain ⟨rfl, rfl⟩ := h
    exact hs i x k e (hk _ _ ⟨rfl, by rw [List.range_succ, List.map_append]; rfl⟩)
  · obtain ⟨rfl, rfl⟩ := h
    exact hd
/-- all cells but h stay, further ones may stand behind -/
def Fr (h : Nat) (mu nu : Store) : Prop := mu.length ≤ nu.length ∧ ∀ n, n ≠ h → n < mu.length → nu[n]? = mu[n]?
theorem Fr.refl {h : Nat} {mu : Store} : Fr h mu mu := ⟨Nat.le_refl _, fun _ _ _ => rfl⟩
theorem Fr.trans {h : Nat} {mu nu xi : Store} (a : Fr h mu nu) (b : Fr h nu xi) : Fr h mu xi := ⟨Nat.le_trans a.1 b.1, fun n hn hl => (b.2 n hn (Nat.lt_of_lt_of_le hl a.1)).trans (a.2 n hn hl)⟩
theorem Fr.set {h : Nat} {mu : Store} {c : Cell} : Fr h mu (mu.set h c) := ⟨by rw [List.length_set]; exact Nat.le_refl _, fun n hn hl => List.getElem?_set_ne (Ne.symm hn)⟩
theorem Fr.app {h : Nat} {mu : Store} {l : List Cell} : Fr h mu (mu ++ l) := ⟨by rw [List.length_append]; omega, fun n hn hl => List.getElem?_append_left hl⟩
theorem Fr.at_ {h : Nat} {mu nu : Store} (a : Fr h mu nu) {n : Nat} {c : Cell} (hn : n ≠ h) (e : mu[n]? = some c) : nu[n]? = some c := by rw [a.2 n hn (List.getElem?_eq_some_iff.mp e).1]; exact e
/-- only further cells -/
def Gr (mu nu : Store) : Prop := mu <+: nu
theorem Gr.refl {mu : Store} : Gr mu mu := List.prefix_refl _
theorem Gr.trans {mu nu xi : Store} (a : Gr mu nu) (b : Gr nu xi) : Gr mu xi := List.IsPrefix.trans a b
theorem Gr.app {mu : Store} {l : List Cell} : Gr mu (mu ++ l) := List.prefix_append _ _
theorem Gr.at_ {mu nu : Store} (a : Gr mu nu) {n : Nat} {c : Cell} (e : mu[n]? = some c) : nu[n]? = some c := by
  obtain ⟨l, rfl⟩ := a
  rw [List.getElem?_append_left (List.getElem?_eq_some_iff.mp e).1]; exact e
theorem Gr.fr {h : Nat} {mu nu : Store} (a : Gr mu nu) : Fr h mu nu := by
  obtain ⟨l, rfl⟩ := a
  exact .app
/-- what is forgotten behind an expression -/
def gcE (mu : Store) (Q : QD) : QD := fun d mu1 => ∃ nu, nu <+: mu1 ∧ nu.length = mu.length ∧ (WF mu → WF nu) ∧ d.cl mu.length ∧ Q d nu
theorem gcE_self {mu : Store} {Q : QD} {d : D} : gcE mu Q d mu = (d.cl mu.length ∧ Q d mu) := by
  refine propext ⟨fun ⟨nu, a, b, c, e, q⟩ => ?_, fun ⟨e, q⟩ => ⟨mu, List.prefix_refl _, rfl, id, e, q⟩⟩
  have : nu = mu := a.eq_of_length b
  subst this
  exact ⟨e, q⟩
theorem gcE_len {mu nu : Store} {Q : QD} {d : D} (hl : nu.length = mu.length) : gcE mu Q d nu = ((WF mu → WF nu) ∧ d.cl mu.length ∧ Q d nu) := by
  refine propext ⟨fun ⟨xi, a, b, c, e, q⟩ => ?_, fun ⟨w, e, q⟩ => ⟨nu, List.prefix_refl _, hl, w, e, q⟩⟩
  have : xi = nu := a.eq_of_length (b.trans hl.symm)
  subst this
  exact ⟨c, e, q⟩
theorem gcE_appL {mu nu l : Store} {Q : QD} {d : D} (hl : nu.length = mu.length) : gcE mu Q d (nu ++ l) = ((WF mu → WF nu) ∧ d.cl mu.length ∧ Q d nu) := by
  refine propext ⟨fun ⟨xi, a, b, c, e, q⟩ => ?_, fun ⟨w, e, q⟩ => ⟨nu, List.prefix_append _ _, hl, w, e, q⟩⟩
  have : xi = nu := by
    rw [List.prefix_iff_eq_take] at a
    rw [b, ← hl, List.take_left] at a
    exact a
  subst this
  exact ⟨c, e, q⟩
theorem gcE_app {mu l : Store} {Q : QD} {d : D} : gcE mu Q d (mu ++ l) = (d.cl mu.length ∧ Q d mu) := by
  rw [gcE_appL rfl]
  exact propext ⟨fun h => h.2, fun h => ⟨id, h⟩⟩
theorem wf_set {mu : Store} {n : Nat} {c : Cell} (hc : c.cl mu.length) (w : WF mu) : WF (mu.set n c) := fun m d e => by
  rw [List.length_set]
  by_cases h : n = m
  · subst h
    have hl : n < mu.length := by have := (List.getElem?_eq_some_iff.mp e).1; rw [List.length_set] at this; exact this
    rw [List.getElem?_set_self hl] at e
    cases e
    exact hc
  · rw [List.getElem?_set_ne h] at e
    exact w m d e
theorem gcE_set {mu l : Store} {h : Nat} {c : Cell} {Q : QD} {d : D} (hc : c.cl mu.length) : gcE mu Q d (mu.set h c ++ l) = (d.cl mu.length ∧ Q d (mu.set h c)) := by
  rw [gcE_appL (by rw [List.length_set])]
  exact propext ⟨fun h => h.2, fun h => ⟨wf_set hc, h⟩⟩
theorem gcE_set0 {mu : Store} {h : Nat} {c : Cell} {Q : QD} {d : D} (hc : c.cl mu.length) : gcE mu Q d (mu.set h c) = (d.cl mu.length ∧ Q d (mu.set h c)) := by
  rw [gcE_len (by rw [List.length_set])]
  exact propext ⟨fun h => h.2, fun h => ⟨wf_set hc, h⟩⟩
mutual
theorem dcl_le {n m : Nat} (l : n ≤ m) : ∀ {d : D}, d.cl n → d.cl m
  | .non, _ => trivial
  | .bl _, _ => trivial
  | .int _, _ => trivial
  | .str _, _ => trivial
  | .tup xs, h => by simp only [D.cl] at h ⊢; exact dcls_le l h
  | .ref k, h => by simp only [D.cl] at h ⊢; omega
  | .ro xs, h => by simp only [D.cl] at h ⊢; exact dcls_le l h
theorem dcls_le {n m : Nat} (l : n ≤ m) : ∀ {ds : List D}, D.cls n ds → D.cls m ds
  | [], _ => trivial
  | d :: ds, h => by simp only [D.cls] at h ⊢; exact ⟨dcl_le l h.1, dcls_le l h.2⟩
end
theorem cl_le {n m : Nat} (l : n ≤ m) {c : Cell} (h : c.cl n) : c.cl m := by
  cases c with
  | lst xs => exact dcls_le l h
  | dct kvs lk => exact dcls_le l h
  | dtk kvs => exact dcls_le l h
  | ins c fs => exact dcls_le l h
  | exn c fs => exact dcls_le l h
theorem wf_ss {mu l : Store} {h : Nat} {c0 c1 : Cell} (hc : c1.cl mu.length) (w : WF (mu.set h c0 ++ l)) : WF (mu.set h c1 ++ l) := fun m d e => by
  have hl : (mu.set h c1 ++ l).length = (mu.set h c0 ++ l).length := by simp
  rw [hl]
  by_cases hm : m < mu.length
  · rw [List.getElem?_append_left (by rw [List.length_set]; exact hm)] at e
    by_cases hh : h = m
    · subst hh
      rw [List.getElem?_set_self hm] at e
      cases e
      exact cl_le (by simp) hc
    · rw [List.getElem?_set_ne hh] at e
      exact w m d (by rw [List.getElem?_append_left (by rw [List.length_set]; exact hm), List.getElem?_set_ne hh]; exact e)
  · rw [List.getElem?_append_right (by rw [List.length_set]; omega)] at e
    refine w m d ?_
    rw [List.getElem?_append_right (by rw [List.length_set]; omega)]
    simpa using e
theorem wf_s0 {mu l : Store} {h : Nat} {c1 : Cell} (hc : c1.cl mu.length) (w : WF (mu ++ l)) : WF (mu.set h c1 ++ l) := by
  by_cases hm : h < mu.length
  · have e : mu.set h mu[h] = mu := List.set_getElem_self hm
    have w' : WF (mu.set h mu[h] ++ l) := by rw [e]; exact w
    exact wf_ss hc w'
  · rw [List.set_eq_of_length_le (by omega)]
    exact w
theorem gcE_ll {mu l0 l1 : Store} {Q : QD} {d : D} (ht : l1.take l0.length = l0) : gcE (mu ++ l0) Q d (mu ++ l1) = (d.cl (mu.length + l0.length) ∧ Q d (mu ++ l0)) := by
  obtain ⟨r, rfl⟩ : ∃ r, l1 = l0 ++ r := ⟨l1.drop l0.length, by have := List.take_append_drop l0.length l1; rw [ht] at this; exact this.symm⟩
  rw [← List.append_assoc, gcE_app, List.length_append]
theorem gcE_ss {mu : Store} {h : Nat} {c0 c1 : Cell} {Q : QD} {d : D} (hc : c1.cl mu.length) : gcE (mu.set h c0) Q d (mu.set h c1) = (d.cl mu.length ∧ Q d (mu.set h c1)) := by
  rw [gcE_len (by simp), List.length_set]
  have : WF (mu.set h c0) → WF (mu.set h c1) := fun w => by simpa using wf_ss (l := []) hc (by simpa using w)
  exact propext ⟨fun h => h.2, fun h => ⟨this, h⟩⟩
theorem gcE_ssl {mu l : Store} {h : Nat} {c0 c1 : Cell} {Q : QD} {d : D} (hc : c1.cl mu.length) : gcE (mu.set h c0) Q d (mu.set h c1 ++ l) = (d.cl mu.length ∧ Q d (mu.set h c1)) := by
  rw [gcE_appL (by simp), List.length_set]
  have : WF (mu.set h c0) → WF (mu.set h c1) := fun w => by simpa using wf_ss (l := []) hc (by simpa using w)
  exact propext ⟨fun h => h.2, fun h => ⟨this, h⟩⟩
theorem gcE_lsl {mu l0 l1 : Store} {h : Nat} {c0 c1 : Cell} {Q : QD} {d : D} (hc : c1.cl mu.length) (ht : l1.take l0.length = l0) : gcE (mu.set h c0 ++ l0) Q d (mu.set h c1 ++ l1) = (d.cl (mu.length + l0.length) ∧ Q d (mu.set h c1 ++ l0)) := by
  obtain ⟨r, rfl⟩ : ∃ r, l1 = l0 ++ r := ⟨l1.drop l0.length, by have := List.take_append_drop l0.length l1; rw [ht] at this; exact this.symm⟩
  rw [← List.append_assoc, gcE_appL (by simp), List.length_append, List.length_set]
  exact propext ⟨fun h => h.2, fun h => ⟨wf_ss hc, h⟩⟩
theorem gcE_l0l {mu l0 l1 : Store} {h : Nat} {c1 : Cell} {Q : QD} {d : D} (hc : c1.cl mu.length) (ht : l1.take l0.length = l0) : gcE (mu ++ l0) Q d (mu.set h c1 ++ l1) = (d.cl (mu.length + l0.length) ∧ Q d (mu.set h c1 ++ l0)) := by
  obtain ⟨r, rfl⟩ : ∃ r, l1 = l0 ++ r := ⟨l1.drop l0.length, by have := List.take_append_drop l0.length l1; rw [ht] at this; exact this.symm⟩
  rw [← List.append_assoc, gcE_appL (by simp), List.length_append]
  exact propext ⟨fun h => h.2, fun h => ⟨wf_s0 hc, h⟩⟩
/-- at a def's end -/
theorem gc_app {mu l : Store} {Q : QD} {d : D} (hd : d.cl mu.length) (q : Q d mu) : gcD mu Q d (mu ++ l) := .inr ⟨mu, List.prefix_append _ _, Nat.le_refl _, fun w _ => w, hd, q⟩
theorem gc_self {mu : Store} {Q : QD} {d : D} (q : Q d mu) : gcD mu Q d mu := .inl q
theorem gc_any {mu nu : Store} {Q : QD} {d : D} (q : Q d nu) : gcD mu Q d nu := .inl q
theorem gc_set {mu l : Store} {h : Nat} {c : Cell} {Q : QD} {d : D} (hd : d.cl mu.length) (hc : c.cl mu.length) (q : Q d (mu.set h c)) : gcD mu Q d (mu.set h c ++ l) :=
  .inr ⟨_, List.prefix_append _ _, by rw [List.length_set]; exact Nat.le_refl _, fun w _ => wf_set hc w, by rw [List.length_set]; exact hd, q⟩
theorem at_end0 {mu l : Store} : (mu ++ l)[mu.length]? = l[0]? := by rw [List.getElem?_append_right (Nat.le_refl _), Nat.sub_self]
theorem at_endk {mu l : Store} {k : Nat} : (mu ++ l)[mu.length + k]? = l[k]? := by rw [List.getElem?_append_right (by omega)]; congr 1; omega
theorem at_lt {mu l : Store} {n : Nat} (h : n < mu.length) : (mu ++ l)[n]? = mu[n]? := List.getElem?_append_left h
theorem at_ge {mu l : Store} {n : Nat} (h : mu.length ≤ n) : (mu ++ l)[n]? = l[n - mu.length]? := List.getElem?_append_right h
theorem at_sne {mu : Store} {m n : Nat} {c : Cell} (h : m ≠ n) : (mu.set m c)[n]? = mu[n]? := List.getElem?_set_ne h
theorem at_seq {mu : Store} {n : Nat} {c : Cell} (h : n < mu.length) : (mu.set n c)[n]? = some c := List.getElem?_set_self h
theorem set_end0 {mu l : Store} {c : Cell} : (mu ++ l).set mu.length c = mu ++ l.set 0 c := by rw [List.set_append_right _ _ (Nat.le_refl _), Nat.sub_self]
theorem set_endk {mu l : Store} {k : Nat} {c : Cell} : (mu ++ l).set (mu.length + k) c = mu ++ l.set k c := by rw [List.set_append_right _ _ (by omega)]; congr 2; omega
theorem set_ge {mu l : Store} {n : Nat} {c : Cell} (h : mu.length ≤ n) : (mu ++ l).set n c = mu ++ l.set (n - mu.length) c := List.set_append_right _ _ h
theorem set_lt {mu l : Store} {n : Nat} {c : Cell} (h : n < mu.length) : (mu ++ l).set n c = mu.set n c ++ l := List.set_append_left _ _ h
theorem set_set' {mu : Store} {n : Nat} {a b : Cell} : (mu.set n a).set n b = mu.set n b := by rw [List.set_set]
theorem sizeT_ok {n : Nat} (h : n ≤ 16000000) : sizeT n = True := eq_true (show n ≤ 16777216 by omega)
theorem szl_ok {n : Nat} (h : n ≤ 16000000) : (n < sizeLine) = True := eq_true (show n < 16777216 by omega)
theorem szl_ok2 {n : Nat} (h : n ≤ 16000000) : (n ≤ sizeLine) = True := eq_true (show n ≤ 16777216 by omega)
theorem small_ok {j : Int} (h : -1000000 ≤ j) (h2 : j ≤ 1000000) : small j = True := eq_true ⟨by omega, by omega⟩
theorem atI_nat' {α : Type} (xs : List α) (n : Nat) : atI xs (n : Int) = xs[n]? := by
  unfold atI ixN
  rw [if_pos (by omega)]
  by_cases h : n < xs.length
  · rw [if_pos (by omega)]; simp
  · rw [if_neg (by omega), List.getElem?_eq_none (by omega)]; rfl
theorem atI_0 {α : Type} (xs : List α) : atI xs 0 = xs[0]? := atI_nat' xs 0
theorem atI_1 {α : Type} (xs : List α) : atI xs 1 = xs[1]? := atI_nat' xs 1
theorem atI_2 {α : Type} (xs : List α) : atI xs 2 = xs[2]? := atI_nat' xs 2
theorem atI_3 {α : Type} (xs : List α) : atI xs 3 = xs[3]? := atI_nat' xs 3
theorem atI_4 {α : Type} (xs : List α) : atI xs 4 = xs[4]? := atI_nat' xs 4
theorem atI_5 {α : Type} (xs : List α) : atI xs 5 = xs[5]? := atI_nat' xs 5
theorem ixN_nat (n i : Nat) : ixN n (i : Int) = if i < n then some i else none := by
  unfold ixN
  rw [if_pos (by omega)]
  by_cases h : i < n
  · rw [if_pos (by omega), if_pos h]; simp
  · rw [if_neg (by omega), if_neg h]
theorem ixN_0 (n : Nat) : ixN n 0 = if 0 < n then some 0 else none := ixN_nat n 0
theorem ixN_1 (n : Nat) : ixN n 1 = if 1 < n then some 1 else none := ixN_nat n 1
theorem ixN_2 (n : Nat) : ixN n 2 = if 2 < n then some 2 else none := ixN_nat n 2
theorem atI_mem {α : Type} {xs : List α} {i : Int} (h0 : 0 ≤ i) (h1 : i < xs.length) : ∃ x, atI xs i = some x ∧ x ∈ xs ∧ xs[i.toNat]? = some x := by
  obtain ⟨n, rfl⟩ := Int.eq_ofNat_of_zero_le h0
  have hn : n < xs.length := by omega
  refine ⟨xs[n], ?_, List.getElem_mem hn, ?_⟩
  · rw [atI_nat', List.getElem?_eq_getElem hn]
  · simp [hn]
/-- slots first -/
def withS (s : Sl) (R : Sl → Prop) : Prop := match s with
  | [] => R []
  | a :: r => R (a :: r)
theorem withS_eq {s : Sl} {R : Sl → Prop} : withS s R = R s := by cases s <;> rfl
theorem onP_name {i : Nat} {d : D} {rh : Sl} {k : Sl → Prop} : onP (.name i) d rh k = withS (rh.set i (some d)) k := by rw [withS_eq]; rfl
theorem onP_cons {p : CP} {ps : List CP} {x : D} {xs : List D} {rh : Sl} {k : Sl → Prop} : onP (.tup (p :: ps)) (.tup (x :: xs)) rh k = onP p x rh fun r => onP (.tup ps) (.tup xs) r k := by
  unfold onP
  show (match (match CP.bind p x rh with | some r => CP.binds ps xs r | none => none) with | some r => k r | none => False) = _
  cases CP.bind p x rh <;> rfl
/-- an item taken apart: the item first -/
def asTup (d : D) (k : List D → Prop) : Prop := match d with
  | .tup xs => k xs
  | _ => False
def asCons (xs : List D) (k : D → List D → Prop) : Prop := match xs with
  | x :: r => k x r
  | [] => False
def asNil (xs : List D) (k : Prop) : Prop := match xs with
  | [] => k
  | _ :: _ => False
def onQ (ps : List CP) (xs : List D) (rh : Sl) (k : Sl → Prop) : Prop := onP (.tup ps) (.tup xs) rh k
theorem onP_tup {ps : List CP} {d : D} {rh : Sl} {k : Sl → Prop} : onP (.tup ps) d rh k = asTup d fun xs => onQ ps xs rh k := by cases d <;> rfl
theorem onQ_nil {xs : List D} {rh : Sl} {k : Sl → Prop} : onQ [] xs rh k = asNil xs (k rh) := by cases xs <;> rfl
theorem onQ_cons {p : CP} {ps : List CP} {xs : List D} {rh : Sl} {k : Sl → Prop} : onQ (p :: ps) xs rh k = asCons xs fun x r => onP p x rh fun rh1 => onQ ps r rh1 k := by
  cases xs with
  | nil => rfl
  | cons x r => exact onP_cons
def Nx (G : Ctx) (r : CSs) (C : CEnds) (rh : Sl) (mu : Store) : Prop := wpSs G r C rh mu
theorem nx_in {G : Ctx} {r : CSs} {C : CEnds} {rh : Sl} {mu : Store} (h : wpSs G r C rh mu) : Nx G r C rh mu := h
/-- a turn of a for, of a comprehension -/
def forT (G : Ctx) (p : CP) (b : CSs) (post : Post) (C : CEnds) (x : D) (rh : Sl) (mu : Store) (k : Sl → Store → Prop) : Prop := onP p x rh fun rh2 => wpSs G b { C with nx := k, ct := k, bk := fun r nu => post nu (C.nx r), rt := fun d nu => post nu (C.rt d) } rh2 mu
def lcT (G : Ctx) (p : CP) (c e : CE) (rh : Sl) (x : D) (mu : Store) (k : Option D → Store → Prop) : Prop :=
  onP p x rh fun rh1 => wpE G c (fun _ _ => False) rh1 mu fun y mu3 => onB y fun b => if b = true then wpE G e (fun _ _ => False) rh1 mu3 fun d mu4 => k (some d) mu4 else k none mu3
def dcT (G : Ctx) (p : CP) (c k e : CE) (rh : Sl) (x : D) (mu : Store) (kk : Option (Key × D) → Store → Prop) : Prop :=
  onP p x rh fun rh1 => wpE G c (fun _ _ => False) rh1 mu fun y mu3 => onB y fun b => if b = true then wpE G k (fun _ _ => False) rh1 mu3 fun kd mu4 => wpE G e (fun _ _ => False) rh1 mu4 fun d mu5 => onKey kd fun ky => kk (some (ky, d)) mu5 else kk none mu3
def whT (G : Ctx) (c : CE) (b : CSs) (C : CEnds) (rh : Sl) (mu : Store) (k : Sl → Store → Prop) : Prop := wpT G c (fun x nu => C.ex x rh nu) rh mu fun t mu2 => if t = true then Nx G b { C with nx := k, ct := k, bk := C.nx } rh mu2 else C.nx rh mu2
section
variable {G : Ctx} {C : CEnds} {rh : Sl} {mu : Store} {Q : QD} {E : QX}
theorem s_nil : wpSs G .nil C rh mu = C.nx rh mu := by simp only [wpSs]
theorem s_cons {s : CS} {r : CSs} : wpSs G (.cons s r) C rh mu = wpS G s { C with nx := Nx G r C } rh mu := by simp only [wpSs]; rfl
theorem s_asg {p : CP} {e : CE} : wpS G (.asg p e) C rh mu = wpE G e (fun x nu => C.ex x rh nu) rh mu fun d mu1 => onP p d rh fun rh1 => C.nx rh1 mu1 := by simp only [wpS]
theorem s_del {o i : CE} : wpS G (.del o i) C rh mu = wpE G o (fun x nu => C.ex x rh nu) rh mu fun od mu1 => wpE G i (fun x nu => C.ex x rh nu) rh mu1 fun id mu2 => wDel od id mu2 fun mu3 => C.nx rh mu3 := by simp only [wpS]
/-- a statement whose new cells may be forgotten -/
def gcS (mu : Store) (N : Sl → Store → Prop) : Sl → Store → Prop := fun rh1 nu => N rh1 nu ∨ ∃ xi, xi <+: nu ∧ mu.length ≤ xi.length ∧ (WF mu → WF nu → WF xi) ∧ (∀ (i : Nat) (d : D), rh1[i]? = some (some d) → d.cl xi.length) ∧ N rh1 xi
theorem s_gcb {s : CS} : wpS G (.gcb s) C rh mu = wpS G s { C with nx := gcS mu C.nx } rh mu := by simp only [wpS]; rfl
theorem s_setSub {o i e : CE} : wpS G (.setSub o i e) C rh mu = wpE G e (fun x nu => C.ex x rh nu) rh mu fun v mu1 => wpE G o (fun x nu => C.ex x rh nu) rh mu1 fun od mu2 => wpE G i (fun x nu => C.ex x rh nu) rh mu2 fun id mu3 => wSet od id v mu3 fun mu4 => C.nx rh mu4 := by simp only [wpS]
theorem s_augN {i : Nat} {o : O2} {e : CE} : wpS G (.augN i o e) C rh mu = wpE G (.var i) (fun _ _ => False) rh mu fun x _ => wpE G e (fun x nu => C.ex x rh nu) rh mu fun y mu1 => wAug o x y mu1 fun z mu2 => withS (rh.set i (some z)) fun r => C.nx r mu2 := by
  simp only [wpS, wpE, withS_eq]
theorem s_expr {e : CE} : wpS G (.expr e) C rh mu = wpE G e (fun x nu => C.ex x rh nu) rh mu fun _ mu1 => C.nx rh mu1 := by simp only [wpS]
theorem s_ret {e : CE} : wpS G (.ret e) C rh mu = wpE G e (fun x nu => C.ex x rh nu) rh mu fun d mu1 => C.rt d mu1 := by simp only [wpS]
theorem s_retN : wpS G .retN C rh mu = C.rt .non mu := by simp only [wpS]
theorem s_ite {c : CE} {a b : CSs} : wpS G (.ite c a b) C rh mu = wpE G c (fun x nu => C.ex x rh nu) rh mu fun x mu1 => onB x fun k => if k = true then Nx G a C rh mu1 else Nx G b C rh mu1 := by simp only [wpS, wpT]; rfl
theorem s_for {p : CP} {it : CI} {b : CSs} : wpS G (.for p it b) C rh mu = wpI G it (fun x nu => C.ex x rh nu) rh mu fun xs still post mu1 => forGo (forT G p b post C) still (fun r nu => post nu (C.nx r)) xs rh mu1 := by simp only [wpS]; rfl
theorem s_while {c : CE} {b : CSs} : wpS G (.while c b) C rh mu = ∃ n, whileGo (whT G c b C) n rh mu := by simp only [wpS]; rfl
theorem s_pass : wpS G .pass C rh mu = C.nx rh mu := by simp only [wpS]
theorem s_brk : wpS G .brk C rh mu = C.bk rh mu := by simp only [wpS]
theorem s_cont : wpS G .cont C rh mu = C.ct rh mu := by simp only [wpS]
theorem s_fail : wpS G .fail C rh mu = False := by simp only [wpS]
def noX : Exc → Sl → Store → Prop := fun _ _ _ => False
theorem s_thru {b : CSs} : wpS G (.thru b) C rh mu = Nx G b { C with ex := noX } rh mu := by simp only [wpS]; rfl
/-- what a try's body may raise -/
def tryX (G : Ctx) (c : Nat) (s : CS) (C : CEnds) : Exc → Sl → Store → Prop := fun x rh1 nu => x.c < G.nex ∧ (if G.sub x.c c = true then wpS G s C rh1 nu else C.ex x rh1 nu)
theorem s_tryO {b : CSs} {c : Nat} {s : CS} : wpS G (.tryO b c s) C rh mu = Nx G b { C with ex := tryX G c s C } rh mu := by simp only [wpS]; rfl
def keepX (G : Ctx) (c i j : Nat) (C : CEnds) : Exc → Sl → Store → Prop := fun x rh1 nu => x.c < G.nex ∧ (if G.sub x.c c = true then C.nx ((rh1.set j (some (.ref nu.length))).set i none) (nu ++ [.exn x.c x.fs]) else C.ex x rh1 nu)
theorem s_tryK {b : CSs} {c i j : Nat} : wpS G (.tryK b c i j) C rh mu = Nx G b { C with ex := keepX G c i j C } rh mu := by simp only [wpS]; rfl
theorem s_raise {c : Nat} {es : CEs} : wpS G (.raise c es) C rh mu = wpEs G es (fun x nu => C.ex x rh nu) rh mu fun ds nu => ds.length = (G.fld c).length ∧ C.ex ⟨c, (G.fld c).zip ds⟩ rh nu := by simp only [wpS]
theorem e_con {d : D} : wpE G (.con d) E rh mu Q = Q d mu := by simp only [wpE]
theorem e_var0 {d : D} : wpE G (.var 0) E (some d :: rh) mu Q = Q d mu := by simp only [wpE]; rfl
theorem e_varS {i : Nat} {x : Option D} : wpE G (.var (i + 1)) E (x :: rh) mu Q = wpE G (.var i) E rh mu Q := by simp only [wpE]; rfl
theorem e_tup {es : CEs} : wpE G (.tup es) E rh mu Q = wpEs G es E rh mu fun xs mu1 => sizeT xs.length ∧ Q (.tup xs) mu1 := by simp only [wpE]
theorem e_lst {es : CEs} : wpE G (.lst es) E rh mu Q = wpEs G es E rh mu fun xs mu1 => sizeT xs.length ∧ newLst xs mu1 Q := by simp only [wpE]
theorem e_op1 {o : O1} {a : CE} : wpE G (.op1 o a) E rh mu Q = wpE G a E rh mu fun x mu1 => w1 o x mu1 Q := by simp only [wpE]
theorem e_op2 {o : O2} {a b : CE} : wpE G (.op2 o a b) E rh mu Q = wpE G a E rh mu fun x mu1 => pre2 o x mu1 ∧ wpE G b E rh mu1 fun y mu2 => w2 o x y mu2 Q := by simp only [wpE]
theorem e_cond {t a b : CE} : wpE G (.cond t a b) E rh mu Q = wpE G t E rh mu fun x mu1 => onB x fun c => if c = true then wpE G a E rh mu1 Q else wpE G b E rh mu1 Q := by simp only [wpE]
theorem e_and {a b : CE} : wpE G (.and a b) E rh mu Q = wpE G a E rh mu fun x mu1 => onB x fun c => if c = true then wpE G b E rh mu1 Q else Q (.bl false) mu1 := by simp only [wpE]
theorem e_or {a b : CE} : wpE G (.or a b) E rh mu Q = wpE G a E rh mu fun x mu1 => onB x fun c => if c = true then Q (.bl true) mu1 else wpE G b E rh mu1 Q := by simp only [wpE]
theorem e_not {a : CE} : wpE G (.not a) E rh mu Q = wpE G a E rh mu fun x mu1 => onB x fun c => Q (.bl (!c)) mu1 := by simp only [wpE]
theorem e_chain {o p : O2} {a b c : CE} : wpE G (.chain o p a b c) E rh mu Q = wpE G a E rh mu fun x mu1 => wpE G b E rh mu1 fun y mu2 => w2 o x y mu2 fun z mu3 => onB z fun k => if k = true then wpE G c E rh mu3 fun u mu4 => w2 p y u mu4 Q else Q (.bl false) mu3 := by simp only [wpE]
theorem e_sl {e : CE} {lo hi : CO} : wpE G (.sl e lo hi) E rh mu Q = wpE G e E rh mu fun x mu1 => wpO G lo E rh mu1 fun l mu2 => wpO G hi E rh mu2 fun h mu3 => wSl x l h mu3 Q := by simp only [wpE]
/-- a call's end -/
def CallTo (G : Ctx) (f : Nat) (xs : List D) (mu : Store) (Q : QD) (E : QX) : Prop := ∃ (Q0 : QD) (E0 : QX), G.fn f xs mu Q0 E0 ∧ (∀ d nu, Q0 d nu → Q d nu) ∧ ∀ x nu, E0 x nu → E x nu
theorem e_call {f : Nat} {ps : List Nat} {es ks : CEs} : wpE G (.call f ps es ks) E rh mu Q = wpEs G es E rh mu fun xs mu1 => wpEs G ks E rh mu1 fun ys mu2 => CallTo G f (perm ps (xs ++ ys)) mu2 Q E := by simp only [wpE]; rfl
theorem e_lc {own : List Nat} {p : CP} {it : CI} {c e : CE} : wpE G (.lc own p it c e) E rh mu Q = wpI G it E rh mu fun xs still post mu1 => lcGo (lcT G p c e (wipeD rh own)) still (fun acc mu2 => post mu2 fun mu3 => newLst acc mu3 Q) xs [] mu1 := by simp only [wpE]; rfl
theorem e_dc {own : List Nat} {p : CP} {it : CI} {c k e : CE} : wpE G (.dc own p it c k e) E rh mu Q = wpI G it E rh mu fun xs still post mu1 => dcGo (dcT G p c k e (wipeD rh own)) still (fun acc mu2 => post mu2 fun mu3 => Q (.ref mu3.length) (mu3 ++ [.dct acc false])) xs [] mu1 := by simp only [wpE]; rfl
theorem e_op3 {o : O3} {a b c : CE} : wpE G (.op3 o a b c) E rh mu Q = wpE G a E rh mu fun x mu1 => pre3 o x mu1 ∧ wpE G b E rh mu1 fun y mu2 => wpE G c E rh mu2 fun z mu3 => w3 o x y z mu3 Q := by simp only [wpE]
theorem e_dnewK : wpE G (.dnew false) E rh mu Q = Q (.ref mu.length) (mu ++ [.dct [] false]) := by simp only [wpE]; rfl
theorem e_dnewT : wpE G (.dnew true) E rh mu Q = Q (.ref mu.length) (mu ++ [.dtk []]) := by simp only [wpE]; rfl
theorem e_disp {es : CEs} : wpE G (.disp es) E rh mu Q = wpEs G es E rh mu fun ds mu1 => onDisp ds fun kvs => kvs.length ≤ 15 ∧ Q (.ref mu1.length) (mu1 ++ [.dct (mergeD [] kvs) false]) := by simp only [wpE]
theorem e_gc {e : CE} : wpE G (.gc e) E rh mu Q = wpE G e E rh mu (gcE mu Q) := by simp only [wpE]; rfl
theorem es_nil {R : List D → Store → Prop} : wpEs G .nil E rh mu R = R [] mu := by simp only [wpEs]
theorem es_cons {e : CE} {r : CEs} {R : List D → Store → Prop} : wpEs G (.cons e r) E rh mu R = wpE G e E rh mu fun x mu1 => wpEs G r E rh mu1 fun xs mu2 => R (x :: xs) mu2 := by simp only [wpEs]
theorem o_no {R : Option Int → Store → Prop} : wpO G .no E rh mu R = R none mu := by simp only [wpO]
theorem o_some {e : CE} {R : Option Int → Store → Prop} : wpO G (.some e) E rh mu R = wpE G e E rh mu fun x mu1 => onI x fun i => R (some i) mu1 := by simp only [wpO]
theorem call_to {f : Nat} {sp : DSp} {xs : List D} (g : G.fn f = sp) (h : sp xs mu Q E) : CallTo G f xs mu Q E := ⟨Q, E, g ▸ h, fun _ _ z => z, fun _ _ z => z⟩
end
def nones : Nat → Sl
  | 0 => []
  | n + 1 => none :: nones n
theorem startD_n (N : List Str) (ds : List D) : startD N ds = ds.map some ++ nones (N.length - ds.length) := by
  have : ∀ n, List.replicate n (none : Option D) = nones n := fun n => by
    induction n with
    | zero => rfl
    | succ n ih => rw [List.replicate_succ, ih]; rfl
  unfold startD
  rw [this]
theorem nx_nil {G : Ctx} {C : CEnds} {rh : Sl} {mu : Store} : Nx G .nil C rh mu = C.nx rh mu := by unfold Nx; exact s_nil
theorem onStr_map {ws : List Str} {k : List Str → Prop} : onStr (ws.map .str) k = k ws := by
  have : allStr (ws.map .str) = some ws := by
    induction ws with
    | nil => rfl
    | cons w r ih => rw [List.map_cons]; show (allStr _).map _ = _; rw [ih]; rfl
  unfold onStr
  rw [this]
theorem onBl_map {ws : List Bool} {k : List Bool → Prop} : onBl (ws.map .bl) k = k ws := by
  have : allBl (ws.map .bl) = some ws := by
    induction ws with
    | nil => rfl
    | cons w r ih => rw [List.map_cons]; show (allBl _).map _ = _; rw [ih]; rfl
  unfold onBl
  rw [this]
theorem onInt_map {ws : List Int} {k : List Int → Prop} : onInt (ws.map .int) k = k ws := by
  have : allInt (ws.map .int) = some ws := by
    induction ws with
    | nil => rfl
    | cons w r ih => rw [List.map_cons]; show (allInt _).map _ = _; rw [ih]; rfl
  unfold onInt
  rw [this]
theorem intsD_get {lo : Int} {n i : Nat} {x : D} (h : (intsD lo n)[i]? = some x) : i < n ∧ x = .int (lo + (i : Nat)) := by
  unfold intsD at h
  rw [List.getElem?_map] at h
  obtain ⟨p, ep, rfl⟩ := Option.map_eq_some_iff.mp h
  obtain ⟨hl, el⟩ := List.getElem?_eq_some_iff.mp ep
  rw [List.length_range] at hl
  rw [List.getElem_range] at el
  subst el
  exact ⟨hl, rfl⟩
theorem intsD_len {lo : Int} {n : Nat} : (intsD lo n).length = n := by unfold intsD; rw [List.length_map, List.length_range]
/-- all cells stay -/
def Kp (mu nu : Store) : Prop := ∀ (n : Nat) (c : Cell), mu[n]? = some c → nu[n]? = some c
theorem Kp.refl {mu : Store} : Kp mu mu := fun _ _ h => h
theorem Kp.trans {mu nu xi : Store} (a : Kp mu nu) (b : Kp nu xi) : Kp mu xi := fun n c h => b n c (a n c h)
theorem Kp.app {mu : Store} {l : List Cell} : Kp mu (mu ++ l) := fun n c h => by rw [List.getElem?_append_left (List.getElem?_eq_some_iff.mp h).1]; exact h
theorem Kp.set {mu nu : Store} {m : Nat} {c : Cell} (a : Kp mu nu) (h : mu.length ≤ m) : Kp mu (nu.set m c) := fun n d e => by
  have := (List.getElem?_eq_some_iff.mp e).1
  rw [List.getElem?_set_ne (by omega)]
  exact a n d e
theorem Kp.len {mu nu : Store} (a : Kp mu nu) : mu.length ≤ nu.length := by
  by_cases h : mu.length = 0
  · omega
  · have hl : mu.length - 1 < mu.length := by omega
    have := (List.getElem?_eq_some_iff.mp (a (mu.length - 1) _ (List.getElem?_eq_getElem hl))).1
    omega
theorem Kp.fr {mu nu : Store} (h : Nat) (a : Kp mu nu) : Fr h mu nu := ⟨a.len, fun n _ hl => by rw [List.getElem?_eq_getElem hl]; exact a n _ (List.getElem?_eq_getElem hl)⟩
/-- all the equations -/
theorem wpk : type_of% (And.intro @s_nil (And.intro @nx_nil (And.intro @s_cons (And.intro @s_asg (And.intro @s_setSub (And.intro @s_augN (And.intro @s_expr (And.intro @s_ret (And.intro @s_retN (And.intro @s_ite (And.intro @s_for (And.intro @s_while (And.intro @s_pass (And.intro @s_brk (And.intro @s_cont (And.intro @s_del (And.intro @s_gcb (And.intro @s_fail (And.intro @s_thru (And.intro @s_tryO (And.intro @s_raise (And.intro @s_tryK (And.intro @e_con (And.intro @e_var0 (And.intro @e_varS (And.intro @e_tup (And.intro @e_lst (And.intro @e_op1 (And.intro @e_op2 (And.intro @e_op3 (And.intro @e_dnewK (And.intro @e_dnewT (And.intro @e_disp (And.intro @e_cond (And.intro @e_and (And.intro @e_or (And.intro @e_not (And.intro @e_chain (And.intro @e_sl (And.intro @e_call (And.intro @e_lc (And.intro @e_dc (And.intro @e_gc (And.intro @es_nil (And.intro @es_cons (And.intro @o_no (And.intro @o_some (And.intro @onP_name (And.intro @onQ_nil (And.intro @onP_tup (And.intro @onQ_cons (And.intro @onStr_map (And.intro @onBl_map (And.intro @onInt_map (And.intro @intsD_len (And.intro @atI_0 (And.intro @atI_1 (And.intro @atI_2 (And.intro @atI_3 (And.intro @atI_4 (And.intro @atI_5 (And.intro @ixN_0 (And.intro @ixN_1 (And.intro @ixN_2 (And.intro @gcE_app (And.intro @gcE_self (And.intro @at_end0 (And.intro @at_endk (And.intro @set_end0 (And.intro @set_endk (@set_set'))))))))))))))))))))))))))))))))))))))))))))))))))))))))))))))))))))))) := And.intro @s_nil (And.intro @nx_nil (And.intro @s_cons (And.intro @s_asg (And.intro @s_setSub (And.intro @s_augN (And.intro @s_expr (And.intro @s_ret (And.intro @s_retN (And.intro @s_ite (And.intro @s_for (And.intro @s_while (And.intro @s_pass (And.intro @s_brk (And.intro @s_cont (And.intro @s_del (And.intro @s_gcb (And.intro @s_fail (And.intro @s_thru (And.intro @s_tryO (And.intro @s_raise (And.intro @s_tryK (And.intro @e_con (And.intro @e_var0 (And.intro @e_varS (And.intro @e_tup (And.intro @e_lst (And.intro @e_op1 (And.intro @e_op2 (And.intro @e_op3 (And.intro @e_dnewK (And.intro @e_dnewT (And.intro @e_disp (And.intro @e_cond (And.intro @e_and (And.intro @e_or (And.intro @e_not (And.intro @e_chain (And.intro @e_sl (And.intro @e_call (And.intro @e_lc (And.intro @e_dc (And.intro @e_gc (And.intro @es_nil (And.intro @es_cons (And.intro @o_no (And.intro @o_some (And.intro @onP_name (And.intro @onQ_nil (And.intro @onP_tup (And.intro @onQ_cons (And.intro @onStr_map (And.intro @onBl_map (And.intro @onInt_map (And.intro @intsD_len (And.intro @atI_0 (And.intro @atI_1 (And.intro @atI_2 (And.intro @atI_3 (And.intro @atI_4 (And.intro @atI_5 (And.intro @ixN_0 (And.intro @ixN_1 (And.intro @ixN_2 (And.intro @gcE_app (And.intro @gcE_self (And.intro @at_end0 (And.intro @at_endk (And.intro @set_end0 (And.intro @set_endk (@set_set'))))))))))))))))))))))))))))))))))))))))))))))))))))))))))))))))))))))
end MP
namespace MP
open PySem PySem.Spec PyProof.Rows L2
abbrev i_law_hand : Nat := 0
abbrev i_law_take : Nat := 1
abbrev i_law_of : Nat := 2
def c_law_take : CSs := (.cons (.ite (.op2 .gt (.op2 .ix (.var 0) (.con (.int 0))) (.con (.int 0))) (.cons (.asg (.name 2) (.op2 .mod (.op2 .ix (.var 0) (.con (.int 0))) (.var 1))) (.cons (.setSub (.var 0) (.con (.int 0)) (.op2 .fdiv (.op2 .ix (.var 0) (.con (.int 0))) (.var 1))) (.cons (.ret (.var 2)) .nil))) .nil) (.cons (.asg (.name 3) (.op2 .add (.op2 .ix (.var 0) (.con (.int 2))) (.con (.int 1)))) (.cons (.setSub (.var 0) (.con (.int 2)) (.var 3)) (.cons (.asg (.name 4) (.op2 .ix (.lst (.cons (.con (.int 2147483647)) (.cons (.con (.int 2147483629)) (.cons (.con (.int 2147483587)) (.cons (.con (.int 2147483579)) (.cons (.con (.int 2147483563)) (.cons (.con (.int 2147483549)) .nil))))))) (.op2 .mod (.var 3) (.con (.int 6))))) (.cons (.asg (.name 5) (.op2 .mod (.op2 .pow (.op2 .add (.op2 .add (.op2 .ix (.var 0) (.con (.int 1))) (.op2 .mul (.op2 .mul (.con (.int 65537)) (.var 3)) (.var 3))) (.op2 .mul (.con (.int 31)) (.var 3))) (.con (.int 3))) (.var 4))) (.cons (.ret (.op2 .mod (.op2 .fdiv (.op2 .mod (.op2 .mul (.var 5) (.op2 .add (.op2 .mod (.var 5) (.con (.int 10007))) (.op2 .mul (.con (.int 13)) (.var 3)))) (.con (.int 2305843009213693907))) (.con (.int 97))) (.var 1))) .nil))))))
def c_law_of : CSs := (.cons (.ret (.op2 .ix (.var 1) (.call i_law_take [0, 1] (.cons (.var 0) (.cons (.op1 .len (.var 1)) .nil)) .nil))) .nil)
theorem bits_le {i : Int} {k : Nat} (h : i.natAbs < 2 ^ k) : Builtin.Int.intBits i ≤ k := by
  unfold Builtin.Int.intBits
  split
  · omega
  · rename_i hz
    have : i.natAbs ≠ 0 := by simpa using hz
    have := (Nat.log2_lt this).mpr h
    omega
theorem mulR {i j : Int} (h : -(2 ^ 62) < j) (h2 : j < 2 ^ 62) : IntMulOk i j := .of_right (bits_le (by omega))
theorem mulL {i j : Int} (h : -(2 ^ 62) < i) (h2 : i < 2 ^ 62) : IntMulOk i j := .of_left (bits_le (by omega))
theorem len_pos {α : Type} {xs : List α} (h : xs ≠ []) : 0 < xs.length := by
  cases xs with
  | nil => exact absurd rfl h
  | cons a b => simp
theorem bit_lo (c : Prop) [Decidable c] : -(2 ^ 62) < (if c then (1 : Int) else 0) := by split <;> decide
theorem bit_hi (c : Prop) [Decidable c] : (if c then (1 : Int) else 0) < 2 ^ 62 := by split <;> decide
theorem bit_nn (c : Prop) [Decidable c] : 0 ≤ (if c then (1 : Int) else 0) := by split <;> decide
theorem mulR' {i j : Int} (h : -1000000000000000000 ≤ j) (h2 : j ≤ 1000000000000000000) : IntMulOk i j = True := eq_true (mulR (by omega) (by omega))
theorem ite_pos_neg {c : Prop} [Decidable c] {A B : Prop} (a : c → A) (b : ¬ c → B) : if c then A else B := by
  split
  · exact a ‹_›
  · exact b ‹_›
/-- the hand: at most n draws more -/
def HandC (n : Nat) (c : Cell) : Prop := ∃ x y t : Int, c = .lst [.int x, .int y, .int t] ∧ 0 ≤ x ∧ 0 ≤ y ∧ y < 2 ^ 61 ∧ 0 ≤ t ∧ t + n ≤ 2 ^ 40
def Hand (nu : Store) (h n : Nat) : Prop := ∃ c, nu[h]? = some c ∧ HandC n c
theorem HandC.cl {n m : Nat} {c : Cell} (h : HandC n c) : c.cl m := by
  obtain ⟨x, y, t, rfl, _⟩ := h
  simp only [Cell.cl, D.cls, D.cl, and_self]
theorem HandC.less {n m : Nat} {c : Cell} (h : HandC n c) (l : m ≤ n) : HandC m c := by
  obtain ⟨x, y, t, e, a, b, c, d, f⟩ := h
  exact ⟨x, y, t, e, a, b, c, d, by omega⟩
theorem Hand.lt {nu : Store} {h n : Nat} (q : Hand nu h n) : h < nu.length := let ⟨_, e, _⟩ := q; (List.getElem?_eq_some_iff.mp e).1
theorem Hand.less {nu : Store} {h n m : Nat} (q : Hand nu h n) (l : m ≤ n) : Hand nu h m := let ⟨c, e, k⟩ := q; ⟨c, e, k.less l⟩
theorem Hand.set {nu : Store} {h n : Nat} {c : Cell} (hl : h < nu.length) (k : HandC n c) : Hand (nu.set h c) h n := ⟨c, List.getElem?_set_self hl, k⟩
theorem Hand.app {nu l : Store} {h n : Nat} (q : Hand nu h n) : Hand (nu ++ l) h n := let ⟨c, e, k⟩ := q; ⟨c, by rw [List.getElem?_append_left (List.getElem?_eq_some_iff.mp e).1]; exact e, k⟩
def spTake : DSp := fun ds mu Q _ => ∃ (h n : Nat) (m : Int), ds = [.ref h, .int m] ∧ 0 < m ∧ m < 2 ^ 30 ∧ Hand mu h (n + 1) ∧ ∀ (r : Nat) c, (r : Int) < m → HandC n c → Q (.int (r : Nat)) (mu.set h c)
theorem w_take {G : Ctx} {ds : List D} {mu : Store} {Q : QD} {E : QX} (s : spTake ds mu Q E) : wpSs G c_law_take (endsOf (gcD mu Q) (gcX mu E)) (startD ["_law_hand_here", "_law_many", "_law_digit", "_law_turn", "_law_prime", "_law_mixed"] ds) mu := by
  obtain ⟨h, n, m, rfl, h0, h1, ⟨c, e, x, y, t, rfl, hx, hy, hy2, ht, ht2⟩, q⟩ := s
  have hl := (List.getElem?_eq_some_iff.mp e).1
  have nat : ∀ i : Int, 0 ≤ i → ∃ r : Nat, i = (r : Int) := fun i hi => ⟨i.toNat, by omega⟩
  (try with_reducible refine nx_in ?_); simp (disch := (first | assumption | omega | rfl | (simp only [List.length_set, List.length_append, List.length_cons, List.length_nil, List.length_map, List.length_range, intsD_len]; omega) | (simp only [List.length_cons, List.length_nil, Nat.zero_add, Nat.reduceAdd, List.take_succ_cons, List.take_zero]))) only [↓wpk, wpI, wpT, withS, asTup, asCons, asNil, onB, onI, onKey, keyOf, onSome, endsOf, startD_n, nones, w1, w2, w3, pre2, pre3, isDct, wSl, wSet, wAug, wDel, seqAt, listAt, lstAt, getAt, putAt, dctAt, itemAt, wSeq, wLock, unlk, post0, newLst, wipeD, dispOf, onDisp, List.map_cons, List.map_nil, List.length_cons, List.length_nil, List.length_map, List.length_append, List.length_set, List.nil_append, List.cons_append, List.append_assoc, List.set_cons_zero, List.set_cons_succ, List.getElem?_cons_zero, List.getElem?_cons_succ, List.append_nil, perm, List.getD_cons_zero, List.getD_cons_succ, Int.toNat_natCast, Nat.reduceAdd, Nat.reduceSub, true_and, and_true, if_true, if_false, Bool.false_eq_true, decide_eq_true_eq, D.isNon, Nat.reduceLT, Nat.reduceLeDiff, Int.reduceLT, Int.reduceLE, Int.reduceToNat, Int.reducePow, Int.reduceMul, Int.reduceNeg, Bool.not_true, Bool.not_false, forall_const, cond_true, cond_false, sizeT_ok, szl_ok, szl_ok2, small_ok, at_lt, at_ge, at_sne, at_seq, set_ge, set_lt, gcE_set, gcE_set0, gcE_ll, gcE_ss, gcE_ssl, gcE_lsl, gcE_l0l, Nat.sub_self, Nat.add_sub_cancel_left, Nat.add_sub_cancel, Int.zero_add, Int.add_zero, Option.getD_some, Option.getD_none, Option.isSome_some, Option.isSome_none, c_law_take, e]
  refine ite_pos_neg (fun c => ?_) fun c => ?_
  · (try with_reducible refine nx_in ?_); simp (disch := (first | assumption | omega | rfl | (simp only [List.length_set, List.length_append, List.length_cons, List.length_nil, List.length_map, List.length_range, intsD_len]; omega) | (simp only [List.length_cons, List.length_nil, Nat.zero_add, Nat.reduceAdd, List.take_succ_cons, List.take_zero]))) only [↓wpk, wpI, wpT, withS, asTup, asCons, asNil, onB, onI, onKey, keyOf, onSome, endsOf, startD_n, nones, w1, w2, w3, pre2, pre3, isDct, wSl, wSet, wAug, wDel, seqAt, listAt, lstAt, getAt, putAt, dctAt, itemAt, wSeq, wLock, unlk, post0, newLst, wipeD, dispOf, onDisp, List.map_cons, List.map_nil, List.length_cons, List.length_nil, List.length_map, List.length_append, List.length_set, List.nil_append, List.cons_append, List.append_assoc, List.set_cons_zero, List.set_cons_succ, List.getElem?_cons_zero, List.getElem?_cons_succ, List.append_nil, perm, List.getD_cons_zero, List.getD_cons_succ, Int.toNat_natCast, Nat.reduceAdd, Nat.reduceSub, true_and, and_true, if_true, if_false, Bool.false_eq_true, decide_eq_true_eq, D.isNon, Nat.reduceLT, Nat.reduceLeDiff, Int.reduceLT, Int.reduceLE, Int.reduceToNat, Int.reducePow, Int.reduceMul, Int.reduceNeg, Bool.not_true, Bool.not_false, forall_const, cond_true, cond_false, sizeT_ok, szl_ok, szl_ok2, small_ok, at_lt, at_ge, at_sne, at_seq, set_ge, set_lt, gcE_set, gcE_set0, gcE_ll, gcE_ss, gcE_ssl, gcE_lsl, gcE_l0l, Nat.sub_self, Nat.add_sub_cancel_left, Nat.add_sub_cancel, Int.zero_add, Int.add_zero, Option.getD_some, Option.getD_none, Option.isSome_some, Option.isSome_none, e]
    refine ⟨h0, ?_⟩
    (try with_reducible refine nx_in ?_); simp (disch := (first | assumption | omega | rfl | (simp only [List.length_set, List.length_append, List.length_cons, List.length_nil, List.length_map, List.length_range, intsD_len]; omega) | (simp only [List.length_cons, List.length_nil, Nat.zero_add, Nat.reduceAdd, List.take_succ_cons, List.take_zero]))) only [↓wpk, wpI, wpT, withS, asTup, asCons, asNil, onB, onI, onKey, keyOf, onSome, endsOf, startD_n, nones, w1, w2, w3, pre2, pre3, isDct, wSl, wSet, wAug, wDel, seqAt, listAt, lstAt, getAt, putAt, dctAt, itemAt, wSeq, wLock, unlk, post0, newLst, wipeD, dispOf, onDisp, List.map_cons, List.map_nil, List.length_cons, List.length_nil, List.length_map, List.length_append, List.length_set, List.nil_append, List.cons_append, List.append_assoc, List.set_cons_zero, List.set_cons_succ, List.getElem?_cons_zero, List.getElem?_cons_succ, List.append_nil, perm, List.getD_cons_zero, List.getD_cons_succ, Int.toNat_natCast, Nat.reduceAdd, Nat.reduceSub, true_and, and_true, if_true, if_false, Bool.false_eq_true, decide_eq_true_eq, D.isNon, Nat.reduceLT, Nat.reduceLeDiff, Int.reduceLT, Int.reduceLE, Int.reduceToNat, Int.reducePow, Int.reduceMul, Int.reduceNeg, Bool.not_true, Bool.not_false, forall_const, cond_true, cond_false, sizeT_ok, szl_ok, szl_ok2, small_ok, at_lt, at_ge, at_sne, at_seq, set_ge, set_lt, gcE_set, gcE_set0, gcE_ll, gcE_ss, gcE_ssl, gcE_lsl, gcE_l0l, Nat.sub_self, Nat.add_sub_cancel_left, Nat.add_sub_cancel, Int.zero_add, Int.add_zero, Option.getD_some, Option.getD_none, Option.isSome_some, Option.isSome_none, e]
    refine ⟨⟨h0, h1⟩, ?_⟩
    (try with_reducible refine nx_in ?_); simp (disch := (first | assumption | omega | rfl | (simp only [List.length_set, List.length_append, List.length_cons, List.length_nil, List.length_map, List.length_range, intsD_len]; omega) | (simp only [List.length_cons, List.length_nil, Nat.zero_add, Nat.reduceAdd, List.take_succ_cons, List.take_zero]))) only [↓wpk, wpI, wpT, withS, asTup, asCons, asNil, onB, onI, onKey, keyOf, onSome, endsOf, startD_n, nones, w1, w2, w3, pre2, pre3, isDct, wSl, wSet, wAug, wDel, seqAt, listAt, lstAt, getAt, putAt, dctAt, itemAt, wSeq, wLock, unlk, post0, newLst, wipeD, dispOf, onDisp, List.map_cons, List.map_nil, List.length_cons, List.length_nil, List.length_map, List.length_append, List.length_set, List.nil_append, List.cons_append, List.append_assoc, List.set_cons_zero, List.set_cons_succ, List.getElem?_cons_zero, List.getElem?_cons_succ, List.append_nil, perm, List.getD_cons_zero, List.getD_cons_succ, Int.toNat_natCast, Nat.reduceAdd, Nat.reduceSub, true_and, and_true, if_true, if_false, Bool.false_eq_true, decide_eq_true_eq, D.isNon, Nat.reduceLT, Nat.reduceLeDiff, Int.reduceLT, Int.reduceLE, Int.reduceToNat, Int.reducePow, Int.reduceMul, Int.reduceNeg, Bool.not_true, Bool.not_false, forall_const, cond_true, cond_false, sizeT_ok, szl_ok, szl_ok2, small_ok, at_lt, at_ge, at_sne, at_seq, set_ge, set_lt, gcE_set, gcE_set0, gcE_ll, gcE_ss, gcE_ssl, gcE_lsl, gcE_l0l, Nat.sub_self, Nat.add_sub_cancel_left, Nat.add_sub_cancel, Int.zero_add, Int.add_zero, Option.getD_some, Option.getD_none, Option.isSome_some, Option.isSome_none]
    obtain ⟨r, hr⟩ := nat (x % m) (Int.emod_nonneg _ (by omega))
    rw [hr]
    exact gc_any (q r _ (by rw [← hr]; exact Int.emod_lt_of_pos _ h0) ⟨x / m, y, t, rfl, Int.ediv_nonneg hx (by omega), hy, hy2, ht, by omega⟩)
  · (try with_reducible refine nx_in ?_); simp (disch := (first | assumption | omega | rfl | (simp only [List.length_set, List.length_append, List.length_cons, List.length_nil, List.length_map, List.length_range, intsD_len]; omega) | (simp only [List.length_cons, List.length_nil, Nat.zero_add, Nat.reduceAdd, List.take_succ_cons, List.take_zero]))) only [↓wpk, wpI, wpT, withS, asTup, asCons, asNil, onB, onI, onKey, keyOf, onSome, endsOf, startD_n, nones, w1, w2, w3, pre2, pre3, isDct, wSl, wSet, wAug, wDel, seqAt, listAt, lstAt, getAt, putAt, dctAt, itemAt, wSeq, wLock, unlk, post0, newLst, wipeD, dispOf, onDisp, List.map_cons, List.map_nil, List.length_cons, List.length_nil, List.length_map, List.length_append, List.length_set, List.nil_append, List.cons_append, List.append_assoc, List.set_cons_zero, List.set_cons_succ, List.getElem?_cons_zero, List.getElem?_cons_succ, List.append_nil, perm, List.getD_cons_zero, List.getD_cons_succ, Int.toNat_natCast, Nat.reduceAdd, Nat.reduceSub, true_and, and_true, if_true, if_false, Bool.false_eq_true, decide_eq_true_eq, D.isNon, Nat.reduceLT, Nat.reduceLeDiff, Int.reduceLT, Int.reduceLE, Int.reduceToNat, Int.reducePow, Int.reduceMul, Int.reduceNeg, Bool.not_true, Bool.not_false, forall_const, cond_true, cond_false, sizeT_ok, szl_ok, szl_ok2, small_ok, at_lt, at_ge, at_sne, at_seq, set_ge, set_lt, gcE_set, gcE_set0, gcE_ll, gcE_ss, gcE_ssl, gcE_lsl, gcE_l0l, Nat.sub_self, Nat.add_sub_cancel_left, Nat.add_sub_cancel, Int.zero_add, Int.add_zero, Option.getD_some, Option.getD_none, Option.isSome_some, Option.isSome_none]
    (try with_reducible refine nx_in ?_); simp (disch := (first | assumption | omega | rfl | (simp only [List.length_set, List.length_append, List.length_cons, List.length_nil, List.length_map, List.length_range, intsD_len]; omega) | (simp only [List.length_cons, List.length_nil, Nat.zero_add, Nat.reduceAdd, List.take_succ_cons, List.take_zero]))) only [↓wpk, wpI, wpT, withS, asTup, asCons, asNil, onB, onI, onKey, keyOf, onSome, endsOf, startD_n, nones, w1, w2, w3, pre2, pre3, isDct, wSl, wSet, wAug, wDel, seqAt, listAt, lstAt, getAt, putAt, dctAt, itemAt, wSeq, wLock, unlk, post0, newLst, wipeD, dispOf, onDisp, List.map_cons, List.map_nil, List.length_cons, List.length_nil, List.length_map, List.length_append, List.length_set, List.nil_append, List.cons_append, List.append_assoc, List.set_cons_zero, List.set_cons_succ, List.getElem?_cons_zero, List.getElem?_cons_succ, List.append_nil, perm, List.getD_cons_zero, List.getD_cons_succ, Int.toNat_natCast, Nat.reduceAdd, Nat.reduceSub, true_and, and_true, if_true, if_false, Bool.false_eq_true, decide_eq_true_eq, D.isNon, Nat.reduceLT, Nat.reduceLeDiff, Int.reduceLT, Int.reduceLE, Int.reduceToNat, Int.reducePow, Int.reduceMul, Int.reduceNeg, Bool.not_true, Bool.not_false, forall_const, cond_true, cond_false, sizeT_ok, szl_ok, szl_ok2, small_ok, at_lt, at_ge, at_sne, at_seq, set_ge, set_lt, gcE_set, gcE_set0, gcE_ll, gcE_ss, gcE_ssl, gcE_lsl, gcE_l0l, Nat.sub_self, Nat.add_sub_cancel_left, Nat.add_sub_cancel, Int.zero_add, Int.add_zero, Option.getD_some, Option.getD_none, Option.isSome_some, Option.isSome_none, e]
    (try with_reducible refine nx_in ?_); simp (disch := (first | assumption | omega | rfl | (simp only [List.length_set, List.length_append, List.length_cons, List.length_nil, List.length_map, List.length_range, intsD_len]; omega) | (simp only [List.length_cons, List.length_nil, Nat.zero_add, Nat.reduceAdd, List.take_succ_cons, List.take_zero]))) only [↓wpk, wpI, wpT, withS, asTup, asCons, asNil, onB, onI, onKey, keyOf, onSome, endsOf, startD_n, nones, w1, w2, w3, pre2, pre3, isDct, wSl, wSet, wAug, wDel, seqAt, listAt, lstAt, getAt, putAt, dctAt, itemAt, wSeq, wLock, unlk, post0, newLst, wipeD, dispOf, onDisp, List.map_cons, List.map_nil, List.length_cons, List.length_nil, List.length_map, List.length_append, List.length_set, List.nil_append, List.cons_append, List.append_assoc, List.set_cons_zero, List.set_cons_succ, List.getElem?_cons_zero, List.getElem?_cons_succ, List.append_nil, perm, List.getD_cons_zero, List.getD_cons_succ, Int.toNat_natCast, Nat.reduceAdd, Nat.reduceSub, true_and, and_true, if_true, if_false, Bool.false_eq_true, decide_eq_true_eq, D.isNon, Nat.reduceLT, Nat.reduceLeDiff, Int.reduceLT, Int.reduceLE, Int.reduceToNat, Int.reducePow, Int.reduceMul, Int.reduceNeg, Bool.not_true, Bool.not_false, forall_const, cond_true, cond_false, sizeT_ok, szl_ok, szl_ok2, small_ok, at_lt, at_ge, at_sne, at_seq, set_ge, set_lt, gcE_set, gcE_set0, gcE_ll, gcE_ss, gcE_ssl, gcE_lsl, gcE_l0l, Nat.sub_self, Nat.add_sub_cancel_left, Nat.add_sub_cancel, Int.zero_add, Int.add_zero, Option.getD_some, Option.getD_none, Option.isSome_some, Option.isSome_none, e]
    (try with_reducible refine nx_in ?_); simp (disch := (first | assumption | omega | rfl | (simp only [List.length_set, List.length_append, List.length_cons, List.length_nil, List.length_map, List.length_range, intsD_len]; omega) | (simp only [List.length_cons, List.length_nil, Nat.zero_add, Nat.reduceAdd, List.take_succ_cons, List.take_zero]))) only [↓wpk, wpI, wpT, withS, asTup, asCons, asNil, onB, onI, onKey, keyOf, onSome, endsOf, startD_n, nones, w1, w2, w3, pre2, pre3, isDct, wSl, wSet, wAug, wDel, seqAt, listAt, lstAt, getAt, putAt, dctAt, itemAt, wSeq, wLock, unlk, post0, newLst, wipeD, dispOf, onDisp, List.map_cons, List.map_nil, List.length_cons, List.length_nil, List.length_map, List.length_append, List.length_set, List.nil_append, List.cons_append, List.append_assoc, List.set_cons_zero, List.set_cons_succ, List.getElem?_cons_zero, List.getElem?_cons_succ, List.append_nil, perm, List.getD_cons_zero, List.getD_cons_succ, Int.toNat_natCast, Nat.reduceAdd, Nat.reduceSub, true_and, and_true, if_true, if_false, Bool.false_eq_true, decide_eq_true_eq, D.isNon, Nat.reduceLT, Nat.reduceLeDiff, Int.reduceLT, Int.reduceLE, Int.reduceToNat, Int.reducePow, Int.reduceMul, Int.reduceNeg, Bool.not_true, Bool.not_false, forall_const, cond_true, cond_false, sizeT_ok, szl_ok, szl_ok2, small_ok, at_lt, at_ge, at_sne, at_seq, set_ge, set_lt, gcE_set, gcE_set0, gcE_ll, gcE_ss, gcE_ssl, gcE_lsl, gcE_l0l, Nat.sub_self, Nat.add_sub_cancel_left, Nat.add_sub_cancel, Int.zero_add, Int.add_zero, Option.getD_some, Option.getD_none, Option.isSome_some, Option.isSome_none]
    obtain ⟨v, ev, hv, _⟩ := atI_mem (xs := [D.int 2147483647, D.int 2147483629, D.int 2147483587, D.int 2147483579, D.int 2147483563, D.int 2147483549]) (i := (t + 1) % 6) (Int.emod_nonneg _ (by omega)) (by show (t + 1) % 6 < 6; omega)
    obtain ⟨p, rfl, hp⟩ : ∃ p : Int, v = .int p ∧ 0 < p ∧ p < 2 ^ 31 := by
      simp only [List.mem_cons, List.not_mem_nil, or_false] at hv
      rcases hv with rfl | rfl | rfl | rfl | rfl | rfl <;> exact ⟨_, rfl, by decide, by decide⟩
    have sq : (t + 1) * (t + 1) ≤ 2 ^ 40 * 2 ^ 40 := Int.mul_le_mul (by omega) (by omega) (by omega) (by decide)
    have sq0 : 0 ≤ (t + 1) * (t + 1) := Int.mul_nonneg (by omega) (by omega)
    have e3 : 65537 * (t + 1) * (t + 1) = 65537 * ((t + 1) * (t + 1)) := Int.mul_assoc _ _ _
    have big : Builtin.Int.intBits (y + 65537 * (t + 1) * (t + 1) + 31 * (t + 1)) ≤ 200 := bits_le (by rw [e3]; omega)
    rw [ev]
    (try with_reducible refine nx_in ?_); simp (disch := (first | assumption | omega | rfl | (simp only [List.length_set, List.length_append, List.length_cons, List.length_nil, List.length_map, List.length_range, intsD_len]; omega) | (simp only [List.length_cons, List.length_nil, Nat.zero_add, Nat.reduceAdd, List.take_succ_cons, List.take_zero]))) only [↓wpk, wpI, wpT, withS, asTup, asCons, asNil, onB, onI, onKey, keyOf, onSome, endsOf, startD_n, nones, w1, w2, w3, pre2, pre3, isDct, wSl, wSet, wAug, wDel, seqAt, listAt, lstAt, getAt, putAt, dctAt, itemAt, wSeq, wLock, unlk, post0, newLst, wipeD, dispOf, onDisp, List.map_cons, List.map_nil, List.length_cons, List.length_nil, List.length_map, List.length_append, List.length_set, List.nil_append, List.cons_append, List.append_assoc, List.set_cons_zero, List.set_cons_succ, List.getElem?_cons_zero, List.getElem?_cons_succ, List.append_nil, perm, List.getD_cons_zero, List.getD_cons_succ, Int.toNat_natCast, Nat.reduceAdd, Nat.reduceSub, true_and, and_true, if_true, if_false, Bool.false_eq_true, decide_eq_true_eq, D.isNon, Nat.reduceLT, Nat.reduceLeDiff, Int.reduceLT, Int.reduceLE, Int.reduceToNat, Int.reducePow, Int.reduceMul, Int.reduceNeg, Bool.not_true, Bool.not_false, forall_const, cond_true, cond_false, sizeT_ok, szl_ok, szl_ok2, small_ok, at_lt, at_ge, at_sne, at_seq, set_ge, set_lt, gcE_set, gcE_set0, gcE_ll, gcE_ss, gcE_ssl, gcE_lsl, gcE_l0l, Nat.sub_self, Nat.add_sub_cancel_left, Nat.add_sub_cancel, Int.zero_add, Int.add_zero, Option.getD_some, Option.getD_none, Option.isSome_some, Option.isSome_none, e]
    refine ⟨mulL (by decide) (by decide), mulR (by omega) (by omega), mulL (by decide) (by decide), by omega, hp.1, ?_⟩
    (try with_reducible refine nx_in ?_); simp (disch := (first | assumption | omega | rfl | (simp only [List.length_set, List.length_append, List.length_cons, List.length_nil, List.length_map, List.length_range, intsD_len]; omega) | (simp only [List.length_cons, List.length_nil, Nat.zero_add, Nat.reduceAdd, List.take_succ_cons, List.take_zero]))) only [↓wpk, wpI, wpT, withS, asTup, asCons, asNil, onB, onI, onKey, keyOf, onSome, endsOf, startD_n, nones, w1, w2, w3, pre2, pre3, isDct, wSl, wSet, wAug, wDel, seqAt, listAt, lstAt, getAt, putAt, dctAt, itemAt, wSeq, wLock, unlk, post0, newLst, wipeD, dispOf, onDisp, List.map_cons, List.map_nil, List.length_cons, List.length_nil, List.length_map, List.length_append, List.length_set, List.nil_append, List.cons_append, List.append_assoc, List.set_cons_zero, List.set_cons_succ, List.getElem?_cons_zero, List.getElem?_cons_succ, List.append_nil, perm, List.getD_cons_zero, List.getD_cons_succ, Int.toNat_natCast, Nat.reduceAdd, Nat.reduceSub, true_and, and_true, if_true, if_false, Bool.false_eq_true, decide_eq_true_eq, D.isNon, Nat.reduceLT, Nat.reduceLeDiff, Int.reduceLT, Int.reduceLE, Int.reduceToNat, Int.reducePow, Int.reduceMul, Int.reduceNeg, Bool.not_true, Bool.not_false, forall_const, cond_true, cond_false, sizeT_ok, szl_ok, szl_ok2, small_ok, at_lt, at_ge, at_sne, at_seq, set_ge, set_lt, gcE_set, gcE_set0, gcE_ll, gcE_ss, gcE_ssl, gcE_lsl, gcE_l0l, Nat.sub_self, Nat.add_sub_cancel_left, Nat.add_sub_cancel, Int.zero_add, Int.add_zero, Option.getD_some, Option.getD_none, Option.isSome_some, Option.isSome_none, e]
    refine ⟨mulL (by decide) (by decide), ?_, h0, ?_⟩
    · have a1 := Int.emod_nonneg ((y + 65537 * (t + 1) * (t + 1) + 31 * (t + 1)) ^ 3 % p) (show (10007 : Int) ≠ 0 by decide)
      have a2 := Int.emod_lt_of_pos ((y + 65537 * (t + 1) * (t + 1) + 31 * (t + 1)) ^ 3 % p) (show (0 : Int) < 10007 by decide)
      exact mulR (by omega) (by omega)
    · obtain ⟨r, hr⟩ := nat ((y + 65537 * (t + 1) * (t + 1) + 31 * (t + 1)) ^ 3 % p * ((y + 65537 * (t + 1) * (t + 1) + 31 * (t + 1)) ^ 3 % p % 10007 + 13 * (t + 1)) % 2305843009213693907 / 97 % m) (Int.emod_nonneg _ (by omega))
      rw [hr]
      exact gc_set (by simp only [D.cl]) (by simp only [Cell.cl, D.cls, D.cl, and_self]) (q r _ (by rw [← hr]; exact Int.emod_lt_of_pos _ h0) ⟨x, y, t + 1, rfl, hx, hy, hy2, by omega, by omega⟩)
def spOf : DSp := fun ds mu Q _ => ∃ (h n : Nat) (d : D), ds = [.ref h, d] ∧ Hand mu h (n + 1) ∧
  ((∃ xs, (d = .tup xs ∨ ∃ m, m ≠ h ∧ d = .ref m ∧ mu[m]? = some (.lst xs)) ∧ xs ≠ [] ∧ xs.length < 2 ^ 30 ∧ ∀ r c, r ∈ xs → HandC n c → Q r (mu.set h c)) ∨
   ∃ z : Str, d = .str z ∧ z.cps.toList ≠ [] ∧ z.length < 2 ^ 19 ∧ ∀ r c, r ∈ z.cps.toList → HandC n c → Q (.str ⟨#[r]⟩) (mu.set h c))
theorem w_of {G : Ctx} (g : G.fn i_law_take = spTake) {ds : List D} {mu : Store} {Q : QD} {E : QX} (s : spOf ds mu Q E) : wpSs G c_law_of (endsOf (gcD mu Q) (gcX mu E)) (startD ["_law_hand_here", "_law_some"] ds) mu := by
  obtain ⟨h, n, d, rfl, hh, s⟩ := s
  have hl := hh.lt
  rcases s with ⟨xs, hd, h0, h1, q⟩ | ⟨z, rfl, h0, h1, q⟩
  · have pos : 0 < xs.length := len_pos h0
    rcases hd with rfl | ⟨m, hm, rfl, e⟩
    · (try with_reducible refine nx_in ?_); simp (disch := (first | assumption | omega | rfl | (simp only [List.length_set, List.length_append, List.length_cons, List.length_nil, List.length_map, List.length_range, intsD_len]; omega) | (simp only [List.length_cons, List.length_nil, Nat.zero_add, Nat.reduceAdd, List.take_succ_cons, List.take_zero]))) only [↓wpk, wpI, wpT, withS, asTup, asCons, asNil, onB, onI, onKey, keyOf, onSome, endsOf, startD_n, nones, w1, w2, w3, pre2, pre3, isDct, wSl, wSet, wAug, wDel, seqAt, listAt, lstAt, getAt, putAt, dctAt, itemAt, wSeq, wLock, unlk, post0, newLst, wipeD, dispOf, onDisp, List.map_cons, List.map_nil, List.length_cons, List.length_nil, List.length_map, List.length_append, List.length_set, List.nil_append, List.cons_append, List.append_assoc, List.set_cons_zero, List.set_cons_succ, List.getElem?_cons_zero, List.getElem?_cons_succ, List.append_nil, perm, List.getD_cons_zero, List.getD_cons_succ, Int.toNat_natCast, Nat.reduceAdd, Nat.reduceSub, true_and, and_true, if_true, if_false, Bool.false_eq_true, decide_eq_true_eq, D.isNon, Nat.reduceLT, Nat.reduceLeDiff, Int.reduceLT, Int.reduceLE, Int.reduceToNat, Int.reducePow, Int.reduceMul, Int.reduceNeg, Bool.not_true, Bool.not_false, forall_const, cond_true, cond_false, sizeT_ok, szl_ok, szl_ok2, small_ok, at_lt, at_ge, at_sne, at_seq, set_ge, set_lt, gcE_set, gcE_set0, gcE_ll, gcE_ss, gcE_ssl, gcE_lsl, gcE_l0l, Nat.sub_self, Nat.add_sub_cancel_left, Nat.add_sub_cancel, Int.zero_add, Int.add_zero, Option.getD_some, Option.getD_none, Option.isSome_some, Option.isSome_none, c_law_of]
      refine call_to g ?_
      refine ⟨h, n, (xs.length : Int), rfl, by omega, by omega, hh, fun r c b k => ?_⟩
      obtain ⟨v, ev, hv, _⟩ := atI_mem (xs := xs) (i := (r : Int)) (by omega) b
      (try with_reducible refine nx_in ?_); simp (disch := (first | assumption | omega | rfl | (simp only [List.length_set, List.length_append, List.length_cons, List.length_nil, List.length_map, List.length_range, intsD_len]; omega) | (simp only [List.length_cons, List.length_nil, Nat.zero_add, Nat.reduceAdd, List.take_succ_cons, List.take_zero]))) only [↓wpk, wpI, wpT, withS, asTup, asCons, asNil, onB, onI, onKey, keyOf, onSome, endsOf, startD_n, nones, w1, w2, w3, pre2, pre3, isDct, wSl, wSet, wAug, wDel, seqAt, listAt, lstAt, getAt, putAt, dctAt, itemAt, wSeq, wLock, unlk, post0, newLst, wipeD, dispOf, onDisp, List.map_cons, List.map_nil, List.length_cons, List.length_nil, List.length_map, List.length_append, List.length_set, List.nil_append, List.cons_append, List.append_assoc, List.set_cons_zero, List.set_cons_succ, List.getElem?_cons_zero, List.getElem?_cons_succ, List.append_nil, perm, List.getD_cons_zero, List.getD_cons_succ, Int.toNat_natCast, Nat.reduceAdd, Nat.reduceSub, true_and, and_true, if_true, if_false, Bool.false_eq_true, decide_eq_true_eq, D.isNon, Nat.reduceLT, Nat.reduceLeDiff, Int.reduceLT, Int.reduceLE, Int.reduceToNat, Int.reducePow, Int.reduceMul, Int.reduceNeg, Bool.not_true, Bool.not_false, forall_const, cond_true, cond_false, sizeT_ok, szl_ok, szl_ok2, small_ok, at_lt, at_ge, at_sne, at_seq, set_ge, set_lt, gcE_set, gcE_set0, gcE_ll, gcE_ss, gcE_ssl, gcE_lsl, gcE_l0l, Nat.sub_self, Nat.add_sub_cancel_left, Nat.add_sub_cancel, Int.zero_add, Int.add_zero, Option.getD_some, Option.getD_none, Option.isSome_some, Option.isSome_none, ev]
      exact gc_any (q v c hv k)
    · (try with_reducible refine nx_in ?_); simp (disch := (first | assumption | omega | rfl | (simp only [List.length_set, List.length_append, List.length_cons, List.length_nil, List.length_map, List.length_range, intsD_len]; omega) | (simp only [List.length_cons, List.length_nil, Nat.zero_add, Nat.reduceAdd, List.take_succ_cons, List.take_zero]))) only [↓wpk, wpI, wpT, withS, asTup, asCons, asNil, onB, onI, onKey, keyOf, onSome, endsOf, startD_n, nones, w1, w2, w3, pre2, pre3, isDct, wSl, wSet, wAug, wDel, seqAt, listAt, lstAt, getAt, putAt, dctAt, itemAt, wSeq, wLock, unlk, post0, newLst, wipeD, dispOf, onDisp, List.map_cons, List.map_nil, List.length_cons, List.length_nil, List.length_map, List.length_append, List.length_set, List.nil_append, List.cons_append, List.append_assoc, List.set_cons_zero, List.set_cons_succ, List.getElem?_cons_zero, List.getElem?_cons_succ, List.append_nil, perm, List.getD_cons_zero, List.getD_cons_succ, Int.toNat_natCast, Nat.reduceAdd, Nat.reduceSub, true_and, and_true, if_true, if_false, Bool.false_eq_true, decide_eq_true_eq, D.isNon, Nat.reduceLT, Nat.reduceLeDiff, Int.reduceLT, Int.reduceLE, Int.reduceToNat, Int.reducePow, Int.reduceMul, Int.reduceNeg, Bool.not_true, Bool.not_false, forall_const, cond_true, cond_false, sizeT_ok, szl_ok, szl_ok2, small_ok, at_lt, at_ge, at_sne, at_seq, set_ge, set_lt, gcE_set, gcE_set0, gcE_ll, gcE_ss, gcE_ssl, gcE_lsl, gcE_l0l, Nat.sub_self, Nat.add_sub_cancel_left, Nat.add_sub_cancel, Int.zero_add, Int.add_zero, Option.getD_some, Option.getD_none, Option.isSome_some, Option.isSome_none, c_law_of, e]
      refine call_to g ?_
      refine ⟨h, n, (xs.length : Int), rfl, by omega, by omega, hh, fun r c b k => ?_⟩
      obtain ⟨v, ev, hv, _⟩ := atI_mem (xs := xs) (i := (r : Int)) (by omega) b
      have hm' := Ne.symm hm
      (try with_reducible refine nx_in ?_); simp (disch := (first | assumption | omega | rfl | (simp only [List.length_set, List.length_append, List.length_cons, List.length_nil, List.length_map, List.length_range, intsD_len]; omega) | (simp only [List.length_cons, List.length_nil, Nat.zero_add, Nat.reduceAdd, List.take_succ_cons, List.take_zero]))) only [↓wpk, wpI, wpT, withS, asTup, asCons, asNil, onB, onI, onKey, keyOf, onSome, endsOf, startD_n, nones, w1, w2, w3, pre2, pre3, isDct, wSl, wSet, wAug, wDel, seqAt, listAt, lstAt, getAt, putAt, dctAt, itemAt, wSeq, wLock, unlk, post0, newLst, wipeD, dispOf, onDisp, List.map_cons, List.map_nil, List.length_cons, List.length_nil, List.length_map, List.length_append, List.length_set, List.nil_append, List.cons_append, List.append_assoc, List.set_cons_zero, List.set_cons_succ, List.getElem?_cons_zero, List.getElem?_cons_succ, List.append_nil, perm, List.getD_cons_zero, List.getD_cons_succ, Int.toNat_natCast, Nat.reduceAdd, Nat.reduceSub, true_and, and_true, if_true, if_false, Bool.false_eq_true, decide_eq_true_eq, D.isNon, Nat.reduceLT, Nat.reduceLeDiff, Int.reduceLT, Int.reduceLE, Int.reduceToNat, Int.reducePow, Int.reduceMul, Int.reduceNeg, Bool.not_true, Bool.not_false, forall_const, cond_true, cond_false, sizeT_ok, szl_ok, szl_ok2, small_ok, at_lt, at_ge, at_sne, at_seq, set_ge, set_lt, gcE_set, gcE_set0, gcE_ll, gcE_ss, gcE_ssl, gcE_lsl, gcE_l0l, Nat.sub_self, Nat.add_sub_cancel_left, Nat.add_sub_cancel, Int.zero_add, Int.add_zero, Option.getD_some, Option.getD_none, Option.isSome_some, Option.isSome_none, ev, e]
      exact gc_any (q v c hv k)
  · have pos : 0 < z.length := by have := len_pos h0; simpa [Str.length] using this
    (try with_reducible refine nx_in ?_); simp (disch := (first | assumption | omega | rfl | (simp only [List.length_set, List.length_append, List.length_cons, List.length_nil, List.length_map, List.length_range, intsD_len]; omega) | (simp only [List.length_cons, List.length_nil, Nat.zero_add, Nat.reduceAdd, List.take_succ_cons, List.take_zero]))) only [↓wpk, wpI, wpT, withS, asTup, asCons, asNil, onB, onI, onKey, keyOf, onSome, endsOf, startD_n, nones, w1, w2, w3, pre2, pre3, isDct, wSl, wSet, wAug, wDel, seqAt, listAt, lstAt, getAt, putAt, dctAt, itemAt, wSeq, wLock, unlk, post0, newLst, wipeD, dispOf, onDisp, List.map_cons, List.map_nil, List.length_cons, List.length_nil, List.length_map, List.length_append, List.length_set, List.nil_append, List.cons_append, List.append_assoc, List.set_cons_zero, List.set_cons_succ, List.getElem?_cons_zero, List.getElem?_cons_succ, List.append_nil, perm, List.getD_cons_zero, List.getD_cons_succ, Int.toNat_natCast, Nat.reduceAdd, Nat.reduceSub, true_and, and_true, if_true, if_false, Bool.false_eq_true, decide_eq_true_eq, D.isNon, Nat.reduceLT, Nat.reduceLeDiff, Int.reduceLT, Int.reduceLE, Int.reduceToNat, Int.reducePow, Int.reduceMul, Int.reduceNeg, Bool.not_true, Bool.not_false, forall_const, cond_true, cond_false, sizeT_ok, szl_ok, szl_ok2, small_ok, at_lt, at_ge, at_sne, at_seq, set_ge, set_lt, gcE_set, gcE_set0, gcE_ll, gcE_ss, gcE_ssl, gcE_lsl, gcE_l0l, Nat.sub_self, Nat.add_sub_cancel_left, Nat.add_sub_cancel, Int.zero_add, Int.add_zero, Option.getD_some, Option.getD_none, Option.isSome_some, Option.isSome_none, c_law_of]
    refine call_to g ?_
    refine ⟨h, n, (z.length : Int), rfl, by omega, by omega, hh, fun r c b k => ?_⟩
    obtain ⟨v, ev, hv, _⟩ := atI_mem (xs := z.cps.toList) (i := (r : Int)) (by omega) (by simpa [Str.length] using b)
    (try with_reducible refine nx_in ?_); simp (disch := (first | assumption | omega | rfl | (simp only [List.length_set, List.length_append, List.length_cons, List.length_nil, List.length_map, List.length_range, intsD_len]; omega) | (simp only [List.length_cons, List.length_nil, Nat.zero_add, Nat.reduceAdd, List.take_succ_cons, List.take_zero]))) only [↓wpk, wpI, wpT, withS, asTup, asCons, asNil, onB, onI, onKey, keyOf, onSome, endsOf, startD_n, nones, w1, w2, w3, pre2, pre3, isDct, wSl, wSet, wAug, wDel, seqAt, listAt, lstAt, getAt, putAt, dctAt, itemAt, wSeq, wLock, unlk, post0, newLst, wipeD, dispOf, onDisp, List.map_cons, List.map_nil, List.length_cons, List.length_nil, List.length_map, List.length_append, List.length_set, List.nil_append, List.cons_append, List.append_assoc, List.set_cons_zero, List.set_cons_succ, List.getElem?_cons_zero, List.getElem?_cons_succ, List.append_nil, perm, List.getD_cons_zero, List.getD_cons_succ, Int.toNat_natCast, Nat.reduceAdd, Nat.reduceSub, true_and, and_true, if_true, if_false, Bool.false_eq_true, decide_eq_true_eq, D.isNon, Nat.reduceLT, Nat.reduceLeDiff, Int.reduceLT, Int.reduceLE, Int.reduceToNat, Int.reducePow, Int.reduceMul, Int.reduceNeg, Bool.not_true, Bool.not_false, forall_const, cond_true, cond_false, sizeT_ok, szl_ok, szl_ok2, small_ok, at_lt, at_ge, at_sne, at_seq, set_ge, set_lt, gcE_set, gcE_set0, gcE_ll, gcE_ss, gcE_ssl, gcE_lsl, gcE_l0l, Nat.sub_self, Nat.add_sub_cancel_left, Nat.add_sub_cancel, Int.zero_add, Int.add_zero, Option.getD_some, Option.getD_none, Option.isSome_some, Option.isSome_none, ev]
    exact gc_any (q v c hv k)
def spHand : DSp := fun ds mu Q _ => ∃ (ns : List Int) (k : Int), ds = [.ro (ns.map D.int), .int k] ∧ 0 ≤ k ∧ k < 2 ^ 20 ∧ ∀ c, HandC (2 ^ 39) c → Q (.ref mu.length) (mu ++ [c])
end MP
namespace MP
open PySem PySem.Spec PyProof.Rows L2
/-- no cell within, at most k deep, at most w long -/
def Fine (k w : Nat) (d : D) : Prop := d.pure = true ∧ d.py.canLay0 = true ∧ d.py.depth ≤ k ∧ d.py.bulk ≤ w ∧ d.py.leavesShort 13 = true ∧ d.py.showable = true
theorem Fine.mono {k w k' w' : Nat} {d : D} (h : Fine k w d) (a : k ≤ k') (b : w ≤ w') : Fine k' w' d := ⟨h.1, h.2.1, Nat.le_trans h.2.2.1 a, Nat.le_trans h.2.2.2.1 b, h.2.2.2.2⟩
theorem fine_int {k w : Nat} {i : Int} (h : i.natAbs < 10 ^ 12) : Fine k w (.int i) := by
  refine ⟨rfl, rfl, Nat.zero_le _, Nat.zero_le _, ?_, ?_⟩
  · show decide _ = true
    exact decide_eq_true (PyData.shown_int_le h)
  · show decide _ = true
    refine decide_eq_true ?_
    by_cases h0 : i.natAbs = 0
    · rw [h0]; decide
    · have : i.natAbs.log2 < 40 := (Nat.log2_lt h0).mpr (Nat.lt_trans h (by decide))
      omega
theorem ok_iff {z : Str} : PyData.strOk z = true ↔ ∀ c ∈ z.cps.toList, c < 0x110000 := by
  unfold PyData.strOk
  rw [Array.all_eq_true_iff_forall_mem]
  simp
theorem cut_len (a : Str) (lo hi : Option Int) : (cutS a lo hi).length ≤ a.length := by
  show (List.toArray _).size ≤ a.cps.size
  rw [List.size_toArray, List.length_take, List.length_drop, Array.length_toList]
  omega
theorem app_len (a b : Str) : (a ++ b).length = a.length + b.length := strLen_append a b
theorem one_len (c : Nat) : (⟨#[c]⟩ : Str).length = 1 := rfl
theorem app_inj {a b : Str} {c d : Nat} (h : a ++ ⟨#[c]⟩ ++ b = a ++ ⟨#[d]⟩ ++ b) : c = d := by
  have : (a ++ ⟨#[c]⟩ ++ b).cps.toList = (a ++ ⟨#[d]⟩ ++ b).cps.toList := by rw [h]
  have e : ∀ c, (a ++ ⟨#[c]⟩ ++ b).cps.toList = (a.cps.toList ++ [c]) ++ b.cps.toList := fun c => by
    show ((a.cps ++ #[c]) ++ b.cps).toList = _
    rw [Array.toList_append, Array.toList_append]
  rw [e, e] at this
  have := List.append_cancel_right this
  have := List.append_cancel_left this
  simpa using this
end MP
namespace MP
open PySem PySem.Spec PyProof.Rows L2
section
variable {P : Program} {w : World} {K : PySem.W.Frag} {mg : Str → Option Value} {base : Heap} {n n' : Nm} {G : Ctx} {CT : Cls} {k : Nat}
theorem FnsOk.mono (h : FnsOk P w K mg base n G CT k) {j : Nat} (l : k ≤ j) : FnsOk P w K mg base n G CT j := fun i x e => by
  obtain ⟨f, fd, ps, a, b, c, d⟩ := h i x e
  exact ⟨f, fd, ps, a, b, c.mono l, d⟩
theorem FnsOk.none (e : n.fns = []) : FnsOk P w K mg base n G CT k := fun i x h => by rw [e] at h; simp at h
theorem FnsOk.same (h : FnsOk P w K mg base n G CT k) (e : n'.fns = n.fns) (e2 : n'.kwp = n.kwp) : FnsOk P w K mg base n' G CT k := fun i x q => by
  rw [e] at q
  rw [e2]
  exact h i x q
/-- all calls of the i-th def give all its parameters by place -/
def posC (kwp : List (Nat × Nat × List Str × List Nat)) (i m : Nat) : Bool := kwp.all fun q => !decide (q.1 = i) || (decide (q.2.1 = m) && decide (q.2.2.1 = []) && decide (q.2.2.2 = List.range m))
theorem permU_range (us : List Value) : permU (List.range us.length) us = us := by
  unfold permU
  refine List.ext_getElem? fun i => ?_
  rw [List.getElem?_map]
  by_cases h : i < us.length
  · rw [List.getElem?_eq_getElem (by simpa using h), List.getElem_range, List.getElem?_eq_getElem h]
    simp [List.getD_eq_getElem?_getD, List.getElem?_eq_getElem h]
  · rw [List.getElem?_eq_none (by simpa using h), List.getElem?_eq_none (by omega)]; rfl
theorem bind_pos {i : Nat} {fd : FuncData} {ps : List Str} (B : Binds K fd ps []) (h : posC n.kwp i ps.length = true) :
    ∀ np ks pm, (i, np, ks, pm) ∈ n.kwp → pm.length = ps.length ∧ ∀ (s : Shared) (us ws : List Value), K.In s.heap → us.length = np → ws.length = ks.length → BindsTo s fd ⟨us, ks.zip ws⟩ (ps.zip (permU pm (us ++ ws))) := by
  intro np ks pm hm
  have q := List.all_eq_true.mp h _ hm
  simp only [Bool.or_eq_true, Bool.not_eq_true', decide_eq_false_iff_not, not_true_eq_false, false_or, Bool.and_eq_true, decide_eq_true_eq] at q
  obtain ⟨⟨rfl, rfl⟩, rfl⟩ := q
  refine ⟨List.length_range, fun s us ws kin hu hw => ?_⟩
  have : ws = [] := List.eq_nil_of_length_eq_zero hw
  subst this
  have e := B s us kin (by simpa using hu)
  rw [List.append_nil] at e ⊢
  rw [← hu, permU_range]
  exact e
/-- one form of call binds -/
def KwOk (K : PySem.W.Frag) (fd : FuncData) (ps : List Str) (q : Nat × Nat × List Str × List Nat) : Prop :=
  q.2.2.2.length = ps.length ∧ ∀ (s : Shared) (us ws : List Value), K.In s.heap → us.length = q.2.1 → ws.length = q.2.2.1.length → BindsTo s fd ⟨us, q.2.2.1.zip ws⟩ (ps.zip (permU q.2.2.2 (us ++ ws)))
theorem kw_nil {fd : FuncData} {ps : List Str} : ∀ q ∈ ([] : List (Nat × Nat × List Str × List Nat)), KwOk K fd ps q := fun q h => absurd h List.not_mem_nil
theorem kw_cons {fd : FuncData} {ps : List Str} {x : Nat × Nat × List Str × List Nat} {l : List (Nat × Nat × List Str × List Nat)} (a : KwOk K fd ps x) (b : ∀ q ∈ l, KwOk K fd ps q) : ∀ q ∈ x :: l, KwOk K fd ps q := fun q h => by
  rcases List.mem_cons.mp h with rfl | h
  · exact a
  · exact b q h
theorem bind_all {i : Nat} {fd : FuncData} {ps : List Str} (l : List (Nat × Nat × List Str × List Nat)) (e : n.kwp.filter (fun q => decide (q.1 = i)) = l) (h : ∀ q ∈ l, KwOk K fd ps q) :
    ∀ np ks pm, (i, np, ks, pm) ∈ n.kwp → pm.length = ps.length ∧ ∀ (s : Shared) (us ws : List Value), K.In s.heap → us.length = np → ws.length = ks.length → BindsTo s fd ⟨us, ks.zip ws⟩ (ps.zip (permU pm (us ++ ws))) := by
  intro np ks pm hm
  have : (i, np, ks, pm) ∈ l := by
    rw [← e]
    exact List.mem_filter.mpr ⟨hm, by simp⟩
  exact h _ this
theorem FnsOk.snoc (h : FnsOk P w K mg base n G CT k) {x : Str} (e : n'.fns = n.fns ++ [x]) (e2 : n'.kwp = n.kwp) {f : Addr} {fd : FuncData} {ps : List Str} (hm : mg x = some (.ref f)) (hk : PySem.W.keepIn K (.ref f) = true) (F : FnG P w K mg base k f fd ps (liftF K CT (G.fn n.fns.length)))
    (hb : ∀ np ks pm, (n.fns.length, np, ks, pm) ∈ n.kwp → pm.length = ps.length ∧ ∀ (s : Shared) (us ws : List Value), K.In s.heap → us.length = np → ws.length = ks.length → BindsTo s fd ⟨us, ks.zip ws⟩ (ps.zip (permU pm (us ++ ws)))) : FnsOk P w K mg base n' G CT k := fun i y q => by
  rw [e] at q
  rw [e2]
  by_cases hi : i < n.fns.length
  · rw [List.getElem?_append_left hi] at q
    exact h i y q
  · rw [List.getElem?_append_right (by omega)] at q
    have : i = n.fns.length := by
      have := (List.getElem?_eq_some_iff.mp q).1
      simp at this
      omega
    subst this
    rw [Nat.sub_self] at q
    cases q
    exact ⟨f, fd, ps, hm, hk, F, hb⟩
end
theorem ExsOk.same {P : Program} {w : World} {K : PySem.W.Frag} {mg : Str → Option Value} {base : Heap} {n n' : Nm} {G : Ctx} {CT : Cls} {j k : Nat} (h : ExsOk P w K mg base n G CT j) (l : j ≤ k) (e : n'.exc = n.exc) (e2 : n'.rai = n.rai) : ExsOk P w K mg base n' G CT k :=
  ⟨fun i x q => h.exN i x (e ▸ q), fun i j x a q => h.exM i j x a (e ▸ q), fun p hp x q => by
    obtain ⟨a, b, c⟩ := h.exR p (e2 ▸ hp) x (e ▸ q)
    exact ⟨Nat.le_trans a l, b, c⟩⟩
end MP
namespace MP
open PySem PySem.Spec PyProof.Rows L2
def Flat (k : Nat) (d : D) : Prop := d.pure = true ∧ d.py.canLay0 = true ∧ d.py.depth ≤ k
theorem Fine.fl {k w : Nat} {d : D} (h : Fine k w d) : Flat k d := ⟨h.1, h.2.1, h.2.2.1⟩
theorem Flat.mono {k l : Nat} {d : D} (h : Flat k d) (a : k ≤ l) : Flat l d := ⟨h.1, h.2.1, Nat.le_trans h.2.2 a⟩
theorem Flat.ok {k : Nat} {d : D} (h : Flat k d) (hk : k ≤ 64) : d.flat = true := by
  unfold D.flat SeqAt.shaped
  rw [h.1, h.2.1]
  simp only [Bool.true_and, decide_eq_true_eq]
  exact Nat.le_trans h.2.2 hk
theorem Flat.non {k : Nat} : Flat k .non := ⟨rfl, rfl, Nat.zero_le _⟩
theorem Flat.bl {k : Nat} (b : Bool) : Flat k (.bl b) := ⟨rfl, rfl, Nat.zero_le _⟩
theorem Flat.int {k : Nat} (i : Int) : Flat k (.int i) := ⟨rfl, rfl, Nat.zero_le _⟩
theorem Flat.str {k : Nat} {x : Str} (h : PyData.strOk x = true) : Flat k (.str x) := ⟨rfl, h, Nat.zero_le _⟩
theorem flats {k : Nat} : ∀ {xs : List D}, (∀ x ∈ xs, Flat k x) → D.pures xs = true ∧ PyData.canLayAll0 (D.pys xs) = true ∧ PyData.depthAll (D.pys xs) ≤ k
  | [], _ => ⟨rfl, rfl, Nat.zero_le _⟩
  | x :: r, h => by
    obtain ⟨a1, a2, a3⟩ := h x List.mem_cons_self
    obtain ⟨b1, b2, b3⟩ := flats (xs := r) fun y hy => h y (List.mem_cons_of_mem _ hy)
    simp only [D.pures, D.pys, PyData.canLayAll0, PyData.depthAll, Bool.and_eq_true]
    exact ⟨⟨a1, b1⟩, ⟨a2, b2⟩, Nat.max_le.mpr ⟨a3, b3⟩⟩
theorem Flat.tup {k : Nat} {xs : List D} (h : ∀ x ∈ xs, Flat k x) : Flat (k + 1) (.tup xs) := by
  obtain ⟨b1, b2, b3⟩ := flats h
  exact ⟨by simpa only [D.pure] using b1, by simpa only [D.py, PyData.canLay0] using b2, by simp only [D.py, PyData.depth]; omega⟩
theorem Flat.map {k : Nat} {α : Type} {f : α → D} {xs : List α} (h : ∀ x ∈ xs, Flat k (f x)) : Flat (k + 1) (.tup (xs.map f)) := Flat.tup fun x hx => by
  obtain ⟨y, hy, rfl⟩ := List.mem_map.mp hx
  exact h y hy
theorem all2 {p : D → Prop} {a b : D} (ha : p a) (hb : p b) : ∀ x ∈ [a, b], p x := fun x hx => by
  simp only [List.mem_cons, List.not_mem_nil, or_false] at hx
  rcases hx with rfl | rfl
  · exact ha
  · exact hb
theorem all3 {p : D → Prop} {a b c : D} (ha : p a) (hb : p b) (hc : p c) : ∀ x ∈ [a, b, c], p x := fun x hx => by
  simp only [List.mem_cons, List.not_mem_nil, or_false] at hx
  rcases hx with rfl | rfl | rfl
  · exact ha
  · exact hb
  · exact hc
theorem Flat.two {k : Nat} {a b : D} (ha : Flat k a) (hb : Flat k b) : Flat (k + 1) (.tup [a, b]) := Flat.tup (all2 ha hb)
theorem Flat.three {k : Nat} {a b c : D} (ha : Flat k a) (hb : Flat k b) (hc : Flat k c) : Flat (k + 1) (.tup [a, b, c]) := Flat.tup (all3 ha hb hc)
mutual
/-- no truth values within, no cells -/
def D.nobl : D → Bool
  | .bl _ => false
  | .tup xs => D.nobls xs
  | .ref _ => false
  | .ro _ => false
  | _ => true
def D.nobls : List D → Bool
  | [] => true
  | x :: r => D.nobl x && D.nobls r
end
end MP
namespace MP
open PySem PySem.Spec PyProof.Rows L2
def c_law_letters : CSs := (.cons (.asg (.name 2) (.con (.str "abcdefghijklmnopqrstuvwxyz"))) (.cons (.asg (.tup [(.name 3), (.name 4)]) (.tup (.cons (.call i_law_take [0, 1] (.cons (.var 0) (.cons (.con (.int 26)) .nil)) .nil) (.cons (.gc (.call i_law_of [0, 1] (.cons (.var 0) (.cons (.lst (.cons (.con (.int 1)) (.cons (.con (.int 3)) (.cons (.con (.int 5)) (.cons (.con (.int 7)) (.cons (.con (.int 9)) (.cons (.con (.int 11)) (.cons (.con (.int 25)) .nil)))))))) .nil)) .nil)) .nil)))) (.cons (.asg (.name 5) (.op2 .mul (.call i_law_of [0, 1] (.cons (.var 0) (.cons (.var 2) .nil)) .nil) (.gc (.call i_law_of [0, 1] (.cons (.var 0) (.cons (.lst (.cons (.con (.int 0)) (.cons (.con (.int 0)) (.cons (.con (.int 0)) (.cons (.con (.int 1)) (.cons (.con (.int 3)) (.cons (.con (.int 7)) .nil))))))) .nil)) .nil)))) (.cons (.asg (.name 6) (.call i_law_take [0, 1] (.cons (.var 0) (.cons (.op2 .add (.op1 .len (.var 5)) (.con (.int 1))) .nil)) .nil)) (.cons (.ret (.lc [7] (.name 7) (.rng1 (.var 1)) (.con (.bl true)) (.op2 .add (.op2 .add (.sl (.var 5) .no (.some (.var 6))) (.op2 .ix (.var 2) (.op2 .mod (.op2 .add (.var 3) (.op2 .mul (.var 4) (.var 7))) (.con (.int 26))))) (.sl (.var 5) (.some (.var 6)) .no)))) .nil)))))
def N_law_letters : List Str := ["_law_hand_here", "_law_many", "_law_alphabet", "_law_start", "_law_leap", "_law_stem", "_law_spot", "_law_nth"]
/-- a symbol -/
def IsSym (z : Str) : Prop := 1 ≤ z.length ∧ z.length ≤ 8 ∧ ∀ c ∈ z.cps.toList, 97 ≤ c ∧ c ≤ 122
theorem IsSym.ok {z : Str} (h : IsSym z) : PyData.strOk z = true := ok_iff.mpr fun c hc => by have := (h.2.2 c hc).2; omega
theorem IsSym.flat {k : Nat} {z : Str} (h : IsSym z) : Flat k (.str z) := Flat.str h.ok
theorem abc_len : (Str.ofString "abcdefghijklmnopqrstuvwxyz").cps.toList.length = 26 := by decide +kernel
theorem abc_at : ∀ j < 26, (Str.ofString "abcdefghijklmnopqrstuvwxyz").cps.toList.getD j 0 = 97 + j := by decide +kernel
theorem abc_get {i : Int} (h0 : 0 ≤ i) (h1 : i < 26) : atI (Str.ofString "abcdefghijklmnopqrstuvwxyz").cps.toList i = some (97 + i.toNat) := by
  obtain ⟨c, ec, _, ec2⟩ := atI_mem (xs := (Str.ofString "abcdefghijklmnopqrstuvwxyz").cps.toList) h0 (by rw [abc_len]; exact h1)
  have := abc_at i.toNat (by omega)
  rw [List.getD_eq_getElem?_getD, ec2] at this
  rw [ec, ← this]; rfl
theorem abc_mem : ∀ c ∈ (Str.ofString "abcdefghijklmnopqrstuvwxyz").cps.toList, 97 ≤ c ∧ c ≤ 122 := by decide +kernel
theorem sz26 : (Str.ofString "abcdefghijklmnopqrstuvwxyz").length = 26 := by decide +kernel
theorem leap_ne {a lp i j : Int} (hl : lp ∈ ([1, 3, 5, 7, 9, 11, 25] : List Int)) (hi : 0 ≤ i) (hij : i < j) (hj : j < 26) : (a + lp * i) % 26 ≠ (a + lp * j) % 26 := by
  simp only [List.mem_cons, List.not_mem_nil, or_false] at hl
  rcases hl with rfl | rfl | rfl | rfl | rfl | rfl | rfl <;> omega
theorem cut_take (a : Str) (n : Nat) : (cutS a none (some (n : Int))).cps.toList = a.cps.toList.take n := by
  unfold cutS
  show List.take _ (List.drop _ _) = _
  rw [HT.sIx_none, HT.sIx_nat, List.drop_zero, Nat.sub_zero]
  have : a.length = a.cps.toList.length := by simp [Str.length]
  by_cases hn : n ≤ a.length
  · rw [Nat.min_eq_left hn]
  · rw [Nat.min_eq_right (by omega), List.take_of_length_le (by omega), List.take_of_length_le (by omega)]
theorem cut_drop (a : Str) (n : Nat) : (cutS a (some (n : Int)) none).cps.toList = a.cps.toList.drop n := by
  unfold cutS
  show List.take _ (List.drop _ _) = _
  rw [HT.sIx_none, HT.sIx_nat]
  have : a.length = a.cps.toList.length := by simp [Str.length]
  by_cases hn : n ≤ a.length
  · rw [Nat.min_eq_left hn, List.take_of_length_le (by rw [List.length_drop]; omega)]
  · rw [Nat.min_eq_right (by omega), List.drop_eq_nil_of_le (by omega : a.cps.toList.length ≤ n), List.drop_eq_nil_of_le (by omega)]
    simp
theorem cut_both (a : Str) (n : Nat) : (cutS a none (some (n : Int))).length + (cutS a (some (n : Int)) none).length = a.length := by
  have e : ∀ b : Str, b.length = b.cps.toList.length := fun b => by simp [Str.length]
  rw [e, e, cut_take, cut_drop, e, List.length_take, List.length_drop]
  omega
theorem app_toList (a b : Str) : (a ++ b).cps.toList = a.cps.toList ++ b.cps.toList := by
  show (a.cps ++ b.cps).toList = _
  rw [Array.toList_append]
def spLetters : DSp := fun ds mu Q _ => ∃ (h n c : Nat), ds = [.ref h, .int (c : Int)] ∧ c ≤ 26 ∧ Hand mu h (n + 5) ∧
  ∀ (ws : List Str) cell, ws.length = c → ws.Nodup → (∀ z ∈ ws, IsSym z) → HandC n cell → Q (.ref mu.length) (mu.set h cell ++ [.lst (ws.map .str)])
theorem w_letters {G : Ctx} (g1 : G.fn i_law_take = spTake) (g2 : G.fn i_law_of = spOf) {ds : List D} {mu : Store} {Q : QD} {E : QX} (s : spLetters ds mu Q E) : wpSs G c_law_letters (endsOf (gcD mu Q) (gcX mu E)) (startD N_law_letters ds) mu := by
  obtain ⟨h, n, c, rfl, hc, hh, q⟩ := s
  have hl := hh.lt
  (try with_reducible refine nx_in ?_); simp (disch := (first | assumption | omega | rfl | (simp only [List.length_set, List.length_append, List.length_cons, List.length_nil, List.length_map, List.length_range, intsD_len]; omega) | (simp only [List.length_cons, List.length_nil, Nat.zero_add, Nat.reduceAdd, List.take_succ_cons, List.take_zero]))) only [↓wpk, wpI, wpT, withS, asTup, asCons, asNil, onB, onI, onKey, keyOf, onSome, endsOf, startD_n, nones, w1, w2, w3, pre2, pre3, isDct, wSl, wSet, wAug, wDel, seqAt, listAt, lstAt, getAt, putAt, dctAt, itemAt, wSeq, wLock, unlk, post0, newLst, wipeD, dispOf, onDisp, List.map_cons, List.map_nil, List.length_cons, List.length_nil, List.length_map, List.length_append, List.length_set, List.nil_append, List.cons_append, List.append_assoc, List.set_cons_zero, List.set_cons_succ, List.getElem?_cons_zero, List.getElem?_cons_succ, List.append_nil, perm, List.getD_cons_zero, List.getD_cons_succ, Int.toNat_natCast, Nat.reduceAdd, Nat.reduceSub, true_and, and_true, if_true, if_false, Bool.false_eq_true, decide_eq_true_eq, D.isNon, Nat.reduceLT, Nat.reduceLeDiff, Int.reduceLT, Int.reduceLE, Int.reduceToNat, Int.reducePow, Int.reduceMul, Int.reduceNeg, Bool.not_true, Bool.not_false, forall_const, cond_true, cond_false, sizeT_ok, szl_ok, szl_ok2, small_ok, at_lt, at_ge, at_sne, at_seq, set_ge, set_lt, gcE_set, gcE_set0, gcE_ll, gcE_ss, gcE_ssl, gcE_lsl, gcE_l0l, Nat.sub_self, Nat.add_sub_cancel_left, Nat.add_sub_cancel, Int.zero_add, Int.add_zero, Option.getD_some, Option.getD_none, Option.isSome_some, Option.isSome_none, c_law_letters, N_law_letters]
  (try with_reducible refine nx_in ?_); simp (disch := (first | assumption | omega | rfl | (simp only [List.length_set, List.length_append, List.length_cons, List.length_nil, List.length_map, List.length_range, intsD_len]; omega) | (simp only [List.length_cons, List.length_nil, Nat.zero_add, Nat.reduceAdd, List.take_succ_cons, List.take_zero]))) only [↓wpk, wpI, wpT, withS, asTup, asCons, asNil, onB, onI, onKey, keyOf, onSome, endsOf, startD_n, nones, w1, w2, w3, pre2, pre3, isDct, wSl, wSet, wAug, wDel, seqAt, listAt, lstAt, getAt, putAt, dctAt, itemAt, wSeq, wLock, unlk, post0, newLst, wipeD, dispOf, onDisp, List.map_cons, List.map_nil, List.length_cons, List.length_nil, List.length_map, List.length_append, List.length_set, List.nil_append, List.cons_append, List.append_assoc, List.set_cons_zero, List.set_cons_succ, List.getElem?_cons_zero, List.getElem?_cons_succ, List.append_nil, perm, List.getD_cons_zero, List.getD_cons_succ, Int.toNat_natCast, Nat.reduceAdd, Nat.reduceSub, true_and, and_true, if_true, if_false, Bool.false_eq_true, decide_eq_true_eq, D.isNon, Nat.reduceLT, Nat.reduceLeDiff, Int.reduceLT, Int.reduceLE, Int.reduceToNat, Int.reducePow, Int.reduceMul, Int.reduceNeg, Bool.not_true, Bool.not_false, forall_const, cond_true, cond_false, sizeT_ok, szl_ok, szl_ok2, small_ok, at_lt, at_ge, at_sne, at_seq, set_ge, set_lt, gcE_set, gcE_set0, gcE_ll, gcE_ss, gcE_ssl, gcE_lsl, gcE_l0l, Nat.sub_self, Nat.add_sub_cancel_left, Nat.add_sub_cancel, Int.zero_add, Int.add_zero, Option.getD_some, Option.getD_none, Option.isSome_some, Option.isSome_none]
  refine call_to g1 ⟨h, n + 4, _, rfl, by decide, by decide, hh, fun r1 c1 b1 k1 => ?_⟩
  (try with_reducible refine nx_in ?_); simp (disch := (first | assumption | omega | rfl | (simp only [List.length_set, List.length_append, List.length_cons, List.length_nil, List.length_map, List.length_range, intsD_len]; omega) | (simp only [List.length_cons, List.length_nil, Nat.zero_add, Nat.reduceAdd, List.take_succ_cons, List.take_zero]))) only [↓wpk, wpI, wpT, withS, asTup, asCons, asNil, onB, onI, onKey, keyOf, onSome, endsOf, startD_n, nones, w1, w2, w3, pre2, pre3, isDct, wSl, wSet, wAug, wDel, seqAt, listAt, lstAt, getAt, putAt, dctAt, itemAt, wSeq, wLock, unlk, post0, newLst, wipeD, dispOf, onDisp, List.map_cons, List.map_nil, List.length_cons, List.length_nil, List.length_map, List.length_append, List.length_set, List.nil_append, List.cons_append, List.append_assoc, List.set_cons_zero, List.set_cons_succ, List.getElem?_cons_zero, List.getElem?_cons_succ, List.append_nil, perm, List.getD_cons_zero, List.getD_cons_succ, Int.toNat_natCast, Nat.reduceAdd, Nat.reduceSub, true_and, and_true, if_true, if_false, Bool.false_eq_true, decide_eq_true_eq, D.isNon, Nat.reduceLT, Nat.reduceLeDiff, Int.reduceLT, Int.reduceLE, Int.reduceToNat, Int.reducePow, Int.reduceMul, Int.reduceNeg, Bool.not_true, Bool.not_false, forall_const, cond_true, cond_false, sizeT_ok, szl_ok, szl_ok2, small_ok, at_lt, at_ge, at_sne, at_seq, set_ge, set_lt, gcE_set, gcE_set0, gcE_ll, gcE_ss, gcE_ssl, gcE_lsl, gcE_l0l, Nat.sub_self, Nat.add_sub_cancel_left, Nat.add_sub_cancel, Int.zero_add, Int.add_zero, Option.getD_some, Option.getD_none, Option.isSome_some, Option.isSome_none]
  refine call_to g2 ⟨h, n + 3, _, rfl, (Hand.set hl k1).app, .inl ⟨_, .inr ⟨_, (by omega), rfl, by simp; rfl⟩, by simp, by simp, fun r2 c2 m2 k2 => ?_⟩⟩
  obtain ⟨lp, rfl, hlp⟩ : ∃ lp : Int, r2 = .int lp ∧ lp ∈ ([1, 3, 5, 7, 9, 11, 25] : List Int) := by
    simp only [List.mem_cons, List.not_mem_nil, or_false] at m2 ⊢
    rcases m2 with rfl | rfl | rfl | rfl | rfl | rfl | rfl <;> exact ⟨_, rfl, by decide⟩
  have cl2 : c2.cl mu.length := k2.cl
  (try with_reducible refine nx_in ?_); simp (disch := (first | assumption | omega | rfl | (simp only [List.length_set, List.length_append, List.length_cons, List.length_nil, List.length_map, List.length_range, intsD_len]; omega) | (simp only [List.length_cons, List.length_nil, Nat.zero_add, Nat.reduceAdd, List.take_succ_cons, List.take_zero]))) only [↓wpk, wpI, wpT, withS, asTup, asCons, asNil, onB, onI, onKey, keyOf, onSome, endsOf, startD_n, nones, w1, w2, w3, pre2, pre3, isDct, wSl, wSet, wAug, wDel, seqAt, listAt, lstAt, getAt, putAt, dctAt, itemAt, wSeq, wLock, unlk, post0, newLst, wipeD, dispOf, onDisp, List.map_cons, List.map_nil, List.length_cons, List.length_nil, List.length_map, List.length_append, List.length_set, List.nil_append, List.cons_append, List.append_assoc, List.set_cons_zero, List.set_cons_succ, List.getElem?_cons_zero, List.getElem?_cons_succ, List.append_nil, perm, List.getD_cons_zero, List.getD_cons_succ, Int.toNat_natCast, Nat.reduceAdd, Nat.reduceSub, true_and, and_true, if_true, if_false, Bool.false_eq_true, decide_eq_true_eq, D.isNon, Nat.reduceLT, Nat.reduceLeDiff, Int.reduceLT, Int.reduceLE, Int.reduceToNat, Int.reducePow, Int.reduceMul, Int.reduceNeg, Bool.not_true, Bool.not_false, forall_const, cond_true, cond_false, sizeT_ok, szl_ok, szl_ok2, small_ok, at_lt, at_ge, at_sne, at_seq, set_ge, set_lt, gcE_set, gcE_set0, gcE_ll, gcE_ss, gcE_ssl, gcE_lsl, gcE_l0l, Nat.sub_self, Nat.add_sub_cancel_left, Nat.add_sub_cancel, Int.zero_add, Int.add_zero, Option.getD_some, Option.getD_none, Option.isSome_some, Option.isSome_none, D.cl]
  refine call_to g2 ⟨h, n + 2, _, rfl, Hand.set hl k2, .inr ⟨"abcdefghijklmnopqrstuvwxyz", rfl, by decide +kernel, by decide +kernel, fun r3 c3 m3 k3 => ?_⟩⟩
  (try with_reducible refine nx_in ?_); simp (disch := (first | assumption | omega | rfl | (simp only [List.length_set, List.length_append, List.length_cons, List.length_nil, List.length_map, List.length_range, intsD_len]; omega) | (simp only [List.length_cons, List.length_nil, Nat.zero_add, Nat.reduceAdd, List.take_succ_cons, List.take_zero]))) only [↓wpk, wpI, wpT, withS, asTup, asCons, asNil, onB, onI, onKey, keyOf, onSome, endsOf, startD_n, nones, w1, w2, w3, pre2, pre3, isDct, wSl, wSet, wAug, wDel, seqAt, listAt, lstAt, getAt, putAt, dctAt, itemAt, wSeq, wLock, unlk, post0, newLst, wipeD, dispOf, onDisp, List.map_cons, List.map_nil, List.length_cons, List.length_nil, List.length_map, List.length_append, List.length_set, List.nil_append, List.cons_append, List.append_assoc, List.set_cons_zero, List.set_cons_succ, List.getElem?_cons_zero, List.getElem?_cons_succ, List.append_nil, perm, List.getD_cons_zero, List.getD_cons_succ, Int.toNat_natCast, Nat.reduceAdd, Nat.reduceSub, true_and, and_true, if_true, if_false, Bool.false_eq_true, decide_eq_true_eq, D.isNon, Nat.reduceLT, Nat.reduceLeDiff, Int.reduceLT, Int.reduceLE, Int.reduceToNat, Int.reducePow, Int.reduceMul, Int.reduceNeg, Bool.not_true, Bool.not_false, forall_const, cond_true, cond_false, sizeT_ok, szl_ok, szl_ok2, small_ok, at_lt, at_ge, at_sne, at_seq, set_ge, set_lt, gcE_set, gcE_set0, gcE_ll, gcE_ss, gcE_ssl, gcE_lsl, gcE_l0l, Nat.sub_self, Nat.add_sub_cancel_left, Nat.add_sub_cancel, Int.zero_add, Int.add_zero, Option.getD_some, Option.getD_none, Option.isSome_some, Option.isSome_none]
  refine call_to g2 ⟨h, n + 1, _, rfl, (Hand.set hl k3).app, .inl ⟨_, .inr ⟨_, (by omega), rfl, by simp; rfl⟩, by simp, by simp, fun r4 c4 m4 k4 => ?_⟩⟩
  obtain ⟨kk, rfl, hkk⟩ : ∃ k : Int, r4 = .int k ∧ k ∈ ([0, 1, 3, 7] : List Int) := by
    simp only [List.mem_cons, List.not_mem_nil, or_false] at m4 ⊢
    rcases m4 with rfl | rfl | rfl | rfl | rfl | rfl <;> exact ⟨_, rfl, by decide⟩
  have hk7 : 0 ≤ kk ∧ kk ≤ 7 := by
    simp only [List.mem_cons, List.not_mem_nil, or_false] at hkk
    rcases hkk with rfl | rfl | rfl | rfl <;> decide
  have cl4 : c4.cl mu.length := k4.cl
  obtain ⟨stem, hst⟩ : ∃ stem : Str, stem = ⟨(List.replicate kk.toNat [r3]).flatten.toArray⟩ := ⟨_, rfl⟩
  have stem_in : ∀ c ∈ stem.cps.toList, 97 ≤ c ∧ c ≤ 122 := by
    rw [hst]
    intro c hc
    have : c ∈ (List.replicate kk.toNat [r3]).flatten := hc
    obtain ⟨l, hl, hc⟩ := List.mem_flatten.mp this
    have := List.eq_of_mem_replicate hl
    subst this
    have : c = r3 := by simpa using hc
    rw [this]; exact abc_mem r3 m3
  have st_len : stem.length ≤ 7 := by
    rw [hst]
    show (List.toArray _).size ≤ 7
    rw [List.size_toArray, List.length_flatten, List.map_replicate, List.sum_replicate_nat]
    simp only [List.length_cons, List.length_nil]
    omega
  have hs1 : (⟨#[r3]⟩ : Str).length * kk.toNat ≤ 16000000 := by show 1 * kk.toNat ≤ _; omega
  (try with_reducible refine nx_in ?_); simp (disch := (first | assumption | omega | rfl | (simp only [List.length_set, List.length_append, List.length_cons, List.length_nil, List.length_map, List.length_range, intsD_len]; omega) | (simp only [List.length_cons, List.length_nil, Nat.zero_add, Nat.reduceAdd, List.take_succ_cons, List.take_zero]))) only [↓wpk, wpI, wpT, withS, asTup, asCons, asNil, onB, onI, onKey, keyOf, onSome, endsOf, startD_n, nones, w1, w2, w3, pre2, pre3, isDct, wSl, wSet, wAug, wDel, seqAt, listAt, lstAt, getAt, putAt, dctAt, itemAt, wSeq, wLock, unlk, post0, newLst, wipeD, dispOf, onDisp, List.map_cons, List.map_nil, List.length_cons, List.length_nil, List.length_map, List.length_append, List.length_set, List.nil_append, List.cons_append, List.append_assoc, List.set_cons_zero, List.set_cons_succ, List.getElem?_cons_zero, List.getElem?_cons_succ, List.append_nil, perm, List.getD_cons_zero, List.getD_cons_succ, Int.toNat_natCast, Nat.reduceAdd, Nat.reduceSub, true_and, and_true, if_true, if_false, Bool.false_eq_true, decide_eq_true_eq, D.isNon, Nat.reduceLT, Nat.reduceLeDiff, Int.reduceLT, Int.reduceLE, Int.reduceToNat, Int.reducePow, Int.reduceMul, Int.reduceNeg, Bool.not_true, Bool.not_false, forall_const, cond_true, cond_false, sizeT_ok, szl_ok, szl_ok2, small_ok, at_lt, at_ge, at_sne, at_seq, set_ge, set_lt, gcE_set, gcE_set0, gcE_ll, gcE_ss, gcE_ssl, gcE_lsl, gcE_l0l, Nat.sub_self, Nat.add_sub_cancel_left, Nat.add_sub_cancel, Int.zero_add, Int.add_zero, Option.getD_some, Option.getD_none, Option.isSome_some, Option.isSome_none, D.cl]
  rw [← hst]
  (try with_reducible refine nx_in ?_); simp (disch := (first | assumption | omega | rfl | (simp only [List.length_set, List.length_append, List.length_cons, List.length_nil, List.length_map, List.length_range, intsD_len]; omega) | (simp only [List.length_cons, List.length_nil, Nat.zero_add, Nat.reduceAdd, List.take_succ_cons, List.take_zero]))) only [↓wpk, wpI, wpT, withS, asTup, asCons, asNil, onB, onI, onKey, keyOf, onSome, endsOf, startD_n, nones, w1, w2, w3, pre2, pre3, isDct, wSl, wSet, wAug, wDel, seqAt, listAt, lstAt, getAt, putAt, dctAt, itemAt, wSeq, wLock, unlk, post0, newLst, wipeD, dispOf, onDisp, List.map_cons, List.map_nil, List.length_cons, List.length_nil, List.length_map, List.length_append, List.length_set, List.nil_append, List.cons_append, List.append_assoc, List.set_cons_zero, List.set_cons_succ, List.getElem?_cons_zero, List.getElem?_cons_succ, List.append_nil, perm, List.getD_cons_zero, List.getD_cons_succ, Int.toNat_natCast, Nat.reduceAdd, Nat.reduceSub, true_and, and_true, if_true, if_false, Bool.false_eq_true, decide_eq_true_eq, D.isNon, Nat.reduceLT, Nat.reduceLeDiff, Int.reduceLT, Int.reduceLE, Int.reduceToNat, Int.reducePow, Int.reduceMul, Int.reduceNeg, Bool.not_true, Bool.not_false, forall_const, cond_true, cond_false, sizeT_ok, szl_ok, szl_ok2, small_ok, at_lt, at_ge, at_sne, at_seq, set_ge, set_lt, gcE_set, gcE_set0, gcE_ll, gcE_ss, gcE_ssl, gcE_lsl, gcE_l0l, Nat.sub_self, Nat.add_sub_cancel_left, Nat.add_sub_cancel, Int.zero_add, Int.add_zero, Option.getD_some, Option.getD_none, Option.isSome_some, Option.isSome_none]
  refine call_to g1 ⟨h, n, _, rfl, by omega, by omega, Hand.set hl k4, fun r5 c5 b5 k5 => ?_⟩
  (try with_reducible refine nx_in ?_); simp (disch := (first | assumption | omega | rfl | (simp only [List.length_set, List.length_append, List.length_cons, List.length_nil, List.length_map, List.length_range, intsD_len]; omega) | (simp only [List.length_cons, List.length_nil, Nat.zero_add, Nat.reduceAdd, List.take_succ_cons, List.take_zero]))) only [↓wpk, wpI, wpT, withS, asTup, asCons, asNil, onB, onI, onKey, keyOf, onSome, endsOf, startD_n, nones, w1, w2, w3, pre2, pre3, isDct, wSl, wSet, wAug, wDel, seqAt, listAt, lstAt, getAt, putAt, dctAt, itemAt, wSeq, wLock, unlk, post0, newLst, wipeD, dispOf, onDisp, List.map_cons, List.map_nil, List.length_cons, List.length_nil, List.length_map, List.length_append, List.length_set, List.nil_append, List.cons_append, List.append_assoc, List.set_cons_zero, List.set_cons_succ, List.getElem?_cons_zero, List.getElem?_cons_succ, List.append_nil, perm, List.getD_cons_zero, List.getD_cons_succ, Int.toNat_natCast, Nat.reduceAdd, Nat.reduceSub, true_and, and_true, if_true, if_false, Bool.false_eq_true, decide_eq_true_eq, D.isNon, Nat.reduceLT, Nat.reduceLeDiff, Int.reduceLT, Int.reduceLE, Int.reduceToNat, Int.reducePow, Int.reduceMul, Int.reduceNeg, Bool.not_true, Bool.not_false, forall_const, cond_true, cond_false, sizeT_ok, szl_ok, szl_ok2, small_ok, at_lt, at_ge, at_sne, at_seq, set_ge, set_lt, gcE_set, gcE_set0, gcE_ll, gcE_ss, gcE_ssl, gcE_lsl, gcE_l0l, Nat.sub_self, Nat.add_sub_cancel_left, Nat.add_sub_cancel, Int.zero_add, Int.add_zero, Option.getD_some, Option.getD_none, Option.isSome_some, Option.isSome_none]
  have lpb : -100 < lp ∧ lp < 100 := by
    simp only [List.mem_cons, List.not_mem_nil, or_false] at hlp
    rcases hlp with rfl | rfl | rfl | rfl | rfl | rfl | rfl <;> decide
  refine lcGo_map (fun i => D.str (cutS stem none (some (r5 : Int)) ++ ⟨#[97 + (((r1 : Int) + lp * (i : Nat)) % 26).toNat]⟩ ++ cutS stem (some (r5 : Int)) none)) trivial (fun i x k ex hk => ?_) ?_
  · obtain ⟨hi, rfl⟩ := intsD_get ex
    rw [Int.zero_add]
    have cl1 := cut_len stem none (some (r5 : Int))
    have cl2 := cut_len stem (some (r5 : Int)) none
    have c3 : (cutS stem none (some (r5 : Int)) ++ (⟨#[97 + (((r1 : Int) + lp * (i : Nat)) % 26).toNat]⟩ : Str)).length = (cutS stem none (some (r5 : Int))).length + 1 := app_len _ _
    have e26 := sz26
    have o1 : (⟨#[97 + (((r1 : Int) + lp * (i : Nat)) % 26).toNat]⟩ : Str).length = 1 := rfl
    (try with_reducible refine nx_in ?_); simp (disch := (first | assumption | omega | rfl | (simp only [List.length_set, List.length_append, List.length_cons, List.length_nil, List.length_map, List.length_range, intsD_len]; omega) | (simp only [List.length_cons, List.length_nil, Nat.zero_add, Nat.reduceAdd, List.take_succ_cons, List.take_zero]))) only [↓wpk, wpI, wpT, withS, asTup, asCons, asNil, onB, onI, onKey, keyOf, onSome, endsOf, startD_n, nones, w1, w2, w3, pre2, pre3, isDct, wSl, wSet, wAug, wDel, seqAt, listAt, lstAt, getAt, putAt, dctAt, itemAt, wSeq, wLock, unlk, post0, newLst, wipeD, dispOf, onDisp, List.map_cons, List.map_nil, List.length_cons, List.length_nil, List.length_map, List.length_append, List.length_set, List.nil_append, List.cons_append, List.append_assoc, List.set_cons_zero, List.set_cons_succ, List.getElem?_cons_zero, List.getElem?_cons_succ, List.append_nil, perm, List.getD_cons_zero, List.getD_cons_succ, Int.toNat_natCast, Nat.reduceAdd, Nat.reduceSub, true_and, and_true, if_true, if_false, Bool.false_eq_true, decide_eq_true_eq, D.isNon, Nat.reduceLT, Nat.reduceLeDiff, Int.reduceLT, Int.reduceLE, Int.reduceToNat, Int.reducePow, Int.reduceMul, Int.reduceNeg, Bool.not_true, Bool.not_false, forall_const, cond_true, cond_false, sizeT_ok, szl_ok, szl_ok2, small_ok, at_lt, at_ge, at_sne, at_seq, set_ge, set_lt, gcE_set, gcE_set0, gcE_ll, gcE_ss, gcE_ssl, gcE_lsl, gcE_l0l, Nat.sub_self, Nat.add_sub_cancel_left, Nat.add_sub_cancel, Int.zero_add, Int.add_zero, Option.getD_some, Option.getD_none, Option.isSome_some, Option.isSome_none, lcT, abc_get (i := ((r1 : Int) + lp * (i : Nat)) % 26) (Int.emod_nonneg _ (by decide)) (Int.emod_lt_of_pos _ (by decide)), mulR', c3, e26, o1]
    exact hk
  · rw [intsD_len, List.length_set]
    have hd : D.cl mu.length (.ref mu.length) → False := by simp [D.cl]
    refine gc_any (by
      have := q ((List.range c).map fun i => cutS stem none (some (r5 : Int)) ++ ⟨#[97 + (((r1 : Int) + lp * (i : Nat)) % 26).toNat]⟩ ++ cutS stem (some (r5 : Int)) none) c5 (by simp) ?_ (fun z hz => ?_) k5
      · rw [List.map_map] at this
        exact this
      · rw [List.Nodup, List.pairwise_map]
        refine List.Pairwise.imp_of_mem (fun {i j} hi hj lt e => ?_) (List.pairwise_lt_range (n := c))
        have hi := List.mem_range.mp hi
        have hj := List.mem_range.mp hj
        have e2 := app_inj e
        have a := Int.emod_nonneg ((r1 : Int) + lp * (i : Nat)) (show (26 : Int) ≠ 0 by decide)
        have b := Int.emod_nonneg ((r1 : Int) + lp * (j : Nat)) (show (26 : Int) ≠ 0 by decide)
        exact leap_ne (a := r1) hlp (show (0 : Int) ≤ (i : Nat) by omega) (show ((i : Nat) : Int) < (j : Nat) by omega) (by omega) (by omega)
      · obtain ⟨j, hj, rfl⟩ := List.mem_map.mp hz
        have cb := cut_both stem r5
        have hp := Int.emod_nonneg ((r1 : Int) + lp * (j : Nat)) (show (26 : Int) ≠ 0 by decide)
        have hq := Int.emod_lt_of_pos ((r1 : Int) + lp * (j : Nat)) (show (0 : Int) < 26 by decide)
        refine ⟨by rw [app_len, app_len, one_len]; omega, by rw [app_len, app_len, one_len]; omega, fun c hc => ?_⟩
        rw [app_toList, app_toList, cut_take, cut_drop, List.mem_append, List.mem_append] at hc
        rcases hc with (hc | hc) | hc
        · exact stem_in c (List.mem_of_mem_take hc)
        · have : c = 97 + (((r1 : Int) + lp * (j : Nat)) % 26).toNat := by simpa using hc
          omega
        · exact stem_in c (List.mem_of_mem_drop hc))
end MP
namespace MP
open PySem PySem.Spec PyProof.Rows L2
end MP
namespace MP
open PySem PySem.Spec PyProof.Rows L2
/-- what is promised of the calls within -/
def prevF (F : Nat → DSp) : Nat → DSp
  | 0 => fun _ _ _ _ => False
  | d + 1 => F d
def recG (G : Ctx) (i : Nat) (F : Nat → DSp) (d : Nat) : Ctx := { G with fn := fun j => if j = i then prevF F d else G.fn j }
/-- some depth up to a bound -/
def upTo (F : Nat → DSp) (m : Nat) : DSp := fun ds mu Q E => ∃ d, d ≤ m ∧ F d ds mu Q E
section
variable {P : Program} {w : World} {K : PySem.W.Frag} {mg : Str → Option Value} {base : Heap} {n n' : Nm} {G G' : Ctx} {CT : Cls} {k : Nat} {f : Addr} {fd : FuncData} {ps : List Str} {x : Str} {F : Nat → DSp}
theorem FnsOk.ctx (h : FnsOk P w K mg base n G CT k) (e : ∀ j y, n.fns[j]? = some y → G'.fn j = G.fn j) : FnsOk P w K mg base n G' CT k := fun i y q => by
  obtain ⟨f, fd, ps, a, b, c, d⟩ := h i y q
  exact ⟨f, fd, ps, a, b, by rw [e i y q]; exact c, d⟩
theorem FnG.never : FnG P w K mg base k f fd ps (liftF K CT fun _ _ _ _ => False) := ⟨fun _ _ _ _ _ _ _ _ _ _ _ _ _ _ _ q => by
  obtain ⟨_, _, _, _, _, _, _, z, _⟩ := q
  exact z.elim⟩
theorem rec_fn (S : FnsOk P w K mg base n G CT k) (e : n'.fns = n.fns ++ [x]) (e2 : n'.kwp = n.kwp) (hm : mg x = some (.ref f)) (hk : PySem.W.keepIn K (.ref f) = true)
    (hb : ∀ np ks pm, (n.fns.length, np, ks, pm) ∈ n.kwp → pm.length = ps.length ∧ ∀ (s : Shared) (us ws : List Value), K.In s.heap → us.length = np → ws.length = ks.length → BindsTo s fd ⟨us, ks.zip ws⟩ (ps.zip (permU pm (us ++ ws))))
    (step : ∀ d k', k ≤ k' → FnsOk P w K mg base n' (recG G n.fns.length F d) CT k' → FnG P w K mg base (k' + 1) f fd ps (liftF K CT (F d))) : ∀ d, FnG P w K mg base (k + d + 1) f fd ps (liftF K CT (F d)) := by
  intro d
  induction d with
  | zero =>
    refine step 0 k (Nat.le_refl _) ((S.ctx fun j y q => ?_).snoc e e2 hm hk ?_ hb)
    · have := (List.getElem?_eq_some_iff.mp q).1
      show (if j = n.fns.length then _ else _) = _
      rw [if_neg (by omega)]
    · show FnG P w K mg base k f fd ps (liftF K CT (if n.fns.length = n.fns.length then prevF F 0 else _))
      rw [if_pos rfl]
      exact FnG.never
  | succ d ih =>
    refine step (d + 1) (k + d + 1) (by omega) (((S.mono (show k ≤ k + d + 1 by omega)).ctx fun j y q => ?_).snoc e e2 hm hk ?_ hb)
    · have := (List.getElem?_eq_some_iff.mp q).1
      show (if j = n.fns.length then _ else _) = _
      rw [if_neg (by omega)]
    · show FnG P w K mg base (k + d + 1) f fd ps (liftF K CT (if n.fns.length = n.fns.length then prevF F (d + 1) else _))
      rw [if_pos rfl]
      exact ih
theorem rec_all (h : ∀ d, FnG P w K mg base (k + d + 1) f fd ps (liftF K CT (F d))) (m : Nat) : FnG P w K mg base (k + m + 1) f fd ps (liftF K CT (upTo F m)) := ⟨fun A outer s H args us vs Q E hr hg e b r l q => by
  obtain ⟨be, mu, ds, Qd, Ed, a1, a2, ⟨d, hd, a3⟩, a4, a5⟩ := q
  exact ((h d).mono (by omega)).run A outer s H args us vs Q E hr hg e b r l ⟨be, mu, ds, Qd, Ed, a1, a2, a3, a4, a5⟩⟩
end
end MP
namespace MP
open PySem PySem.Spec PyProof.Rows L2
/-- a value: nested at most k deep, its rows, texts and numbers at most n; its own cells lie behind h -/
inductive Va (mu : Store) (h n : Nat) : Nat → D → Prop
  | non {k : Nat} : Va mu h n k .non
  | bl {k : Nat} (b : Bool) : Va mu h n k (.bl b)
  | int {k : Nat} {i : Int} (hi : i.natAbs ≤ n) : Va mu h n k (.int i)
  | str {k : Nat} {x : Str} (a : ∀ c ∈ x.cps.toList, c < 128) (l : x.length ≤ n) : Va mu h n k (.str x)
  | tup {k : Nat} {xs : List D} (a : ∀ x ∈ xs, Va mu h n k x) (l : xs.length ≤ n) : Va mu h n (k + 1) (.tup xs)
  | lst {k r : Nat} {xs : List D} (hr : h < r) (e : mu[r]? = some (.lst xs)) (a : ∀ x ∈ xs, Va mu h n k x) (l : xs.length ≤ n) : Va mu h n (k + 1) (.ref r)
  | dct {k r : Nat} {lk : Bool} (hr : h < r) (e : mu[r]? = some (.dct [] lk)) : Va mu h n (k + 1) (.ref r)
theorem Va.mono {mu : Store} {h n k : Nat} {d : D} (v : Va mu h n k d) : ∀ {n' k' : Nat}, n ≤ n' → k ≤ k' → Va mu h n' k' d := by
  induction v with
  | non => intro n' k' a b; exact .non
  | bl b => intro n' k' _ _; exact .bl b
  | int hi => intro n' k' a _; exact .int (by omega)
  | str a l => intro n' k' c _; exact .str a (by omega)
  | tup a l ih => intro n' k' c d; obtain ⟨j, rfl⟩ : ∃ j, k' = j + 1 := ⟨k' - 1, by omega⟩; exact .tup (fun x hx => ih x hx c (by omega)) (by omega)
  | lst hr e a l ih => intro n' k' c d; obtain ⟨j, rfl⟩ : ∃ j, k' = j + 1 := ⟨k' - 1, by omega⟩; exact .lst hr e (fun x hx => ih x hx c (by omega)) (by omega)
  | dct hr e => intro n' k' c d; obtain ⟨j, rfl⟩ : ∃ j, k' = j + 1 := ⟨k' - 1, by omega⟩; exact .dct hr e
/-- a store that keeps all behind h -/
def Keeps (mu nu : Store) (h : Nat) : Prop := ∀ r c, h < r → mu[r]? = some c → nu[r]? = some c
theorem Keeps.refl {mu : Store} {h : Nat} : Keeps mu mu h := fun _ _ _ e => e
theorem Keeps.trans {mu nu xi : Store} {h : Nat} (a : Keeps mu nu h) (b : Keeps nu xi h) : Keeps mu xi h := fun r c l e => b r c l (a r c l e)
theorem Keeps.set {mu : Store} {h : Nat} {c : Cell} : Keeps mu (mu.set h c) h := fun r c' l e => by rw [List.getElem?_set_ne (by omega)]; exact e
theorem Keeps.app {mu l : Store} {h : Nat} : Keeps mu (mu ++ l) h := fun r c' _ e => by rw [List.getElem?_append_left (List.getElem?_eq_some_iff.mp e).1]; exact e
theorem Va.keep {mu nu : Store} {h n k : Nat} {d : D} (v : Va mu h n k d) (K : Keeps mu nu h) : Va nu h n k d := by
  induction v with
  | non => exact .non
  | bl b => exact .bl b
  | int hi => exact .int hi
  | str a l => exact .str a l
  | tup a l ih => exact .tup ih l
  | lst hr e a l ih => exact .lst hr (K _ _ hr e) ih l
  | dct hr e => exact .dct hr (K _ _ hr e)
def wb (n : Nat) : Nat → Nat
  | 0 => n
  | k + 1 => n * (wb n k + 1) + n
theorem wb_n (n : Nat) : ∀ k, n ≤ wb n k
  | 0 => Nat.le_refl _
  | k + 1 => by unfold wb; omega
theorem vas_deep {mu : Store} {k w : Nat} : ∀ {xs : List D}, (∀ x ∈ xs, ∃ p, DeepK mu x p ∧ p.showable = true ∧ p.leavesShort 13 = true ∧ p.depth ≤ k ∧ p.bulk ≤ w) →
    ∃ ps, DeepsK mu xs ps ∧ PyData.showableAll ps = true ∧ PyData.leavesShortAll 13 ps = true ∧ PyData.depthAll ps ≤ k ∧ PyData.bulkAll ps ≤ xs.length * (w + 1)
  | [], _ => ⟨[], .nil, rfl, rfl, Nat.zero_le _, Nat.zero_le _⟩
  | x :: xs, h => by
    obtain ⟨p, a, b, c, d, e⟩ := h x (List.mem_cons_self ..)
    obtain ⟨ps, a2, b2, c2, d2, e2⟩ := vas_deep fun y hy => h y (List.mem_cons_of_mem _ hy)
    refine ⟨p :: ps, .cons a a2, by simp only [PyData.showableAll, b, b2, Bool.and_self], by simp only [PyData.leavesShortAll, c, c2, Bool.and_self], ?_, ?_⟩
    · simp only [PyData.depthAll]; exact Nat.max_le.mpr ⟨d, d2⟩
    · simp only [PyData.bulkAll, List.length_cons, Nat.succ_mul]; omega
theorem Va.deep {mu : Store} {h n k : Nat} {d : D} (v : Va mu h n k d) (hn : n ≤ 100000) : ∃ p, DeepK mu d p ∧ p.showable = true ∧ p.leavesShort 13 = true ∧ p.depth ≤ k ∧ p.bulk ≤ wb n k := by
  induction v with
  | non => exact ⟨_, .non, rfl, rfl, Nat.zero_le _, Nat.zero_le _⟩
  | bl b => exact ⟨_, .bl b, rfl, rfl, Nat.zero_le _, Nat.zero_le _⟩
  | @int k i hi =>
    have f := fine_int (k := 0) (w := 0) (i := i) (by omega)
    exact ⟨_, .int _, f.2.2.2.2.2, f.2.2.2.2.1, Nat.zero_le _, Nat.zero_le _⟩
  | @str k x a l => 
    refine ⟨_, .str _, rfl, ?_, Nat.zero_le _, ?_⟩
    · show (x.cps.toList.all fun c => decide (c < 16 ^ 8)) = true
      exact List.all_eq_true.mpr fun c hc => decide_eq_true (by have := a c hc; omega)
    · show x.length ≤ _
      have := wb_n n k
      omega
  | @tup k xs a l ih =>
    obtain ⟨ps, a, b, c, d, e⟩ := vas_deep ih
    refine ⟨_, .tup a, by simp only [PyData.showable, b], by simp only [PyData.leavesShort, c], by simp only [PyData.depth]; omega, ?_⟩
    have := Nat.mul_le_mul_right (wb n k + 1) l
    simp only [PyData.bulk, wb]; omega
  | @lst k r xs hr e0 a l ih =>
    obtain ⟨ps, a, b, c, d, e⟩ := vas_deep ih
    refine ⟨_, .lst e0 a, by simp only [PyData.showable, b], by simp only [PyData.leavesShort, c], by simp only [PyData.depth]; omega, ?_⟩
    have := Nat.mul_le_mul_right (wb n k + 1) l
    simp only [PyData.bulk, wb]; omega
  | dct hr e => exact ⟨_, .dct e (ps := []) .nil, rfl, rfl, by simp [PyData.depth, PyData.depthKv], Nat.zero_le _⟩
/-- it can be shown -/
theorem Va.repr {mu : Store} {h n k : Nat} {d : D} (v : Va mu h n k d) (hn : n ≤ 100000) (hk : k ≤ 64) (hw : wb n k ≤ 2 ^ 20) : ∃ p, DeepK mu d p ∧ p.showable = true ∧ p.depth ≤ 64 ∧ sizeT p.shown.length := by
  obtain ⟨p, a, b, c, d, e⟩ := v.deep hn
  exact ⟨p, a, b, by omega, PyData.shown_fits_bulk (B := 13) (by decide) (by decide) c (by omega)⟩
theorem cls_of {n : Nat} : ∀ {xs : List D}, (∀ x ∈ xs, x.cl n) → D.cls n xs
  | [], _ => by simp only [D.cls]
  | x :: xs, h => by
    simp only [D.cls]
    exact ⟨h x (List.mem_cons_self ..), cls_of fun y hy => h y (List.mem_cons_of_mem _ hy)⟩
theorem Va.cl {mu : Store} {h n k : Nat} {d : D} (v : Va mu h n k d) : d.cl mu.length := by
  induction v with
  | non => trivial
  | bl b => trivial
  | int hi => trivial
  | str a l => trivial
  | tup a l ih => exact cls_of ih
  | lst hr e a l ih => exact (List.getElem?_eq_some_iff.mp e).1
  | dct hr e => exact (List.getElem?_eq_some_iff.mp e).1
def abcL : List Nat := (Str.ofString "abcdefghijklmnopqrstuvwxyz").cps.toList
def symD : D → Bool
  | .str z => decide (1 ≤ z.length) && decide (z.length ≤ 8) && z.cps.toList.all fun c => decide (c ∈ abcL)
  | _ => false
def wordD : D → Bool
  | .tup xs => decide (xs.length ≤ 200) && xs.all symD
  | _ => false
end MP
namespace MP
open PySem PySem.Spec PyProof.Rows L2
section
variable {α : Type} {g : α → D} {turn : D → Store → (Option D → Store → Prop) → Prop} {still : Store → Prop} {fin : List D → Store → Prop} {ys : List α} {mu : Store}
theorem lcGo_each (e : α → D) (hst : still mu) (hs : ∀ a ∈ ys, ∀ k : Option D → Store → Prop, k (some (e a)) mu → turn (g a) mu k) (hd : fin (ys.map e) mu) : lcGo turn still fin (ys.map g) [] mu :=
  lcGo_of (fun a => some (e a)) hst hs (by rw [List.filterMap_eq_map']; exact hd)
end
theorem onBl_fn {α : Type} (p : α → Bool) (l : List α) (k : List Bool → Prop) : onBl (l.map fun a => D.bl (p a)) k = k (l.map p) := by
  have : (l.map fun a => D.bl (p a)) = (l.map p).map D.bl := by rw [List.map_map]; rfl
  rw [this, onBl_map]
end MP
namespace MP
open PySem PySem.Spec PyProof.Rows L2
def c_is_symbol : CSs := (.cons (.ite (.or (.not (.op1 (.isinst .str) (.var 0))) (.not (.chain .le .le (.con (.int 1)) (.op1 .len (.var 0)) (.con (.int 8))))) (.cons (.ret (.con (.bl false))) .nil) .nil) (.cons (.ret (.gc (.op1 .all (.lc [1] (.name 1) (.seq (.var 0)) (.con (.bl true)) (.op2 .inn (.var 1) (.con (.str "abcdefghijklmnopqrstuvwxyz"))))))) .nil))
def N_is_symbol : List Str := ["value", "letter"]
def c_is_word (i_is_symbol : Nat) : CSs := (.cons (.ret (.and (.op1 (.isinst .tuple) (.var 0)) (.and (.op2 .le (.op1 .len (.var 0)) (.con (.int 200))) (.gc (.op1 .all (.lc [1] (.name 1) (.seq (.var 0)) (.con (.bl true)) (.call i_is_symbol [0] (.cons (.var 1) .nil) .nil))))))) .nil)
def N_is_word : List Str := ["value", "symbol"]
def c_law_is_symbol : CSs := (.cons (.ite (.or (.not (.op1 (.isinst .str) (.var 0))) (.not (.chain .le .le (.con (.int 1)) (.op1 .len (.var 0)) (.con (.int 8))))) (.cons (.ret (.con (.bl false))) .nil) .nil) (.cons (.ret (.gc (.op1 .all (.lc [1] (.name 1) (.seq (.var 0)) (.con (.bl true)) (.op2 .inn (.var 1) (.con (.str "abcdefghijklmnopqrstuvwxyz"))))))) .nil))
def N_law_is_symbol : List Str := ["_law_thing", "_law_sign"]
def c_law_is_row (i_law_is_symbol : Nat) : CSs := (.cons (.ret (.and (.op1 (.isinst .tuple) (.var 0)) (.and (.op2 .le (.op1 .len (.var 0)) (.con (.int 200))) (.gc (.op1 .all (.lc [1] (.name 1) (.seq (.var 0)) (.con (.bl true)) (.call i_law_is_symbol [0] (.cons (.var 1) .nil) .nil))))))) .nil)
def N_law_is_row : List Str := ["_law_thing", "_law_sign"]
def c_law_right_v10 (i_law_is_row i_law_is_symbol i_is_word i_is_symbol : Nat) : CSs := (.cons (.asg (.name 1) (.op1 .reprd (.var 0))) (.cons (.asg (.name 2) (.lst (.cons (.call i_is_symbol [0] (.cons (.var 0) .nil) .nil) (.cons (.call i_is_word [0] (.cons (.var 0) .nil) .nil) (.cons (.call i_is_symbol [0] .nil (.cons (.var 0) .nil)) (.cons (.call i_is_word [0] .nil (.cons (.var 0) .nil)) .nil)))))) (.cons (.ret (.and (.gc (.op2 .eq (.op1 .reprd (.var 2)) (.gc (.op1 .reprd (.op2 .mul (.lst (.cons (.call i_law_is_symbol [0] (.cons (.var 0) .nil) .nil) (.cons (.call i_law_is_row [0] (.cons (.var 0) .nil) .nil) .nil))) (.con (.int 2))))))) (.op2 .eq (.op1 .reprd (.var 0)) (.var 1)))) .nil)))
def N_law_right_v10 : List Str := ["_law_thing", "_law_kept", "_law_told"]
def spSymD : DSp := fun ds mu Q _ => ∃ (d : D) (h n k : Nat), ds = [d] ∧ Va mu h n k d ∧ n ≤ 100000 ∧ Q (.bl (symD d)) mu
def spWordD : DSp := fun ds mu Q _ => ∃ (d : D) (h n k : Nat), ds = [d] ∧ Va mu h n k d ∧ n ≤ 100000 ∧ Q (.bl (wordD d)) mu
theorem lcGo_own {turn : D → Store → (Option D → Store → Prop) → Prop} {still : Store → Prop} {fin : List D → Store → Prop} {ys : List D} {mu : Store} (e : D → D) (hst : still mu) (hs : ∀ a ∈ ys, ∀ k : Option D → Store → Prop, k (some (e a)) mu → turn a mu k) (hd : fin (ys.map e) mu) : lcGo turn still fin ys [] mu := by
  have := lcGo_each (g := id) (ys := ys) e hst hs hd
  rwa [List.map_id] at this
theorem chars_map (z : Str) : chars z = z.cps.toList.map fun c => .str ⟨#[c]⟩ := rfl
theorem w_symD {G : Ctx} {a b : Str} {ds : List D} {mu : Store} {Q : QD} {E : QX} (s : spSymD ds mu Q E) : wpSs G c_is_symbol (endsOf (gcD mu Q) (gcX mu E)) (startD [a, b] ds) mu := by
  obtain ⟨d, h, n, k, rfl, v, hn, q⟩ := s
  cases v with
  | non => (try with_reducible refine nx_in ?_); simp (disch := (first | assumption | omega | rfl | (simp only [List.length_set, List.length_append, List.length_cons, List.length_nil, List.length_map, List.length_range, intsD_len]; omega) | (simp only [List.length_cons, List.length_nil, Nat.zero_add, Nat.reduceAdd, List.take_succ_cons, List.take_zero]))) only [↓wpk, wpI, wpT, withS, asTup, asCons, asNil, onB, onI, onKey, keyOf, onSome, endsOf, startD_n, nones, w1, w2, w3, pre2, pre3, isDct, wSl, wSet, wAug, wDel, seqAt, listAt, lstAt, getAt, putAt, dctAt, itemAt, wSeq, wLock, unlk, post0, newLst, wipeD, dispOf, onDisp, List.map_cons, List.map_nil, List.length_cons, List.length_nil, List.length_map, List.length_append, List.length_set, List.nil_append, List.cons_append, List.append_assoc, List.set_cons_zero, List.set_cons_succ, List.getElem?_cons_zero, List.getElem?_cons_succ, List.append_nil, perm, List.getD_cons_zero, List.getD_cons_succ, Int.toNat_natCast, Nat.reduceAdd, Nat.reduceSub, true_and, and_true, if_true, if_false, Bool.false_eq_true, decide_eq_true_eq, D.isNon, Nat.reduceLT, Nat.reduceLeDiff, Int.reduceLT, Int.reduceLE, Int.reduceToNat, Int.reducePow, Int.reduceMul, Int.reduceNeg, Bool.not_true, Bool.not_false, forall_const, cond_true, cond_false, sizeT_ok, szl_ok, szl_ok2, small_ok, at_lt, at_ge, at_sne, at_seq, set_ge, set_lt, gcE_set, gcE_set0, gcE_ll, gcE_ss, gcE_ssl, gcE_lsl, gcE_l0l, Nat.sub_self, Nat.add_sub_cancel_left, Nat.add_sub_cancel, Int.zero_add, Int.add_zero, Option.getD_some, Option.getD_none, Option.isSome_some, Option.isSome_none, c_is_symbol, isTy]; exact gc_self q
  | bl b => (try with_reducible refine nx_in ?_); simp (disch := (first | assumption | omega | rfl | (simp only [List.length_set, List.length_append, List.length_cons, List.length_nil, List.length_map, List.length_range, intsD_len]; omega) | (simp only [List.length_cons, List.length_nil, Nat.zero_add, Nat.reduceAdd, List.take_succ_cons, List.take_zero]))) only [↓wpk, wpI, wpT, withS, asTup, asCons, asNil, onB, onI, onKey, keyOf, onSome, endsOf, startD_n, nones, w1, w2, w3, pre2, pre3, isDct, wSl, wSet, wAug, wDel, seqAt, listAt, lstAt, getAt, putAt, dctAt, itemAt, wSeq, wLock, unlk, post0, newLst, wipeD, dispOf, onDisp, List.map_cons, List.map_nil, List.length_cons, List.length_nil, List.length_map, List.length_append, List.length_set, List.nil_append, List.cons_append, List.append_assoc, List.set_cons_zero, List.set_cons_succ, List.getElem?_cons_zero, List.getElem?_cons_succ, List.append_nil, perm, List.getD_cons_zero, List.getD_cons_succ, Int.toNat_natCast, Nat.reduceAdd, Nat.reduceSub, true_and, and_true, if_true, if_false, Bool.false_eq_true, decide_eq_true_eq, D.isNon, Nat.reduceLT, Nat.reduceLeDiff, Int.reduceLT, Int.reduceLE, Int.reduceToNat, Int.reducePow, Int.reduceMul, Int.reduceNeg, Bool.not_true, Bool.not_false, forall_const, cond_true, cond_false, sizeT_ok, szl_ok, szl_ok2, small_ok, at_lt, at_ge, at_sne, at_seq, set_ge, set_lt, gcE_set, gcE_set0, gcE_ll, gcE_ss, gcE_ssl, gcE_lsl, gcE_l0l, Nat.sub_self, Nat.add_sub_cancel_left, Nat.add_sub_cancel, Int.zero_add, Int.add_zero, Option.getD_some, Option.getD_none, Option.isSome_some, Option.isSome_none, c_is_symbol, isTy]; exact gc_self q
  | int hi => (try with_reducible refine nx_in ?_); simp (disch := (first | assumption | omega | rfl | (simp only [List.length_set, List.length_append, List.length_cons, List.length_nil, List.length_map, List.length_range, intsD_len]; omega) | (simp only [List.length_cons, List.length_nil, Nat.zero_add, Nat.reduceAdd, List.take_succ_cons, List.take_zero]))) only [↓wpk, wpI, wpT, withS, asTup, asCons, asNil, onB, onI, onKey, keyOf, onSome, endsOf, startD_n, nones, w1, w2, w3, pre2, pre3, isDct, wSl, wSet, wAug, wDel, seqAt, listAt, lstAt, getAt, putAt, dctAt, itemAt, wSeq, wLock, unlk, post0, newLst, wipeD, dispOf, onDisp, List.map_cons, List.map_nil, List.length_cons, List.length_nil, List.length_map, List.length_append, List.length_set, List.nil_append, List.cons_append, List.append_assoc, List.set_cons_zero, List.set_cons_succ, List.getElem?_cons_zero, List.getElem?_cons_succ, List.append_nil, perm, List.getD_cons_zero, List.getD_cons_succ, Int.toNat_natCast, Nat.reduceAdd, Nat.reduceSub, true_and, and_true, if_true, if_false, Bool.false_eq_true, decide_eq_true_eq, D.isNon, Nat.reduceLT, Nat.reduceLeDiff, Int.reduceLT, Int.reduceLE, Int.reduceToNat, Int.reducePow, Int.reduceMul, Int.reduceNeg, Bool.not_true, Bool.not_false, forall_const, cond_true, cond_false, sizeT_ok, szl_ok, szl_ok2, small_ok, at_lt, at_ge, at_sne, at_seq, set_ge, set_lt, gcE_set, gcE_set0, gcE_ll, gcE_ss, gcE_ssl, gcE_lsl, gcE_l0l, Nat.sub_self, Nat.add_sub_cancel_left, Nat.add_sub_cancel, Int.zero_add, Int.add_zero, Option.getD_some, Option.getD_none, Option.isSome_some, Option.isSome_none, c_is_symbol, isTy]; exact gc_self q
  | tup a l => (try with_reducible refine nx_in ?_); simp (disch := (first | assumption | omega | rfl | (simp only [List.length_set, List.length_append, List.length_cons, List.length_nil, List.length_map, List.length_range, intsD_len]; omega) | (simp only [List.length_cons, List.length_nil, Nat.zero_add, Nat.reduceAdd, List.take_succ_cons, List.take_zero]))) only [↓wpk, wpI, wpT, withS, asTup, asCons, asNil, onB, onI, onKey, keyOf, onSome, endsOf, startD_n, nones, w1, w2, w3, pre2, pre3, isDct, wSl, wSet, wAug, wDel, seqAt, listAt, lstAt, getAt, putAt, dctAt, itemAt, wSeq, wLock, unlk, post0, newLst, wipeD, dispOf, onDisp, List.map_cons, List.map_nil, List.length_cons, List.length_nil, List.length_map, List.length_append, List.length_set, List.nil_append, List.cons_append, List.append_assoc, List.set_cons_zero, List.set_cons_succ, List.getElem?_cons_zero, List.getElem?_cons_succ, List.append_nil, perm, List.getD_cons_zero, List.getD_cons_succ, Int.toNat_natCast, Nat.reduceAdd, Nat.reduceSub, true_and, and_true, if_true, if_false, Bool.false_eq_true, decide_eq_true_eq, D.isNon, Nat.reduceLT, Nat.reduceLeDiff, Int.reduceLT, Int.reduceLE, Int.reduceToNat, Int.reducePow, Int.reduceMul, Int.reduceNeg, Bool.not_true, Bool.not_false, forall_const, cond_true, cond_false, sizeT_ok, szl_ok, szl_ok2, small_ok, at_lt, at_ge, at_sne, at_seq, set_ge, set_lt, gcE_set, gcE_set0, gcE_ll, gcE_ss, gcE_ssl, gcE_lsl, gcE_l0l, Nat.sub_self, Nat.add_sub_cancel_left, Nat.add_sub_cancel, Int.zero_add, Int.add_zero, Option.getD_some, Option.getD_none, Option.isSome_some, Option.isSome_none, c_is_symbol, isTy]; exact gc_self q
  | lst hr e a l => (try with_reducible refine nx_in ?_); simp (disch := (first | assumption | omega | rfl | (simp only [List.length_set, List.length_append, List.length_cons, List.length_nil, List.length_map, List.length_range, intsD_len]; omega) | (simp only [List.length_cons, List.length_nil, Nat.zero_add, Nat.reduceAdd, List.take_succ_cons, List.take_zero]))) only [↓wpk, wpI, wpT, withS, asTup, asCons, asNil, onB, onI, onKey, keyOf, onSome, endsOf, startD_n, nones, w1, w2, w3, pre2, pre3, isDct, wSl, wSet, wAug, wDel, seqAt, listAt, lstAt, getAt, putAt, dctAt, itemAt, wSeq, wLock, unlk, post0, newLst, wipeD, dispOf, onDisp, List.map_cons, List.map_nil, List.length_cons, List.length_nil, List.length_map, List.length_append, List.length_set, List.nil_append, List.cons_append, List.append_assoc, List.set_cons_zero, List.set_cons_succ, List.getElem?_cons_zero, List.getElem?_cons_succ, List.append_nil, perm, List.getD_cons_zero, List.getD_cons_succ, Int.toNat_natCast, Nat.reduceAdd, Nat.reduceSub, true_and, and_true, if_true, if_false, Bool.false_eq_true, decide_eq_true_eq, D.isNon, Nat.reduceLT, Nat.reduceLeDiff, Int.reduceLT, Int.reduceLE, Int.reduceToNat, Int.reducePow, Int.reduceMul, Int.reduceNeg, Bool.not_true, Bool.not_false, forall_const, cond_true, cond_false, sizeT_ok, szl_ok, szl_ok2, small_ok, at_lt, at_ge, at_sne, at_seq, set_ge, set_lt, gcE_set, gcE_set0, gcE_ll, gcE_ss, gcE_ssl, gcE_lsl, gcE_l0l, Nat.sub_self, Nat.add_sub_cancel_left, Nat.add_sub_cancel, Int.zero_add, Int.add_zero, Option.getD_some, Option.getD_none, Option.isSome_some, Option.isSome_none, c_is_symbol, isTy, e]; exact gc_self q
  | dct hr e => (try with_reducible refine nx_in ?_); simp (disch := (first | assumption | omega | rfl | (simp only [List.length_set, List.length_append, List.length_cons, List.length_nil, List.length_map, List.length_range, intsD_len]; omega) | (simp only [List.length_cons, List.length_nil, Nat.zero_add, Nat.reduceAdd, List.take_succ_cons, List.take_zero]))) only [↓wpk, wpI, wpT, withS, asTup, asCons, asNil, onB, onI, onKey, keyOf, onSome, endsOf, startD_n, nones, w1, w2, w3, pre2, pre3, isDct, wSl, wSet, wAug, wDel, seqAt, listAt, lstAt, getAt, putAt, dctAt, itemAt, wSeq, wLock, unlk, post0, newLst, wipeD, dispOf, onDisp, List.map_cons, List.map_nil, List.length_cons, List.length_nil, List.length_map, List.length_append, List.length_set, List.nil_append, List.cons_append, List.append_assoc, List.set_cons_zero, List.set_cons_succ, List.getElem?_cons_zero, List.getElem?_cons_succ, List.append_nil, perm, List.getD_cons_zero, List.getD_cons_succ, Int.toNat_natCast, Nat.reduceAdd, Nat.reduceSub, true_and, and_true, if_true, if_false, Bool.false_eq_true, decide_eq_true_eq, D.isNon, Nat.reduceLT, Nat.reduceLeDiff, Int.reduceLT, Int.reduceLE, Int.reduceToNat, Int.reducePow, Int.reduceMul, Int.reduceNeg, Bool.not_true, Bool.not_false, forall_const, cond_true, cond_false, sizeT_ok, szl_ok, szl_ok2, small_ok, at_lt, at_ge, at_sne, at_seq, set_ge, set_lt, gcE_set, gcE_set0, gcE_ll, gcE_ss, gcE_ssl, gcE_lsl, gcE_l0l, Nat.sub_self, Nat.add_sub_cancel_left, Nat.add_sub_cancel, Int.zero_add, Int.add_zero, Option.getD_some, Option.getD_none, Option.isSome_some, Option.isSome_none, c_is_symbol, isTy, e]; exact gc_self q
  | @str _ z as l =>
    have hz : sizeT z.length := by unfold sizeT; rw [sizeLine_eq]; omega
    (try with_reducible refine nx_in ?_); simp (disch := (first | assumption | omega | rfl | (simp only [List.length_set, List.length_append, List.length_cons, List.length_nil, List.length_map, List.length_range, intsD_len]; omega) | (simp only [List.length_cons, List.length_nil, Nat.zero_add, Nat.reduceAdd, List.take_succ_cons, List.take_zero]))) only [↓wpk, wpI, wpT, withS, asTup, asCons, asNil, onB, onI, onKey, keyOf, onSome, endsOf, startD_n, nones, w1, w2, w3, pre2, pre3, isDct, wSl, wSet, wAug, wDel, seqAt, listAt, lstAt, getAt, putAt, dctAt, itemAt, wSeq, wLock, unlk, post0, newLst, wipeD, dispOf, onDisp, List.map_cons, List.map_nil, List.length_cons, List.length_nil, List.length_map, List.length_append, List.length_set, List.nil_append, List.cons_append, List.append_assoc, List.set_cons_zero, List.set_cons_succ, List.getElem?_cons_zero, List.getElem?_cons_succ, List.append_nil, perm, List.getD_cons_zero, List.getD_cons_succ, Int.toNat_natCast, Nat.reduceAdd, Nat.reduceSub, true_and, and_true, if_true, if_false, Bool.false_eq_true, decide_eq_true_eq, D.isNon, Nat.reduceLT, Nat.reduceLeDiff, Int.reduceLT, Int.reduceLE, Int.reduceToNat, Int.reducePow, Int.reduceMul, Int.reduceNeg, Bool.not_true, Bool.not_false, forall_const, cond_true, cond_false, sizeT_ok, szl_ok, szl_ok2, small_ok, at_lt, at_ge, at_sne, at_seq, set_ge, set_lt, gcE_set, gcE_set0, gcE_ll, gcE_ss, gcE_ssl, gcE_lsl, gcE_l0l, Nat.sub_self, Nat.add_sub_cancel_left, Nat.add_sub_cancel, Int.zero_add, Int.add_zero, Option.getD_some, Option.getD_none, Option.isSome_some, Option.isSome_none, c_is_symbol, isTy]
    have len_eq : z.cps.toList.length = z.length := by simp [Str.length]
    refine ite_pos_neg (fun c1 => ite_pos_neg (fun c2 => ?_) fun c2 => ?_) fun c1 => ?_
    · (try with_reducible refine nx_in ?_); simp (disch := (first | assumption | omega | rfl | (simp only [List.length_set, List.length_append, List.length_cons, List.length_nil, List.length_map, List.length_range, intsD_len]; omega) | (simp only [List.length_cons, List.length_nil, Nat.zero_add, Nat.reduceAdd, List.take_succ_cons, List.take_zero]))) only [↓wpk, wpI, wpT, withS, asTup, asCons, asNil, onB, onI, onKey, keyOf, onSome, endsOf, startD_n, nones, w1, w2, w3, pre2, pre3, isDct, wSl, wSet, wAug, wDel, seqAt, listAt, lstAt, getAt, putAt, dctAt, itemAt, wSeq, wLock, unlk, post0, newLst, wipeD, dispOf, onDisp, List.map_cons, List.map_nil, List.length_cons, List.length_nil, List.length_map, List.length_append, List.length_set, List.nil_append, List.cons_append, List.append_assoc, List.set_cons_zero, List.set_cons_succ, List.getElem?_cons_zero, List.getElem?_cons_succ, List.append_nil, perm, List.getD_cons_zero, List.getD_cons_succ, Int.toNat_natCast, Nat.reduceAdd, Nat.reduceSub, true_and, and_true, if_true, if_false, Bool.false_eq_true, decide_eq_true_eq, D.isNon, Nat.reduceLT, Nat.reduceLeDiff, Int.reduceLT, Int.reduceLE, Int.reduceToNat, Int.reducePow, Int.reduceMul, Int.reduceNeg, Bool.not_true, Bool.not_false, forall_const, cond_true, cond_false, sizeT_ok, szl_ok, szl_ok2, small_ok, at_lt, at_ge, at_sne, at_seq, set_ge, set_lt, gcE_set, gcE_set0, gcE_ll, gcE_ss, gcE_ssl, gcE_lsl, gcE_l0l, Nat.sub_self, Nat.add_sub_cancel_left, Nat.add_sub_cancel, Int.zero_add, Int.add_zero, Option.getD_some, Option.getD_none, Option.isSome_some, Option.isSome_none]
      have e : symD (.str z) = false := by
        have : ¬ z.length ≤ 8 := by have : ¬ (z.length : Int) ≤ 8 := by simpa using c2
                                    omega
        simp [symD, this]
      rw [e] at q
      exact gc_self q
    · (try with_reducible refine nx_in ?_); simp (disch := (first | assumption | omega | rfl | (simp only [List.length_set, List.length_append, List.length_cons, List.length_nil, List.length_map, List.length_range, intsD_len]; omega) | (simp only [List.length_cons, List.length_nil, Nat.zero_add, Nat.reduceAdd, List.take_succ_cons, List.take_zero]))) only [↓wpk, wpI, wpT, withS, asTup, asCons, asNil, onB, onI, onKey, keyOf, onSome, endsOf, startD_n, nones, w1, w2, w3, pre2, pre3, isDct, wSl, wSet, wAug, wDel, seqAt, listAt, lstAt, getAt, putAt, dctAt, itemAt, wSeq, wLock, unlk, post0, newLst, wipeD, dispOf, onDisp, List.map_cons, List.map_nil, List.length_cons, List.length_nil, List.length_map, List.length_append, List.length_set, List.nil_append, List.cons_append, List.append_assoc, List.set_cons_zero, List.set_cons_succ, List.getElem?_cons_zero, List.getElem?_cons_succ, List.append_nil, perm, List.getD_cons_zero, List.getD_cons_succ, Int.toNat_natCast, Nat.reduceAdd, Nat.reduceSub, true_and, and_true, if_true, if_false, Bool.false_eq_true, decide_eq_true_eq, D.isNon, Nat.reduceLT, Nat.reduceLeDiff, Int.reduceLT, Int.reduceLE, Int.reduceToNat, Int.reducePow, Int.reduceMul, Int.reduceNeg, Bool.not_true, Bool.not_false, forall_const, cond_true, cond_false, sizeT_ok, szl_ok, szl_ok2, small_ok, at_lt, at_ge, at_sne, at_seq, set_ge, set_lt, gcE_set, gcE_set0, gcE_ll, gcE_ss, gcE_ssl, gcE_lsl, gcE_l0l, Nat.sub_self, Nat.add_sub_cancel_left, Nat.add_sub_cancel, Int.zero_add, Int.add_zero, Option.getD_some, Option.getD_none, Option.isSome_some, Option.isSome_none]
      (try with_reducible refine nx_in ?_); simp (disch := (first | assumption | omega | rfl | (simp only [List.length_set, List.length_append, List.length_cons, List.length_nil, List.length_map, List.length_range, intsD_len]; omega) | (simp only [List.length_cons, List.length_nil, Nat.zero_add, Nat.reduceAdd, List.take_succ_cons, List.take_zero]))) only [↓wpk, wpI, wpT, withS, asTup, asCons, asNil, onB, onI, onKey, keyOf, onSome, endsOf, startD_n, nones, w1, w2, w3, pre2, pre3, isDct, wSl, wSet, wAug, wDel, seqAt, listAt, lstAt, getAt, putAt, dctAt, itemAt, wSeq, wLock, unlk, post0, newLst, wipeD, dispOf, onDisp, List.map_cons, List.map_nil, List.length_cons, List.length_nil, List.length_map, List.length_append, List.length_set, List.nil_append, List.cons_append, List.append_assoc, List.set_cons_zero, List.set_cons_succ, List.getElem?_cons_zero, List.getElem?_cons_succ, List.append_nil, perm, List.getD_cons_zero, List.getD_cons_succ, Int.toNat_natCast, Nat.reduceAdd, Nat.reduceSub, true_and, and_true, if_true, if_false, Bool.false_eq_true, decide_eq_true_eq, D.isNon, Nat.reduceLT, Nat.reduceLeDiff, Int.reduceLT, Int.reduceLE, Int.reduceToNat, Int.reducePow, Int.reduceMul, Int.reduceNeg, Bool.not_true, Bool.not_false, forall_const, cond_true, cond_false, sizeT_ok, szl_ok, szl_ok2, small_ok, at_lt, at_ge, at_sne, at_seq, set_ge, set_lt, gcE_set, gcE_set0, gcE_ll, gcE_ss, gcE_ssl, gcE_lsl, gcE_l0l, Nat.sub_self, Nat.add_sub_cancel_left, Nat.add_sub_cancel, Int.zero_add, Int.add_zero, Option.getD_some, Option.getD_none, Option.isSome_some, Option.isSome_none, chars_map]
      have c2 : z.length ≤ 8 := by have : (z.length : Int) ≤ 8 := by simpa using c2
                                   omega
      have c1 : 1 ≤ z.length := by omega
      refine lcGo_each (fun c => .bl (decide (c ∈ abcL))) trivial (fun c hc kk hk => ?_) ?_
      · (try with_reducible refine nx_in ?_); simp (disch := (first | assumption | omega | rfl | (simp only [List.length_set, List.length_append, List.length_cons, List.length_nil, List.length_map, List.length_range, intsD_len]; omega) | (simp only [List.length_cons, List.length_nil, Nat.zero_add, Nat.reduceAdd, List.take_succ_cons, List.take_zero]))) only [↓wpk, wpI, wpT, withS, asTup, asCons, asNil, onB, onI, onKey, keyOf, onSome, endsOf, startD_n, nones, w1, w2, w3, pre2, pre3, isDct, wSl, wSet, wAug, wDel, seqAt, listAt, lstAt, getAt, putAt, dctAt, itemAt, wSeq, wLock, unlk, post0, newLst, wipeD, dispOf, onDisp, List.map_cons, List.map_nil, List.length_cons, List.length_nil, List.length_map, List.length_append, List.length_set, List.nil_append, List.cons_append, List.append_assoc, List.set_cons_zero, List.set_cons_succ, List.getElem?_cons_zero, List.getElem?_cons_succ, List.append_nil, perm, List.getD_cons_zero, List.getD_cons_succ, Int.toNat_natCast, Nat.reduceAdd, Nat.reduceSub, true_and, and_true, if_true, if_false, Bool.false_eq_true, decide_eq_true_eq, D.isNon, Nat.reduceLT, Nat.reduceLeDiff, Int.reduceLT, Int.reduceLE, Int.reduceToNat, Int.reducePow, Int.reduceMul, Int.reduceNeg, Bool.not_true, Bool.not_false, forall_const, cond_true, cond_false, sizeT_ok, szl_ok, szl_ok2, small_ok, at_lt, at_ge, at_sne, at_seq, set_ge, set_lt, gcE_set, gcE_set0, gcE_ll, gcE_ss, gcE_ssl, gcE_lsl, gcE_l0l, Nat.sub_self, Nat.add_sub_cancel_left, Nat.add_sub_cancel, Int.zero_add, Int.add_zero, Option.getD_some, Option.getD_none, Option.isSome_some, Option.isSome_none, lcT]
        exact ⟨c, rfl, hk⟩
      · (try with_reducible refine nx_in ?_); simp (disch := (first | assumption | omega | rfl | (simp only [List.length_set, List.length_append, List.length_cons, List.length_nil, List.length_map, List.length_range, intsD_len]; omega) | (simp only [List.length_cons, List.length_nil, Nat.zero_add, Nat.reduceAdd, List.take_succ_cons, List.take_zero]))) only [↓wpk, wpI, wpT, withS, asTup, asCons, asNil, onB, onI, onKey, keyOf, onSome, endsOf, startD_n, nones, w1, w2, w3, pre2, pre3, isDct, wSl, wSet, wAug, wDel, seqAt, listAt, lstAt, getAt, putAt, dctAt, itemAt, wSeq, wLock, unlk, post0, newLst, wipeD, dispOf, onDisp, List.map_cons, List.map_nil, List.length_cons, List.length_nil, List.length_map, List.length_append, List.length_set, List.nil_append, List.cons_append, List.append_assoc, List.set_cons_zero, List.set_cons_succ, List.getElem?_cons_zero, List.getElem?_cons_succ, List.append_nil, perm, List.getD_cons_zero, List.getD_cons_succ, Int.toNat_natCast, Nat.reduceAdd, Nat.reduceSub, true_and, and_true, if_true, if_false, Bool.false_eq_true, decide_eq_true_eq, D.isNon, Nat.reduceLT, Nat.reduceLeDiff, Int.reduceLT, Int.reduceLE, Int.reduceToNat, Int.reducePow, Int.reduceMul, Int.reduceNeg, Bool.not_true, Bool.not_false, forall_const, cond_true, cond_false, sizeT_ok, szl_ok, szl_ok2, small_ok, at_lt, at_ge, at_sne, at_seq, set_ge, set_lt, gcE_set, gcE_set0, gcE_ll, gcE_ss, gcE_ssl, gcE_lsl, gcE_l0l, Nat.sub_self, Nat.add_sub_cancel_left, Nat.add_sub_cancel, Int.zero_add, Int.add_zero, Option.getD_some, Option.getD_none, Option.isSome_some, Option.isSome_none, onBl_fn, D.cl]
        have e : symD (.str z) = (z.cps.toList.map fun c => decide (c ∈ abcL)).all id := by
          simp [symD, c1, c2, List.all_map]
        rw [e] at q
        exact gc_self q
    · (try with_reducible refine nx_in ?_); simp (disch := (first | assumption | omega | rfl | (simp only [List.length_set, List.length_append, List.length_cons, List.length_nil, List.length_map, List.length_range, intsD_len]; omega) | (simp only [List.length_cons, List.length_nil, Nat.zero_add, Nat.reduceAdd, List.take_succ_cons, List.take_zero]))) only [↓wpk, wpI, wpT, withS, asTup, asCons, asNil, onB, onI, onKey, keyOf, onSome, endsOf, startD_n, nones, w1, w2, w3, pre2, pre3, isDct, wSl, wSet, wAug, wDel, seqAt, listAt, lstAt, getAt, putAt, dctAt, itemAt, wSeq, wLock, unlk, post0, newLst, wipeD, dispOf, onDisp, List.map_cons, List.map_nil, List.length_cons, List.length_nil, List.length_map, List.length_append, List.length_set, List.nil_append, List.cons_append, List.append_assoc, List.set_cons_zero, List.set_cons_succ, List.getElem?_cons_zero, List.getElem?_cons_succ, List.append_nil, perm, List.getD_cons_zero, List.getD_cons_succ, Int.toNat_natCast, Nat.reduceAdd, Nat.reduceSub, true_and, and_true, if_true, if_false, Bool.false_eq_true, decide_eq_true_eq, D.isNon, Nat.reduceLT, Nat.reduceLeDiff, Int.reduceLT, Int.reduceLE, Int.reduceToNat, Int.reducePow, Int.reduceMul, Int.reduceNeg, Bool.not_true, Bool.not_false, forall_const, cond_true, cond_false, sizeT_ok, szl_ok, szl_ok2, small_ok, at_lt, at_ge, at_sne, at_seq, set_ge, set_lt, gcE_set, gcE_set0, gcE_ll, gcE_ss, gcE_ssl, gcE_lsl, gcE_l0l, Nat.sub_self, Nat.add_sub_cancel_left, Nat.add_sub_cancel, Int.zero_add, Int.add_zero, Option.getD_some, Option.getD_none, Option.isSome_some, Option.isSome_none]
      have e : symD (.str z) = false := by
        have : ¬ 1 ≤ z.length := by omega
        simp [symD, this]
      rw [e] at q
      exact gc_self q
theorem w_wordD {G : Ctx} {a b : Str} {i : Nat} (g : G.fn i = spSymD) {ds : List D} {mu : Store} {Q : QD} {E : QX} (s : spWordD ds mu Q E) : wpSs G (c_is_word i) (endsOf (gcD mu Q) (gcX mu E)) (startD [a, b] ds) mu := by
  obtain ⟨d, h, n, k, rfl, v, hn, q⟩ := s
  cases v with
  | non => (try with_reducible refine nx_in ?_); simp (disch := (first | assumption | omega | rfl | (simp only [List.length_set, List.length_append, List.length_cons, List.length_nil, List.length_map, List.length_range, intsD_len]; omega) | (simp only [List.length_cons, List.length_nil, Nat.zero_add, Nat.reduceAdd, List.take_succ_cons, List.take_zero]))) only [↓wpk, wpI, wpT, withS, asTup, asCons, asNil, onB, onI, onKey, keyOf, onSome, endsOf, startD_n, nones, w1, w2, w3, pre2, pre3, isDct, wSl, wSet, wAug, wDel, seqAt, listAt, lstAt, getAt, putAt, dctAt, itemAt, wSeq, wLock, unlk, post0, newLst, wipeD, dispOf, onDisp, List.map_cons, List.map_nil, List.length_cons, List.length_nil, List.length_map, List.length_append, List.length_set, List.nil_append, List.cons_append, List.append_assoc, List.set_cons_zero, List.set_cons_succ, List.getElem?_cons_zero, List.getElem?_cons_succ, List.append_nil, perm, List.getD_cons_zero, List.getD_cons_succ, Int.toNat_natCast, Nat.reduceAdd, Nat.reduceSub, true_and, and_true, if_true, if_false, Bool.false_eq_true, decide_eq_true_eq, D.isNon, Nat.reduceLT, Nat.reduceLeDiff, Int.reduceLT, Int.reduceLE, Int.reduceToNat, Int.reducePow, Int.reduceMul, Int.reduceNeg, Bool.not_true, Bool.not_false, forall_const, cond_true, cond_false, sizeT_ok, szl_ok, szl_ok2, small_ok, at_lt, at_ge, at_sne, at_seq, set_ge, set_lt, gcE_set, gcE_set0, gcE_ll, gcE_ss, gcE_ssl, gcE_lsl, gcE_l0l, Nat.sub_self, Nat.add_sub_cancel_left, Nat.add_sub_cancel, Int.zero_add, Int.add_zero, Option.getD_some, Option.getD_none, Option.isSome_some, Option.isSome_none, c_is_word, isTy]; exact gc_self q
  | bl b => (try with_reducible refine nx_in ?_); simp (disch := (first | assumption | omega | rfl | (simp only [List.length_set, List.length_append, List.length_cons, List.length_nil, List.length_map, List.length_range, intsD_len]; omega) | (simp only [List.length_cons, List.length_nil, Nat.zero_add, Nat.reduceAdd, List.take_succ_cons, List.take_zero]))) only [↓wpk, wpI, wpT, withS, asTup, asCons, asNil, onB, onI, onKey, keyOf, onSome, endsOf, startD_n, nones, w1, w2, w3, pre2, pre3, isDct, wSl, wSet, wAug, wDel, seqAt, listAt, lstAt, getAt, putAt, dctAt, itemAt, wSeq, wLock, unlk, post0, newLst, wipeD, dispOf, onDisp, List.map_cons, List.map_nil, List.length_cons, List.length_nil, List.length_map, List.length_append, List.length_set, List.nil_append, List.cons_append, List.append_assoc, List.set_cons_zero, List.set_cons_succ, List.getElem?_cons_zero, List.getElem?_cons_succ, List.append_nil, perm, List.getD_cons_zero, List.getD_cons_succ, Int.toNat_natCast, Nat.reduceAdd, Nat.reduceSub, true_and, and_true, if_true, if_false, Bool.false_eq_true, decide_eq_true_eq, D.isNon, Nat.reduceLT, Nat.reduceLeDiff, Int.reduceLT, Int.reduceLE, Int.reduceToNat, Int.reducePow, Int.reduceMul, Int.reduceNeg, Bool.not_true, Bool.not_false, forall_const, cond_true, cond_false, sizeT_ok, szl_ok, szl_ok2, small_ok, at_lt, at_ge, at_sne, at_seq, set_ge, set_lt, gcE_set, gcE_set0, gcE_ll, gcE_ss, gcE_ssl, gcE_lsl, gcE_l0l, Nat.sub_self, Nat.add_sub_cancel_left, Nat.add_sub_cancel, Int.zero_add, Int.add_zero, Option.getD_some, Option.getD_none, Option.isSome_some, Option.isSome_none, c_is_word, isTy]; exact gc_self q
  | int hi => (try with_reducible refine nx_in ?_); simp (disch := (first | assumption | omega | rfl | (simp only [List.length_set, List.length_append, List.length_cons, List.length_nil, List.length_map, List.length_range, intsD_len]; omega) | (simp only [List.length_cons, List.length_nil, Nat.zero_add, Nat.reduceAdd, List.take_succ_cons, List.take_zero]))) only [↓wpk, wpI, wpT, withS, asTup, asCons, asNil, onB, onI, onKey, keyOf, onSome, endsOf, startD_n, nones, w1, w2, w3, pre2, pre3, isDct, wSl, wSet, wAug, wDel, seqAt, listAt, lstAt, getAt, putAt, dctAt, itemAt, wSeq, wLock, unlk, post0, newLst, wipeD, dispOf, onDisp, List.map_cons, List.map_nil, List.length_cons, List.length_nil, List.length_map, List.length_append, List.length_set, List.nil_append, List.cons_append, List.append_assoc, List.set_cons_zero, List.set_cons_succ, List.getElem?_cons_zero, List.getElem?_cons_succ, List.append_nil, perm, List.getD_cons_zero, List.getD_cons_succ, Int.toNat_natCast, Nat.reduceAdd, Nat.reduceSub, true_and, and_true, if_true, if_false, Bool.false_eq_true, decide_eq_true_eq, D.isNon, Nat.reduceLT, Nat.reduceLeDiff, Int.reduceLT, Int.reduceLE, Int.reduceToNat, Int.reducePow, Int.reduceMul, Int.reduceNeg, Bool.not_true, Bool.not_false, forall_const, cond_true, cond_false, sizeT_ok, szl_ok, szl_ok2, small_ok, at_lt, at_ge, at_sne, at_seq, set_ge, set_lt, gcE_set, gcE_set0, gcE_ll, gcE_ss, gcE_ssl, gcE_lsl, gcE_l0l, Nat.sub_self, Nat.add_sub_cancel_left, Nat.add_sub_cancel, Int.zero_add, Int.add_zero, Option.getD_some, Option.getD_none, Option.isSome_some, Option.isSome_none, c_is_word, isTy]; exact gc_self q
  | str a l => (try with_reducible refine nx_in ?_); simp (disch := (first | assumption | omega | rfl | (simp only [List.length_set, List.length_append, List.length_cons, List.length_nil, List.length_map, List.length_range, intsD_len]; omega) | (simp only [List.length_cons, List.length_nil, Nat.zero_add, Nat.reduceAdd, List.take_succ_cons, List.take_zero]))) only [↓wpk, wpI, wpT, withS, asTup, asCons, asNil, onB, onI, onKey, keyOf, onSome, endsOf, startD_n, nones, w1, w2, w3, pre2, pre3, isDct, wSl, wSet, wAug, wDel, seqAt, listAt, lstAt, getAt, putAt, dctAt, itemAt, wSeq, wLock, unlk, post0, newLst, wipeD, dispOf, onDisp, List.map_cons, List.map_nil, List.length_cons, List.length_nil, List.length_map, List.length_append, List.length_set, List.nil_append, List.cons_append, List.append_assoc, List.set_cons_zero, List.set_cons_succ, List.getElem?_cons_zero, List.getElem?_cons_succ, List.append_nil, perm, List.getD_cons_zero, List.getD_cons_succ, Int.toNat_natCast, Nat.reduceAdd, Nat.reduceSub, true_and, and_true, if_true, if_false, Bool.false_eq_true, decide_eq_true_eq, D.isNon, Nat.reduceLT, Nat.reduceLeDiff, Int.reduceLT, Int.reduceLE, Int.reduceToNat, Int.reducePow, Int.reduceMul, Int.reduceNeg, Bool.not_true, Bool.not_false, forall_const, cond_true, cond_false, sizeT_ok, szl_ok, szl_ok2, small_ok, at_lt, at_ge, at_sne, at_seq, set_ge, set_lt, gcE_set, gcE_set0, gcE_ll, gcE_ss, gcE_ssl, gcE_lsl, gcE_l0l, Nat.sub_self, Nat.add_sub_cancel_left, Nat.add_sub_cancel, Int.zero_add, Int.add_zero, Option.getD_some, Option.getD_none, Option.isSome_some, Option.isSome_none, c_is_word, isTy]; exact gc_self q
  | lst hr e a l => (try with_reducible refine nx_in ?_); simp (disch := (first | assumption | omega | rfl | (simp only [List.length_set, List.length_append, List.length_cons, List.length_nil, List.length_map, List.length_range, intsD_len]; omega) | (simp only [List.length_cons, List.length_nil, Nat.zero_add, Nat.reduceAdd, List.take_succ_cons, List.take_zero]))) only [↓wpk, wpI, wpT, withS, asTup, asCons, asNil, onB, onI, onKey, keyOf, onSome, endsOf, startD_n, nones, w1, w2, w3, pre2, pre3, isDct, wSl, wSet, wAug, wDel, seqAt, listAt, lstAt, getAt, putAt, dctAt, itemAt, wSeq, wLock, unlk, post0, newLst, wipeD, dispOf, onDisp, List.map_cons, List.map_nil, List.length_cons, List.length_nil, List.length_map, List.length_append, List.length_set, List.nil_append, List.cons_append, List.append_assoc, List.set_cons_zero, List.set_cons_succ, List.getElem?_cons_zero, List.getElem?_cons_succ, List.append_nil, perm, List.getD_cons_zero, List.getD_cons_succ, Int.toNat_natCast, Nat.reduceAdd, Nat.reduceSub, true_and, and_true, if_true, if_false, Bool.false_eq_true, decide_eq_true_eq, D.isNon, Nat.reduceLT, Nat.reduceLeDiff, Int.reduceLT, Int.reduceLE, Int.reduceToNat, Int.reducePow, Int.reduceMul, Int.reduceNeg, Bool.not_true, Bool.not_false, forall_const, cond_true, cond_false, sizeT_ok, szl_ok, szl_ok2, small_ok, at_lt, at_ge, at_sne, at_seq, set_ge, set_lt, gcE_set, gcE_set0, gcE_ll, gcE_ss, gcE_ssl, gcE_lsl, gcE_l0l, Nat.sub_self, Nat.add_sub_cancel_left, Nat.add_sub_cancel, Int.zero_add, Int.add_zero, Option.getD_some, Option.getD_none, Option.isSome_some, Option.isSome_none, c_is_word, isTy, e]; exact gc_self q
  | dct hr e => (try with_reducible refine nx_in ?_); simp (disch := (first | assumption | omega | rfl | (simp only [List.length_set, List.length_append, List.length_cons, List.length_nil, List.length_map, List.length_range, intsD_len]; omega) | (simp only [List.length_cons, List.length_nil, Nat.zero_add, Nat.reduceAdd, List.take_succ_cons, List.take_zero]))) only [↓wpk, wpI, wpT, withS, asTup, asCons, asNil, onB, onI, onKey, keyOf, onSome, endsOf, startD_n, nones, w1, w2, w3, pre2, pre3, isDct, wSl, wSet, wAug, wDel, seqAt, listAt, lstAt, getAt, putAt, dctAt, itemAt, wSeq, wLock, unlk, post0, newLst, wipeD, dispOf, onDisp, List.map_cons, List.map_nil, List.length_cons, List.length_nil, List.length_map, List.length_append, List.length_set, List.nil_append, List.cons_append, List.append_assoc, List.set_cons_zero, List.set_cons_succ, List.getElem?_cons_zero, List.getElem?_cons_succ, List.append_nil, perm, List.getD_cons_zero, List.getD_cons_succ, Int.toNat_natCast, Nat.reduceAdd, Nat.reduceSub, true_and, and_true, if_true, if_false, Bool.false_eq_true, decide_eq_true_eq, D.isNon, Nat.reduceLT, Nat.reduceLeDiff, Int.reduceLT, Int.reduceLE, Int.reduceToNat, Int.reducePow, Int.reduceMul, Int.reduceNeg, Bool.not_true, Bool.not_false, forall_const, cond_true, cond_false, sizeT_ok, szl_ok, szl_ok2, small_ok, at_lt, at_ge, at_sne, at_seq, set_ge, set_lt, gcE_set, gcE_set0, gcE_ll, gcE_ss, gcE_ssl, gcE_lsl, gcE_l0l, Nat.sub_self, Nat.add_sub_cancel_left, Nat.add_sub_cancel, Int.zero_add, Int.add_zero, Option.getD_some, Option.getD_none, Option.isSome_some, Option.isSome_none, c_is_word, isTy, e]; exact gc_self q
  | @tup k xs as l =>
    (try with_reducible refine nx_in ?_); simp (disch := (first | assumption | omega | rfl | (simp only [List.length_set, List.length_append, List.length_cons, List.length_nil, List.length_map, List.length_range, intsD_len]; omega) | (simp only [List.length_cons, List.length_nil, Nat.zero_add, Nat.reduceAdd, List.take_succ_cons, List.take_zero]))) only [↓wpk, wpI, wpT, withS, asTup, asCons, asNil, onB, onI, onKey, keyOf, onSome, endsOf, startD_n, nones, w1, w2, w3, pre2, pre3, isDct, wSl, wSet, wAug, wDel, seqAt, listAt, lstAt, getAt, putAt, dctAt, itemAt, wSeq, wLock, unlk, post0, newLst, wipeD, dispOf, onDisp, List.map_cons, List.map_nil, List.length_cons, List.length_nil, List.length_map, List.length_append, List.length_set, List.nil_append, List.cons_append, List.append_assoc, List.set_cons_zero, List.set_cons_succ, List.getElem?_cons_zero, List.getElem?_cons_succ, List.append_nil, perm, List.getD_cons_zero, List.getD_cons_succ, Int.toNat_natCast, Nat.reduceAdd, Nat.reduceSub, true_and, and_true, if_true, if_false, Bool.false_eq_true, decide_eq_true_eq, D.isNon, Nat.reduceLT, Nat.reduceLeDiff, Int.reduceLT, Int.reduceLE, Int.reduceToNat, Int.reducePow, Int.reduceMul, Int.reduceNeg, Bool.not_true, Bool.not_false, forall_const, cond_true, cond_false, sizeT_ok, szl_ok, szl_ok2, small_ok, at_lt, at_ge, at_sne, at_seq, set_ge, set_lt, gcE_set, gcE_set0, gcE_ll, gcE_ss, gcE_ssl, gcE_lsl, gcE_l0l, Nat.sub_self, Nat.add_sub_cancel_left, Nat.add_sub_cancel, Int.zero_add, Int.add_zero, Option.getD_some, Option.getD_none, Option.isSome_some, Option.isSome_none, c_is_word, isTy]
    refine ite_pos_neg (fun c1 => ?_) fun c1 => ?_
    · have c1 : xs.length ≤ 200 := by omega
      refine lcGo_own (fun x => .bl (symD x)) trivial (fun x hx kk hk => ?_) ?_
      · (try with_reducible refine nx_in ?_); simp (disch := (first | assumption | omega | rfl | (simp only [List.length_set, List.length_append, List.length_cons, List.length_nil, List.length_map, List.length_range, intsD_len]; omega) | (simp only [List.length_cons, List.length_nil, Nat.zero_add, Nat.reduceAdd, List.take_succ_cons, List.take_zero]))) only [↓wpk, wpI, wpT, withS, asTup, asCons, asNil, onB, onI, onKey, keyOf, onSome, endsOf, startD_n, nones, w1, w2, w3, pre2, pre3, isDct, wSl, wSet, wAug, wDel, seqAt, listAt, lstAt, getAt, putAt, dctAt, itemAt, wSeq, wLock, unlk, post0, newLst, wipeD, dispOf, onDisp, List.map_cons, List.map_nil, List.length_cons, List.length_nil, List.length_map, List.length_append, List.length_set, List.nil_append, List.cons_append, List.append_assoc, List.set_cons_zero, List.set_cons_succ, List.getElem?_cons_zero, List.getElem?_cons_succ, List.append_nil, perm, List.getD_cons_zero, List.getD_cons_succ, Int.toNat_natCast, Nat.reduceAdd, Nat.reduceSub, true_and, and_true, if_true, if_false, Bool.false_eq_true, decide_eq_true_eq, D.isNon, Nat.reduceLT, Nat.reduceLeDiff, Int.reduceLT, Int.reduceLE, Int.reduceToNat, Int.reducePow, Int.reduceMul, Int.reduceNeg, Bool.not_true, Bool.not_false, forall_const, cond_true, cond_false, sizeT_ok, szl_ok, szl_ok2, small_ok, at_lt, at_ge, at_sne, at_seq, set_ge, set_lt, gcE_set, gcE_set0, gcE_ll, gcE_ss, gcE_ssl, gcE_lsl, gcE_l0l, Nat.sub_self, Nat.add_sub_cancel_left, Nat.add_sub_cancel, Int.zero_add, Int.add_zero, Option.getD_some, Option.getD_none, Option.isSome_some, Option.isSome_none, lcT]
        refine call_to g ⟨x, h, n, k, rfl, as x hx, hn, ?_⟩
        exact hk
      · (try with_reducible refine nx_in ?_); simp (disch := (first | assumption | omega | rfl | (simp only [List.length_set, List.length_append, List.length_cons, List.length_nil, List.length_map, List.length_range, intsD_len]; omega) | (simp only [List.length_cons, List.length_nil, Nat.zero_add, Nat.reduceAdd, List.take_succ_cons, List.take_zero]))) only [↓wpk, wpI, wpT, withS, asTup, asCons, asNil, onB, onI, onKey, keyOf, onSome, endsOf, startD_n, nones, w1, w2, w3, pre2, pre3, isDct, wSl, wSet, wAug, wDel, seqAt, listAt, lstAt, getAt, putAt, dctAt, itemAt, wSeq, wLock, unlk, post0, newLst, wipeD, dispOf, onDisp, List.map_cons, List.map_nil, List.length_cons, List.length_nil, List.length_map, List.length_append, List.length_set, List.nil_append, List.cons_append, List.append_assoc, List.set_cons_zero, List.set_cons_succ, List.getElem?_cons_zero, List.getElem?_cons_succ, List.append_nil, perm, List.getD_cons_zero, List.getD_cons_succ, Int.toNat_natCast, Nat.reduceAdd, Nat.reduceSub, true_and, and_true, if_true, if_false, Bool.false_eq_true, decide_eq_true_eq, D.isNon, Nat.reduceLT, Nat.reduceLeDiff, Int.reduceLT, Int.reduceLE, Int.reduceToNat, Int.reducePow, Int.reduceMul, Int.reduceNeg, Bool.not_true, Bool.not_false, forall_const, cond_true, cond_false, sizeT_ok, szl_ok, szl_ok2, small_ok, at_lt, at_ge, at_sne, at_seq, set_ge, set_lt, gcE_set, gcE_set0, gcE_ll, gcE_ss, gcE_ssl, gcE_lsl, gcE_l0l, Nat.sub_self, Nat.add_sub_cancel_left, Nat.add_sub_cancel, Int.zero_add, Int.add_zero, Option.getD_some, Option.getD_none, Option.isSome_some, Option.isSome_none, onBl_fn, D.cl]
        have e : wordD (.tup xs) = (xs.map symD).all id := by
          simp [wordD, c1, List.all_map]
        rw [e] at q
        exact gc_self q
    · have e : wordD (.tup xs) = false := by
        have : ¬ xs.length ≤ 200 := by omega
        simp [wordD, this]
      rw [e] at q
      exact gc_self q
mutual
theorem deepK_app {mu l : Store} : ∀ {d : D} {p : PyData}, DeepK mu d p → DeepK (mu ++ l) d p
  | _, _, .non => .non
  | _, _, .bl b => .bl b
  | _, _, .int i => .int i
  | _, _, .str x => .str x
  | _, _, .tup h => .tup (deepsK_app h)
  | _, _, .lst e h => .lst (by rw [List.getElem?_append_left (List.getElem?_eq_some_iff.mp e).1]; exact e) (deepsK_app h)
  | _, _, .ro h => .ro (deepsK_app h)
  | _, _, .dct e h => .dct (by rw [List.getElem?_append_left (List.getElem?_eq_some_iff.mp e).1]; exact e) (deepsK_app h)
theorem deepsK_app {mu l : Store} : ∀ {xs : List D} {ps : List PyData}, DeepsK mu xs ps → DeepsK (mu ++ l) xs ps
  | _, _, .nil => .nil
  | _, _, .cons h h2 => .cons (deepK_app h) (deepsK_app h2)
end
theorem told4 {mu : Store} {r : Nat} {a b : Bool} (e : mu[r]? = some (.lst [.bl a, .bl b, .bl a, .bl b])) : ∃ p, DeepK mu (.ref r) p ∧ p.showable = true ∧ p.depth ≤ 64 ∧ sizeT p.shown.length ∧ p = .list [.bool a, .bool b, .bool a, .bool b] :=
  ⟨_, .lst e (.cons (.bl _) (.cons (.bl _) (.cons (.bl _) (.cons (.bl _) .nil)))), rfl, by show 1 ≤ 64; decide, by
    refine PyData.shown_fits_bulk (B := 13) (by decide) (by decide) rfl ?_
    show (0 + 1 + (0 + 1 + (0 + 1 + (0 + 1 + 0)))) ≤ 2 ^ 20
    decide, rfl⟩
/-- the law's own say at one thing -/
def spRight01 : DSp := fun ds mu Q _ => ∃ (d : D) (h n k : Nat), ds = [d] ∧ Va mu h n k d ∧ n ≤ 100000 ∧ k ≤ 64 ∧ wb n k ≤ 2 ^ 20 ∧ Q (.bl true) mu
theorem w_right01 {G : Ctx} {i1 i2 i3 i4 : Nat} (g1 : G.fn i1 = spWordD) (g2 : G.fn i2 = spSymD) (g3 : G.fn i3 = spWordD) (g4 : G.fn i4 = spSymD) {ds : List D} {mu : Store} {Q : QD} {E : QX} (s : spRight01 ds mu Q E) : wpSs G (c_law_right_v10 i1 i2 i3 i4) (endsOf (gcD mu Q) (gcX mu E)) (startD N_law_right_v10 ds) mu := by
  obtain ⟨d, h, n, k, rfl, v, hn, hk, hw, q⟩ := s
  obtain ⟨p, dp, sp, pd, pl⟩ := v.repr hn hk hw
  (try with_reducible refine nx_in ?_); simp (disch := (first | assumption | omega | rfl | (simp only [List.length_set, List.length_append, List.length_cons, List.length_nil, List.length_map, List.length_range, intsD_len]; omega) | (simp only [List.length_cons, List.length_nil, Nat.zero_add, Nat.reduceAdd, List.take_succ_cons, List.take_zero]))) only [↓wpk, wpI, wpT, withS, asTup, asCons, asNil, onB, onI, onKey, keyOf, onSome, endsOf, startD_n, nones, w1, w2, w3, pre2, pre3, isDct, wSl, wSet, wAug, wDel, seqAt, listAt, lstAt, getAt, putAt, dctAt, itemAt, wSeq, wLock, unlk, post0, newLst, wipeD, dispOf, onDisp, List.map_cons, List.map_nil, List.length_cons, List.length_nil, List.length_map, List.length_append, List.length_set, List.nil_append, List.cons_append, List.append_assoc, List.set_cons_zero, List.set_cons_succ, List.getElem?_cons_zero, List.getElem?_cons_succ, List.append_nil, perm, List.getD_cons_zero, List.getD_cons_succ, Int.toNat_natCast, Nat.reduceAdd, Nat.reduceSub, true_and, and_true, if_true, if_false, Bool.false_eq_true, decide_eq_true_eq, D.isNon, Nat.reduceLT, Nat.reduceLeDiff, Int.reduceLT, Int.reduceLE, Int.reduceToNat, Int.reducePow, Int.reduceMul, Int.reduceNeg, Bool.not_true, Bool.not_false, forall_const, cond_true, cond_false, sizeT_ok, szl_ok, szl_ok2, small_ok, at_lt, at_ge, at_sne, at_seq, set_ge, set_lt, gcE_set, gcE_set0, gcE_ll, gcE_ss, gcE_ssl, gcE_lsl, gcE_l0l, Nat.sub_self, Nat.add_sub_cancel_left, Nat.add_sub_cancel, Int.zero_add, Int.add_zero, Option.getD_some, Option.getD_none, Option.isSome_some, Option.isSome_none, c_law_right_v10, N_law_right_v10]
  refine ⟨p, dp, sp, pd, pl, ?_⟩
  (try with_reducible refine nx_in ?_); simp (disch := (first | assumption | omega | rfl | (simp only [List.length_set, List.length_append, List.length_cons, List.length_nil, List.length_map, List.length_range, intsD_len]; omega) | (simp only [List.length_cons, List.length_nil, Nat.zero_add, Nat.reduceAdd, List.take_succ_cons, List.take_zero]))) only [↓wpk, wpI, wpT, withS, asTup, asCons, asNil, onB, onI, onKey, keyOf, onSome, endsOf, startD_n, nones, w1, w2, w3, pre2, pre3, isDct, wSl, wSet, wAug, wDel, seqAt, listAt, lstAt, getAt, putAt, dctAt, itemAt, wSeq, wLock, unlk, post0, newLst, wipeD, dispOf, onDisp, List.map_cons, List.map_nil, List.length_cons, List.length_nil, List.length_map, List.length_append, List.length_set, List.nil_append, List.cons_append, List.append_assoc, List.set_cons_zero, List.set_cons_succ, List.getElem?_cons_zero, List.getElem?_cons_succ, List.append_nil, perm, List.getD_cons_zero, List.getD_cons_succ, Int.toNat_natCast, Nat.reduceAdd, Nat.reduceSub, true_and, and_true, if_true, if_false, Bool.false_eq_true, decide_eq_true_eq, D.isNon, Nat.reduceLT, Nat.reduceLeDiff, Int.reduceLT, Int.reduceLE, Int.reduceToNat, Int.reducePow, Int.reduceMul, Int.reduceNeg, Bool.not_true, Bool.not_false, forall_const, cond_true, cond_false, sizeT_ok, szl_ok, szl_ok2, small_ok, at_lt, at_ge, at_sne, at_seq, set_ge, set_lt, gcE_set, gcE_set0, gcE_ll, gcE_ss, gcE_ssl, gcE_lsl, gcE_l0l, Nat.sub_self, Nat.add_sub_cancel_left, Nat.add_sub_cancel, Int.zero_add, Int.add_zero, Option.getD_some, Option.getD_none, Option.isSome_some, Option.isSome_none]
  refine call_to g4 ⟨d, h, n, k, rfl, v, hn, ?_⟩
  (try with_reducible refine nx_in ?_); simp (disch := (first | assumption | omega | rfl | (simp only [List.length_set, List.length_append, List.length_cons, List.length_nil, List.length_map, List.length_range, intsD_len]; omega) | (simp only [List.length_cons, List.length_nil, Nat.zero_add, Nat.reduceAdd, List.take_succ_cons, List.take_zero]))) only [↓wpk, wpI, wpT, withS, asTup, asCons, asNil, onB, onI, onKey, keyOf, onSome, endsOf, startD_n, nones, w1, w2, w3, pre2, pre3, isDct, wSl, wSet, wAug, wDel, seqAt, listAt, lstAt, getAt, putAt, dctAt, itemAt, wSeq, wLock, unlk, post0, newLst, wipeD, dispOf, onDisp, List.map_cons, List.map_nil, List.length_cons, List.length_nil, List.length_map, List.length_append, List.length_set, List.nil_append, List.cons_append, List.append_assoc, List.set_cons_zero, List.set_cons_succ, List.getElem?_cons_zero, List.getElem?_cons_succ, List.append_nil, perm, List.getD_cons_zero, List.getD_cons_succ, Int.toNat_natCast, Nat.reduceAdd, Nat.reduceSub, true_and, and_true, if_true, if_false, Bool.false_eq_true, decide_eq_true_eq, D.isNon, Nat.reduceLT, Nat.reduceLeDiff, Int.reduceLT, Int.reduceLE, Int.reduceToNat, Int.reducePow, Int.reduceMul, Int.reduceNeg, Bool.not_true, Bool.not_false, forall_const, cond_true, cond_false, sizeT_ok, szl_ok, szl_ok2, small_ok, at_lt, at_ge, at_sne, at_seq, set_ge, set_lt, gcE_set, gcE_set0, gcE_ll, gcE_ss, gcE_ssl, gcE_lsl, gcE_l0l, Nat.sub_self, Nat.add_sub_cancel_left, Nat.add_sub_cancel, Int.zero_add, Int.add_zero, Option.getD_some, Option.getD_none, Option.isSome_some, Option.isSome_none]
  refine call_to g3 ⟨d, h, n, k, rfl, v, hn, ?_⟩
  (try with_reducible refine nx_in ?_); simp (disch := (first | assumption | omega | rfl | (simp only [List.length_set, List.length_append, List.length_cons, List.length_nil, List.length_map, List.length_range, intsD_len]; omega) | (simp only [List.length_cons, List.length_nil, Nat.zero_add, Nat.reduceAdd, List.take_succ_cons, List.take_zero]))) only [↓wpk, wpI, wpT, withS, asTup, asCons, asNil, onB, onI, onKey, keyOf, onSome, endsOf, startD_n, nones, w1, w2, w3, pre2, pre3, isDct, wSl, wSet, wAug, wDel, seqAt, listAt, lstAt, getAt, putAt, dctAt, itemAt, wSeq, wLock, unlk, post0, newLst, wipeD, dispOf, onDisp, List.map_cons, List.map_nil, List.length_cons, List.length_nil, List.length_map, List.length_append, List.length_set, List.nil_append, List.cons_append, List.append_assoc, List.set_cons_zero, List.set_cons_succ, List.getElem?_cons_zero, List.getElem?_cons_succ, List.append_nil, perm, List.getD_cons_zero, List.getD_cons_succ, Int.toNat_natCast, Nat.reduceAdd, Nat.reduceSub, true_and, and_true, if_true, if_false, Bool.false_eq_true, decide_eq_true_eq, D.isNon, Nat.reduceLT, Nat.reduceLeDiff, Int.reduceLT, Int.reduceLE, Int.reduceToNat, Int.reducePow, Int.reduceMul, Int.reduceNeg, Bool.not_true, Bool.not_false, forall_const, cond_true, cond_false, sizeT_ok, szl_ok, szl_ok2, small_ok, at_lt, at_ge, at_sne, at_seq, set_ge, set_lt, gcE_set, gcE_set0, gcE_ll, gcE_ss, gcE_ssl, gcE_lsl, gcE_l0l, Nat.sub_self, Nat.add_sub_cancel_left, Nat.add_sub_cancel, Int.zero_add, Int.add_zero, Option.getD_some, Option.getD_none, Option.isSome_some, Option.isSome_none]
  refine call_to g4 ⟨d, h, n, k, rfl, v, hn, ?_⟩
  (try with_reducible refine nx_in ?_); simp (disch := (first | assumption | omega | rfl | (simp only [List.length_set, List.length_append, List.length_cons, List.length_nil, List.length_map, List.length_range, intsD_len]; omega) | (simp only [List.length_cons, List.length_nil, Nat.zero_add, Nat.reduceAdd, List.take_succ_cons, List.take_zero]))) only [↓wpk, wpI, wpT, withS, asTup, asCons, asNil, onB, onI, onKey, keyOf, onSome, endsOf, startD_n, nones, w1, w2, w3, pre2, pre3, isDct, wSl, wSet, wAug, wDel, seqAt, listAt, lstAt, getAt, putAt, dctAt, itemAt, wSeq, wLock, unlk, post0, newLst, wipeD, dispOf, onDisp, List.map_cons, List.map_nil, List.length_cons, List.length_nil, List.length_map, List.length_append, List.length_set, List.nil_append, List.cons_append, List.append_assoc, List.set_cons_zero, List.set_cons_succ, List.getElem?_cons_zero, List.getElem?_cons_succ, List.append_nil, perm, List.getD_cons_zero, List.getD_cons_succ, Int.toNat_natCast, Nat.reduceAdd, Nat.reduceSub, true_and, and_true, if_true, if_false, Bool.false_eq_true, decide_eq_true_eq, D.isNon, Nat.reduceLT, Nat.reduceLeDiff, Int.reduceLT, Int.reduceLE, Int.reduceToNat, Int.reducePow, Int.reduceMul, Int.reduceNeg, Bool.not_true, Bool.not_false, forall_const, cond_true, cond_false, sizeT_ok, szl_ok, szl_ok2, small_ok, at_lt, at_ge, at_sne, at_seq, set_ge, set_lt, gcE_set, gcE_set0, gcE_ll, gcE_ss, gcE_ssl, gcE_lsl, gcE_l0l, Nat.sub_self, Nat.add_sub_cancel_left, Nat.add_sub_cancel, Int.zero_add, Int.add_zero, Option.getD_some, Option.getD_none, Option.isSome_some, Option.isSome_none]
  refine call_to g3 ⟨d, h, n, k, rfl, v, hn, ?_⟩
  (try with_reducible refine nx_in ?_); simp (disch := (first | assumption | omega | rfl | (simp only [List.length_set, List.length_append, List.length_cons, List.length_nil, List.length_map, List.length_range, intsD_len]; omega) | (simp only [List.length_cons, List.length_nil, Nat.zero_add, Nat.reduceAdd, List.take_succ_cons, List.take_zero]))) only [↓wpk, wpI, wpT, withS, asTup, asCons, asNil, onB, onI, onKey, keyOf, onSome, endsOf, startD_n, nones, w1, w2, w3, pre2, pre3, isDct, wSl, wSet, wAug, wDel, seqAt, listAt, lstAt, getAt, putAt, dctAt, itemAt, wSeq, wLock, unlk, post0, newLst, wipeD, dispOf, onDisp, List.map_cons, List.map_nil, List.length_cons, List.length_nil, List.length_map, List.length_append, List.length_set, List.nil_append, List.cons_append, List.append_assoc, List.set_cons_zero, List.set_cons_succ, List.getElem?_cons_zero, List.getElem?_cons_succ, List.append_nil, perm, List.getD_cons_zero, List.getD_cons_succ, Int.toNat_natCast, Nat.reduceAdd, Nat.reduceSub, true_and, and_true, if_true, if_false, Bool.false_eq_true, decide_eq_true_eq, D.isNon, Nat.reduceLT, Nat.reduceLeDiff, Int.reduceLT, Int.reduceLE, Int.reduceToNat, Int.reducePow, Int.reduceMul, Int.reduceNeg, Bool.not_true, Bool.not_false, forall_const, cond_true, cond_false, sizeT_ok, szl_ok, szl_ok2, small_ok, at_lt, at_ge, at_sne, at_seq, set_ge, set_lt, gcE_set, gcE_set0, gcE_ll, gcE_ss, gcE_ssl, gcE_lsl, gcE_l0l, Nat.sub_self, Nat.add_sub_cancel_left, Nat.add_sub_cancel, Int.zero_add, Int.add_zero, Option.getD_some, Option.getD_none, Option.isSome_some, Option.isSome_none]
  obtain ⟨p4, d4, s4, k4, l4, e4⟩ := told4 (mu := mu ++ [Cell.lst [D.bl (symD d), D.bl (wordD d), D.bl (symD d), D.bl (wordD d)]]) (r := mu.length) (a := symD d) (b := wordD d) (by rw [at_end0]; rfl)
  refine ⟨p4, d4, s4, k4, l4, ?_⟩
  refine call_to g2 ⟨d, h, n, k, rfl, v.keep .app, hn, ?_⟩
  refine call_to g1 ⟨d, h, n, k, rfl, v.keep .app, hn, ?_⟩
  obtain ⟨p5, d5, s5, k5, l5, e5⟩ := told4 (mu := mu ++ [Cell.lst [D.bl (symD d), D.bl (wordD d), D.bl (symD d), D.bl (wordD d)]] ++ [Cell.lst [D.bl (symD d), D.bl (wordD d)], Cell.lst (List.replicate 2 [D.bl (symD d), D.bl (wordD d)]).flatten]) (r := (mu ++ [Cell.lst [D.bl (symD d), D.bl (wordD d), D.bl (symD d), D.bl (wordD d)]]).length + 1) (a := symD d) (b := wordD d) (by rw [at_endk]; rfl)
  refine ⟨p5, d5, s5, k5, l5, ?_⟩
  (try with_reducible refine nx_in ?_); simp (disch := (first | assumption | omega | rfl | (simp only [List.length_set, List.length_append, List.length_cons, List.length_nil, List.length_map, List.length_range, intsD_len]; omega) | (simp only [List.length_cons, List.length_nil, Nat.zero_add, Nat.reduceAdd, List.take_succ_cons, List.take_zero]))) only [↓wpk, wpI, wpT, withS, asTup, asCons, asNil, onB, onI, onKey, keyOf, onSome, endsOf, startD_n, nones, w1, w2, w3, pre2, pre3, isDct, wSl, wSet, wAug, wDel, seqAt, listAt, lstAt, getAt, putAt, dctAt, itemAt, wSeq, wLock, unlk, post0, newLst, wipeD, dispOf, onDisp, List.map_cons, List.map_nil, List.length_cons, List.length_nil, List.length_map, List.length_append, List.length_set, List.nil_append, List.cons_append, List.append_assoc, List.set_cons_zero, List.set_cons_succ, List.getElem?_cons_zero, List.getElem?_cons_succ, List.append_nil, perm, List.getD_cons_zero, List.getD_cons_succ, Int.toNat_natCast, Nat.reduceAdd, Nat.reduceSub, true_and, and_true, if_true, if_false, Bool.false_eq_true, decide_eq_true_eq, D.isNon, Nat.reduceLT, Nat.reduceLeDiff, Int.reduceLT, Int.reduceLE, Int.reduceToNat, Int.reducePow, Int.reduceMul, Int.reduceNeg, Bool.not_true, Bool.not_false, forall_const, cond_true, cond_false, sizeT_ok, szl_ok, szl_ok2, small_ok, at_lt, at_ge, at_sne, at_seq, set_ge, set_lt, gcE_set, gcE_set0, gcE_ll, gcE_ss, gcE_ssl, gcE_lsl, gcE_l0l, Nat.sub_self, Nat.add_sub_cancel_left, Nat.add_sub_cancel, Int.zero_add, Int.add_zero, Option.getD_some, Option.getD_none, Option.isSome_some, Option.isSome_none, D.cl]
  rw [e4, e5]
  rw [if_pos rfl]
  refine ⟨p, deepK_app dp, sp, pd, pl, ?_⟩
  rw [decide_eq_true rfl]
  exact gc_app (by simp only [D.cl]) q
end MP
namespace MP
open PySem PySem.Spec PyProof.Rows L2
def c_law_odd : CSs := (.cons (.asg (.name 2) (.lst (.cons (.con .non) (.cons (.con (.bl true)) (.cons (.con (.bl false)) (.cons (.con (.int 0)) (.cons (.con (.int 1)) (.cons (.op1 .neg (.con (.int 1))) (.cons (.con (.str "")) (.cons (.con (.str "a")) (.cons (.con (.str "A")) (.cons (.con (.str "abcdefghi")) (.cons (.con (.str "cut")) (.cons (.tup .nil) (.cons (.lst .nil) (.cons (.dnew false) (.cons (.tup (.cons (.tup .nil) .nil)) (.cons (.tup (.cons (.con (.str "a")) .nil)) (.cons (.lst (.cons (.con (.int 0)) .nil)) .nil))))))))))))))))))) (.cons (.ite (.op1 (.isinst .tuple) (.var 1)) (.cons (.asg (.name 2) (.op2 .add (.var 2) (.op2 .mul (.lst (.cons (.op1 .list (.var 1)) (.cons (.op2 .add (.var 1) (.sl (.var 1) (.some (.op1 .neg (.con (.int 1)))) .no)) (.cons (.sl (.var 1) (.some (.con (.int 1))) .no) (.cons (.op1 .rev (.var 1)) (.cons (.tup (.cons (.var 1) .nil)) (.cons (.sl (.var 1) .no (.some (.op1 .neg (.con (.int 1))))) .nil))))))) (.con (.int 2))))) .nil) .nil) (.cons (.ite (.op1 (.isinst .int) (.var 1)) (.cons (.asg (.name 2) (.op2 .add (.var 2) (.op2 .mul (.lst (.cons (.op2 .add (.var 1) (.con (.int 1))) (.cons (.op2 .sub (.var 1) (.con (.int 1))) (.cons (.op2 .eq (.var 1) (.con (.int 1))) (.cons (.op1 .str (.var 1)) .nil))))) (.con (.int 3))))) .nil) .nil) (.cons (.ite (.op1 (.isinst .str) (.var 1)) (.cons (.asg (.name 2) (.op2 .add (.var 2) (.op2 .mul (.lst (.cons (.op2 .add (.var 1) (.con (.str "a"))) (.cons (.sl (.var 1) (.some (.con (.int 1))) .no) (.cons (.op1 .upper (.var 1)) (.cons (.tup (.cons (.var 1) .nil)) (.cons (.op2 .add (.var 1) (.con (.str " "))) .nil)))))) (.con (.int 2))))) .nil) .nil) (.cons (.ret (.call i_law_of [0, 1] (.cons (.var 0) (.cons (.var 2) .nil)) .nil)) .nil)))))
def N_law_odd : List Str := ["_law_hand_here", "_law_one", "_law_some"]
def spOdd : DSp := fun ds mu Q _ => ∃ (h m n k : Nat) (d : D), ds = [.ref h, d] ∧ Hand mu h (m + 1) ∧ Va mu h n k d ∧ 9 ≤ n ∧ n ≤ 100 ∧ 1 ≤ k ∧
  ∀ d' c' P, HandC m c' → Va (mu.set h c' ++ P) h (n + 1) (k + 1) d' → Q d' (mu.set h c' ++ P)
def odd0 (r : Nat) : List D := [D.non, D.bl true, D.bl false, D.int 0, D.int 1, D.int (-1), D.str (Str.ofString ""),
            D.str (Str.ofString "a"), D.str (Str.ofString "A"), D.str (Str.ofString "abcdefghi"),
            D.str (Str.ofString "cut"), D.tup [], D.ref r, D.ref (r + 1), D.tup [D.tup []],
            D.tup [D.str (Str.ofString "a")], D.ref (r + 2)]
def oddP : Store := [Cell.lst [], Cell.dct [] false, Cell.lst [D.int 0]]
theorem odd0_va {mu P : Store} {h n k : Nat} (hl : h < mu.length) (hn : 9 ≤ n) (hk : 1 ≤ k) : ∀ x ∈ odd0 mu.length, Va (mu ++ (oddP ++ P)) h (n + 1) (k + 1) x := by
  obtain ⟨j, rfl⟩ : ∃ j, k = j + 1 := ⟨k - 1, by omega⟩
  have e0 : (mu ++ (oddP ++ P))[mu.length]? = some (.lst []) := by rw [at_end0]; rfl
  have e1 : (mu ++ (oddP ++ P))[mu.length + 1]? = some (.dct [] false) := by rw [at_endk]; rfl
  have e2 : (mu ++ (oddP ++ P))[mu.length + 2]? = some (.lst [.int 0]) := by rw [at_endk]; rfl
  have st : ∀ z : String, (∀ c ∈ (Str.ofString z).cps.toList, c < 128) → (Str.ofString z).length ≤ 9 → ∀ k', Va (mu ++ (oddP ++ P)) h (n + 1) k' (.str (Str.ofString z)) := fun z a b k' => .str a (by omega)
  unfold odd0
  simp only [List.forall_mem_cons, List.not_mem_nil, false_implies, implies_true, and_true]
  refine ⟨.non, .bl _, .bl _, .int (by show 0 ≤ _; omega), .int (by show 1 ≤ _; omega), .int (by show 1 ≤ _; omega), st _ (by decide +kernel) (by decide +kernel) _, st _ (by decide +kernel) (by decide +kernel) _, st _ (by decide +kernel) (by decide +kernel) _, st _ (by decide +kernel) (by decide +kernel) _, st _ (by decide +kernel) (by decide +kernel) _, .tup (by simp) (by simp), .lst hl e0 (by simp) (by simp), .dct (by omega) e1, .tup ?_ (by simp), .tup ?_ (by simp), .lst (by omega) e2 ?_ (by simp)⟩
  · intro x hx; rw [List.mem_singleton.mp hx]; exact .tup (by simp) (by simp)
  · intro x hx; rw [List.mem_singleton.mp hx]; exact st _ (by decide +kernel) (by decide +kernel) _
  · intro x hx; rw [List.mem_singleton.mp hx]; exact .int (by show 0 ≤ _; omega)
theorem odd_end {G : Ctx} (g : G.fn i_law_of = spOf) {mu P : Store} {h m n k r : Nat} {xs : List D} {Q : QD} {E : QX} (hh : Hand mu h (m + 1)) (hr : mu.length ≤ r) (e : (mu ++ P)[r]? = some (.lst xs)) (h0 : xs ≠ []) (h1 : xs.length < 2 ^ 30)
    (a : ∀ c', ∀ x ∈ xs, Va (mu.set h c' ++ P) h n k x) (q : ∀ d' c' P, HandC m c' → Va (mu.set h c' ++ P) h n k d' → Q d' (mu.set h c' ++ P)) : CallTo G i_law_of [D.ref h, D.ref r] (mu ++ P) (fun d mu1 => gcD mu Q d mu1) fun x nu => gcX mu E x nu := by
  have hl := hh.lt
  refine call_to g ⟨h, m, _, rfl, hh.app, .inl ⟨xs, .inr ⟨r, by omega, rfl, e⟩, h0, h1, fun x c hx hc => ?_⟩⟩
  rw [List.set_append_left _ _ hl]
  exact gc_any (q _ _ _ hc (a c x hx))
theorem mem_rep {α : Type} {x : α} {k : Nat} {l : List α} (h : x ∈ (List.replicate k l).flatten) : x ∈ l := by
  obtain ⟨y, hy, hx⟩ := List.mem_flatten.mp h
  rw [List.eq_of_mem_replicate hy] at hx
  exact hx
theorem ty1 : (Ty.tuple == Ty.list) = false := rfl
theorem ty2 : (Ty.int == Ty.list) = false := rfl
theorem ty3 : (Ty.str == Ty.list) = false := rfl
theorem ty4 : (Ty.tuple == Ty.dict) = false := rfl
theorem ty5 : (Ty.int == Ty.dict) = false := rfl
theorem ty6 : (Ty.str == Ty.dict) = false := rfl
/-- the end, where more was added -/
theorem odd_more {G : Ctx} (g : G.fn i_law_of = spOf) {mu Z : Store} {h m n k r j : Nat} {ms : List D} {Q : QD} {E : QX} (hh : Hand mu h (m + 1)) (hz : r = mu.length + 6 + Z.length) (hj : j ≤ 3) (hm : ms.length ≤ 10)
    (base : ∀ P c', ∀ x ∈ odd0 mu.length, Va (mu.set h c' ++ (oddP ++ P)) h n k x)
    (a : ∀ c' P, ∀ x ∈ ms, Va (mu.set h c' ++ (oddP ++ (.lst (odd0 mu.length) :: (Z ++ P)))) h n k x) (q : ∀ d' c' P, HandC m c' → Va (mu.set h c' ++ P) h n k d' → Q d' (mu.set h c' ++ P)) :
    CallTo G i_law_of [D.ref h, D.ref r] (mu ++ (oddP ++ (.lst (odd0 mu.length) :: (Z ++ [.lst ms, .lst (List.replicate j ms).flatten, .lst (odd0 mu.length ++ (List.replicate j ms).flatten)])))) (fun d mu1 => gcD mu Q d mu1) fun x nu => gcX mu E x nu := by
  subst hz
  have ln : (List.replicate j ms).flatten.length ≤ 30 := by
    rw [List.length_flatten, List.map_replicate, List.sum_replicate_nat]
    exact Nat.le_trans (Nat.mul_le_mul hj hm) (by decide)
  refine odd_end g hh (by omega) (xs := odd0 mu.length ++ (List.replicate j ms).flatten) ?_ (by simp [odd0]) (by rw [List.length_append]; simp only [odd0, List.length_cons, List.length_nil]; omega) (fun c' x hx => ?_) q
  · rw [show mu.length + 6 + Z.length = mu.length + (6 + Z.length) by omega, at_endk]
    show ([Cell.lst [], Cell.dct [] false, Cell.lst [D.int 0], .lst (odd0 mu.length)] ++ (Z ++ _))[6 + Z.length]? = _
    rw [List.getElem?_append_right (by simp only [List.length_cons, List.length_nil]; omega), List.getElem?_append_right (by simp only [List.length_cons, List.length_nil]; omega)]
    simp only [List.length_cons, List.length_nil]
    rw [show 6 + Z.length - (0 + 1 + 1 + 1 + 1) - Z.length = 2 by omega]
    rfl
  · rcases List.mem_append.mp hx with hx | hx
    · exact base _ c' x hx
    · exact a c' _ x (mem_rep hx)
theorem str_int : ∀ i : Nat, i ≤ 100 → (∀ c ∈ (Str.ofString (toString (i : Int))).cps.toList, c < 128) ∧ (Str.ofString (toString (i : Int))).length ≤ 9 := by decide +kernel
theorem str_neg : ∀ i : Nat, i ≤ 100 → (∀ c ∈ (Str.ofString (toString (-(i : Int)))).cps.toList, c < 128) ∧ (Str.ofString (toString (-(i : Int)))).length ≤ 9 := by decide +kernel
theorem str_any {i : Int} (h : i.natAbs ≤ 100) : (∀ c ∈ (Str.ofString (toString i)).cps.toList, c < 128) ∧ (Str.ofString (toString i)).length ≤ 9 := by
  rcases Int.natAbs_eq i with e | e
  · rw [e]; exact str_int _ h
  · rw [e]; exact str_neg _ h
theorem asc_app {a b : Str} (ha : ∀ c ∈ a.cps.toList, c < 128) (hb : ∀ c ∈ b.cps.toList, c < 128) : ∀ c ∈ (a ++ b).cps.toList, c < 128 := fun c hc => by
  rw [app_toList] at hc
  rcases List.mem_append.mp hc with hc | hc
  · exact ha c hc
  · exact hb c hc
theorem up_asc : ∀ c < 128, ∃ c', Unicode.upperOf c = [c'] ∧ c' < 128 := by
  have : ∀ c < 128, (match Unicode.upperOf c with | [x] => decide (x < 128) | _ => false) = true := by decide +kernel
  intro c h
  have := this c h
  split at this
  · rename_i x e; exact ⟨x, e, of_decide_eq_true this⟩
  · cases this
theorem up_list : ∀ l : List Nat, (∀ c ∈ l, c < 128) → (∀ c ∈ l.flatMap Unicode.upperOf, c < 128) ∧ (l.flatMap Unicode.upperOf).length = l.length
  | [], _ => ⟨by simp, rfl⟩
  | c :: l, h => by
    obtain ⟨a, b⟩ := up_list l fun x hx => h x (List.mem_cons_of_mem _ hx)
    obtain ⟨c', e, hc⟩ := up_asc c (h c (List.mem_cons_self ..))
    rw [List.flatMap_cons, e]
    refine ⟨fun x hx => ?_, by simp [b]⟩
    rcases List.mem_cons.mp hx with rfl | hx
    · exact hc
    · exact a x hx
theorem up_cps (x : Str) : (Txt.upper x).cps.toList = x.cps.toList.flatMap Unicode.upperOf := by
  show (placed x fun _ c => Unicode.upperOf c).toList = _
  unfold placed
  rw [Array.toList_flatten, Array.toList_mapIdx]
  generalize x.cps.toList = l
  rw [List.mapIdx_eq_zipIdx_map, List.map_map]
  have e : (Array.toList ∘ fun x : Nat × Nat => match x with | (a, i) => ((fun x c => Unicode.upperOf c) i a).toArray) = Unicode.upperOf ∘ Prod.fst := by
    funext p
    rfl
  rw [e, ← List.map_map, List.zipIdx_map_fst, List.flatMap_def]
theorem asc_up {x : Str} (h : ∀ c ∈ x.cps.toList, c < 128) : (∀ c ∈ (Txt.upper x).cps.toList, c < 128) ∧ (Txt.upper x).length = x.length := by
  have := up_list _ h
  have le : ∀ y : Str, y.length = y.cps.toList.length := fun y => by simp [Str.length]
  rw [le, le, up_cps]
  exact this
theorem asc_drop {x : Str} (h : ∀ c ∈ x.cps.toList, c < 128) : (∀ c ∈ (cutS x (some 1) none).cps.toList, c < 128) ∧ (cutS x (some 1) none).length ≤ x.length := by
  have e := cut_drop x 1
  have le : ∀ y : Str, y.length = y.cps.toList.length := fun y => by simp [Str.length]
  have e : (cutS x (some 1) none).cps.toList = x.cps.toList.drop 1 := e
  rw [le, le, e]
  exact ⟨fun c hc => h c (List.mem_of_mem_drop hc), by rw [List.length_drop]; omega⟩
theorem mem_cutD {xs : List D} {lo hi : Option Int} {x : D} (h : x ∈ cutD xs lo hi) : x ∈ xs := by
  unfold cutD at h
  exact List.mem_of_mem_drop (List.mem_of_mem_take h)
theorem len_cutD {xs : List D} {lo hi : Option Int} : (cutD xs lo hi).length ≤ xs.length := by
  unfold cutD
  rw [List.length_take, List.length_drop]
  omega
theorem w_odd {G : Ctx} (g : G.fn i_law_of = spOf) {ds : List D} {mu : Store} {Q : QD} {E : QX} (s : spOdd ds mu Q E) : wpSs G c_law_odd (endsOf (gcD mu Q) (gcX mu E)) (startD N_law_odd ds) mu := by
  obtain ⟨h, m, n, k, d, rfl, hh, v, hn, hn2, hk, q⟩ := s
  have hl := hh.lt
  have base : ∀ P c', ∀ x ∈ odd0 mu.length, Va (mu.set h c' ++ (oddP ++ P)) h (n + 1) (k + 1) x := fun P c' => by
    have := odd0_va (mu := mu.set h c') (P := P) (by rw [List.length_set]; exact hl) hn hk
    rwa [List.length_set] at this
  have none_ : CallTo G i_law_of [D.ref h, D.ref (mu.length + 3)] (mu ++ (oddP ++ [.lst (odd0 mu.length)])) (fun d mu1 => gcD mu Q d mu1) fun x nu => gcX mu E x nu :=
    odd_end g hh (by omega) (by rw [at_endk]; rfl) (by simp [odd0]) (by simp [odd0]) (fun c' x hx => base _ c' x hx) q
  (try with_reducible refine nx_in ?_); simp (disch := (first | assumption | omega | rfl | (simp only [List.length_set, List.length_append, List.length_cons, List.length_nil, List.length_map, List.length_range, intsD_len]; omega) | (simp only [List.length_cons, List.length_nil, Nat.zero_add, Nat.reduceAdd, List.take_succ_cons, List.take_zero]))) only [↓wpk, wpI, wpT, withS, asTup, asCons, asNil, onB, onI, onKey, keyOf, onSome, endsOf, startD_n, nones, w1, w2, w3, pre2, pre3, isDct, wSl, wSet, wAug, wDel, seqAt, listAt, lstAt, getAt, putAt, dctAt, itemAt, wSeq, wLock, unlk, post0, newLst, wipeD, dispOf, onDisp, List.map_cons, List.map_nil, List.length_cons, List.length_nil, List.length_map, List.length_append, List.length_set, List.nil_append, List.cons_append, List.append_assoc, List.set_cons_zero, List.set_cons_succ, List.getElem?_cons_zero, List.getElem?_cons_succ, List.append_nil, perm, List.getD_cons_zero, List.getD_cons_succ, Int.toNat_natCast, Nat.reduceAdd, Nat.reduceSub, true_and, and_true, if_true, if_false, Bool.false_eq_true, decide_eq_true_eq, D.isNon, Nat.reduceLT, Nat.reduceLeDiff, Int.reduceLT, Int.reduceLE, Int.reduceToNat, Int.reducePow, Int.reduceMul, Int.reduceNeg, Bool.not_true, Bool.not_false, forall_const, cond_true, cond_false, sizeT_ok, szl_ok, szl_ok2, small_ok, at_lt, at_ge, at_sne, at_seq, set_ge, set_lt, gcE_set, gcE_set0, gcE_ll, gcE_ss, gcE_ssl, gcE_lsl, gcE_l0l, Nat.sub_self, Nat.add_sub_cancel_left, Nat.add_sub_cancel, Int.zero_add, Int.add_zero, Option.getD_some, Option.getD_none, Option.isSome_some, Option.isSome_none, c_law_odd, N_law_odd]
  cases v with
  | non =>
    (try with_reducible refine nx_in ?_); simp (disch := (first | assumption | omega | rfl | (simp only [List.length_set, List.length_append, List.length_cons, List.length_nil, List.length_map, List.length_range, intsD_len]; omega) | (simp only [List.length_cons, List.length_nil, Nat.zero_add, Nat.reduceAdd, List.take_succ_cons, List.take_zero]))) only [↓wpk, wpI, wpT, withS, asTup, asCons, asNil, onB, onI, onKey, keyOf, onSome, endsOf, startD_n, nones, w1, w2, w3, pre2, pre3, isDct, wSl, wSet, wAug, wDel, seqAt, listAt, lstAt, getAt, putAt, dctAt, itemAt, wSeq, wLock, unlk, post0, newLst, wipeD, dispOf, onDisp, List.map_cons, List.map_nil, List.length_cons, List.length_nil, List.length_map, List.length_append, List.length_set, List.nil_append, List.cons_append, List.append_assoc, List.set_cons_zero, List.set_cons_succ, List.getElem?_cons_zero, List.getElem?_cons_succ, List.append_nil, perm, List.getD_cons_zero, List.getD_cons_succ, Int.toNat_natCast, Nat.reduceAdd, Nat.reduceSub, true_and, and_true, if_true, if_false, Bool.false_eq_true, decide_eq_true_eq, D.isNon, Nat.reduceLT, Nat.reduceLeDiff, Int.reduceLT, Int.reduceLE, Int.reduceToNat, Int.reducePow, Int.reduceMul, Int.reduceNeg, Bool.not_true, Bool.not_false, forall_const, cond_true, cond_false, sizeT_ok, szl_ok, szl_ok2, small_ok, at_lt, at_ge, at_sne, at_seq, set_ge, set_lt, gcE_set, gcE_set0, gcE_ll, gcE_ss, gcE_ssl, gcE_lsl, gcE_l0l, Nat.sub_self, Nat.add_sub_cancel_left, Nat.add_sub_cancel, Int.zero_add, Int.add_zero, Option.getD_some, Option.getD_none, Option.isSome_some, Option.isSome_none, isTy]
    (try with_reducible refine nx_in ?_); simp (disch := (first | assumption | omega | rfl | (simp only [List.length_set, List.length_append, List.length_cons, List.length_nil, List.length_map, List.length_range, intsD_len]; omega) | (simp only [List.length_cons, List.length_nil, Nat.zero_add, Nat.reduceAdd, List.take_succ_cons, List.take_zero]))) only [↓wpk, wpI, wpT, withS, asTup, asCons, asNil, onB, onI, onKey, keyOf, onSome, endsOf, startD_n, nones, w1, w2, w3, pre2, pre3, isDct, wSl, wSet, wAug, wDel, seqAt, listAt, lstAt, getAt, putAt, dctAt, itemAt, wSeq, wLock, unlk, post0, newLst, wipeD, dispOf, onDisp, List.map_cons, List.map_nil, List.length_cons, List.length_nil, List.length_map, List.length_append, List.length_set, List.nil_append, List.cons_append, List.append_assoc, List.set_cons_zero, List.set_cons_succ, List.getElem?_cons_zero, List.getElem?_cons_succ, List.append_nil, perm, List.getD_cons_zero, List.getD_cons_succ, Int.toNat_natCast, Nat.reduceAdd, Nat.reduceSub, true_and, and_true, if_true, if_false, Bool.false_eq_true, decide_eq_true_eq, D.isNon, Nat.reduceLT, Nat.reduceLeDiff, Int.reduceLT, Int.reduceLE, Int.reduceToNat, Int.reducePow, Int.reduceMul, Int.reduceNeg, Bool.not_true, Bool.not_false, forall_const, cond_true, cond_false, sizeT_ok, szl_ok, szl_ok2, small_ok, at_lt, at_ge, at_sne, at_seq, set_ge, set_lt, gcE_set, gcE_set0, gcE_ll, gcE_ss, gcE_ssl, gcE_lsl, gcE_l0l, Nat.sub_self, Nat.add_sub_cancel_left, Nat.add_sub_cancel, Int.zero_add, Int.add_zero, Option.getD_some, Option.getD_none, Option.isSome_some, Option.isSome_none, isTy]
    (try with_reducible refine nx_in ?_); simp (disch := (first | assumption | omega | rfl | (simp only [List.length_set, List.length_append, List.length_cons, List.length_nil, List.length_map, List.length_range, intsD_len]; omega) | (simp only [List.length_cons, List.length_nil, Nat.zero_add, Nat.reduceAdd, List.take_succ_cons, List.take_zero]))) only [↓wpk, wpI, wpT, withS, asTup, asCons, asNil, onB, onI, onKey, keyOf, onSome, endsOf, startD_n, nones, w1, w2, w3, pre2, pre3, isDct, wSl, wSet, wAug, wDel, seqAt, listAt, lstAt, getAt, putAt, dctAt, itemAt, wSeq, wLock, unlk, post0, newLst, wipeD, dispOf, onDisp, List.map_cons, List.map_nil, List.length_cons, List.length_nil, List.length_map, List.length_append, List.length_set, List.nil_append, List.cons_append, List.append_assoc, List.set_cons_zero, List.set_cons_succ, List.getElem?_cons_zero, List.getElem?_cons_succ, List.append_nil, perm, List.getD_cons_zero, List.getD_cons_succ, Int.toNat_natCast, Nat.reduceAdd, Nat.reduceSub, true_and, and_true, if_true, if_false, Bool.false_eq_true, decide_eq_true_eq, D.isNon, Nat.reduceLT, Nat.reduceLeDiff, Int.reduceLT, Int.reduceLE, Int.reduceToNat, Int.reducePow, Int.reduceMul, Int.reduceNeg, Bool.not_true, Bool.not_false, forall_const, cond_true, cond_false, sizeT_ok, szl_ok, szl_ok2, small_ok, at_lt, at_ge, at_sne, at_seq, set_ge, set_lt, gcE_set, gcE_set0, gcE_ll, gcE_ss, gcE_ssl, gcE_lsl, gcE_l0l, Nat.sub_self, Nat.add_sub_cancel_left, Nat.add_sub_cancel, Int.zero_add, Int.add_zero, Option.getD_some, Option.getD_none, Option.isSome_some, Option.isSome_none, isTy]
    (try with_reducible refine nx_in ?_); simp (disch := (first | assumption | omega | rfl | (simp only [List.length_set, List.length_append, List.length_cons, List.length_nil, List.length_map, List.length_range, intsD_len]; omega) | (simp only [List.length_cons, List.length_nil, Nat.zero_add, Nat.reduceAdd, List.take_succ_cons, List.take_zero]))) only [↓wpk, wpI, wpT, withS, asTup, asCons, asNil, onB, onI, onKey, keyOf, onSome, endsOf, startD_n, nones, w1, w2, w3, pre2, pre3, isDct, wSl, wSet, wAug, wDel, seqAt, listAt, lstAt, getAt, putAt, dctAt, itemAt, wSeq, wLock, unlk, post0, newLst, wipeD, dispOf, onDisp, List.map_cons, List.map_nil, List.length_cons, List.length_nil, List.length_map, List.length_append, List.length_set, List.nil_append, List.cons_append, List.append_assoc, List.set_cons_zero, List.set_cons_succ, List.getElem?_cons_zero, List.getElem?_cons_succ, List.append_nil, perm, List.getD_cons_zero, List.getD_cons_succ, Int.toNat_natCast, Nat.reduceAdd, Nat.reduceSub, true_and, and_true, if_true, if_false, Bool.false_eq_true, decide_eq_true_eq, D.isNon, Nat.reduceLT, Nat.reduceLeDiff, Int.reduceLT, Int.reduceLE, Int.reduceToNat, Int.reducePow, Int.reduceMul, Int.reduceNeg, Bool.not_true, Bool.not_false, forall_const, cond_true, cond_false, sizeT_ok, szl_ok, szl_ok2, small_ok, at_lt, at_ge, at_sne, at_seq, set_ge, set_lt, gcE_set, gcE_set0, gcE_ll, gcE_ss, gcE_ssl, gcE_lsl, gcE_l0l, Nat.sub_self, Nat.add_sub_cancel_left, Nat.add_sub_cancel, Int.zero_add, Int.add_zero, Option.getD_some, Option.getD_none, Option.isSome_some, Option.isSome_none]
    exact none_
  | lst hr e a l =>
    have hrl := (List.getElem?_eq_some_iff.mp e).1
    (try with_reducible refine nx_in ?_); simp (disch := (first | assumption | omega | rfl | (simp only [List.length_set, List.length_append, List.length_cons, List.length_nil, List.length_map, List.length_range, intsD_len]; omega) | (simp only [List.length_cons, List.length_nil, Nat.zero_add, Nat.reduceAdd, List.take_succ_cons, List.take_zero]))) only [↓wpk, wpI, wpT, withS, asTup, asCons, asNil, onB, onI, onKey, keyOf, onSome, endsOf, startD_n, nones, w1, w2, w3, pre2, pre3, isDct, wSl, wSet, wAug, wDel, seqAt, listAt, lstAt, getAt, putAt, dctAt, itemAt, wSeq, wLock, unlk, post0, newLst, wipeD, dispOf, onDisp, List.map_cons, List.map_nil, List.length_cons, List.length_nil, List.length_map, List.length_append, List.length_set, List.nil_append, List.cons_append, List.append_assoc, List.set_cons_zero, List.set_cons_succ, List.getElem?_cons_zero, List.getElem?_cons_succ, List.append_nil, perm, List.getD_cons_zero, List.getD_cons_succ, Int.toNat_natCast, Nat.reduceAdd, Nat.reduceSub, true_and, and_true, if_true, if_false, Bool.false_eq_true, decide_eq_true_eq, D.isNon, Nat.reduceLT, Nat.reduceLeDiff, Int.reduceLT, Int.reduceLE, Int.reduceToNat, Int.reducePow, Int.reduceMul, Int.reduceNeg, Bool.not_true, Bool.not_false, forall_const, cond_true, cond_false, sizeT_ok, szl_ok, szl_ok2, small_ok, at_lt, at_ge, at_sne, at_seq, set_ge, set_lt, gcE_set, gcE_set0, gcE_ll, gcE_ss, gcE_ssl, gcE_lsl, gcE_l0l, Nat.sub_self, Nat.add_sub_cancel_left, Nat.add_sub_cancel, Int.zero_add, Int.add_zero, Option.getD_some, Option.getD_none, Option.isSome_some, Option.isSome_none, isTy, e, ty1]
    (try with_reducible refine nx_in ?_); simp (disch := (first | assumption | omega | rfl | (simp only [List.length_set, List.length_append, List.length_cons, List.length_nil, List.length_map, List.length_range, intsD_len]; omega) | (simp only [List.length_cons, List.length_nil, Nat.zero_add, Nat.reduceAdd, List.take_succ_cons, List.take_zero]))) only [↓wpk, wpI, wpT, withS, asTup, asCons, asNil, onB, onI, onKey, keyOf, onSome, endsOf, startD_n, nones, w1, w2, w3, pre2, pre3, isDct, wSl, wSet, wAug, wDel, seqAt, listAt, lstAt, getAt, putAt, dctAt, itemAt, wSeq, wLock, unlk, post0, newLst, wipeD, dispOf, onDisp, List.map_cons, List.map_nil, List.length_cons, List.length_nil, List.length_map, List.length_append, List.length_set, List.nil_append, List.cons_append, List.append_assoc, List.set_cons_zero, List.set_cons_succ, List.getElem?_cons_zero, List.getElem?_cons_succ, List.append_nil, perm, List.getD_cons_zero, List.getD_cons_succ, Int.toNat_natCast, Nat.reduceAdd, Nat.reduceSub, true_and, and_true, if_true, if_false, Bool.false_eq_true, decide_eq_true_eq, D.isNon, Nat.reduceLT, Nat.reduceLeDiff, Int.reduceLT, Int.reduceLE, Int.reduceToNat, Int.reducePow, Int.reduceMul, Int.reduceNeg, Bool.not_true, Bool.not_false, forall_const, cond_true, cond_false, sizeT_ok, szl_ok, szl_ok2, small_ok, at_lt, at_ge, at_sne, at_seq, set_ge, set_lt, gcE_set, gcE_set0, gcE_ll, gcE_ss, gcE_ssl, gcE_lsl, gcE_l0l, Nat.sub_self, Nat.add_sub_cancel_left, Nat.add_sub_cancel, Int.zero_add, Int.add_zero, Option.getD_some, Option.getD_none, Option.isSome_some, Option.isSome_none, isTy, e, ty2]
    (try with_reducible refine nx_in ?_); simp (disch := (first | assumption | omega | rfl | (simp only [List.length_set, List.length_append, List.length_cons, List.length_nil, List.length_map, List.length_range, intsD_len]; omega) | (simp only [List.length_cons, List.length_nil, Nat.zero_add, Nat.reduceAdd, List.take_succ_cons, List.take_zero]))) only [↓wpk, wpI, wpT, withS, asTup, asCons, asNil, onB, onI, onKey, keyOf, onSome, endsOf, startD_n, nones, w1, w2, w3, pre2, pre3, isDct, wSl, wSet, wAug, wDel, seqAt, listAt, lstAt, getAt, putAt, dctAt, itemAt, wSeq, wLock, unlk, post0, newLst, wipeD, dispOf, onDisp, List.map_cons, List.map_nil, List.length_cons, List.length_nil, List.length_map, List.length_append, List.length_set, List.nil_append, List.cons_append, List.append_assoc, List.set_cons_zero, List.set_cons_succ, List.getElem?_cons_zero, List.getElem?_cons_succ, List.append_nil, perm, List.getD_cons_zero, List.getD_cons_succ, Int.toNat_natCast, Nat.reduceAdd, Nat.reduceSub, true_and, and_true, if_true, if_false, Bool.false_eq_true, decide_eq_true_eq, D.isNon, Nat.reduceLT, Nat.reduceLeDiff, Int.reduceLT, Int.reduceLE, Int.reduceToNat, Int.reducePow, Int.reduceMul, Int.reduceNeg, Bool.not_true, Bool.not_false, forall_const, cond_true, cond_false, sizeT_ok, szl_ok, szl_ok2, small_ok, at_lt, at_ge, at_sne, at_seq, set_ge, set_lt, gcE_set, gcE_set0, gcE_ll, gcE_ss, gcE_ssl, gcE_lsl, gcE_l0l, Nat.sub_self, Nat.add_sub_cancel_left, Nat.add_sub_cancel, Int.zero_add, Int.add_zero, Option.getD_some, Option.getD_none, Option.isSome_some, Option.isSome_none, isTy, e, ty3]
    (try with_reducible refine nx_in ?_); simp (disch := (first | assumption | omega | rfl | (simp only [List.length_set, List.length_append, List.length_cons, List.length_nil, List.length_map, List.length_range, intsD_len]; omega) | (simp only [List.length_cons, List.length_nil, Nat.zero_add, Nat.reduceAdd, List.take_succ_cons, List.take_zero]))) only [↓wpk, wpI, wpT, withS, asTup, asCons, asNil, onB, onI, onKey, keyOf, onSome, endsOf, startD_n, nones, w1, w2, w3, pre2, pre3, isDct, wSl, wSet, wAug, wDel, seqAt, listAt, lstAt, getAt, putAt, dctAt, itemAt, wSeq, wLock, unlk, post0, newLst, wipeD, dispOf, onDisp, List.map_cons, List.map_nil, List.length_cons, List.length_nil, List.length_map, List.length_append, List.length_set, List.nil_append, List.cons_append, List.append_assoc, List.set_cons_zero, List.set_cons_succ, List.getElem?_cons_zero, List.getElem?_cons_succ, List.append_nil, perm, List.getD_cons_zero, List.getD_cons_succ, Int.toNat_natCast, Nat.reduceAdd, Nat.reduceSub, true_and, and_true, if_true, if_false, Bool.false_eq_true, decide_eq_true_eq, D.isNon, Nat.reduceLT, Nat.reduceLeDiff, Int.reduceLT, Int.reduceLE, Int.reduceToNat, Int.reducePow, Int.reduceMul, Int.reduceNeg, Bool.not_true, Bool.not_false, forall_const, cond_true, cond_false, sizeT_ok, szl_ok, szl_ok2, small_ok, at_lt, at_ge, at_sne, at_seq, set_ge, set_lt, gcE_set, gcE_set0, gcE_ll, gcE_ss, gcE_ssl, gcE_lsl, gcE_l0l, Nat.sub_self, Nat.add_sub_cancel_left, Nat.add_sub_cancel, Int.zero_add, Int.add_zero, Option.getD_some, Option.getD_none, Option.isSome_some, Option.isSome_none]
    exact none_
  | dct hr e =>
    have hrl := (List.getElem?_eq_some_iff.mp e).1
    (try with_reducible refine nx_in ?_); simp (disch := (first | assumption | omega | rfl | (simp only [List.length_set, List.length_append, List.length_cons, List.length_nil, List.length_map, List.length_range, intsD_len]; omega) | (simp only [List.length_cons, List.length_nil, Nat.zero_add, Nat.reduceAdd, List.take_succ_cons, List.take_zero]))) only [↓wpk, wpI, wpT, withS, asTup, asCons, asNil, onB, onI, onKey, keyOf, onSome, endsOf, startD_n, nones, w1, w2, w3, pre2, pre3, isDct, wSl, wSet, wAug, wDel, seqAt, listAt, lstAt, getAt, putAt, dctAt, itemAt, wSeq, wLock, unlk, post0, newLst, wipeD, dispOf, onDisp, List.map_cons, List.map_nil, List.length_cons, List.length_nil, List.length_map, List.length_append, List.length_set, List.nil_append, List.cons_append, List.append_assoc, List.set_cons_zero, List.set_cons_succ, List.getElem?_cons_zero, List.getElem?_cons_succ, List.append_nil, perm, List.getD_cons_zero, List.getD_cons_succ, Int.toNat_natCast, Nat.reduceAdd, Nat.reduceSub, true_and, and_true, if_true, if_false, Bool.false_eq_true, decide_eq_true_eq, D.isNon, Nat.reduceLT, Nat.reduceLeDiff, Int.reduceLT, Int.reduceLE, Int.reduceToNat, Int.reducePow, Int.reduceMul, Int.reduceNeg, Bool.not_true, Bool.not_false, forall_const, cond_true, cond_false, sizeT_ok, szl_ok, szl_ok2, small_ok, at_lt, at_ge, at_sne, at_seq, set_ge, set_lt, gcE_set, gcE_set0, gcE_ll, gcE_ss, gcE_ssl, gcE_lsl, gcE_l0l, Nat.sub_self, Nat.add_sub_cancel_left, Nat.add_sub_cancel, Int.zero_add, Int.add_zero, Option.getD_some, Option.getD_none, Option.isSome_some, Option.isSome_none, isTy, e, ty4]
    (try with_reducible refine nx_in ?_); simp (disch := (first | assumption | omega | rfl | (simp only [List.length_set, List.length_append, List.length_cons, List.length_nil, List.length_map, List.length_range, intsD_len]; omega) | (simp only [List.length_cons, List.length_nil, Nat.zero_add, Nat.reduceAdd, List.take_succ_cons, List.take_zero]))) only [↓wpk, wpI, wpT, withS, asTup, asCons, asNil, onB, onI, onKey, keyOf, onSome, endsOf, startD_n, nones, w1, w2, w3, pre2, pre3, isDct, wSl, wSet, wAug, wDel, seqAt, listAt, lstAt, getAt, putAt, dctAt, itemAt, wSeq, wLock, unlk, post0, newLst, wipeD, dispOf, onDisp, List.map_cons, List.map_nil, List.length_cons, List.length_nil, List.length_map, List.length_append, List.length_set, List.nil_append, List.cons_append, List.append_assoc, List.set_cons_zero, List.set_cons_succ, List.getElem?_cons_zero, List.getElem?_cons_succ, List.append_nil, perm, List.getD_cons_zero, List.getD_cons_succ, Int.toNat_natCast, Nat.reduceAdd, Nat.reduceSub, true_and, and_true, if_true, if_false, Bool.false_eq_true, decide_eq_true_eq, D.isNon, Nat.reduceLT, Nat.reduceLeDiff, Int.reduceLT, Int.reduceLE, Int.reduceToNat, Int.reducePow, Int.reduceMul, Int.reduceNeg, Bool.not_true, Bool.not_false, forall_const, cond_true, cond_false, sizeT_ok, szl_ok, szl_ok2, small_ok, at_lt, at_ge, at_sne, at_seq, set_ge, set_lt, gcE_set, gcE_set0, gcE_ll, gcE_ss, gcE_ssl, gcE_lsl, gcE_l0l, Nat.sub_self, Nat.add_sub_cancel_left, Nat.add_sub_cancel, Int.zero_add, Int.add_zero, Option.getD_some, Option.getD_none, Option.isSome_some, Option.isSome_none, isTy, e, ty5]
    (try with_reducible refine nx_in ?_); simp (disch := (first | assumption | omega | rfl | (simp only [List.length_set, List.length_append, List.length_cons, List.length_nil, List.length_map, List.length_range, intsD_len]; omega) | (simp only [List.length_cons, List.length_nil, Nat.zero_add, Nat.reduceAdd, List.take_succ_cons, List.take_zero]))) only [↓wpk, wpI, wpT, withS, asTup, asCons, asNil, onB, onI, onKey, keyOf, onSome, endsOf, startD_n, nones, w1, w2, w3, pre2, pre3, isDct, wSl, wSet, wAug, wDel, seqAt, listAt, lstAt, getAt, putAt, dctAt, itemAt, wSeq, wLock, unlk, post0, newLst, wipeD, dispOf, onDisp, List.map_cons, List.map_nil, List.length_cons, List.length_nil, List.length_map, List.length_append, List.length_set, List.nil_append, List.cons_append, List.append_assoc, List.set_cons_zero, List.set_cons_succ, List.getElem?_cons_zero, List.getElem?_cons_succ, List.append_nil, perm, List.getD_cons_zero, List.getD_cons_succ, Int.toNat_natCast, Nat.reduceAdd, Nat.reduceSub, true_and, and_true, if_true, if_false, Bool.false_eq_true, decide_eq_true_eq, D.isNon, Nat.reduceLT, Nat.reduceLeDiff, Int.reduceLT, Int.reduceLE, Int.reduceToNat, Int.reducePow, Int.reduceMul, Int.reduceNeg, Bool.not_true, Bool.not_false, forall_const, cond_true, cond_false, sizeT_ok, szl_ok, szl_ok2, small_ok, at_lt, at_ge, at_sne, at_seq, set_ge, set_lt, gcE_set, gcE_set0, gcE_ll, gcE_ss, gcE_ssl, gcE_lsl, gcE_l0l, Nat.sub_self, Nat.add_sub_cancel_left, Nat.add_sub_cancel, Int.zero_add, Int.add_zero, Option.getD_some, Option.getD_none, Option.isSome_some, Option.isSome_none, isTy, e, ty6]
    (try with_reducible refine nx_in ?_); simp (disch := (first | assumption | omega | rfl | (simp only [List.length_set, List.length_append, List.length_cons, List.length_nil, List.length_map, List.length_range, intsD_len]; omega) | (simp only [List.length_cons, List.length_nil, Nat.zero_add, Nat.reduceAdd, List.take_succ_cons, List.take_zero]))) only [↓wpk, wpI, wpT, withS, asTup, asCons, asNil, onB, onI, onKey, keyOf, onSome, endsOf, startD_n, nones, w1, w2, w3, pre2, pre3, isDct, wSl, wSet, wAug, wDel, seqAt, listAt, lstAt, getAt, putAt, dctAt, itemAt, wSeq, wLock, unlk, post0, newLst, wipeD, dispOf, onDisp, List.map_cons, List.map_nil, List.length_cons, List.length_nil, List.length_map, List.length_append, List.length_set, List.nil_append, List.cons_append, List.append_assoc, List.set_cons_zero, List.set_cons_succ, List.getElem?_cons_zero, List.getElem?_cons_succ, List.append_nil, perm, List.getD_cons_zero, List.getD_cons_succ, Int.toNat_natCast, Nat.reduceAdd, Nat.reduceSub, true_and, and_true, if_true, if_false, Bool.false_eq_true, decide_eq_true_eq, D.isNon, Nat.reduceLT, Nat.reduceLeDiff, Int.reduceLT, Int.reduceLE, Int.reduceToNat, Int.reducePow, Int.reduceMul, Int.reduceNeg, Bool.not_true, Bool.not_false, forall_const, cond_true, cond_false, sizeT_ok, szl_ok, szl_ok2, small_ok, at_lt, at_ge, at_sne, at_seq, set_ge, set_lt, gcE_set, gcE_set0, gcE_ll, gcE_ss, gcE_ssl, gcE_lsl, gcE_l0l, Nat.sub_self, Nat.add_sub_cancel_left, Nat.add_sub_cancel, Int.zero_add, Int.add_zero, Option.getD_some, Option.getD_none, Option.isSome_some, Option.isSome_none]
    exact none_
  | bl b =>
    (try with_reducible refine nx_in ?_); simp (disch := (first | assumption | omega | rfl | (simp only [List.length_set, List.length_append, List.length_cons, List.length_nil, List.length_map, List.length_range, intsD_len]; omega) | (simp only [List.length_cons, List.length_nil, Nat.zero_add, Nat.reduceAdd, List.take_succ_cons, List.take_zero]))) only [↓wpk, wpI, wpT, withS, asTup, asCons, asNil, onB, onI, onKey, keyOf, onSome, endsOf, startD_n, nones, w1, w2, w3, pre2, pre3, isDct, wSl, wSet, wAug, wDel, seqAt, listAt, lstAt, getAt, putAt, dctAt, itemAt, wSeq, wLock, unlk, post0, newLst, wipeD, dispOf, onDisp, List.map_cons, List.map_nil, List.length_cons, List.length_nil, List.length_map, List.length_append, List.length_set, List.nil_append, List.cons_append, List.append_assoc, List.set_cons_zero, List.set_cons_succ, List.getElem?_cons_zero, List.getElem?_cons_succ, List.append_nil, perm, List.getD_cons_zero, List.getD_cons_succ, Int.toNat_natCast, Nat.reduceAdd, Nat.reduceSub, true_and, and_true, if_true, if_false, Bool.false_eq_true, decide_eq_true_eq, D.isNon, Nat.reduceLT, Nat.reduceLeDiff, Int.reduceLT, Int.reduceLE, Int.reduceToNat, Int.reducePow, Int.reduceMul, Int.reduceNeg, Bool.not_true, Bool.not_false, forall_const, cond_true, cond_false, sizeT_ok, szl_ok, szl_ok2, small_ok, at_lt, at_ge, at_sne, at_seq, set_ge, set_lt, gcE_set, gcE_set0, gcE_ll, gcE_ss, gcE_ssl, gcE_lsl, gcE_l0l, Nat.sub_self, Nat.add_sub_cancel_left, Nat.add_sub_cancel, Int.zero_add, Int.add_zero, Option.getD_some, Option.getD_none, Option.isSome_some, Option.isSome_none, isTy]
    (try with_reducible refine nx_in ?_); simp (disch := (first | assumption | omega | rfl | (simp only [List.length_set, List.length_append, List.length_cons, List.length_nil, List.length_map, List.length_range, intsD_len]; omega) | (simp only [List.length_cons, List.length_nil, Nat.zero_add, Nat.reduceAdd, List.take_succ_cons, List.take_zero]))) only [↓wpk, wpI, wpT, withS, asTup, asCons, asNil, onB, onI, onKey, keyOf, onSome, endsOf, startD_n, nones, w1, w2, w3, pre2, pre3, isDct, wSl, wSet, wAug, wDel, seqAt, listAt, lstAt, getAt, putAt, dctAt, itemAt, wSeq, wLock, unlk, post0, newLst, wipeD, dispOf, onDisp, List.map_cons, List.map_nil, List.length_cons, List.length_nil, List.length_map, List.length_append, List.length_set, List.nil_append, List.cons_append, List.append_assoc, List.set_cons_zero, List.set_cons_succ, List.getElem?_cons_zero, List.getElem?_cons_succ, List.append_nil, perm, List.getD_cons_zero, List.getD_cons_succ, Int.toNat_natCast, Nat.reduceAdd, Nat.reduceSub, true_and, and_true, if_true, if_false, Bool.false_eq_true, decide_eq_true_eq, D.isNon, Nat.reduceLT, Nat.reduceLeDiff, Int.reduceLT, Int.reduceLE, Int.reduceToNat, Int.reducePow, Int.reduceMul, Int.reduceNeg, Bool.not_true, Bool.not_false, forall_const, cond_true, cond_false, sizeT_ok, szl_ok, szl_ok2, small_ok, at_lt, at_ge, at_sne, at_seq, set_ge, set_lt, gcE_set, gcE_set0, gcE_ll, gcE_ss, gcE_ssl, gcE_lsl, gcE_l0l, Nat.sub_self, Nat.add_sub_cancel_left, Nat.add_sub_cancel, Int.zero_add, Int.add_zero, Option.getD_some, Option.getD_none, Option.isSome_some, Option.isSome_none, isTy]
    (try with_reducible refine nx_in ?_); simp (disch := (first | assumption | omega | rfl | (simp only [List.length_set, List.length_append, List.length_cons, List.length_nil, List.length_map, List.length_range, intsD_len]; omega) | (simp only [List.length_cons, List.length_nil, Nat.zero_add, Nat.reduceAdd, List.take_succ_cons, List.take_zero]))) only [↓wpk, wpI, wpT, withS, asTup, asCons, asNil, onB, onI, onKey, keyOf, onSome, endsOf, startD_n, nones, w1, w2, w3, pre2, pre3, isDct, wSl, wSet, wAug, wDel, seqAt, listAt, lstAt, getAt, putAt, dctAt, itemAt, wSeq, wLock, unlk, post0, newLst, wipeD, dispOf, onDisp, List.map_cons, List.map_nil, List.length_cons, List.length_nil, List.length_map, List.length_append, List.length_set, List.nil_append, List.cons_append, List.append_assoc, List.set_cons_zero, List.set_cons_succ, List.getElem?_cons_zero, List.getElem?_cons_succ, List.append_nil, perm, List.getD_cons_zero, List.getD_cons_succ, Int.toNat_natCast, Nat.reduceAdd, Nat.reduceSub, true_and, and_true, if_true, if_false, Bool.false_eq_true, decide_eq_true_eq, D.isNon, Nat.reduceLT, Nat.reduceLeDiff, Int.reduceLT, Int.reduceLE, Int.reduceToNat, Int.reducePow, Int.reduceMul, Int.reduceNeg, Bool.not_true, Bool.not_false, forall_const, cond_true, cond_false, sizeT_ok, szl_ok, szl_ok2, small_ok, at_lt, at_ge, at_sne, at_seq, set_ge, set_lt, gcE_set, gcE_set0, gcE_ll, gcE_ss, gcE_ssl, gcE_lsl, gcE_l0l, Nat.sub_self, Nat.add_sub_cancel_left, Nat.add_sub_cancel, Int.zero_add, Int.add_zero, Option.getD_some, Option.getD_none, Option.isSome_some, Option.isSome_none]
    refine ⟨rfl, rfl, by unfold sizeT; rw [sizeLine_eq]; show 29 ≤ 16777216; decide, ?_⟩
    (try with_reducible refine nx_in ?_); simp (disch := (first | assumption | omega | rfl | (simp only [List.length_set, List.length_append, List.length_cons, List.length_nil, List.length_map, List.length_range, intsD_len]; omega) | (simp only [List.length_cons, List.length_nil, Nat.zero_add, Nat.reduceAdd, List.take_succ_cons, List.take_zero]))) only [↓wpk, wpI, wpT, withS, asTup, asCons, asNil, onB, onI, onKey, keyOf, onSome, endsOf, startD_n, nones, w1, w2, w3, pre2, pre3, isDct, wSl, wSet, wAug, wDel, seqAt, listAt, lstAt, getAt, putAt, dctAt, itemAt, wSeq, wLock, unlk, post0, newLst, wipeD, dispOf, onDisp, List.map_cons, List.map_nil, List.length_cons, List.length_nil, List.length_map, List.length_append, List.length_set, List.nil_append, List.cons_append, List.append_assoc, List.set_cons_zero, List.set_cons_succ, List.getElem?_cons_zero, List.getElem?_cons_succ, List.append_nil, perm, List.getD_cons_zero, List.getD_cons_succ, Int.toNat_natCast, Nat.reduceAdd, Nat.reduceSub, true_and, and_true, if_true, if_false, Bool.false_eq_true, decide_eq_true_eq, D.isNon, Nat.reduceLT, Nat.reduceLeDiff, Int.reduceLT, Int.reduceLE, Int.reduceToNat, Int.reducePow, Int.reduceMul, Int.reduceNeg, Bool.not_true, Bool.not_false, forall_const, cond_true, cond_false, sizeT_ok, szl_ok, szl_ok2, small_ok, at_lt, at_ge, at_sne, at_seq, set_ge, set_lt, gcE_set, gcE_set0, gcE_ll, gcE_ss, gcE_ssl, gcE_lsl, gcE_l0l, Nat.sub_self, Nat.add_sub_cancel_left, Nat.add_sub_cancel, Int.zero_add, Int.add_zero, Option.getD_some, Option.getD_none, Option.isSome_some, Option.isSome_none, isTy]
    (try with_reducible refine nx_in ?_); simp (disch := (first | assumption | omega | rfl | (simp only [List.length_set, List.length_append, List.length_cons, List.length_nil, List.length_map, List.length_range, intsD_len]; omega) | (simp only [List.length_cons, List.length_nil, Nat.zero_add, Nat.reduceAdd, List.take_succ_cons, List.take_zero]))) only [↓wpk, wpI, wpT, withS, asTup, asCons, asNil, onB, onI, onKey, keyOf, onSome, endsOf, startD_n, nones, w1, w2, w3, pre2, pre3, isDct, wSl, wSet, wAug, wDel, seqAt, listAt, lstAt, getAt, putAt, dctAt, itemAt, wSeq, wLock, unlk, post0, newLst, wipeD, dispOf, onDisp, List.map_cons, List.map_nil, List.length_cons, List.length_nil, List.length_map, List.length_append, List.length_set, List.nil_append, List.cons_append, List.append_assoc, List.set_cons_zero, List.set_cons_succ, List.getElem?_cons_zero, List.getElem?_cons_succ, List.append_nil, perm, List.getD_cons_zero, List.getD_cons_succ, Int.toNat_natCast, Nat.reduceAdd, Nat.reduceSub, true_and, and_true, if_true, if_false, Bool.false_eq_true, decide_eq_true_eq, D.isNon, Nat.reduceLT, Nat.reduceLeDiff, Int.reduceLT, Int.reduceLE, Int.reduceToNat, Int.reducePow, Int.reduceMul, Int.reduceNeg, Bool.not_true, Bool.not_false, forall_const, cond_true, cond_false, sizeT_ok, szl_ok, szl_ok2, small_ok, at_lt, at_ge, at_sne, at_seq, set_ge, set_lt, gcE_set, gcE_set0, gcE_ll, gcE_ss, gcE_ssl, gcE_lsl, gcE_l0l, Nat.sub_self, Nat.add_sub_cancel_left, Nat.add_sub_cancel, Int.zero_add, Int.add_zero, Option.getD_some, Option.getD_none, Option.isSome_some, Option.isSome_none]
    refine odd_more (Z := []) (j := 3) (ms := [D.int ((if b = true then 1 else 0) + 1), D.int ((if b = true then 1 else 0) - 1), D.bl (eqP (D.bl b) (D.int 1)), D.str (if b = true then Str.ofString "True" else Str.ofString "False")]) g hh (by rfl) (by decide) (by simp) base (fun c' P x hx => ?_) q
    simp only [List.mem_cons, List.not_mem_nil, or_false] at hx
    rcases hx with rfl | rfl | rfl | rfl
    · exact .int (by cases b <;> simp <;> omega)
    · exact .int (by cases b <;> simp <;> omega)
    · exact .bl _
    · cases b
      · exact .str (by decide +kernel) (Nat.le_trans (show (Str.ofString "False").length ≤ 9 by decide +kernel) (by omega))
      · exact .str (by decide +kernel) (Nat.le_trans (show (Str.ofString "True").length ≤ 9 by decide +kernel) (by omega))
  | @int _ i hi =>
    obtain ⟨s1, s2⟩ := str_any (i := i) (by omega)
    (try with_reducible refine nx_in ?_); simp (disch := (first | assumption | omega | rfl | (simp only [List.length_set, List.length_append, List.length_cons, List.length_nil, List.length_map, List.length_range, intsD_len]; omega) | (simp only [List.length_cons, List.length_nil, Nat.zero_add, Nat.reduceAdd, List.take_succ_cons, List.take_zero]))) only [↓wpk, wpI, wpT, withS, asTup, asCons, asNil, onB, onI, onKey, keyOf, onSome, endsOf, startD_n, nones, w1, w2, w3, pre2, pre3, isDct, wSl, wSet, wAug, wDel, seqAt, listAt, lstAt, getAt, putAt, dctAt, itemAt, wSeq, wLock, unlk, post0, newLst, wipeD, dispOf, onDisp, List.map_cons, List.map_nil, List.length_cons, List.length_nil, List.length_map, List.length_append, List.length_set, List.nil_append, List.cons_append, List.append_assoc, List.set_cons_zero, List.set_cons_succ, List.getElem?_cons_zero, List.getElem?_cons_succ, List.append_nil, perm, List.getD_cons_zero, List.getD_cons_succ, Int.toNat_natCast, Nat.reduceAdd, Nat.reduceSub, true_and, and_true, if_true, if_false, Bool.false_eq_true, decide_eq_true_eq, D.isNon, Nat.reduceLT, Nat.reduceLeDiff, Int.reduceLT, Int.reduceLE, Int.reduceToNat, Int.reducePow, Int.reduceMul, Int.reduceNeg, Bool.not_true, Bool.not_false, forall_const, cond_true, cond_false, sizeT_ok, szl_ok, szl_ok2, small_ok, at_lt, at_ge, at_sne, at_seq, set_ge, set_lt, gcE_set, gcE_set0, gcE_ll, gcE_ss, gcE_ssl, gcE_lsl, gcE_l0l, Nat.sub_self, Nat.add_sub_cancel_left, Nat.add_sub_cancel, Int.zero_add, Int.add_zero, Option.getD_some, Option.getD_none, Option.isSome_some, Option.isSome_none, isTy]
    (try with_reducible refine nx_in ?_); simp (disch := (first | assumption | omega | rfl | (simp only [List.length_set, List.length_append, List.length_cons, List.length_nil, List.length_map, List.length_range, intsD_len]; omega) | (simp only [List.length_cons, List.length_nil, Nat.zero_add, Nat.reduceAdd, List.take_succ_cons, List.take_zero]))) only [↓wpk, wpI, wpT, withS, asTup, asCons, asNil, onB, onI, onKey, keyOf, onSome, endsOf, startD_n, nones, w1, w2, w3, pre2, pre3, isDct, wSl, wSet, wAug, wDel, seqAt, listAt, lstAt, getAt, putAt, dctAt, itemAt, wSeq, wLock, unlk, post0, newLst, wipeD, dispOf, onDisp, List.map_cons, List.map_nil, List.length_cons, List.length_nil, List.length_map, List.length_append, List.length_set, List.nil_append, List.cons_append, List.append_assoc, List.set_cons_zero, List.set_cons_succ, List.getElem?_cons_zero, List.getElem?_cons_succ, List.append_nil, perm, List.getD_cons_zero, List.getD_cons_succ, Int.toNat_natCast, Nat.reduceAdd, Nat.reduceSub, true_and, and_true, if_true, if_false, Bool.false_eq_true, decide_eq_true_eq, D.isNon, Nat.reduceLT, Nat.reduceLeDiff, Int.reduceLT, Int.reduceLE, Int.reduceToNat, Int.reducePow, Int.reduceMul, Int.reduceNeg, Bool.not_true, Bool.not_false, forall_const, cond_true, cond_false, sizeT_ok, szl_ok, szl_ok2, small_ok, at_lt, at_ge, at_sne, at_seq, set_ge, set_lt, gcE_set, gcE_set0, gcE_ll, gcE_ss, gcE_ssl, gcE_lsl, gcE_l0l, Nat.sub_self, Nat.add_sub_cancel_left, Nat.add_sub_cancel, Int.zero_add, Int.add_zero, Option.getD_some, Option.getD_none, Option.isSome_some, Option.isSome_none, isTy]
    (try with_reducible refine nx_in ?_); simp (disch := (first | assumption | omega | rfl | (simp only [List.length_set, List.length_append, List.length_cons, List.length_nil, List.length_map, List.length_range, intsD_len]; omega) | (simp only [List.length_cons, List.length_nil, Nat.zero_add, Nat.reduceAdd, List.take_succ_cons, List.take_zero]))) only [↓wpk, wpI, wpT, withS, asTup, asCons, asNil, onB, onI, onKey, keyOf, onSome, endsOf, startD_n, nones, w1, w2, w3, pre2, pre3, isDct, wSl, wSet, wAug, wDel, seqAt, listAt, lstAt, getAt, putAt, dctAt, itemAt, wSeq, wLock, unlk, post0, newLst, wipeD, dispOf, onDisp, List.map_cons, List.map_nil, List.length_cons, List.length_nil, List.length_map, List.length_append, List.length_set, List.nil_append, List.cons_append, List.append_assoc, List.set_cons_zero, List.set_cons_succ, List.getElem?_cons_zero, List.getElem?_cons_succ, List.append_nil, perm, List.getD_cons_zero, List.getD_cons_succ, Int.toNat_natCast, Nat.reduceAdd, Nat.reduceSub, true_and, and_true, if_true, if_false, Bool.false_eq_true, decide_eq_true_eq, D.isNon, Nat.reduceLT, Nat.reduceLeDiff, Int.reduceLT, Int.reduceLE, Int.reduceToNat, Int.reducePow, Int.reduceMul, Int.reduceNeg, Bool.not_true, Bool.not_false, forall_const, cond_true, cond_false, sizeT_ok, szl_ok, szl_ok2, small_ok, at_lt, at_ge, at_sne, at_seq, set_ge, set_lt, gcE_set, gcE_set0, gcE_ll, gcE_ss, gcE_ssl, gcE_lsl, gcE_l0l, Nat.sub_self, Nat.add_sub_cancel_left, Nat.add_sub_cancel, Int.zero_add, Int.add_zero, Option.getD_some, Option.getD_none, Option.isSome_some, Option.isSome_none]
    refine ⟨Nat.lt_of_le_of_lt (Nat.log2_le_self _) (by omega), by unfold sizeT; rw [sizeLine_eq]; show 29 ≤ 16777216; decide, ?_⟩
    (try with_reducible refine nx_in ?_); simp (disch := (first | assumption | omega | rfl | (simp only [List.length_set, List.length_append, List.length_cons, List.length_nil, List.length_map, List.length_range, intsD_len]; omega) | (simp only [List.length_cons, List.length_nil, Nat.zero_add, Nat.reduceAdd, List.take_succ_cons, List.take_zero]))) only [↓wpk, wpI, wpT, withS, asTup, asCons, asNil, onB, onI, onKey, keyOf, onSome, endsOf, startD_n, nones, w1, w2, w3, pre2, pre3, isDct, wSl, wSet, wAug, wDel, seqAt, listAt, lstAt, getAt, putAt, dctAt, itemAt, wSeq, wLock, unlk, post0, newLst, wipeD, dispOf, onDisp, List.map_cons, List.map_nil, List.length_cons, List.length_nil, List.length_map, List.length_append, List.length_set, List.nil_append, List.cons_append, List.append_assoc, List.set_cons_zero, List.set_cons_succ, List.getElem?_cons_zero, List.getElem?_cons_succ, List.append_nil, perm, List.getD_cons_zero, List.getD_cons_succ, Int.toNat_natCast, Nat.reduceAdd, Nat.reduceSub, true_and, and_true, if_true, if_false, Bool.false_eq_true, decide_eq_true_eq, D.isNon, Nat.reduceLT, Nat.reduceLeDiff, Int.reduceLT, Int.reduceLE, Int.reduceToNat, Int.reducePow, Int.reduceMul, Int.reduceNeg, Bool.not_true, Bool.not_false, forall_const, cond_true, cond_false, sizeT_ok, szl_ok, szl_ok2, small_ok, at_lt, at_ge, at_sne, at_seq, set_ge, set_lt, gcE_set, gcE_set0, gcE_ll, gcE_ss, gcE_ssl, gcE_lsl, gcE_l0l, Nat.sub_self, Nat.add_sub_cancel_left, Nat.add_sub_cancel, Int.zero_add, Int.add_zero, Option.getD_some, Option.getD_none, Option.isSome_some, Option.isSome_none, isTy]
    (try with_reducible refine nx_in ?_); simp (disch := (first | assumption | omega | rfl | (simp only [List.length_set, List.length_append, List.length_cons, List.length_nil, List.length_map, List.length_range, intsD_len]; omega) | (simp only [List.length_cons, List.length_nil, Nat.zero_add, Nat.reduceAdd, List.take_succ_cons, List.take_zero]))) only [↓wpk, wpI, wpT, withS, asTup, asCons, asNil, onB, onI, onKey, keyOf, onSome, endsOf, startD_n, nones, w1, w2, w3, pre2, pre3, isDct, wSl, wSet, wAug, wDel, seqAt, listAt, lstAt, getAt, putAt, dctAt, itemAt, wSeq, wLock, unlk, post0, newLst, wipeD, dispOf, onDisp, List.map_cons, List.map_nil, List.length_cons, List.length_nil, List.length_map, List.length_append, List.length_set, List.nil_append, List.cons_append, List.append_assoc, List.set_cons_zero, List.set_cons_succ, List.getElem?_cons_zero, List.getElem?_cons_succ, List.append_nil, perm, List.getD_cons_zero, List.getD_cons_succ, Int.toNat_natCast, Nat.reduceAdd, Nat.reduceSub, true_and, and_true, if_true, if_false, Bool.false_eq_true, decide_eq_true_eq, D.isNon, Nat.reduceLT, Nat.reduceLeDiff, Int.reduceLT, Int.reduceLE, Int.reduceToNat, Int.reducePow, Int.reduceMul, Int.reduceNeg, Bool.not_true, Bool.not_false, forall_const, cond_true, cond_false, sizeT_ok, szl_ok, szl_ok2, small_ok, at_lt, at_ge, at_sne, at_seq, set_ge, set_lt, gcE_set, gcE_set0, gcE_ll, gcE_ss, gcE_ssl, gcE_lsl, gcE_l0l, Nat.sub_self, Nat.add_sub_cancel_left, Nat.add_sub_cancel, Int.zero_add, Int.add_zero, Option.getD_some, Option.getD_none, Option.isSome_some, Option.isSome_none]
    refine odd_more (Z := []) (j := 3) (ms := [D.int (i + 1), D.int (i - 1), D.bl (decide (i = 1)), D.str (Str.ofString (toString i))]) g hh (by rfl) (by decide) (by simp) base (fun c' P x hx => ?_) q
    simp only [List.mem_cons, List.not_mem_nil, or_false] at hx
    rcases hx with rfl | rfl | rfl | rfl
    · exact .int (by omega)
    · exact .int (by omega)
    · exact .bl _
    · exact .str s1 (by omega)
  | @str _ x as l =>
    have la : (Str.ofString "a").length = 1 := by decide +kernel
    have lb : (Str.ofString " ").length = 1 := by decide +kernel
    have aa : ∀ c ∈ (Str.ofString "a").cps.toList, c < 128 := by decide +kernel
    have ab : ∀ c ∈ (Str.ofString " ").cps.toList, c < 128 := by decide +kernel
    have lap : ∀ y : Str, (x ++ y).length = x.length + y.length := fun y => by
      have le : ∀ y : Str, y.length = y.cps.toList.length := fun y => by simp [Str.length]
      rw [le, le, le, app_toList, List.length_append]
    (try with_reducible refine nx_in ?_); simp (disch := (first | assumption | omega | rfl | (simp only [List.length_set, List.length_append, List.length_cons, List.length_nil, List.length_map, List.length_range, intsD_len]; omega) | (simp only [List.length_cons, List.length_nil, Nat.zero_add, Nat.reduceAdd, List.take_succ_cons, List.take_zero]))) only [↓wpk, wpI, wpT, withS, asTup, asCons, asNil, onB, onI, onKey, keyOf, onSome, endsOf, startD_n, nones, w1, w2, w3, pre2, pre3, isDct, wSl, wSet, wAug, wDel, seqAt, listAt, lstAt, getAt, putAt, dctAt, itemAt, wSeq, wLock, unlk, post0, newLst, wipeD, dispOf, onDisp, List.map_cons, List.map_nil, List.length_cons, List.length_nil, List.length_map, List.length_append, List.length_set, List.nil_append, List.cons_append, List.append_assoc, List.set_cons_zero, List.set_cons_succ, List.getElem?_cons_zero, List.getElem?_cons_succ, List.append_nil, perm, List.getD_cons_zero, List.getD_cons_succ, Int.toNat_natCast, Nat.reduceAdd, Nat.reduceSub, true_and, and_true, if_true, if_false, Bool.false_eq_true, decide_eq_true_eq, D.isNon, Nat.reduceLT, Nat.reduceLeDiff, Int.reduceLT, Int.reduceLE, Int.reduceToNat, Int.reducePow, Int.reduceMul, Int.reduceNeg, Bool.not_true, Bool.not_false, forall_const, cond_true, cond_false, sizeT_ok, szl_ok, szl_ok2, small_ok, at_lt, at_ge, at_sne, at_seq, set_ge, set_lt, gcE_set, gcE_set0, gcE_ll, gcE_ss, gcE_ssl, gcE_lsl, gcE_l0l, Nat.sub_self, Nat.add_sub_cancel_left, Nat.add_sub_cancel, Int.zero_add, Int.add_zero, Option.getD_some, Option.getD_none, Option.isSome_some, Option.isSome_none, isTy]
    (try with_reducible refine nx_in ?_); simp (disch := (first | assumption | omega | rfl | (simp only [List.length_set, List.length_append, List.length_cons, List.length_nil, List.length_map, List.length_range, intsD_len]; omega) | (simp only [List.length_cons, List.length_nil, Nat.zero_add, Nat.reduceAdd, List.take_succ_cons, List.take_zero]))) only [↓wpk, wpI, wpT, withS, asTup, asCons, asNil, onB, onI, onKey, keyOf, onSome, endsOf, startD_n, nones, w1, w2, w3, pre2, pre3, isDct, wSl, wSet, wAug, wDel, seqAt, listAt, lstAt, getAt, putAt, dctAt, itemAt, wSeq, wLock, unlk, post0, newLst, wipeD, dispOf, onDisp, List.map_cons, List.map_nil, List.length_cons, List.length_nil, List.length_map, List.length_append, List.length_set, List.nil_append, List.cons_append, List.append_assoc, List.set_cons_zero, List.set_cons_succ, List.getElem?_cons_zero, List.getElem?_cons_succ, List.append_nil, perm, List.getD_cons_zero, List.getD_cons_succ, Int.toNat_natCast, Nat.reduceAdd, Nat.reduceSub, true_and, and_true, if_true, if_false, Bool.false_eq_true, decide_eq_true_eq, D.isNon, Nat.reduceLT, Nat.reduceLeDiff, Int.reduceLT, Int.reduceLE, Int.reduceToNat, Int.reducePow, Int.reduceMul, Int.reduceNeg, Bool.not_true, Bool.not_false, forall_const, cond_true, cond_false, sizeT_ok, szl_ok, szl_ok2, small_ok, at_lt, at_ge, at_sne, at_seq, set_ge, set_lt, gcE_set, gcE_set0, gcE_ll, gcE_ss, gcE_ssl, gcE_lsl, gcE_l0l, Nat.sub_self, Nat.add_sub_cancel_left, Nat.add_sub_cancel, Int.zero_add, Int.add_zero, Option.getD_some, Option.getD_none, Option.isSome_some, Option.isSome_none, isTy]
    (try with_reducible refine nx_in ?_); simp (disch := (first | assumption | omega | rfl | (simp only [List.length_set, List.length_append, List.length_cons, List.length_nil, List.length_map, List.length_range, intsD_len]; omega) | (simp only [List.length_cons, List.length_nil, Nat.zero_add, Nat.reduceAdd, List.take_succ_cons, List.take_zero]))) only [↓wpk, wpI, wpT, withS, asTup, asCons, asNil, onB, onI, onKey, keyOf, onSome, endsOf, startD_n, nones, w1, w2, w3, pre2, pre3, isDct, wSl, wSet, wAug, wDel, seqAt, listAt, lstAt, getAt, putAt, dctAt, itemAt, wSeq, wLock, unlk, post0, newLst, wipeD, dispOf, onDisp, List.map_cons, List.map_nil, List.length_cons, List.length_nil, List.length_map, List.length_append, List.length_set, List.nil_append, List.cons_append, List.append_assoc, List.set_cons_zero, List.set_cons_succ, List.getElem?_cons_zero, List.getElem?_cons_succ, List.append_nil, perm, List.getD_cons_zero, List.getD_cons_succ, Int.toNat_natCast, Nat.reduceAdd, Nat.reduceSub, true_and, and_true, if_true, if_false, Bool.false_eq_true, decide_eq_true_eq, D.isNon, Nat.reduceLT, Nat.reduceLeDiff, Int.reduceLT, Int.reduceLE, Int.reduceToNat, Int.reducePow, Int.reduceMul, Int.reduceNeg, Bool.not_true, Bool.not_false, forall_const, cond_true, cond_false, sizeT_ok, szl_ok, szl_ok2, small_ok, at_lt, at_ge, at_sne, at_seq, set_ge, set_lt, gcE_set, gcE_set0, gcE_ll, gcE_ss, gcE_ssl, gcE_lsl, gcE_l0l, Nat.sub_self, Nat.add_sub_cancel_left, Nat.add_sub_cancel, Int.zero_add, Int.add_zero, Option.getD_some, Option.getD_none, Option.isSome_some, Option.isSome_none, isTy]
    (try with_reducible refine nx_in ?_); simp (disch := (first | assumption | omega | rfl | (simp only [List.length_set, List.length_append, List.length_cons, List.length_nil, List.length_map, List.length_range, intsD_len]; omega) | (simp only [List.length_cons, List.length_nil, Nat.zero_add, Nat.reduceAdd, List.take_succ_cons, List.take_zero]))) only [↓wpk, wpI, wpT, withS, asTup, asCons, asNil, onB, onI, onKey, keyOf, onSome, endsOf, startD_n, nones, w1, w2, w3, pre2, pre3, isDct, wSl, wSet, wAug, wDel, seqAt, listAt, lstAt, getAt, putAt, dctAt, itemAt, wSeq, wLock, unlk, post0, newLst, wipeD, dispOf, onDisp, List.map_cons, List.map_nil, List.length_cons, List.length_nil, List.length_map, List.length_append, List.length_set, List.nil_append, List.cons_append, List.append_assoc, List.set_cons_zero, List.set_cons_succ, List.getElem?_cons_zero, List.getElem?_cons_succ, List.append_nil, perm, List.getD_cons_zero, List.getD_cons_succ, Int.toNat_natCast, Nat.reduceAdd, Nat.reduceSub, true_and, and_true, if_true, if_false, Bool.false_eq_true, decide_eq_true_eq, D.isNon, Nat.reduceLT, Nat.reduceLeDiff, Int.reduceLT, Int.reduceLE, Int.reduceToNat, Int.reducePow, Int.reduceMul, Int.reduceNeg, Bool.not_true, Bool.not_false, forall_const, cond_true, cond_false, sizeT_ok, szl_ok, szl_ok2, small_ok, at_lt, at_ge, at_sne, at_seq, set_ge, set_lt, gcE_set, gcE_set0, gcE_ll, gcE_ss, gcE_ssl, gcE_lsl, gcE_l0l, Nat.sub_self, Nat.add_sub_cancel_left, Nat.add_sub_cancel, Int.zero_add, Int.add_zero, Option.getD_some, Option.getD_none, Option.isSome_some, Option.isSome_none]
    refine ⟨by omega, by unfold sizeT; rw [sizeLine_eq]; show 27 ≤ 16777216; decide, ?_⟩
    (try with_reducible refine nx_in ?_); simp (disch := (first | assumption | omega | rfl | (simp only [List.length_set, List.length_append, List.length_cons, List.length_nil, List.length_map, List.length_range, intsD_len]; omega) | (simp only [List.length_cons, List.length_nil, Nat.zero_add, Nat.reduceAdd, List.take_succ_cons, List.take_zero]))) only [↓wpk, wpI, wpT, withS, asTup, asCons, asNil, onB, onI, onKey, keyOf, onSome, endsOf, startD_n, nones, w1, w2, w3, pre2, pre3, isDct, wSl, wSet, wAug, wDel, seqAt, listAt, lstAt, getAt, putAt, dctAt, itemAt, wSeq, wLock, unlk, post0, newLst, wipeD, dispOf, onDisp, List.map_cons, List.map_nil, List.length_cons, List.length_nil, List.length_map, List.length_append, List.length_set, List.nil_append, List.cons_append, List.append_assoc, List.set_cons_zero, List.set_cons_succ, List.getElem?_cons_zero, List.getElem?_cons_succ, List.append_nil, perm, List.getD_cons_zero, List.getD_cons_succ, Int.toNat_natCast, Nat.reduceAdd, Nat.reduceSub, true_and, and_true, if_true, if_false, Bool.false_eq_true, decide_eq_true_eq, D.isNon, Nat.reduceLT, Nat.reduceLeDiff, Int.reduceLT, Int.reduceLE, Int.reduceToNat, Int.reducePow, Int.reduceMul, Int.reduceNeg, Bool.not_true, Bool.not_false, forall_const, cond_true, cond_false, sizeT_ok, szl_ok, szl_ok2, small_ok, at_lt, at_ge, at_sne, at_seq, set_ge, set_lt, gcE_set, gcE_set0, gcE_ll, gcE_ss, gcE_ssl, gcE_lsl, gcE_l0l, Nat.sub_self, Nat.add_sub_cancel_left, Nat.add_sub_cancel, Int.zero_add, Int.add_zero, Option.getD_some, Option.getD_none, Option.isSome_some, Option.isSome_none]
    refine odd_more (Z := []) (j := 2) (ms := [D.str (x ++ Str.ofString "a"), D.str (cutS x (some 1) none), D.str (Txt.upper x), D.tup [D.str x], D.str (x ++ Str.ofString " ")]) g hh (by rfl) (by decide) (by simp) base (fun c' P x' hx => ?_) q
    simp only [List.mem_cons, List.not_mem_nil, or_false] at hx
    rcases hx with rfl | rfl | rfl | rfl | rfl
    · exact .str (asc_app as aa) (by rw [lap]; omega)
    · exact .str (asc_drop as).1 (by have := (asc_drop as).2; omega)
    · exact .str (asc_up as).1 (by rw [(asc_up as).2]; omega)
    · exact .tup (fun y hy => by rw [List.mem_singleton.mp hy]; exact .str as (by omega)) (by simp)
    · exact .str (asc_app as ab) (by rw [lap]; omega)
  | @tup k xs as l =>
    (try with_reducible refine nx_in ?_); simp (disch := (first | assumption | omega | rfl | (simp only [List.length_set, List.length_append, List.length_cons, List.length_nil, List.length_map, List.length_range, intsD_len]; omega) | (simp only [List.length_cons, List.length_nil, Nat.zero_add, Nat.reduceAdd, List.take_succ_cons, List.take_zero]))) only [↓wpk, wpI, wpT, withS, asTup, asCons, asNil, onB, onI, onKey, keyOf, onSome, endsOf, startD_n, nones, w1, w2, w3, pre2, pre3, isDct, wSl, wSet, wAug, wDel, seqAt, listAt, lstAt, getAt, putAt, dctAt, itemAt, wSeq, wLock, unlk, post0, newLst, wipeD, dispOf, onDisp, List.map_cons, List.map_nil, List.length_cons, List.length_nil, List.length_map, List.length_append, List.length_set, List.nil_append, List.cons_append, List.append_assoc, List.set_cons_zero, List.set_cons_succ, List.getElem?_cons_zero, List.getElem?_cons_succ, List.append_nil, perm, List.getD_cons_zero, List.getD_cons_succ, Int.toNat_natCast, Nat.reduceAdd, Nat.reduceSub, true_and, and_true, if_true, if_false, Bool.false_eq_true, decide_eq_true_eq, D.isNon, Nat.reduceLT, Nat.reduceLeDiff, Int.reduceLT, Int.reduceLE, Int.reduceToNat, Int.reducePow, Int.reduceMul, Int.reduceNeg, Bool.not_true, Bool.not_false, forall_const, cond_true, cond_false, sizeT_ok, szl_ok, szl_ok2, small_ok, at_lt, at_ge, at_sne, at_seq, set_ge, set_lt, gcE_set, gcE_set0, gcE_ll, gcE_ss, gcE_ssl, gcE_lsl, gcE_l0l, Nat.sub_self, Nat.add_sub_cancel_left, Nat.add_sub_cancel, Int.zero_add, Int.add_zero, Option.getD_some, Option.getD_none, Option.isSome_some, Option.isSome_none, isTy]
    (try with_reducible refine nx_in ?_); simp (disch := (first | assumption | omega | rfl | (simp only [List.length_set, List.length_append, List.length_cons, List.length_nil, List.length_map, List.length_range, intsD_len]; omega) | (simp only [List.length_cons, List.length_nil, Nat.zero_add, Nat.reduceAdd, List.take_succ_cons, List.take_zero]))) only [↓wpk, wpI, wpT, withS, asTup, asCons, asNil, onB, onI, onKey, keyOf, onSome, endsOf, startD_n, nones, w1, w2, w3, pre2, pre3, isDct, wSl, wSet, wAug, wDel, seqAt, listAt, lstAt, getAt, putAt, dctAt, itemAt, wSeq, wLock, unlk, post0, newLst, wipeD, dispOf, onDisp, List.map_cons, List.map_nil, List.length_cons, List.length_nil, List.length_map, List.length_append, List.length_set, List.nil_append, List.cons_append, List.append_assoc, List.set_cons_zero, List.set_cons_succ, List.getElem?_cons_zero, List.getElem?_cons_succ, List.append_nil, perm, List.getD_cons_zero, List.getD_cons_succ, Int.toNat_natCast, Nat.reduceAdd, Nat.reduceSub, true_and, and_true, if_true, if_false, Bool.false_eq_true, decide_eq_true_eq, D.isNon, Nat.reduceLT, Nat.reduceLeDiff, Int.reduceLT, Int.reduceLE, Int.reduceToNat, Int.reducePow, Int.reduceMul, Int.reduceNeg, Bool.not_true, Bool.not_false, forall_const, cond_true, cond_false, sizeT_ok, szl_ok, szl_ok2, small_ok, at_lt, at_ge, at_sne, at_seq, set_ge, set_lt, gcE_set, gcE_set0, gcE_ll, gcE_ss, gcE_ssl, gcE_lsl, gcE_l0l, Nat.sub_self, Nat.add_sub_cancel_left, Nat.add_sub_cancel, Int.zero_add, Int.add_zero, Option.getD_some, Option.getD_none, Option.isSome_some, Option.isSome_none]
    have lc := len_cutD (xs := xs) (lo := some (-1)) (hi := none)
    refine ⟨by unfold sizeT; rw [sizeLine_eq]; omega, by unfold sizeT; rw [sizeLine_eq]; show 29 ≤ 16777216; decide, ?_⟩
    (try with_reducible refine nx_in ?_); simp (disch := (first | assumption | omega | rfl | (simp only [List.length_set, List.length_append, List.length_cons, List.length_nil, List.length_map, List.length_range, intsD_len]; omega) | (simp only [List.length_cons, List.length_nil, Nat.zero_add, Nat.reduceAdd, List.take_succ_cons, List.take_zero]))) only [↓wpk, wpI, wpT, withS, asTup, asCons, asNil, onB, onI, onKey, keyOf, onSome, endsOf, startD_n, nones, w1, w2, w3, pre2, pre3, isDct, wSl, wSet, wAug, wDel, seqAt, listAt, lstAt, getAt, putAt, dctAt, itemAt, wSeq, wLock, unlk, post0, newLst, wipeD, dispOf, onDisp, List.map_cons, List.map_nil, List.length_cons, List.length_nil, List.length_map, List.length_append, List.length_set, List.nil_append, List.cons_append, List.append_assoc, List.set_cons_zero, List.set_cons_succ, List.getElem?_cons_zero, List.getElem?_cons_succ, List.append_nil, perm, List.getD_cons_zero, List.getD_cons_succ, Int.toNat_natCast, Nat.reduceAdd, Nat.reduceSub, true_and, and_true, if_true, if_false, Bool.false_eq_true, decide_eq_true_eq, D.isNon, Nat.reduceLT, Nat.reduceLeDiff, Int.reduceLT, Int.reduceLE, Int.reduceToNat, Int.reducePow, Int.reduceMul, Int.reduceNeg, Bool.not_true, Bool.not_false, forall_const, cond_true, cond_false, sizeT_ok, szl_ok, szl_ok2, small_ok, at_lt, at_ge, at_sne, at_seq, set_ge, set_lt, gcE_set, gcE_set0, gcE_ll, gcE_ss, gcE_ssl, gcE_lsl, gcE_l0l, Nat.sub_self, Nat.add_sub_cancel_left, Nat.add_sub_cancel, Int.zero_add, Int.add_zero, Option.getD_some, Option.getD_none, Option.isSome_some, Option.isSome_none, isTy]
    (try with_reducible refine nx_in ?_); simp (disch := (first | assumption | omega | rfl | (simp only [List.length_set, List.length_append, List.length_cons, List.length_nil, List.length_map, List.length_range, intsD_len]; omega) | (simp only [List.length_cons, List.length_nil, Nat.zero_add, Nat.reduceAdd, List.take_succ_cons, List.take_zero]))) only [↓wpk, wpI, wpT, withS, asTup, asCons, asNil, onB, onI, onKey, keyOf, onSome, endsOf, startD_n, nones, w1, w2, w3, pre2, pre3, isDct, wSl, wSet, wAug, wDel, seqAt, listAt, lstAt, getAt, putAt, dctAt, itemAt, wSeq, wLock, unlk, post0, newLst, wipeD, dispOf, onDisp, List.map_cons, List.map_nil, List.length_cons, List.length_nil, List.length_map, List.length_append, List.length_set, List.nil_append, List.cons_append, List.append_assoc, List.set_cons_zero, List.set_cons_succ, List.getElem?_cons_zero, List.getElem?_cons_succ, List.append_nil, perm, List.getD_cons_zero, List.getD_cons_succ, Int.toNat_natCast, Nat.reduceAdd, Nat.reduceSub, true_and, and_true, if_true, if_false, Bool.false_eq_true, decide_eq_true_eq, D.isNon, Nat.reduceLT, Nat.reduceLeDiff, Int.reduceLT, Int.reduceLE, Int.reduceToNat, Int.reducePow, Int.reduceMul, Int.reduceNeg, Bool.not_true, Bool.not_false, forall_const, cond_true, cond_false, sizeT_ok, szl_ok, szl_ok2, small_ok, at_lt, at_ge, at_sne, at_seq, set_ge, set_lt, gcE_set, gcE_set0, gcE_ll, gcE_ss, gcE_ssl, gcE_lsl, gcE_l0l, Nat.sub_self, Nat.add_sub_cancel_left, Nat.add_sub_cancel, Int.zero_add, Int.add_zero, Option.getD_some, Option.getD_none, Option.isSome_some, Option.isSome_none, isTy]
    (try with_reducible refine nx_in ?_); simp (disch := (first | assumption | omega | rfl | (simp only [List.length_set, List.length_append, List.length_cons, List.length_nil, List.length_map, List.length_range, intsD_len]; omega) | (simp only [List.length_cons, List.length_nil, Nat.zero_add, Nat.reduceAdd, List.take_succ_cons, List.take_zero]))) only [↓wpk, wpI, wpT, withS, asTup, asCons, asNil, onB, onI, onKey, keyOf, onSome, endsOf, startD_n, nones, w1, w2, w3, pre2, pre3, isDct, wSl, wSet, wAug, wDel, seqAt, listAt, lstAt, getAt, putAt, dctAt, itemAt, wSeq, wLock, unlk, post0, newLst, wipeD, dispOf, onDisp, List.map_cons, List.map_nil, List.length_cons, List.length_nil, List.length_map, List.length_append, List.length_set, List.nil_append, List.cons_append, List.append_assoc, List.set_cons_zero, List.set_cons_succ, List.getElem?_cons_zero, List.getElem?_cons_succ, List.append_nil, perm, List.getD_cons_zero, List.getD_cons_succ, Int.toNat_natCast, Nat.reduceAdd, Nat.reduceSub, true_and, and_true, if_true, if_false, Bool.false_eq_true, decide_eq_true_eq, D.isNon, Nat.reduceLT, Nat.reduceLeDiff, Int.reduceLT, Int.reduceLE, Int.reduceToNat, Int.reducePow, Int.reduceMul, Int.reduceNeg, Bool.not_true, Bool.not_false, forall_const, cond_true, cond_false, sizeT_ok, szl_ok, szl_ok2, small_ok, at_lt, at_ge, at_sne, at_seq, set_ge, set_lt, gcE_set, gcE_set0, gcE_ll, gcE_ss, gcE_ssl, gcE_lsl, gcE_l0l, Nat.sub_self, Nat.add_sub_cancel_left, Nat.add_sub_cancel, Int.zero_add, Int.add_zero, Option.getD_some, Option.getD_none, Option.isSome_some, Option.isSome_none]
    have one : (cutD xs (some (-1)) none).length ≤ 1 := by
      unfold cutD
      rw [List.length_take, List.length_drop]
      have : HT.sIx xs.length 0 (some (-1)) = ((-1 : Int) + xs.length).toNat := rfl
      rw [this]
      omega
    refine odd_more (Z := [.lst xs]) (j := 2) (ms := [D.ref (mu.length + 4), D.tup (xs ++ cutD xs (some (-1)) none), D.tup (cutD xs (some 1) none), D.tup xs.reverse, D.tup [D.tup xs], D.tup (cutD xs none (some (-1)))]) g hh (by rfl) (by decide) (by simp) base (fun c' P x' hx => ?_) q
    have K : Keeps mu (mu.set h c' ++ (oddP ++ (.lst (odd0 mu.length) :: ([.lst xs] ++ P)))) h := Keeps.set.trans .app
    have as' : ∀ x ∈ xs, ∀ k', k ≤ k' → Va (mu.set h c' ++ (oddP ++ (.lst (odd0 mu.length) :: ([.lst xs] ++ P)))) h (n + 1) k' x := fun x hx k' hk' => ((as x hx).keep K).mono (by omega) hk'
    simp only [List.mem_cons, List.not_mem_nil, or_false] at hx
    rcases hx with rfl | rfl | rfl | rfl | rfl | rfl
    · refine .lst (xs := xs) (by omega) ?_ (fun x hx => as' x hx _ (by omega)) (by omega)
      have : mu.length = (mu.set h c').length := by rw [List.length_set]
      rw [this, at_endk]
      rfl
    · refine .tup (fun x hx => as' x ?_ _ (by omega)) (by rw [List.length_append]; omega)
      rcases List.mem_append.mp hx with hx | hx
      · exact hx
      · exact mem_cutD hx
    · exact .tup (fun x hx => as' x (mem_cutD hx) _ (by omega)) (Nat.le_trans len_cutD (by omega))
    · exact .tup (fun x hx => as' x (List.mem_reverse.mp hx) _ (by omega)) (by rw [List.length_reverse]; omega)
    · exact .tup (fun x hx => by rw [List.mem_singleton.mp hx]; exact .tup (fun y hy => as' y hy _ (by omega)) (by omega)) (by simp)
    · exact .tup (fun x hx => as' x (mem_cutD hx) _ (by omega)) (Nat.le_trans len_cutD (by omega))
end MP
namespace MP
open PySem PySem.Spec PyProof.Rows L2
def c_law_bent (i_law_bent i_law_odd : Nat) : CSs := (.cons (.ite (.or (.op2 .eq (.var 2) (.con (.int 0))) (.or (.not (.op1 (.isinst .tuple) (.var 1))) (.or (.op2 .eq (.var 1) (.tup .nil)) (.op2 .eq (.call i_law_take [0, 1] (.cons (.var 0) (.cons (.con (.int 5)) .nil)) .nil) (.con (.int 0)))))) (.cons (.ret (.call i_law_odd [0, 1] (.cons (.var 0) (.cons (.var 1) .nil)) .nil)) .nil) .nil) (.cons (.asg (.name 3) (.call i_law_take [0, 1] (.cons (.var 0) (.cons (.op1 .len (.var 1)) .nil)) .nil)) (.cons (.ret (.op2 .add (.op2 .add (.sl (.var 1) .no (.some (.var 3))) (.tup (.cons (.call i_law_bent [0, 1, 2] (.cons (.var 0) (.cons (.op2 .ix (.var 1) (.var 3)) (.cons (.op2 .sub (.var 2) (.con (.int 1))) .nil))) .nil) .nil))) (.sl (.var 1) (.some (.op2 .add (.var 3) (.con (.int 1)))) .no))) .nil)))
def N_law_bent : List Str := ["_law_hand_here", "_law_one", "_law_deep", "_law_spot"]
def spBentF (e : Nat) : DSp := fun ds mu Q _ => ∃ (h m n k K : Nat) (d : D), ds = [.ref h, d, .int (e : Int)] ∧ Hand mu h (m + 2 * e + 2) ∧ Va mu h n k d ∧ 9 ≤ n ∧ n ≤ 100 ∧ k + 1 ≤ K ∧ min k e + 2 ≤ K ∧
  ∀ d' c' P, HandC m c' → Va (mu.set h c' ++ P) h (n + 1) K d' → Q d' (mu.set h c' ++ P)
def spBent : DSp := upTo spBentF 2
theorem w_bent {G : Ctx} {i j : Nat} (g1 : G.fn i_law_take = spTake) (g2 : G.fn j = spOdd) {e : Nat} (g3 : G.fn i = prevF spBentF e) {ds : List D} {mu : Store} {Q : QD} {E : QX} (s : spBentF e ds mu Q E) : wpSs G (c_law_bent i j) (endsOf (gcD mu Q) (gcX mu E)) (startD N_law_bent ds) mu := by
  obtain ⟨h, m, n, k, K, d, rfl, hh, v, hn, hn2, hk, hk2, q⟩ := s
  have hl := hh.lt
  have odd_ : ∀ c0, HandC (m + 1) c0 → CallTo G j [D.ref h, d] (mu.set h c0) (fun d mu1 => gcD mu Q d mu1) fun x nu => gcX mu E x nu := fun c0 h0 => by
    refine call_to g2 ⟨h, m, n, K - 1, d, rfl, Hand.set hl h0, (v.keep .set).mono (Nat.le_refl _) (by omega), hn, hn2, by omega, fun d' c' P hc' v' => ?_⟩
    rw [List.set_set] at v' ⊢
    exact gc_any (q d' c' P hc' (v'.mono (Nat.le_refl _) (by omega)))
  have odd0_ : CallTo G j [D.ref h, d] mu (fun d mu1 => gcD mu Q d mu1) fun x nu => gcX mu E x nu := by
    refine call_to g2 ⟨h, m, n, K - 1, d, rfl, hh.less (by omega), v.mono (Nat.le_refl _) (by omega), hn, hn2, by omega, fun d' c' P hc' v' => ?_⟩
    exact gc_any (q d' c' P hc' (v'.mono (Nat.le_refl _) (by omega)))
  cases e with
  | zero =>
    have e0 : ((0 : Nat) : Int) = 0 := rfl
    cases v with
    | non => (try with_reducible refine nx_in ?_); simp (disch := (first | assumption | omega | rfl | (simp only [List.length_set, List.length_append, List.length_cons, List.length_nil, List.length_map, List.length_range, intsD_len]; omega) | (simp only [List.length_cons, List.length_nil, Nat.zero_add, Nat.reduceAdd, List.take_succ_cons, List.take_zero]))) only [↓wpk, wpI, wpT, withS, asTup, asCons, asNil, onB, onI, onKey, keyOf, onSome, endsOf, startD_n, nones, w1, w2, w3, pre2, pre3, isDct, wSl, wSet, wAug, wDel, seqAt, listAt, lstAt, getAt, putAt, dctAt, itemAt, wSeq, wLock, unlk, post0, newLst, wipeD, dispOf, onDisp, List.map_cons, List.map_nil, List.length_cons, List.length_nil, List.length_map, List.length_append, List.length_set, List.nil_append, List.cons_append, List.append_assoc, List.set_cons_zero, List.set_cons_succ, List.getElem?_cons_zero, List.getElem?_cons_succ, List.append_nil, perm, List.getD_cons_zero, List.getD_cons_succ, Int.toNat_natCast, Nat.reduceAdd, Nat.reduceSub, true_and, and_true, if_true, if_false, Bool.false_eq_true, decide_eq_true_eq, D.isNon, Nat.reduceLT, Nat.reduceLeDiff, Int.reduceLT, Int.reduceLE, Int.reduceToNat, Int.reducePow, Int.reduceMul, Int.reduceNeg, Bool.not_true, Bool.not_false, forall_const, cond_true, cond_false, sizeT_ok, szl_ok, szl_ok2, small_ok, at_lt, at_ge, at_sne, at_seq, set_ge, set_lt, gcE_set, gcE_set0, gcE_ll, gcE_ss, gcE_ssl, gcE_lsl, gcE_l0l, Nat.sub_self, Nat.add_sub_cancel_left, Nat.add_sub_cancel, Int.zero_add, Int.add_zero, Option.getD_some, Option.getD_none, Option.isSome_some, Option.isSome_none, c_law_bent, N_law_bent, isTy, e0]; (try with_reducible refine nx_in ?_); simp (disch := (first | assumption | omega | rfl | (simp only [List.length_set, List.length_append, List.length_cons, List.length_nil, List.length_map, List.length_range, intsD_len]; omega) | (simp only [List.length_cons, List.length_nil, Nat.zero_add, Nat.reduceAdd, List.take_succ_cons, List.take_zero]))) only [↓wpk, wpI, wpT, withS, asTup, asCons, asNil, onB, onI, onKey, keyOf, onSome, endsOf, startD_n, nones, w1, w2, w3, pre2, pre3, isDct, wSl, wSet, wAug, wDel, seqAt, listAt, lstAt, getAt, putAt, dctAt, itemAt, wSeq, wLock, unlk, post0, newLst, wipeD, dispOf, onDisp, List.map_cons, List.map_nil, List.length_cons, List.length_nil, List.length_map, List.length_append, List.length_set, List.nil_append, List.cons_append, List.append_assoc, List.set_cons_zero, List.set_cons_succ, List.getElem?_cons_zero, List.getElem?_cons_succ, List.append_nil, perm, List.getD_cons_zero, List.getD_cons_succ, Int.toNat_natCast, Nat.reduceAdd, Nat.reduceSub, true_and, and_true, if_true, if_false, Bool.false_eq_true, decide_eq_true_eq, D.isNon, Nat.reduceLT, Nat.reduceLeDiff, Int.reduceLT, Int.reduceLE, Int.reduceToNat, Int.reducePow, Int.reduceMul, Int.reduceNeg, Bool.not_true, Bool.not_false, forall_const, cond_true, cond_false, sizeT_ok, szl_ok, szl_ok2, small_ok, at_lt, at_ge, at_sne, at_seq, set_ge, set_lt, gcE_set, gcE_set0, gcE_ll, gcE_ss, gcE_ssl, gcE_lsl, gcE_l0l, Nat.sub_self, Nat.add_sub_cancel_left, Nat.add_sub_cancel, Int.zero_add, Int.add_zero, Option.getD_some, Option.getD_none, Option.isSome_some, Option.isSome_none]; exact odd0_
    | bl b => (try with_reducible refine nx_in ?_); simp (disch := (first | assumption | omega | rfl | (simp only [List.length_set, List.length_append, List.length_cons, List.length_nil, List.length_map, List.length_range, intsD_len]; omega) | (simp only [List.length_cons, List.length_nil, Nat.zero_add, Nat.reduceAdd, List.take_succ_cons, List.take_zero]))) only [↓wpk, wpI, wpT, withS, asTup, asCons, asNil, onB, onI, onKey, keyOf, onSome, endsOf, startD_n, nones, w1, w2, w3, pre2, pre3, isDct, wSl, wSet, wAug, wDel, seqAt, listAt, lstAt, getAt, putAt, dctAt, itemAt, wSeq, wLock, unlk, post0, newLst, wipeD, dispOf, onDisp, List.map_cons, List.map_nil, List.length_cons, List.length_nil, List.length_map, List.length_append, List.length_set, List.nil_append, List.cons_append, List.append_assoc, List.set_cons_zero, List.set_cons_succ, List.getElem?_cons_zero, List.getElem?_cons_succ, List.append_nil, perm, List.getD_cons_zero, List.getD_cons_succ, Int.toNat_natCast, Nat.reduceAdd, Nat.reduceSub, true_and, and_true, if_true, if_false, Bool.false_eq_true, decide_eq_true_eq, D.isNon, Nat.reduceLT, Nat.reduceLeDiff, Int.reduceLT, Int.reduceLE, Int.reduceToNat, Int.reducePow, Int.reduceMul, Int.reduceNeg, Bool.not_true, Bool.not_false, forall_const, cond_true, cond_false, sizeT_ok, szl_ok, szl_ok2, small_ok, at_lt, at_ge, at_sne, at_seq, set_ge, set_lt, gcE_set, gcE_set0, gcE_ll, gcE_ss, gcE_ssl, gcE_lsl, gcE_l0l, Nat.sub_self, Nat.add_sub_cancel_left, Nat.add_sub_cancel, Int.zero_add, Int.add_zero, Option.getD_some, Option.getD_none, Option.isSome_some, Option.isSome_none, c_law_bent, N_law_bent, isTy, e0]; (try with_reducible refine nx_in ?_); simp (disch := (first | assumption | omega | rfl | (simp only [List.length_set, List.length_append, List.length_cons, List.length_nil, List.length_map, List.length_range, intsD_len]; omega) | (simp only [List.length_cons, List.length_nil, Nat.zero_add, Nat.reduceAdd, List.take_succ_cons, List.take_zero]))) only [↓wpk, wpI, wpT, withS, asTup, asCons, asNil, onB, onI, onKey, keyOf, onSome, endsOf, startD_n, nones, w1, w2, w3, pre2, pre3, isDct, wSl, wSet, wAug, wDel, seqAt, listAt, lstAt, getAt, putAt, dctAt, itemAt, wSeq, wLock, unlk, post0, newLst, wipeD, dispOf, onDisp, List.map_cons, List.map_nil, List.length_cons, List.length_nil, List.length_map, List.length_append, List.length_set, List.nil_append, List.cons_append, List.append_assoc, List.set_cons_zero, List.set_cons_succ, List.getElem?_cons_zero, List.getElem?_cons_succ, List.append_nil, perm, List.getD_cons_zero, List.getD_cons_succ, Int.toNat_natCast, Nat.reduceAdd, Nat.reduceSub, true_and, and_true, if_true, if_false, Bool.false_eq_true, decide_eq_true_eq, D.isNon, Nat.reduceLT, Nat.reduceLeDiff, Int.reduceLT, Int.reduceLE, Int.reduceToNat, Int.reducePow, Int.reduceMul, Int.reduceNeg, Bool.not_true, Bool.not_false, forall_const, cond_true, cond_false, sizeT_ok, szl_ok, szl_ok2, small_ok, at_lt, at_ge, at_sne, at_seq, set_ge, set_lt, gcE_set, gcE_set0, gcE_ll, gcE_ss, gcE_ssl, gcE_lsl, gcE_l0l, Nat.sub_self, Nat.add_sub_cancel_left, Nat.add_sub_cancel, Int.zero_add, Int.add_zero, Option.getD_some, Option.getD_none, Option.isSome_some, Option.isSome_none]; exact odd0_
    | int hi => (try with_reducible refine nx_in ?_); simp (disch := (first | assumption | omega | rfl | (simp only [List.length_set, List.length_append, List.length_cons, List.length_nil, List.length_map, List.length_range, intsD_len]; omega) | (simp only [List.length_cons, List.length_nil, Nat.zero_add, Nat.reduceAdd, List.take_succ_cons, List.take_zero]))) only [↓wpk, wpI, wpT, withS, asTup, asCons, asNil, onB, onI, onKey, keyOf, onSome, endsOf, startD_n, nones, w1, w2, w3, pre2, pre3, isDct, wSl, wSet, wAug, wDel, seqAt, listAt, lstAt, getAt, putAt, dctAt, itemAt, wSeq, wLock, unlk, post0, newLst, wipeD, dispOf, onDisp, List.map_cons, List.map_nil, List.length_cons, List.length_nil, List.length_map, List.length_append, List.length_set, List.nil_append, List.cons_append, List.append_assoc, List.set_cons_zero, List.set_cons_succ, List.getElem?_cons_zero, List.getElem?_cons_succ, List.append_nil, perm, List.getD_cons_zero, List.getD_cons_succ, Int.toNat_natCast, Nat.reduceAdd, Nat.reduceSub, true_and, and_true, if_true, if_false, Bool.false_eq_true, decide_eq_true_eq, D.isNon, Nat.reduceLT, Nat.reduceLeDiff, Int.reduceLT, Int.reduceLE, Int.reduceToNat, Int.reducePow, Int.reduceMul, Int.reduceNeg, Bool.not_true, Bool.not_false, forall_const, cond_true, cond_false, sizeT_ok, szl_ok, szl_ok2, small_ok, at_lt, at_ge, at_sne, at_seq, set_ge, set_lt, gcE_set, gcE_set0, gcE_ll, gcE_ss, gcE_ssl, gcE_lsl, gcE_l0l, Nat.sub_self, Nat.add_sub_cancel_left, Nat.add_sub_cancel, Int.zero_add, Int.add_zero, Option.getD_some, Option.getD_none, Option.isSome_some, Option.isSome_none, c_law_bent, N_law_bent, isTy, e0]; (try with_reducible refine nx_in ?_); simp (disch := (first | assumption | omega | rfl | (simp only [List.length_set, List.length_append, List.length_cons, List.length_nil, List.length_map, List.length_range, intsD_len]; omega) | (simp only [List.length_cons, List.length_nil, Nat.zero_add, Nat.reduceAdd, List.take_succ_cons, List.take_zero]))) only [↓wpk, wpI, wpT, withS, asTup, asCons, asNil, onB, onI, onKey, keyOf, onSome, endsOf, startD_n, nones, w1, w2, w3, pre2, pre3, isDct, wSl, wSet, wAug, wDel, seqAt, listAt, lstAt, getAt, putAt, dctAt, itemAt, wSeq, wLock, unlk, post0, newLst, wipeD, dispOf, onDisp, List.map_cons, List.map_nil, List.length_cons, List.length_nil, List.length_map, List.length_append, List.length_set, List.nil_append, List.cons_append, List.append_assoc, List.set_cons_zero, List.set_cons_succ, List.getElem?_cons_zero, List.getElem?_cons_succ, List.append_nil, perm, List.getD_cons_zero, List.getD_cons_succ, Int.toNat_natCast, Nat.reduceAdd, Nat.reduceSub, true_and, and_true, if_true, if_false, Bool.false_eq_true, decide_eq_true_eq, D.isNon, Nat.reduceLT, Nat.reduceLeDiff, Int.reduceLT, Int.reduceLE, Int.reduceToNat, Int.reducePow, Int.reduceMul, Int.reduceNeg, Bool.not_true, Bool.not_false, forall_const, cond_true, cond_false, sizeT_ok, szl_ok, szl_ok2, small_ok, at_lt, at_ge, at_sne, at_seq, set_ge, set_lt, gcE_set, gcE_set0, gcE_ll, gcE_ss, gcE_ssl, gcE_lsl, gcE_l0l, Nat.sub_self, Nat.add_sub_cancel_left, Nat.add_sub_cancel, Int.zero_add, Int.add_zero, Option.getD_some, Option.getD_none, Option.isSome_some, Option.isSome_none]; exact odd0_
    | str a l => (try with_reducible refine nx_in ?_); simp (disch := (first | assumption | omega | rfl | (simp only [List.length_set, List.length_append, List.length_cons, List.length_nil, List.length_map, List.length_range, intsD_len]; omega) | (simp only [List.length_cons, List.length_nil, Nat.zero_add, Nat.reduceAdd, List.take_succ_cons, List.take_zero]))) only [↓wpk, wpI, wpT, withS, asTup, asCons, asNil, onB, onI, onKey, keyOf, onSome, endsOf, startD_n, nones, w1, w2, w3, pre2, pre3, isDct, wSl, wSet, wAug, wDel, seqAt, listAt, lstAt, getAt, putAt, dctAt, itemAt, wSeq, wLock, unlk, post0, newLst, wipeD, dispOf, onDisp, List.map_cons, List.map_nil, List.length_cons, List.length_nil, List.length_map, List.length_append, List.length_set, List.nil_append, List.cons_append, List.append_assoc, List.set_cons_zero, List.set_cons_succ, List.getElem?_cons_zero, List.getElem?_cons_succ, List.append_nil, perm, List.getD_cons_zero, List.getD_cons_succ, Int.toNat_natCast, Nat.reduceAdd, Nat.reduceSub, true_and, and_true, if_true, if_false, Bool.false_eq_true, decide_eq_true_eq, D.isNon, Nat.reduceLT, Nat.reduceLeDiff, Int.reduceLT, Int.reduceLE, Int.reduceToNat, Int.reducePow, Int.reduceMul, Int.reduceNeg, Bool.not_true, Bool.not_false, forall_const, cond_true, cond_false, sizeT_ok, szl_ok, szl_ok2, small_ok, at_lt, at_ge, at_sne, at_seq, set_ge, set_lt, gcE_set, gcE_set0, gcE_ll, gcE_ss, gcE_ssl, gcE_lsl, gcE_l0l, Nat.sub_self, Nat.add_sub_cancel_left, Nat.add_sub_cancel, Int.zero_add, Int.add_zero, Option.getD_some, Option.getD_none, Option.isSome_some, Option.isSome_none, c_law_bent, N_law_bent, isTy, e0]; (try with_reducible refine nx_in ?_); simp (disch := (first | assumption | omega | rfl | (simp only [List.length_set, List.length_append, List.length_cons, List.length_nil, List.length_map, List.length_range, intsD_len]; omega) | (simp only [List.length_cons, List.length_nil, Nat.zero_add, Nat.reduceAdd, List.take_succ_cons, List.take_zero]))) only [↓wpk, wpI, wpT, withS, asTup, asCons, asNil, onB, onI, onKey, keyOf, onSome, endsOf, startD_n, nones, w1, w2, w3, pre2, pre3, isDct, wSl, wSet, wAug, wDel, seqAt, listAt, lstAt, getAt, putAt, dctAt, itemAt, wSeq, wLock, unlk, post0, newLst, wipeD, dispOf, onDisp, List.map_cons, List.map_nil, List.length_cons, List.length_nil, List.length_map, List.length_append, List.length_set, List.nil_append, List.cons_append, List.append_assoc, List.set_cons_zero, List.set_cons_succ, List.getElem?_cons_zero, List.getElem?_cons_succ, List.append_nil, perm, List.getD_cons_zero, List.getD_cons_succ, Int.toNat_natCast, Nat.reduceAdd, Nat.reduceSub, true_and, and_true, if_true, if_false, Bool.false_eq_true, decide_eq_true_eq, D.isNon, Nat.reduceLT, Nat.reduceLeDiff, Int.reduceLT, Int.reduceLE, Int.reduceToNat, Int.reducePow, Int.reduceMul, Int.reduceNeg, Bool.not_true, Bool.not_false, forall_const, cond_true, cond_false, sizeT_ok, szl_ok, szl_ok2, small_ok, at_lt, at_ge, at_sne, at_seq, set_ge, set_lt, gcE_set, gcE_set0, gcE_ll, gcE_ss, gcE_ssl, gcE_lsl, gcE_l0l, Nat.sub_self, Nat.add_sub_cancel_left, Nat.add_sub_cancel, Int.zero_add, Int.add_zero, Option.getD_some, Option.getD_none, Option.isSome_some, Option.isSome_none]; exact odd0_
    | tup a l => (try with_reducible refine nx_in ?_); simp (disch := (first | assumption | omega | rfl | (simp only [List.length_set, List.length_append, List.length_cons, List.length_nil, List.length_map, List.length_range, intsD_len]; omega) | (simp only [List.length_cons, List.length_nil, Nat.zero_add, Nat.reduceAdd, List.take_succ_cons, List.take_zero]))) only [↓wpk, wpI, wpT, withS, asTup, asCons, asNil, onB, onI, onKey, keyOf, onSome, endsOf, startD_n, nones, w1, w2, w3, pre2, pre3, isDct, wSl, wSet, wAug, wDel, seqAt, listAt, lstAt, getAt, putAt, dctAt, itemAt, wSeq, wLock, unlk, post0, newLst, wipeD, dispOf, onDisp, List.map_cons, List.map_nil, List.length_cons, List.length_nil, List.length_map, List.length_append, List.length_set, List.nil_append, List.cons_append, List.append_assoc, List.set_cons_zero, List.set_cons_succ, List.getElem?_cons_zero, List.getElem?_cons_succ, List.append_nil, perm, List.getD_cons_zero, List.getD_cons_succ, Int.toNat_natCast, Nat.reduceAdd, Nat.reduceSub, true_and, and_true, if_true, if_false, Bool.false_eq_true, decide_eq_true_eq, D.isNon, Nat.reduceLT, Nat.reduceLeDiff, Int.reduceLT, Int.reduceLE, Int.reduceToNat, Int.reducePow, Int.reduceMul, Int.reduceNeg, Bool.not_true, Bool.not_false, forall_const, cond_true, cond_false, sizeT_ok, szl_ok, szl_ok2, small_ok, at_lt, at_ge, at_sne, at_seq, set_ge, set_lt, gcE_set, gcE_set0, gcE_ll, gcE_ss, gcE_ssl, gcE_lsl, gcE_l0l, Nat.sub_self, Nat.add_sub_cancel_left, Nat.add_sub_cancel, Int.zero_add, Int.add_zero, Option.getD_some, Option.getD_none, Option.isSome_some, Option.isSome_none, c_law_bent, N_law_bent, isTy, e0]; (try with_reducible refine nx_in ?_); simp (disch := (first | assumption | omega | rfl | (simp only [List.length_set, List.length_append, List.length_cons, List.length_nil, List.length_map, List.length_range, intsD_len]; omega) | (simp only [List.length_cons, List.length_nil, Nat.zero_add, Nat.reduceAdd, List.take_succ_cons, List.take_zero]))) only [↓wpk, wpI, wpT, withS, asTup, asCons, asNil, onB, onI, onKey, keyOf, onSome, endsOf, startD_n, nones, w1, w2, w3, pre2, pre3, isDct, wSl, wSet, wAug, wDel, seqAt, listAt, lstAt, getAt, putAt, dctAt, itemAt, wSeq, wLock, unlk, post0, newLst, wipeD, dispOf, onDisp, List.map_cons, List.map_nil, List.length_cons, List.length_nil, List.length_map, List.length_append, List.length_set, List.nil_append, List.cons_append, List.append_assoc, List.set_cons_zero, List.set_cons_succ, List.getElem?_cons_zero, List.getElem?_cons_succ, List.append_nil, perm, List.getD_cons_zero, List.getD_cons_succ, Int.toNat_natCast, Nat.reduceAdd, Nat.reduceSub, true_and, and_true, if_true, if_false, Bool.false_eq_true, decide_eq_true_eq, D.isNon, Nat.reduceLT, Nat.reduceLeDiff, Int.reduceLT, Int.reduceLE, Int.reduceToNat, Int.reducePow, Int.reduceMul, Int.reduceNeg, Bool.not_true, Bool.not_false, forall_const, cond_true, cond_false, sizeT_ok, szl_ok, szl_ok2, small_ok, at_lt, at_ge, at_sne, at_seq, set_ge, set_lt, gcE_set, gcE_set0, gcE_ll, gcE_ss, gcE_ssl, gcE_lsl, gcE_l0l, Nat.sub_self, Nat.add_sub_cancel_left, Nat.add_sub_cancel, Int.zero_add, Int.add_zero, Option.getD_some, Option.getD_none, Option.isSome_some, Option.isSome_none]; exact odd0_
    | lst hr eq a l => (try with_reducible refine nx_in ?_); simp (disch := (first | assumption | omega | rfl | (simp only [List.length_set, List.length_append, List.length_cons, List.length_nil, List.length_map, List.length_range, intsD_len]; omega) | (simp only [List.length_cons, List.length_nil, Nat.zero_add, Nat.reduceAdd, List.take_succ_cons, List.take_zero]))) only [↓wpk, wpI, wpT, withS, asTup, asCons, asNil, onB, onI, onKey, keyOf, onSome, endsOf, startD_n, nones, w1, w2, w3, pre2, pre3, isDct, wSl, wSet, wAug, wDel, seqAt, listAt, lstAt, getAt, putAt, dctAt, itemAt, wSeq, wLock, unlk, post0, newLst, wipeD, dispOf, onDisp, List.map_cons, List.map_nil, List.length_cons, List.length_nil, List.length_map, List.length_append, List.length_set, List.nil_append, List.cons_append, List.append_assoc, List.set_cons_zero, List.set_cons_succ, List.getElem?_cons_zero, List.getElem?_cons_succ, List.append_nil, perm, List.getD_cons_zero, List.getD_cons_succ, Int.toNat_natCast, Nat.reduceAdd, Nat.reduceSub, true_and, and_true, if_true, if_false, Bool.false_eq_true, decide_eq_true_eq, D.isNon, Nat.reduceLT, Nat.reduceLeDiff, Int.reduceLT, Int.reduceLE, Int.reduceToNat, Int.reducePow, Int.reduceMul, Int.reduceNeg, Bool.not_true, Bool.not_false, forall_const, cond_true, cond_false, sizeT_ok, szl_ok, szl_ok2, small_ok, at_lt, at_ge, at_sne, at_seq, set_ge, set_lt, gcE_set, gcE_set0, gcE_ll, gcE_ss, gcE_ssl, gcE_lsl, gcE_l0l, Nat.sub_self, Nat.add_sub_cancel_left, Nat.add_sub_cancel, Int.zero_add, Int.add_zero, Option.getD_some, Option.getD_none, Option.isSome_some, Option.isSome_none, c_law_bent, N_law_bent, isTy, e0, eq]; (try with_reducible refine nx_in ?_); simp (disch := (first | assumption | omega | rfl | (simp only [List.length_set, List.length_append, List.length_cons, List.length_nil, List.length_map, List.length_range, intsD_len]; omega) | (simp only [List.length_cons, List.length_nil, Nat.zero_add, Nat.reduceAdd, List.take_succ_cons, List.take_zero]))) only [↓wpk, wpI, wpT, withS, asTup, asCons, asNil, onB, onI, onKey, keyOf, onSome, endsOf, startD_n, nones, w1, w2, w3, pre2, pre3, isDct, wSl, wSet, wAug, wDel, seqAt, listAt, lstAt, getAt, putAt, dctAt, itemAt, wSeq, wLock, unlk, post0, newLst, wipeD, dispOf, onDisp, List.map_cons, List.map_nil, List.length_cons, List.length_nil, List.length_map, List.length_append, List.length_set, List.nil_append, List.cons_append, List.append_assoc, List.set_cons_zero, List.set_cons_succ, List.getElem?_cons_zero, List.getElem?_cons_succ, List.append_nil, perm, List.getD_cons_zero, List.getD_cons_succ, Int.toNat_natCast, Nat.reduceAdd, Nat.reduceSub, true_and, and_true, if_true, if_false, Bool.false_eq_true, decide_eq_true_eq, D.isNon, Nat.reduceLT, Nat.reduceLeDiff, Int.reduceLT, Int.reduceLE, Int.reduceToNat, Int.reducePow, Int.reduceMul, Int.reduceNeg, Bool.not_true, Bool.not_false, forall_const, cond_true, cond_false, sizeT_ok, szl_ok, szl_ok2, small_ok, at_lt, at_ge, at_sne, at_seq, set_ge, set_lt, gcE_set, gcE_set0, gcE_ll, gcE_ss, gcE_ssl, gcE_lsl, gcE_l0l, Nat.sub_self, Nat.add_sub_cancel_left, Nat.add_sub_cancel, Int.zero_add, Int.add_zero, Option.getD_some, Option.getD_none, Option.isSome_some, Option.isSome_none]; exact odd0_
    | dct hr eq => (try with_reducible refine nx_in ?_); simp (disch := (first | assumption | omega | rfl | (simp only [List.length_set, List.length_append, List.length_cons, List.length_nil, List.length_map, List.length_range, intsD_len]; omega) | (simp only [List.length_cons, List.length_nil, Nat.zero_add, Nat.reduceAdd, List.take_succ_cons, List.take_zero]))) only [↓wpk, wpI, wpT, withS, asTup, asCons, asNil, onB, onI, onKey, keyOf, onSome, endsOf, startD_n, nones, w1, w2, w3, pre2, pre3, isDct, wSl, wSet, wAug, wDel, seqAt, listAt, lstAt, getAt, putAt, dctAt, itemAt, wSeq, wLock, unlk, post0, newLst, wipeD, dispOf, onDisp, List.map_cons, List.map_nil, List.length_cons, List.length_nil, List.length_map, List.length_append, List.length_set, List.nil_append, List.cons_append, List.append_assoc, List.set_cons_zero, List.set_cons_succ, List.getElem?_cons_zero, List.getElem?_cons_succ, List.append_nil, perm, List.getD_cons_zero, List.getD_cons_succ, Int.toNat_natCast, Nat.reduceAdd, Nat.reduceSub, true_and, and_true, if_true, if_false, Bool.false_eq_true, decide_eq_true_eq, D.isNon, Nat.reduceLT, Nat.reduceLeDiff, Int.reduceLT, Int.reduceLE, Int.reduceToNat, Int.reducePow, Int.reduceMul, Int.reduceNeg, Bool.not_true, Bool.not_false, forall_const, cond_true, cond_false, sizeT_ok, szl_ok, szl_ok2, small_ok, at_lt, at_ge, at_sne, at_seq, set_ge, set_lt, gcE_set, gcE_set0, gcE_ll, gcE_ss, gcE_ssl, gcE_lsl, gcE_l0l, Nat.sub_self, Nat.add_sub_cancel_left, Nat.add_sub_cancel, Int.zero_add, Int.add_zero, Option.getD_some, Option.getD_none, Option.isSome_some, Option.isSome_none, c_law_bent, N_law_bent, isTy, e0, eq]; (try with_reducible refine nx_in ?_); simp (disch := (first | assumption | omega | rfl | (simp only [List.length_set, List.length_append, List.length_cons, List.length_nil, List.length_map, List.length_range, intsD_len]; omega) | (simp only [List.length_cons, List.length_nil, Nat.zero_add, Nat.reduceAdd, List.take_succ_cons, List.take_zero]))) only [↓wpk, wpI, wpT, withS, asTup, asCons, asNil, onB, onI, onKey, keyOf, onSome, endsOf, startD_n, nones, w1, w2, w3, pre2, pre3, isDct, wSl, wSet, wAug, wDel, seqAt, listAt, lstAt, getAt, putAt, dctAt, itemAt, wSeq, wLock, unlk, post0, newLst, wipeD, dispOf, onDisp, List.map_cons, List.map_nil, List.length_cons, List.length_nil, List.length_map, List.length_append, List.length_set, List.nil_append, List.cons_append, List.append_assoc, List.set_cons_zero, List.set_cons_succ, List.getElem?_cons_zero, List.getElem?_cons_succ, List.append_nil, perm, List.getD_cons_zero, List.getD_cons_succ, Int.toNat_natCast, Nat.reduceAdd, Nat.reduceSub, true_and, and_true, if_true, if_false, Bool.false_eq_true, decide_eq_true_eq, D.isNon, Nat.reduceLT, Nat.reduceLeDiff, Int.reduceLT, Int.reduceLE, Int.reduceToNat, Int.reducePow, Int.reduceMul, Int.reduceNeg, Bool.not_true, Bool.not_false, forall_const, cond_true, cond_false, sizeT_ok, szl_ok, szl_ok2, small_ok, at_lt, at_ge, at_sne, at_seq, set_ge, set_lt, gcE_set, gcE_set0, gcE_ll, gcE_ss, gcE_ssl, gcE_lsl, gcE_l0l, Nat.sub_self, Nat.add_sub_cancel_left, Nat.add_sub_cancel, Int.zero_add, Int.add_zero, Option.getD_some, Option.getD_none, Option.isSome_some, Option.isSome_none]; exact odd0_
  | succ e =>
  have e1 : ¬ ((e + 1 : Nat) : Int) = 0 := by omega
  have e2 : ((e + 1 : Nat) : Int) - 1 = (e : Int) := by omega
  cases v with
  | non => (try with_reducible refine nx_in ?_); simp (disch := (first | assumption | omega | rfl | (simp only [List.length_set, List.length_append, List.length_cons, List.length_nil, List.length_map, List.length_range, intsD_len]; omega) | (simp only [List.length_cons, List.length_nil, Nat.zero_add, Nat.reduceAdd, List.take_succ_cons, List.take_zero]))) only [↓wpk, wpI, wpT, withS, asTup, asCons, asNil, onB, onI, onKey, keyOf, onSome, endsOf, startD_n, nones, w1, w2, w3, pre2, pre3, isDct, wSl, wSet, wAug, wDel, seqAt, listAt, lstAt, getAt, putAt, dctAt, itemAt, wSeq, wLock, unlk, post0, newLst, wipeD, dispOf, onDisp, List.map_cons, List.map_nil, List.length_cons, List.length_nil, List.length_map, List.length_append, List.length_set, List.nil_append, List.cons_append, List.append_assoc, List.set_cons_zero, List.set_cons_succ, List.getElem?_cons_zero, List.getElem?_cons_succ, List.append_nil, perm, List.getD_cons_zero, List.getD_cons_succ, Int.toNat_natCast, Nat.reduceAdd, Nat.reduceSub, true_and, and_true, if_true, if_false, Bool.false_eq_true, decide_eq_true_eq, D.isNon, Nat.reduceLT, Nat.reduceLeDiff, Int.reduceLT, Int.reduceLE, Int.reduceToNat, Int.reducePow, Int.reduceMul, Int.reduceNeg, Bool.not_true, Bool.not_false, forall_const, cond_true, cond_false, sizeT_ok, szl_ok, szl_ok2, small_ok, at_lt, at_ge, at_sne, at_seq, set_ge, set_lt, gcE_set, gcE_set0, gcE_ll, gcE_ss, gcE_ssl, gcE_lsl, gcE_l0l, Nat.sub_self, Nat.add_sub_cancel_left, Nat.add_sub_cancel, Int.zero_add, Int.add_zero, Option.getD_some, Option.getD_none, Option.isSome_some, Option.isSome_none, c_law_bent, N_law_bent, isTy, e1]; (try with_reducible refine nx_in ?_); simp (disch := (first | assumption | omega | rfl | (simp only [List.length_set, List.length_append, List.length_cons, List.length_nil, List.length_map, List.length_range, intsD_len]; omega) | (simp only [List.length_cons, List.length_nil, Nat.zero_add, Nat.reduceAdd, List.take_succ_cons, List.take_zero]))) only [↓wpk, wpI, wpT, withS, asTup, asCons, asNil, onB, onI, onKey, keyOf, onSome, endsOf, startD_n, nones, w1, w2, w3, pre2, pre3, isDct, wSl, wSet, wAug, wDel, seqAt, listAt, lstAt, getAt, putAt, dctAt, itemAt, wSeq, wLock, unlk, post0, newLst, wipeD, dispOf, onDisp, List.map_cons, List.map_nil, List.length_cons, List.length_nil, List.length_map, List.length_append, List.length_set, List.nil_append, List.cons_append, List.append_assoc, List.set_cons_zero, List.set_cons_succ, List.getElem?_cons_zero, List.getElem?_cons_succ, List.append_nil, perm, List.getD_cons_zero, List.getD_cons_succ, Int.toNat_natCast, Nat.reduceAdd, Nat.reduceSub, true_and, and_true, if_true, if_false, Bool.false_eq_true, decide_eq_true_eq, D.isNon, Nat.reduceLT, Nat.reduceLeDiff, Int.reduceLT, Int.reduceLE, Int.reduceToNat, Int.reducePow, Int.reduceMul, Int.reduceNeg, Bool.not_true, Bool.not_false, forall_const, cond_true, cond_false, sizeT_ok, szl_ok, szl_ok2, small_ok, at_lt, at_ge, at_sne, at_seq, set_ge, set_lt, gcE_set, gcE_set0, gcE_ll, gcE_ss, gcE_ssl, gcE_lsl, gcE_l0l, Nat.sub_self, Nat.add_sub_cancel_left, Nat.add_sub_cancel, Int.zero_add, Int.add_zero, Option.getD_some, Option.getD_none, Option.isSome_some, Option.isSome_none]; exact odd0_
  | bl b => (try with_reducible refine nx_in ?_); simp (disch := (first | assumption | omega | rfl | (simp only [List.length_set, List.length_append, List.length_cons, List.length_nil, List.length_map, List.length_range, intsD_len]; omega) | (simp only [List.length_cons, List.length_nil, Nat.zero_add, Nat.reduceAdd, List.take_succ_cons, List.take_zero]))) only [↓wpk, wpI, wpT, withS, asTup, asCons, asNil, onB, onI, onKey, keyOf, onSome, endsOf, startD_n, nones, w1, w2, w3, pre2, pre3, isDct, wSl, wSet, wAug, wDel, seqAt, listAt, lstAt, getAt, putAt, dctAt, itemAt, wSeq, wLock, unlk, post0, newLst, wipeD, dispOf, onDisp, List.map_cons, List.map_nil, List.length_cons, List.length_nil, List.length_map, List.length_append, List.length_set, List.nil_append, List.cons_append, List.append_assoc, List.set_cons_zero, List.set_cons_succ, List.getElem?_cons_zero, List.getElem?_cons_succ, List.append_nil, perm, List.getD_cons_zero, List.getD_cons_succ, Int.toNat_natCast, Nat.reduceAdd, Nat.reduceSub, true_and, and_true, if_true, if_false, Bool.false_eq_true, decide_eq_true_eq, D.isNon, Nat.reduceLT, Nat.reduceLeDiff, Int.reduceLT, Int.reduceLE, Int.reduceToNat, Int.reducePow, Int.reduceMul, Int.reduceNeg, Bool.not_true, Bool.not_false, forall_const, cond_true, cond_false, sizeT_ok, szl_ok, szl_ok2, small_ok, at_lt, at_ge, at_sne, at_seq, set_ge, set_lt, gcE_set, gcE_set0, gcE_ll, gcE_ss, gcE_ssl, gcE_lsl, gcE_l0l, Nat.sub_self, Nat.add_sub_cancel_left, Nat.add_sub_cancel, Int.zero_add, Int.add_zero, Option.getD_some, Option.getD_none, Option.isSome_some, Option.isSome_none, c_law_bent, N_law_bent, isTy, e1]; (try with_reducible refine nx_in ?_); simp (disch := (first | assumption | omega | rfl | (simp only [List.length_set, List.length_append, List.length_cons, List.length_nil, List.length_map, List.length_range, intsD_len]; omega) | (simp only [List.length_cons, List.length_nil, Nat.zero_add, Nat.reduceAdd, List.take_succ_cons, List.take_zero]))) only [↓wpk, wpI, wpT, withS, asTup, asCons, asNil, onB, onI, onKey, keyOf, onSome, endsOf, startD_n, nones, w1, w2, w3, pre2, pre3, isDct, wSl, wSet, wAug, wDel, seqAt, listAt, lstAt, getAt, putAt, dctAt, itemAt, wSeq, wLock, unlk, post0, newLst, wipeD, dispOf, onDisp, List.map_cons, List.map_nil, List.length_cons, List.length_nil, List.length_map, List.length_append, List.length_set, List.nil_append, List.cons_append, List.append_assoc, List.set_cons_zero, List.set_cons_succ, List.getElem?_cons_zero, List.getElem?_cons_succ, List.append_nil, perm, List.getD_cons_zero, List.getD_cons_succ, Int.toNat_natCast, Nat.reduceAdd, Nat.reduceSub, true_and, and_true, if_true, if_false, Bool.false_eq_true, decide_eq_true_eq, D.isNon, Nat.reduceLT, Nat.reduceLeDiff, Int.reduceLT, Int.reduceLE, Int.reduceToNat, Int.reducePow, Int.reduceMul, Int.reduceNeg, Bool.not_true, Bool.not_false, forall_const, cond_true, cond_false, sizeT_ok, szl_ok, szl_ok2, small_ok, at_lt, at_ge, at_sne, at_seq, set_ge, set_lt, gcE_set, gcE_set0, gcE_ll, gcE_ss, gcE_ssl, gcE_lsl, gcE_l0l, Nat.sub_self, Nat.add_sub_cancel_left, Nat.add_sub_cancel, Int.zero_add, Int.add_zero, Option.getD_some, Option.getD_none, Option.isSome_some, Option.isSome_none]; exact odd0_
  | int hi => (try with_reducible refine nx_in ?_); simp (disch := (first | assumption | omega | rfl | (simp only [List.length_set, List.length_append, List.length_cons, List.length_nil, List.length_map, List.length_range, intsD_len]; omega) | (simp only [List.length_cons, List.length_nil, Nat.zero_add, Nat.reduceAdd, List.take_succ_cons, List.take_zero]))) only [↓wpk, wpI, wpT, withS, asTup, asCons, asNil, onB, onI, onKey, keyOf, onSome, endsOf, startD_n, nones, w1, w2, w3, pre2, pre3, isDct, wSl, wSet, wAug, wDel, seqAt, listAt, lstAt, getAt, putAt, dctAt, itemAt, wSeq, wLock, unlk, post0, newLst, wipeD, dispOf, onDisp, List.map_cons, List.map_nil, List.length_cons, List.length_nil, List.length_map, List.length_append, List.length_set, List.nil_append, List.cons_append, List.append_assoc, List.set_cons_zero, List.set_cons_succ, List.getElem?_cons_zero, List.getElem?_cons_succ, List.append_nil, perm, List.getD_cons_zero, List.getD_cons_succ, Int.toNat_natCast, Nat.reduceAdd, Nat.reduceSub, true_and, and_true, if_true, if_false, Bool.false_eq_true, decide_eq_true_eq, D.isNon, Nat.reduceLT, Nat.reduceLeDiff, Int.reduceLT, Int.reduceLE, Int.reduceToNat, Int.reducePow, Int.reduceMul, Int.reduceNeg, Bool.not_true, Bool.not_false, forall_const, cond_true, cond_false, sizeT_ok, szl_ok, szl_ok2, small_ok, at_lt, at_ge, at_sne, at_seq, set_ge, set_lt, gcE_set, gcE_set0, gcE_ll, gcE_ss, gcE_ssl, gcE_lsl, gcE_l0l, Nat.sub_self, Nat.add_sub_cancel_left, Nat.add_sub_cancel, Int.zero_add, Int.add_zero, Option.getD_some, Option.getD_none, Option.isSome_some, Option.isSome_none, c_law_bent, N_law_bent, isTy, e1]; (try with_reducible refine nx_in ?_); simp (disch := (first | assumption | omega | rfl | (simp only [List.length_set, List.length_append, List.length_cons, List.length_nil, List.length_map, List.length_range, intsD_len]; omega) | (simp only [List.length_cons, List.length_nil, Nat.zero_add, Nat.reduceAdd, List.take_succ_cons, List.take_zero]))) only [↓wpk, wpI, wpT, withS, asTup, asCons, asNil, onB, onI, onKey, keyOf, onSome, endsOf, startD_n, nones, w1, w2, w3, pre2, pre3, isDct, wSl, wSet, wAug, wDel, seqAt, listAt, lstAt, getAt, putAt, dctAt, itemAt, wSeq, wLock, unlk, post0, newLst, wipeD, dispOf, onDisp, List.map_cons, List.map_nil, List.length_cons, List.length_nil, List.length_map, List.length_append, List.length_set, List.nil_append, List.cons_append, List.append_assoc, List.set_cons_zero, List.set_cons_succ, List.getElem?_cons_zero, List.getElem?_cons_succ, List.append_nil, perm, List.getD_cons_zero, List.getD_cons_succ, Int.toNat_natCast, Nat.reduceAdd, Nat.reduceSub, true_and, and_true, if_true, if_false, Bool.false_eq_true, decide_eq_true_eq, D.isNon, Nat.reduceLT, Nat.reduceLeDiff, Int.reduceLT, Int.reduceLE, Int.reduceToNat, Int.reducePow, Int.reduceMul, Int.reduceNeg, Bool.not_true, Bool.not_false, forall_const, cond_true, cond_false, sizeT_ok, szl_ok, szl_ok2, small_ok, at_lt, at_ge, at_sne, at_seq, set_ge, set_lt, gcE_set, gcE_set0, gcE_ll, gcE_ss, gcE_ssl, gcE_lsl, gcE_l0l, Nat.sub_self, Nat.add_sub_cancel_left, Nat.add_sub_cancel, Int.zero_add, Int.add_zero, Option.getD_some, Option.getD_none, Option.isSome_some, Option.isSome_none]; exact odd0_
  | str a l => (try with_reducible refine nx_in ?_); simp (disch := (first | assumption | omega | rfl | (simp only [List.length_set, List.length_append, List.length_cons, List.length_nil, List.length_map, List.length_range, intsD_len]; omega) | (simp only [List.length_cons, List.length_nil, Nat.zero_add, Nat.reduceAdd, List.take_succ_cons, List.take_zero]))) only [↓wpk, wpI, wpT, withS, asTup, asCons, asNil, onB, onI, onKey, keyOf, onSome, endsOf, startD_n, nones, w1, w2, w3, pre2, pre3, isDct, wSl, wSet, wAug, wDel, seqAt, listAt, lstAt, getAt, putAt, dctAt, itemAt, wSeq, wLock, unlk, post0, newLst, wipeD, dispOf, onDisp, List.map_cons, List.map_nil, List.length_cons, List.length_nil, List.length_map, List.length_append, List.length_set, List.nil_append, List.cons_append, List.append_assoc, List.set_cons_zero, List.set_cons_succ, List.getElem?_cons_zero, List.getElem?_cons_succ, List.append_nil, perm, List.getD_cons_zero, List.getD_cons_succ, Int.toNat_natCast, Nat.reduceAdd, Nat.reduceSub, true_and, and_true, if_true, if_false, Bool.false_eq_true, decide_eq_true_eq, D.isNon, Nat.reduceLT, Nat.reduceLeDiff, Int.reduceLT, Int.reduceLE, Int.reduceToNat, Int.reducePow, Int.reduceMul, Int.reduceNeg, Bool.not_true, Bool.not_false, forall_const, cond_true, cond_false, sizeT_ok, szl_ok, szl_ok2, small_ok, at_lt, at_ge, at_sne, at_seq, set_ge, set_lt, gcE_set, gcE_set0, gcE_ll, gcE_ss, gcE_ssl, gcE_lsl, gcE_l0l, Nat.sub_self, Nat.add_sub_cancel_left, Nat.add_sub_cancel, Int.zero_add, Int.add_zero, Option.getD_some, Option.getD_none, Option.isSome_some, Option.isSome_none, c_law_bent, N_law_bent, isTy, e1]; (try with_reducible refine nx_in ?_); simp (disch := (first | assumption | omega | rfl | (simp only [List.length_set, List.length_append, List.length_cons, List.length_nil, List.length_map, List.length_range, intsD_len]; omega) | (simp only [List.length_cons, List.length_nil, Nat.zero_add, Nat.reduceAdd, List.take_succ_cons, List.take_zero]))) only [↓wpk, wpI, wpT, withS, asTup, asCons, asNil, onB, onI, onKey, keyOf, onSome, endsOf, startD_n, nones, w1, w2, w3, pre2, pre3, isDct, wSl, wSet, wAug, wDel, seqAt, listAt, lstAt, getAt, putAt, dctAt, itemAt, wSeq, wLock, unlk, post0, newLst, wipeD, dispOf, onDisp, List.map_cons, List.map_nil, List.length_cons, List.length_nil, List.length_map, List.length_append, List.length_set, List.nil_append, List.cons_append, List.append_assoc, List.set_cons_zero, List.set_cons_succ, List.getElem?_cons_zero, List.getElem?_cons_succ, List.append_nil, perm, List.getD_cons_zero, List.getD_cons_succ, Int.toNat_natCast, Nat.reduceAdd, Nat.reduceSub, true_and, and_true, if_true, if_false, Bool.false_eq_true, decide_eq_true_eq, D.isNon, Nat.reduceLT, Nat.reduceLeDiff, Int.reduceLT, Int.reduceLE, Int.reduceToNat, Int.reducePow, Int.reduceMul, Int.reduceNeg, Bool.not_true, Bool.not_false, forall_const, cond_true, cond_false, sizeT_ok, szl_ok, szl_ok2, small_ok, at_lt, at_ge, at_sne, at_seq, set_ge, set_lt, gcE_set, gcE_set0, gcE_ll, gcE_ss, gcE_ssl, gcE_lsl, gcE_l0l, Nat.sub_self, Nat.add_sub_cancel_left, Nat.add_sub_cancel, Int.zero_add, Int.add_zero, Option.getD_some, Option.getD_none, Option.isSome_some, Option.isSome_none]; exact odd0_
  | lst hr eq a l => (try with_reducible refine nx_in ?_); simp (disch := (first | assumption | omega | rfl | (simp only [List.length_set, List.length_append, List.length_cons, List.length_nil, List.length_map, List.length_range, intsD_len]; omega) | (simp only [List.length_cons, List.length_nil, Nat.zero_add, Nat.reduceAdd, List.take_succ_cons, List.take_zero]))) only [↓wpk, wpI, wpT, withS, asTup, asCons, asNil, onB, onI, onKey, keyOf, onSome, endsOf, startD_n, nones, w1, w2, w3, pre2, pre3, isDct, wSl, wSet, wAug, wDel, seqAt, listAt, lstAt, getAt, putAt, dctAt, itemAt, wSeq, wLock, unlk, post0, newLst, wipeD, dispOf, onDisp, List.map_cons, List.map_nil, List.length_cons, List.length_nil, List.length_map, List.length_append, List.length_set, List.nil_append, List.cons_append, List.append_assoc, List.set_cons_zero, List.set_cons_succ, List.getElem?_cons_zero, List.getElem?_cons_succ, List.append_nil, perm, List.getD_cons_zero, List.getD_cons_succ, Int.toNat_natCast, Nat.reduceAdd, Nat.reduceSub, true_and, and_true, if_true, if_false, Bool.false_eq_true, decide_eq_true_eq, D.isNon, Nat.reduceLT, Nat.reduceLeDiff, Int.reduceLT, Int.reduceLE, Int.reduceToNat, Int.reducePow, Int.reduceMul, Int.reduceNeg, Bool.not_true, Bool.not_false, forall_const, cond_true, cond_false, sizeT_ok, szl_ok, szl_ok2, small_ok, at_lt, at_ge, at_sne, at_seq, set_ge, set_lt, gcE_set, gcE_set0, gcE_ll, gcE_ss, gcE_ssl, gcE_lsl, gcE_l0l, Nat.sub_self, Nat.add_sub_cancel_left, Nat.add_sub_cancel, Int.zero_add, Int.add_zero, Option.getD_some, Option.getD_none, Option.isSome_some, Option.isSome_none, c_law_bent, N_law_bent, isTy, e1, eq, ty1]; (try with_reducible refine nx_in ?_); simp (disch := (first | assumption | omega | rfl | (simp only [List.length_set, List.length_append, List.length_cons, List.length_nil, List.length_map, List.length_range, intsD_len]; omega) | (simp only [List.length_cons, List.length_nil, Nat.zero_add, Nat.reduceAdd, List.take_succ_cons, List.take_zero]))) only [↓wpk, wpI, wpT, withS, asTup, asCons, asNil, onB, onI, onKey, keyOf, onSome, endsOf, startD_n, nones, w1, w2, w3, pre2, pre3, isDct, wSl, wSet, wAug, wDel, seqAt, listAt, lstAt, getAt, putAt, dctAt, itemAt, wSeq, wLock, unlk, post0, newLst, wipeD, dispOf, onDisp, List.map_cons, List.map_nil, List.length_cons, List.length_nil, List.length_map, List.length_append, List.length_set, List.nil_append, List.cons_append, List.append_assoc, List.set_cons_zero, List.set_cons_succ, List.getElem?_cons_zero, List.getElem?_cons_succ, List.append_nil, perm, List.getD_cons_zero, List.getD_cons_succ, Int.toNat_natCast, Nat.reduceAdd, Nat.reduceSub, true_and, and_true, if_true, if_false, Bool.false_eq_true, decide_eq_true_eq, D.isNon, Nat.reduceLT, Nat.reduceLeDiff, Int.reduceLT, Int.reduceLE, Int.reduceToNat, Int.reducePow, Int.reduceMul, Int.reduceNeg, Bool.not_true, Bool.not_false, forall_const, cond_true, cond_false, sizeT_ok, szl_ok, szl_ok2, small_ok, at_lt, at_ge, at_sne, at_seq, set_ge, set_lt, gcE_set, gcE_set0, gcE_ll, gcE_ss, gcE_ssl, gcE_lsl, gcE_l0l, Nat.sub_self, Nat.add_sub_cancel_left, Nat.add_sub_cancel, Int.zero_add, Int.add_zero, Option.getD_some, Option.getD_none, Option.isSome_some, Option.isSome_none]; exact odd0_
  | dct hr eq => (try with_reducible refine nx_in ?_); simp (disch := (first | assumption | omega | rfl | (simp only [List.length_set, List.length_append, List.length_cons, List.length_nil, List.length_map, List.length_range, intsD_len]; omega) | (simp only [List.length_cons, List.length_nil, Nat.zero_add, Nat.reduceAdd, List.take_succ_cons, List.take_zero]))) only [↓wpk, wpI, wpT, withS, asTup, asCons, asNil, onB, onI, onKey, keyOf, onSome, endsOf, startD_n, nones, w1, w2, w3, pre2, pre3, isDct, wSl, wSet, wAug, wDel, seqAt, listAt, lstAt, getAt, putAt, dctAt, itemAt, wSeq, wLock, unlk, post0, newLst, wipeD, dispOf, onDisp, List.map_cons, List.map_nil, List.length_cons, List.length_nil, List.length_map, List.length_append, List.length_set, List.nil_append, List.cons_append, List.append_assoc, List.set_cons_zero, List.set_cons_succ, List.getElem?_cons_zero, List.getElem?_cons_succ, List.append_nil, perm, List.getD_cons_zero, List.getD_cons_succ, Int.toNat_natCast, Nat.reduceAdd, Nat.reduceSub, true_and, and_true, if_true, if_false, Bool.false_eq_true, decide_eq_true_eq, D.isNon, Nat.reduceLT, Nat.reduceLeDiff, Int.reduceLT, Int.reduceLE, Int.reduceToNat, Int.reducePow, Int.reduceMul, Int.reduceNeg, Bool.not_true, Bool.not_false, forall_const, cond_true, cond_false, sizeT_ok, szl_ok, szl_ok2, small_ok, at_lt, at_ge, at_sne, at_seq, set_ge, set_lt, gcE_set, gcE_set0, gcE_ll, gcE_ss, gcE_ssl, gcE_lsl, gcE_l0l, Nat.sub_self, Nat.add_sub_cancel_left, Nat.add_sub_cancel, Int.zero_add, Int.add_zero, Option.getD_some, Option.getD_none, Option.isSome_some, Option.isSome_none, c_law_bent, N_law_bent, isTy, e1, eq, ty4]; (try with_reducible refine nx_in ?_); simp (disch := (first | assumption | omega | rfl | (simp only [List.length_set, List.length_append, List.length_cons, List.length_nil, List.length_map, List.length_range, intsD_len]; omega) | (simp only [List.length_cons, List.length_nil, Nat.zero_add, Nat.reduceAdd, List.take_succ_cons, List.take_zero]))) only [↓wpk, wpI, wpT, withS, asTup, asCons, asNil, onB, onI, onKey, keyOf, onSome, endsOf, startD_n, nones, w1, w2, w3, pre2, pre3, isDct, wSl, wSet, wAug, wDel, seqAt, listAt, lstAt, getAt, putAt, dctAt, itemAt, wSeq, wLock, unlk, post0, newLst, wipeD, dispOf, onDisp, List.map_cons, List.map_nil, List.length_cons, List.length_nil, List.length_map, List.length_append, List.length_set, List.nil_append, List.cons_append, List.append_assoc, List.set_cons_zero, List.set_cons_succ, List.getElem?_cons_zero, List.getElem?_cons_succ, List.append_nil, perm, List.getD_cons_zero, List.getD_cons_succ, Int.toNat_natCast, Nat.reduceAdd, Nat.reduceSub, true_and, and_true, if_true, if_false, Bool.false_eq_true, decide_eq_true_eq, D.isNon, Nat.reduceLT, Nat.reduceLeDiff, Int.reduceLT, Int.reduceLE, Int.reduceToNat, Int.reducePow, Int.reduceMul, Int.reduceNeg, Bool.not_true, Bool.not_false, forall_const, cond_true, cond_false, sizeT_ok, szl_ok, szl_ok2, small_ok, at_lt, at_ge, at_sne, at_seq, set_ge, set_lt, gcE_set, gcE_set0, gcE_ll, gcE_ss, gcE_ssl, gcE_lsl, gcE_l0l, Nat.sub_self, Nat.add_sub_cancel_left, Nat.add_sub_cancel, Int.zero_add, Int.add_zero, Option.getD_some, Option.getD_none, Option.isSome_some, Option.isSome_none]; exact odd0_
  | @tup k xs as l =>
    (try with_reducible refine nx_in ?_); simp (disch := (first | assumption | omega | rfl | (simp only [List.length_set, List.length_append, List.length_cons, List.length_nil, List.length_map, List.length_range, intsD_len]; omega) | (simp only [List.length_cons, List.length_nil, Nat.zero_add, Nat.reduceAdd, List.take_succ_cons, List.take_zero]))) only [↓wpk, wpI, wpT, withS, asTup, asCons, asNil, onB, onI, onKey, keyOf, onSome, endsOf, startD_n, nones, w1, w2, w3, pre2, pre3, isDct, wSl, wSet, wAug, wDel, seqAt, listAt, lstAt, getAt, putAt, dctAt, itemAt, wSeq, wLock, unlk, post0, newLst, wipeD, dispOf, onDisp, List.map_cons, List.map_nil, List.length_cons, List.length_nil, List.length_map, List.length_append, List.length_set, List.nil_append, List.cons_append, List.append_assoc, List.set_cons_zero, List.set_cons_succ, List.getElem?_cons_zero, List.getElem?_cons_succ, List.append_nil, perm, List.getD_cons_zero, List.getD_cons_succ, Int.toNat_natCast, Nat.reduceAdd, Nat.reduceSub, true_and, and_true, if_true, if_false, Bool.false_eq_true, decide_eq_true_eq, D.isNon, Nat.reduceLT, Nat.reduceLeDiff, Int.reduceLT, Int.reduceLE, Int.reduceToNat, Int.reducePow, Int.reduceMul, Int.reduceNeg, Bool.not_true, Bool.not_false, forall_const, cond_true, cond_false, sizeT_ok, szl_ok, szl_ok2, small_ok, at_lt, at_ge, at_sne, at_seq, set_ge, set_lt, gcE_set, gcE_set0, gcE_ll, gcE_ss, gcE_ssl, gcE_lsl, gcE_l0l, Nat.sub_self, Nat.add_sub_cancel_left, Nat.add_sub_cancel, Int.zero_add, Int.add_zero, Option.getD_some, Option.getD_none, Option.isSome_some, Option.isSome_none, c_law_bent, N_law_bent, isTy, e1]
    refine ite_pos_neg (fun c1 => ?_) fun c1 => ?_
    · (try with_reducible refine nx_in ?_); simp (disch := (first | assumption | omega | rfl | (simp only [List.length_set, List.length_append, List.length_cons, List.length_nil, List.length_map, List.length_range, intsD_len]; omega) | (simp only [List.length_cons, List.length_nil, Nat.zero_add, Nat.reduceAdd, List.take_succ_cons, List.take_zero]))) only [↓wpk, wpI, wpT, withS, asTup, asCons, asNil, onB, onI, onKey, keyOf, onSome, endsOf, startD_n, nones, w1, w2, w3, pre2, pre3, isDct, wSl, wSet, wAug, wDel, seqAt, listAt, lstAt, getAt, putAt, dctAt, itemAt, wSeq, wLock, unlk, post0, newLst, wipeD, dispOf, onDisp, List.map_cons, List.map_nil, List.length_cons, List.length_nil, List.length_map, List.length_append, List.length_set, List.nil_append, List.cons_append, List.append_assoc, List.set_cons_zero, List.set_cons_succ, List.getElem?_cons_zero, List.getElem?_cons_succ, List.append_nil, perm, List.getD_cons_zero, List.getD_cons_succ, Int.toNat_natCast, Nat.reduceAdd, Nat.reduceSub, true_and, and_true, if_true, if_false, Bool.false_eq_true, decide_eq_true_eq, D.isNon, Nat.reduceLT, Nat.reduceLeDiff, Int.reduceLT, Int.reduceLE, Int.reduceToNat, Int.reducePow, Int.reduceMul, Int.reduceNeg, Bool.not_true, Bool.not_false, forall_const, cond_true, cond_false, sizeT_ok, szl_ok, szl_ok2, small_ok, at_lt, at_ge, at_sne, at_seq, set_ge, set_lt, gcE_set, gcE_set0, gcE_ll, gcE_ss, gcE_ssl, gcE_lsl, gcE_l0l, Nat.sub_self, Nat.add_sub_cancel_left, Nat.add_sub_cancel, Int.zero_add, Int.add_zero, Option.getD_some, Option.getD_none, Option.isSome_some, Option.isSome_none]
      exact odd0_
    · have c1 : xs ≠ [] := by simpa using c1
      have pos := len_pos c1
      refine call_to g1 ⟨h, m + 2 * e + 3, 5, rfl, by decide, by decide, hh, fun r1 c2 b1 k1 => ?_⟩
      (try with_reducible refine nx_in ?_); simp (disch := (first | assumption | omega | rfl | (simp only [List.length_set, List.length_append, List.length_cons, List.length_nil, List.length_map, List.length_range, intsD_len]; omega) | (simp only [List.length_cons, List.length_nil, Nat.zero_add, Nat.reduceAdd, List.take_succ_cons, List.take_zero]))) only [↓wpk, wpI, wpT, withS, asTup, asCons, asNil, onB, onI, onKey, keyOf, onSome, endsOf, startD_n, nones, w1, w2, w3, pre2, pre3, isDct, wSl, wSet, wAug, wDel, seqAt, listAt, lstAt, getAt, putAt, dctAt, itemAt, wSeq, wLock, unlk, post0, newLst, wipeD, dispOf, onDisp, List.map_cons, List.map_nil, List.length_cons, List.length_nil, List.length_map, List.length_append, List.length_set, List.nil_append, List.cons_append, List.append_assoc, List.set_cons_zero, List.set_cons_succ, List.getElem?_cons_zero, List.getElem?_cons_succ, List.append_nil, perm, List.getD_cons_zero, List.getD_cons_succ, Int.toNat_natCast, Nat.reduceAdd, Nat.reduceSub, true_and, and_true, if_true, if_false, Bool.false_eq_true, decide_eq_true_eq, D.isNon, Nat.reduceLT, Nat.reduceLeDiff, Int.reduceLT, Int.reduceLE, Int.reduceToNat, Int.reducePow, Int.reduceMul, Int.reduceNeg, Bool.not_true, Bool.not_false, forall_const, cond_true, cond_false, sizeT_ok, szl_ok, szl_ok2, small_ok, at_lt, at_ge, at_sne, at_seq, set_ge, set_lt, gcE_set, gcE_set0, gcE_ll, gcE_ss, gcE_ssl, gcE_lsl, gcE_l0l, Nat.sub_self, Nat.add_sub_cancel_left, Nat.add_sub_cancel, Int.zero_add, Int.add_zero, Option.getD_some, Option.getD_none, Option.isSome_some, Option.isSome_none]
      refine ite_pos_neg (fun c3 => ?_) fun c3 => ?_
      · (try with_reducible refine nx_in ?_); simp (disch := (first | assumption | omega | rfl | (simp only [List.length_set, List.length_append, List.length_cons, List.length_nil, List.length_map, List.length_range, intsD_len]; omega) | (simp only [List.length_cons, List.length_nil, Nat.zero_add, Nat.reduceAdd, List.take_succ_cons, List.take_zero]))) only [↓wpk, wpI, wpT, withS, asTup, asCons, asNil, onB, onI, onKey, keyOf, onSome, endsOf, startD_n, nones, w1, w2, w3, pre2, pre3, isDct, wSl, wSet, wAug, wDel, seqAt, listAt, lstAt, getAt, putAt, dctAt, itemAt, wSeq, wLock, unlk, post0, newLst, wipeD, dispOf, onDisp, List.map_cons, List.map_nil, List.length_cons, List.length_nil, List.length_map, List.length_append, List.length_set, List.nil_append, List.cons_append, List.append_assoc, List.set_cons_zero, List.set_cons_succ, List.getElem?_cons_zero, List.getElem?_cons_succ, List.append_nil, perm, List.getD_cons_zero, List.getD_cons_succ, Int.toNat_natCast, Nat.reduceAdd, Nat.reduceSub, true_and, and_true, if_true, if_false, Bool.false_eq_true, decide_eq_true_eq, D.isNon, Nat.reduceLT, Nat.reduceLeDiff, Int.reduceLT, Int.reduceLE, Int.reduceToNat, Int.reducePow, Int.reduceMul, Int.reduceNeg, Bool.not_true, Bool.not_false, forall_const, cond_true, cond_false, sizeT_ok, szl_ok, szl_ok2, small_ok, at_lt, at_ge, at_sne, at_seq, set_ge, set_lt, gcE_set, gcE_set0, gcE_ll, gcE_ss, gcE_ssl, gcE_lsl, gcE_l0l, Nat.sub_self, Nat.add_sub_cancel_left, Nat.add_sub_cancel, Int.zero_add, Int.add_zero, Option.getD_some, Option.getD_none, Option.isSome_some, Option.isSome_none]
        exact odd_ _ (k1.less (by omega))
      · (try with_reducible refine nx_in ?_); simp (disch := (first | assumption | omega | rfl | (simp only [List.length_set, List.length_append, List.length_cons, List.length_nil, List.length_map, List.length_range, intsD_len]; omega) | (simp only [List.length_cons, List.length_nil, Nat.zero_add, Nat.reduceAdd, List.take_succ_cons, List.take_zero]))) only [↓wpk, wpI, wpT, withS, asTup, asCons, asNil, onB, onI, onKey, keyOf, onSome, endsOf, startD_n, nones, w1, w2, w3, pre2, pre3, isDct, wSl, wSet, wAug, wDel, seqAt, listAt, lstAt, getAt, putAt, dctAt, itemAt, wSeq, wLock, unlk, post0, newLst, wipeD, dispOf, onDisp, List.map_cons, List.map_nil, List.length_cons, List.length_nil, List.length_map, List.length_append, List.length_set, List.nil_append, List.cons_append, List.append_assoc, List.set_cons_zero, List.set_cons_succ, List.getElem?_cons_zero, List.getElem?_cons_succ, List.append_nil, perm, List.getD_cons_zero, List.getD_cons_succ, Int.toNat_natCast, Nat.reduceAdd, Nat.reduceSub, true_and, and_true, if_true, if_false, Bool.false_eq_true, decide_eq_true_eq, D.isNon, Nat.reduceLT, Nat.reduceLeDiff, Int.reduceLT, Int.reduceLE, Int.reduceToNat, Int.reducePow, Int.reduceMul, Int.reduceNeg, Bool.not_true, Bool.not_false, forall_const, cond_true, cond_false, sizeT_ok, szl_ok, szl_ok2, small_ok, at_lt, at_ge, at_sne, at_seq, set_ge, set_lt, gcE_set, gcE_set0, gcE_ll, gcE_ss, gcE_ssl, gcE_lsl, gcE_l0l, Nat.sub_self, Nat.add_sub_cancel_left, Nat.add_sub_cancel, Int.zero_add, Int.add_zero, Option.getD_some, Option.getD_none, Option.isSome_some, Option.isSome_none]
        refine call_to g1 ⟨h, m + 2 * e + 2, (xs.length : Int), rfl, by omega, by omega, Hand.set hl k1, fun r2 c4 b2 k2 => ?_⟩
        have b2 : r2 < xs.length := by omega
        obtain ⟨x, ex, hx, _⟩ := atI_mem (xs := xs) (i := (r2 : Int)) (by omega) (by omega)
        rw [List.set_set]
        (try with_reducible refine nx_in ?_); simp (disch := (first | assumption | omega | rfl | (simp only [List.length_set, List.length_append, List.length_cons, List.length_nil, List.length_map, List.length_range, intsD_len]; omega) | (simp only [List.length_cons, List.length_nil, Nat.zero_add, Nat.reduceAdd, List.take_succ_cons, List.take_zero]))) only [↓wpk, wpI, wpT, withS, asTup, asCons, asNil, onB, onI, onKey, keyOf, onSome, endsOf, startD_n, nones, w1, w2, w3, pre2, pre3, isDct, wSl, wSet, wAug, wDel, seqAt, listAt, lstAt, getAt, putAt, dctAt, itemAt, wSeq, wLock, unlk, post0, newLst, wipeD, dispOf, onDisp, List.map_cons, List.map_nil, List.length_cons, List.length_nil, List.length_map, List.length_append, List.length_set, List.nil_append, List.cons_append, List.append_assoc, List.set_cons_zero, List.set_cons_succ, List.getElem?_cons_zero, List.getElem?_cons_succ, List.append_nil, perm, List.getD_cons_zero, List.getD_cons_succ, Int.toNat_natCast, Nat.reduceAdd, Nat.reduceSub, true_and, and_true, if_true, if_false, Bool.false_eq_true, decide_eq_true_eq, D.isNon, Nat.reduceLT, Nat.reduceLeDiff, Int.reduceLT, Int.reduceLE, Int.reduceToNat, Int.reducePow, Int.reduceMul, Int.reduceNeg, Bool.not_true, Bool.not_false, forall_const, cond_true, cond_false, sizeT_ok, szl_ok, szl_ok2, small_ok, at_lt, at_ge, at_sne, at_seq, set_ge, set_lt, gcE_set, gcE_set0, gcE_ll, gcE_ss, gcE_ssl, gcE_lsl, gcE_l0l, Nat.sub_self, Nat.add_sub_cancel_left, Nat.add_sub_cancel, Int.zero_add, Int.add_zero, Option.getD_some, Option.getD_none, Option.isSome_some, Option.isSome_none, ex, e2]
        have lc : ∀ ys : List D, ys.length ≤ xs.length → sizeT (ys.length + 1) := fun ys hy => by unfold sizeT; rw [sizeLine_eq]; omega
        have l1 : (cutD xs none (some (r2 : Int))).length = r2 := by
          unfold cutD
          rw [HT.sIx_none, HT.sIx_nat, List.length_take, List.drop_zero]
          omega
        have l2 : (cutD xs (some ((r2 : Int) + 1)) none).length = xs.length - (r2 + 1) := by
          unfold cutD
          rw [HT.sIx_none, show ((r2 : Int) + 1) = ((r2 + 1 : Nat) : Int) by omega, HT.sIx_nat, List.length_take, List.length_drop]
          omega
        refine call_to (g3.trans (show prevF spBentF (e + 1) = spBentF e from rfl)) ⟨h, m, n, k, K - 1, x, rfl, Hand.set hl k2, (as x hx).keep .set, hn, hn2, by omega, by omega, fun d' c' P hc' v' => ?_⟩
        rw [List.set_set] at v' ⊢
        refine ⟨by rw [l1]; unfold sizeT; rw [sizeLine_eq]; omega, by rw [l1, l2]; unfold sizeT; rw [sizeLine_eq]; omega, gc_any (q _ _ _ hc' ?_)⟩
        obtain ⟨K', rfl⟩ : ∃ K', K = K' + 1 := ⟨K - 1, by omega⟩
        have K1 : Keeps mu (mu.set h c' ++ P) h := Keeps.set.trans .app
        refine .tup (fun y hy => ?_) (by rw [List.length_append, List.length_cons, l1, l2]; omega)
        rcases List.mem_append.mp hy with hy | hy
        · exact ((as y (mem_cutD hy)).keep K1).mono (by omega) (by omega)
        · rcases List.mem_cons.mp hy with rfl | hy
          · exact v'
          · exact ((as y (mem_cutD hy)).keep K1).mono (by omega) (by omega)
end MP
namespace MP
open PySem PySem.Spec PyProof.Rows L2
theorem flat_strs {l : List Str} (h : ∀ m ∈ l, PyData.strOk m = true) : (D.tup (l.map D.str)).flat = true := (Flat.map (k := 0) fun m hm => Flat.str (h m hm)).ok (by decide)
end MP
namespace MP
open PySem PySem.Spec PyProof.Rows L2
def c_law_string : CSs := (.cons (.asg (.name 1) (.lc [2] (.name 2) (.rng1 (.call i_law_take [0, 1] (.cons (.var 0) (.cons (.con (.int 10)) .nil)) .nil)) (.con (.bl true)) (.call i_law_of [0, 1] (.cons (.var 0) (.cons (.con (.str "abcxyz")) .nil)) .nil))) (.cons (.ite (.and (.gc (.op2 .ne (.var 1) (.lst .nil))) (.op2 .eq (.call i_law_take [0, 1] (.cons (.var 0) (.cons (.con (.int 3)) .nil)) .nil) (.con (.int 0)))) (.cons (.setSub (.var 1) (.call i_law_take [0, 1] (.cons (.var 0) (.cons (.op1 .len (.var 1)) .nil)) .nil) (.call i_law_of [0, 1] (.cons (.var 0) (.cons (.con (.str "A1 _-^")) .nil)) .nil)) .nil) .nil) (.cons (.ret (.op2 .join (.con (.str "")) (.var 1))) .nil)))
def N_law_string : List Str := ["_law_hand_here", "_law_found", "_law_turn"]
def Chr (z : Str) : Prop := (∀ c ∈ z.cps.toList, c < 128) ∧ z.length = 1
theorem fold_asc (sep : Str) (hs : ∀ c ∈ sep.cps.toList, c < 128) : ∀ (rest : List Str) (acc : Array Nat), (∀ c ∈ acc.toList, c < 128) → (∀ p ∈ rest, ∀ c ∈ p.cps.toList, c < 128) → ∀ c ∈ (rest.foldl (fun acc p => acc ++ sep.cps ++ p.cps) acc).toList, c < 128
  | [], acc, h, _ => h
  | p :: r, acc, h, hr => by
    rw [List.foldl_cons]
    refine fold_asc sep hs r _ (fun c hc => ?_) fun q hq => hr q (List.mem_cons_of_mem _ hq)
    rw [Array.toList_append, Array.toList_append] at hc
    rcases List.mem_append.mp hc with hc | hc
    · rcases List.mem_append.mp hc with hc | hc
      · exact h c hc
      · exact hs c hc
    · exact hr p (List.mem_cons_self ..) c hc
theorem chr_sum : ∀ zs : List Str, (∀ z ∈ zs, Chr z) → (zs.map Str.length).sum = zs.length := by
    intro zs
    induction zs with
    | nil => intro _; rfl
    | cons z r ih =>
      intro h
      have a := (h z (List.mem_cons_self ..)).2
      have b := ih fun x hx => h x (List.mem_cons_of_mem _ hx)
      simp only [List.map_cons, List.sum_cons, List.length_cons]
      omega
theorem join_sz {zs : List Str} (h : ∀ z ∈ zs, Chr z) (l : zs.length < 10) : sizeT ((List.map Str.length zs).sum + (Str.ofString "").length * zs.length) := by
  have e0 : (Str.ofString "").length = 0 := by decide +kernel
  rw [chr_sum zs h, e0]
  unfold sizeT; rw [sizeLine_eq]; omega
theorem join_asc {zs : List Str} (h : ∀ z ∈ zs, Chr z) : (∀ c ∈ (Txt.join (Str.ofString "") zs).cps.toList, c < 128) ∧ (Txt.join (Str.ofString "") zs).length = zs.length := by
  have e0 : (Str.ofString "").length = 0 := by decide +kernel
  have s0 : ∀ c ∈ (Str.ofString "").cps.toList, c < 128 := by decide +kernel
  refine ⟨?_, ?_⟩
  · cases zs with
    | nil => intro c hc; exact absurd hc (by show c ∉ (Str.empty).cps.toList; simp [Str.empty])
    | cons z r =>
      exact fold_asc _ s0 r z.cps (h z (List.mem_cons_self ..)).1 fun p hp => (h p (List.mem_cons_of_mem _ hp)).1
  · refine (PySem.size_glued (Str.ofString "") zs).trans ?_
    rw [e0, Nat.mul_zero, Nat.add_zero]
    exact chr_sum zs h
theorem eqP_nilD {xs : List D} : eqP (.tup xs) (.tup []) = xs.isEmpty := by cases xs <;> rfl
theorem chr_of {z : Str} {c : Nat} (hz : ∀ c ∈ z.cps.toList, c < 128) (hc : c ∈ z.cps.toList) : Chr ⟨#[c]⟩ := ⟨fun x hx => by
  have : x ∈ [c] := hx
  rw [List.mem_singleton.mp this]; exact hz c hc, rfl⟩
theorem chr_ok {z : Str} (h : Chr z) : PyData.strOk z = true := ok_iff.mpr fun c hc => by have := h.1 c hc; omega
def spString : DSp := fun ds mu Q _ => ∃ (h m : Nat), ds = [.ref h] ∧ Hand mu h (m + 13) ∧
  ∀ (z : Str) c', HandC m c' → (∀ c ∈ z.cps.toList, c < 128) → z.length ≤ 9 → Q (.str z) (mu.set h c')
theorem w_string {G : Ctx} (g1 : G.fn i_law_take = spTake) (g2 : G.fn i_law_of = spOf) {ds : List D} {mu : Store} {Q : QD} {E : QX} (s : spString ds mu Q E) : wpSs G c_law_string (endsOf (gcD mu Q) (gcX mu E)) (startD N_law_string ds) mu := by
  obtain ⟨h, m, rfl, hh, q⟩ := s
  have hl := hh.lt
  (try with_reducible refine nx_in ?_); simp (disch := (first | assumption | omega | rfl | (simp only [List.length_set, List.length_append, List.length_cons, List.length_nil, List.length_map, List.length_range, intsD_len]; omega) | (simp only [List.length_cons, List.length_nil, Nat.zero_add, Nat.reduceAdd, List.take_succ_cons, List.take_zero]))) only [↓wpk, wpI, wpT, withS, asTup, asCons, asNil, onB, onI, onKey, keyOf, onSome, endsOf, startD_n, nones, w1, w2, w3, pre2, pre3, isDct, wSl, wSet, wAug, wDel, seqAt, listAt, lstAt, getAt, putAt, dctAt, itemAt, wSeq, wLock, unlk, post0, newLst, wipeD, dispOf, onDisp, List.map_cons, List.map_nil, List.length_cons, List.length_nil, List.length_map, List.length_append, List.length_set, List.nil_append, List.cons_append, List.append_assoc, List.set_cons_zero, List.set_cons_succ, List.getElem?_cons_zero, List.getElem?_cons_succ, List.append_nil, perm, List.getD_cons_zero, List.getD_cons_succ, Int.toNat_natCast, Nat.reduceAdd, Nat.reduceSub, true_and, and_true, if_true, if_false, Bool.false_eq_true, decide_eq_true_eq, D.isNon, Nat.reduceLT, Nat.reduceLeDiff, Int.reduceLT, Int.reduceLE, Int.reduceToNat, Int.reducePow, Int.reduceMul, Int.reduceNeg, Bool.not_true, Bool.not_false, forall_const, cond_true, cond_false, sizeT_ok, szl_ok, szl_ok2, small_ok, at_lt, at_ge, at_sne, at_seq, set_ge, set_lt, gcE_set, gcE_set0, gcE_ll, gcE_ss, gcE_ssl, gcE_lsl, gcE_l0l, Nat.sub_self, Nat.add_sub_cancel_left, Nat.add_sub_cancel, Int.zero_add, Int.add_zero, Option.getD_some, Option.getD_none, Option.isSome_some, Option.isSome_none, c_law_string, N_law_string]
  refine call_to g1 ⟨h, m + 12, 10, rfl, by decide, by decide, hh, fun r1 c1 b1 k1 => ?_⟩
  have b1 : r1 < 10 := by omega
  (try with_reducible refine nx_in ?_); simp (disch := (first | assumption | omega | rfl | (simp only [List.length_set, List.length_append, List.length_cons, List.length_nil, List.length_map, List.length_range, intsD_len]; omega) | (simp only [List.length_cons, List.length_nil, Nat.zero_add, Nat.reduceAdd, List.take_succ_cons, List.take_zero]))) only [↓wpk, wpI, wpT, withS, asTup, asCons, asNil, onB, onI, onKey, keyOf, onSome, endsOf, startD_n, nones, w1, w2, w3, pre2, pre3, isDct, wSl, wSet, wAug, wDel, seqAt, listAt, lstAt, getAt, putAt, dctAt, itemAt, wSeq, wLock, unlk, post0, newLst, wipeD, dispOf, onDisp, List.map_cons, List.map_nil, List.length_cons, List.length_nil, List.length_map, List.length_append, List.length_set, List.nil_append, List.cons_append, List.append_assoc, List.set_cons_zero, List.set_cons_succ, List.getElem?_cons_zero, List.getElem?_cons_succ, List.append_nil, perm, List.getD_cons_zero, List.getD_cons_succ, Int.toNat_natCast, Nat.reduceAdd, Nat.reduceSub, true_and, and_true, if_true, if_false, Bool.false_eq_true, decide_eq_true_eq, D.isNon, Nat.reduceLT, Nat.reduceLeDiff, Int.reduceLT, Int.reduceLE, Int.reduceToNat, Int.reducePow, Int.reduceMul, Int.reduceNeg, Bool.not_true, Bool.not_false, forall_const, cond_true, cond_false, sizeT_ok, szl_ok, szl_ok2, small_ok, at_lt, at_ge, at_sne, at_seq, set_ge, set_lt, gcE_set, gcE_set0, gcE_ll, gcE_ss, gcE_ssl, gcE_lsl, gcE_l0l, Nat.sub_self, Nat.add_sub_cancel_left, Nat.add_sub_cancel, Int.zero_add, Int.add_zero, Option.getD_some, Option.getD_none, Option.isSome_some, Option.isSome_none]
  refine lcGo_inv (fun i acc nu => ∃ (c' : Cell) (zs : List Str), HandC (m + 12 - i) c' ∧ nu = mu.set h c' ∧ acc = zs.map .str ∧ (∀ z ∈ zs, Chr z) ∧ zs.length = i) ⟨c1, [], k1, rfl, rfl, by simp, rfl⟩ (fun i acc nu hI => trivial) (fun i x acc nu k ex hI hk => ?_) (fun acc nu hI => ?_)
  · have hi : i < r1 := by have := (List.getElem?_eq_some_iff.mp ex).1; rw [intsD_len] at this; omega
    obtain ⟨c', zs, kc, rfl, rfl, hz, lz⟩ := hI
    (try with_reducible refine nx_in ?_); simp (disch := (first | assumption | omega | rfl | (simp only [List.length_set, List.length_append, List.length_cons, List.length_nil, List.length_map, List.length_range, intsD_len]; omega) | (simp only [List.length_cons, List.length_nil, Nat.zero_add, Nat.reduceAdd, List.take_succ_cons, List.take_zero]))) only [↓wpk, wpI, wpT, withS, asTup, asCons, asNil, onB, onI, onKey, keyOf, onSome, endsOf, startD_n, nones, w1, w2, w3, pre2, pre3, isDct, wSl, wSet, wAug, wDel, seqAt, listAt, lstAt, getAt, putAt, dctAt, itemAt, wSeq, wLock, unlk, post0, newLst, wipeD, dispOf, onDisp, List.map_cons, List.map_nil, List.length_cons, List.length_nil, List.length_map, List.length_append, List.length_set, List.nil_append, List.cons_append, List.append_assoc, List.set_cons_zero, List.set_cons_succ, List.getElem?_cons_zero, List.getElem?_cons_succ, List.append_nil, perm, List.getD_cons_zero, List.getD_cons_succ, Int.toNat_natCast, Nat.reduceAdd, Nat.reduceSub, true_and, and_true, if_true, if_false, Bool.false_eq_true, decide_eq_true_eq, D.isNon, Nat.reduceLT, Nat.reduceLeDiff, Int.reduceLT, Int.reduceLE, Int.reduceToNat, Int.reducePow, Int.reduceMul, Int.reduceNeg, Bool.not_true, Bool.not_false, forall_const, cond_true, cond_false, sizeT_ok, szl_ok, szl_ok2, small_ok, at_lt, at_ge, at_sne, at_seq, set_ge, set_lt, gcE_set, gcE_set0, gcE_ll, gcE_ss, gcE_ssl, gcE_lsl, gcE_l0l, Nat.sub_self, Nat.add_sub_cancel_left, Nat.add_sub_cancel, Int.zero_add, Int.add_zero, Option.getD_some, Option.getD_none, Option.isSome_some, Option.isSome_none, lcT]
    refine call_to g2 ⟨h, m + 12 - (i + 1), _, rfl, Hand.set hl (kc.less (by omega)), .inr ⟨Str.ofString "abcxyz", rfl, by decide +kernel, by decide +kernel, fun r c hr hc => ?_⟩⟩
    rw [List.set_set]
    refine hk _ _ ⟨c, zs ++ [⟨#[r]⟩], hc, rfl, by simp, fun z hz' => ?_, by simp [lz]⟩
    rcases List.mem_append.mp hz' with hz' | hz'
    · exact hz z hz'
    · rw [List.mem_singleton.mp hz']
      exact chr_of (z := Str.ofString "abcxyz") (by decide +kernel) hr
  · obtain ⟨c', zs, kc, rfl, rfl, hz, lz⟩ := hI
    rw [intsD_len] at kc lz
    have fin : ∀ (c'' : Cell) (zs : List Str), HandC m c'' → (∀ z ∈ zs, Chr z) → zs.length < 10 → gcD mu Q (.str (Txt.join (Str.ofString "") zs)) (mu.set h c'' ++ [.lst (zs.map .str)]) := fun c'' zs hc hz lz => by
      have := join_asc hz
      exact gc_set (by simp only [D.cl]) hc.cl (q _ _ hc this.1 (by rw [this.2]; omega))
    (try with_reducible refine nx_in ?_); simp (disch := (first | assumption | omega | rfl | (simp only [List.length_set, List.length_append, List.length_cons, List.length_nil, List.length_map, List.length_range, intsD_len]; omega) | (simp only [List.length_cons, List.length_nil, Nat.zero_add, Nat.reduceAdd, List.take_succ_cons, List.take_zero]))) only [↓wpk, wpI, wpT, withS, asTup, asCons, asNil, onB, onI, onKey, keyOf, onSome, endsOf, startD_n, nones, w1, w2, w3, pre2, pre3, isDct, wSl, wSet, wAug, wDel, seqAt, listAt, lstAt, getAt, putAt, dctAt, itemAt, wSeq, wLock, unlk, post0, newLst, wipeD, dispOf, onDisp, List.map_cons, List.map_nil, List.length_cons, List.length_nil, List.length_map, List.length_append, List.length_set, List.nil_append, List.cons_append, List.append_assoc, List.set_cons_zero, List.set_cons_succ, List.getElem?_cons_zero, List.getElem?_cons_succ, List.append_nil, perm, List.getD_cons_zero, List.getD_cons_succ, Int.toNat_natCast, Nat.reduceAdd, Nat.reduceSub, true_and, and_true, if_true, if_false, Bool.false_eq_true, decide_eq_true_eq, D.isNon, Nat.reduceLT, Nat.reduceLeDiff, Int.reduceLT, Int.reduceLE, Int.reduceToNat, Int.reducePow, Int.reduceMul, Int.reduceNeg, Bool.not_true, Bool.not_false, forall_const, cond_true, cond_false, sizeT_ok, szl_ok, szl_ok2, small_ok, at_lt, at_ge, at_sne, at_seq, set_ge, set_lt, gcE_set, gcE_set0, gcE_ll, gcE_ss, gcE_ssl, gcE_lsl, gcE_l0l, Nat.sub_self, Nat.add_sub_cancel_left, Nat.add_sub_cancel, Int.zero_add, Int.add_zero, Option.getD_some, Option.getD_none, Option.isSome_some, Option.isSome_none, eqP_nilD, D.cl]
    refine ⟨flat_strs fun m hm => chr_ok (hz m hm), rfl, ite_pos_neg (fun e1 => ?_) fun e1 => ?_⟩
    · have ne : zs ≠ [] := by
        rintro rfl
        simp at e1
      have pos := len_pos ne
      refine call_to g1 ⟨h, m + 2, 3, rfl, by decide, by decide, (Hand.set hl (kc.less (by omega))).app, fun r2 c2 b2 k2 => ?_⟩
      rw [List.set_append_left _ _ (by rw [List.length_set]; exact hl), List.set_set]
      (try with_reducible refine nx_in ?_); simp (disch := (first | assumption | omega | rfl | (simp only [List.length_set, List.length_append, List.length_cons, List.length_nil, List.length_map, List.length_range, intsD_len]; omega) | (simp only [List.length_cons, List.length_nil, Nat.zero_add, Nat.reduceAdd, List.take_succ_cons, List.take_zero]))) only [↓wpk, wpI, wpT, withS, asTup, asCons, asNil, onB, onI, onKey, keyOf, onSome, endsOf, startD_n, nones, w1, w2, w3, pre2, pre3, isDct, wSl, wSet, wAug, wDel, seqAt, listAt, lstAt, getAt, putAt, dctAt, itemAt, wSeq, wLock, unlk, post0, newLst, wipeD, dispOf, onDisp, List.map_cons, List.map_nil, List.length_cons, List.length_nil, List.length_map, List.length_append, List.length_set, List.nil_append, List.cons_append, List.append_assoc, List.set_cons_zero, List.set_cons_succ, List.getElem?_cons_zero, List.getElem?_cons_succ, List.append_nil, perm, List.getD_cons_zero, List.getD_cons_succ, Int.toNat_natCast, Nat.reduceAdd, Nat.reduceSub, true_and, and_true, if_true, if_false, Bool.false_eq_true, decide_eq_true_eq, D.isNon, Nat.reduceLT, Nat.reduceLeDiff, Int.reduceLT, Int.reduceLE, Int.reduceToNat, Int.reducePow, Int.reduceMul, Int.reduceNeg, Bool.not_true, Bool.not_false, forall_const, cond_true, cond_false, sizeT_ok, szl_ok, szl_ok2, small_ok, at_lt, at_ge, at_sne, at_seq, set_ge, set_lt, gcE_set, gcE_set0, gcE_ll, gcE_ss, gcE_ssl, gcE_lsl, gcE_l0l, Nat.sub_self, Nat.add_sub_cancel_left, Nat.add_sub_cancel, Int.zero_add, Int.add_zero, Option.getD_some, Option.getD_none, Option.isSome_some, Option.isSome_none]
      refine ite_pos_neg (fun e2 => ?_) fun e2 => ?_
      · (try with_reducible refine nx_in ?_); simp (disch := (first | assumption | omega | rfl | (simp only [List.length_set, List.length_append, List.length_cons, List.length_nil, List.length_map, List.length_range, intsD_len]; omega) | (simp only [List.length_cons, List.length_nil, Nat.zero_add, Nat.reduceAdd, List.take_succ_cons, List.take_zero]))) only [↓wpk, wpI, wpT, withS, asTup, asCons, asNil, onB, onI, onKey, keyOf, onSome, endsOf, startD_n, nones, w1, w2, w3, pre2, pre3, isDct, wSl, wSet, wAug, wDel, seqAt, listAt, lstAt, getAt, putAt, dctAt, itemAt, wSeq, wLock, unlk, post0, newLst, wipeD, dispOf, onDisp, List.map_cons, List.map_nil, List.length_cons, List.length_nil, List.length_map, List.length_append, List.length_set, List.nil_append, List.cons_append, List.append_assoc, List.set_cons_zero, List.set_cons_succ, List.getElem?_cons_zero, List.getElem?_cons_succ, List.append_nil, perm, List.getD_cons_zero, List.getD_cons_succ, Int.toNat_natCast, Nat.reduceAdd, Nat.reduceSub, true_and, and_true, if_true, if_false, Bool.false_eq_true, decide_eq_true_eq, D.isNon, Nat.reduceLT, Nat.reduceLeDiff, Int.reduceLT, Int.reduceLE, Int.reduceToNat, Int.reducePow, Int.reduceMul, Int.reduceNeg, Bool.not_true, Bool.not_false, forall_const, cond_true, cond_false, sizeT_ok, szl_ok, szl_ok2, small_ok, at_lt, at_ge, at_sne, at_seq, set_ge, set_lt, gcE_set, gcE_set0, gcE_ll, gcE_ss, gcE_ssl, gcE_lsl, gcE_l0l, Nat.sub_self, Nat.add_sub_cancel_left, Nat.add_sub_cancel, Int.zero_add, Int.add_zero, Option.getD_some, Option.getD_none, Option.isSome_some, Option.isSome_none]
        refine call_to g2 ⟨h, m + 1, _, rfl, (Hand.set hl k2).app, .inr ⟨Str.ofString "A1 _-^", rfl, by decide +kernel, by decide +kernel, fun r c hr hc => ?_⟩⟩
        rw [List.set_append_left _ _ (by rw [List.length_set]; exact hl), List.set_set]
        (try with_reducible refine nx_in ?_); simp (disch := (first | assumption | omega | rfl | (simp only [List.length_set, List.length_append, List.length_cons, List.length_nil, List.length_map, List.length_range, intsD_len]; omega) | (simp only [List.length_cons, List.length_nil, Nat.zero_add, Nat.reduceAdd, List.take_succ_cons, List.take_zero]))) only [↓wpk, wpI, wpT, withS, asTup, asCons, asNil, onB, onI, onKey, keyOf, onSome, endsOf, startD_n, nones, w1, w2, w3, pre2, pre3, isDct, wSl, wSet, wAug, wDel, seqAt, listAt, lstAt, getAt, putAt, dctAt, itemAt, wSeq, wLock, unlk, post0, newLst, wipeD, dispOf, onDisp, List.map_cons, List.map_nil, List.length_cons, List.length_nil, List.length_map, List.length_append, List.length_set, List.nil_append, List.cons_append, List.append_assoc, List.set_cons_zero, List.set_cons_succ, List.getElem?_cons_zero, List.getElem?_cons_succ, List.append_nil, perm, List.getD_cons_zero, List.getD_cons_succ, Int.toNat_natCast, Nat.reduceAdd, Nat.reduceSub, true_and, and_true, if_true, if_false, Bool.false_eq_true, decide_eq_true_eq, D.isNon, Nat.reduceLT, Nat.reduceLeDiff, Int.reduceLT, Int.reduceLE, Int.reduceToNat, Int.reducePow, Int.reduceMul, Int.reduceNeg, Bool.not_true, Bool.not_false, forall_const, cond_true, cond_false, sizeT_ok, szl_ok, szl_ok2, small_ok, at_lt, at_ge, at_sne, at_seq, set_ge, set_lt, gcE_set, gcE_set0, gcE_ll, gcE_ss, gcE_ssl, gcE_lsl, gcE_l0l, Nat.sub_self, Nat.add_sub_cancel_left, Nat.add_sub_cancel, Int.zero_add, Int.add_zero, Option.getD_some, Option.getD_none, Option.isSome_some, Option.isSome_none]
        refine call_to g1 ⟨h, m, (zs.length : Int), rfl, by omega, by omega, (Hand.set hl hc).app, fun r3 c3 b3 k3 => ?_⟩
        rw [List.set_append_left _ _ (by rw [List.length_set]; exact hl), List.set_set]
        have ixn : ixN (zs.map D.str).length (r3 : Int) = some r3 := by rw [List.length_map, ixN_nat, if_pos (by omega)]
        have ixm : ixN zs.length (r3 : Int) = some r3 := by rw [ixN_nat, if_pos (by omega)]
        (try with_reducible refine nx_in ?_); simp (disch := (first | assumption | omega | rfl | (simp only [List.length_set, List.length_append, List.length_cons, List.length_nil, List.length_map, List.length_range, intsD_len]; omega) | (simp only [List.length_cons, List.length_nil, Nat.zero_add, Nat.reduceAdd, List.take_succ_cons, List.take_zero]))) only [↓wpk, wpI, wpT, withS, asTup, asCons, asNil, onB, onI, onKey, keyOf, onSome, endsOf, startD_n, nones, w1, w2, w3, pre2, pre3, isDct, wSl, wSet, wAug, wDel, seqAt, listAt, lstAt, getAt, putAt, dctAt, itemAt, wSeq, wLock, unlk, post0, newLst, wipeD, dispOf, onDisp, List.map_cons, List.map_nil, List.length_cons, List.length_nil, List.length_map, List.length_append, List.length_set, List.nil_append, List.cons_append, List.append_assoc, List.set_cons_zero, List.set_cons_succ, List.getElem?_cons_zero, List.getElem?_cons_succ, List.append_nil, perm, List.getD_cons_zero, List.getD_cons_succ, Int.toNat_natCast, Nat.reduceAdd, Nat.reduceSub, true_and, and_true, if_true, if_false, Bool.false_eq_true, decide_eq_true_eq, D.isNon, Nat.reduceLT, Nat.reduceLeDiff, Int.reduceLT, Int.reduceLE, Int.reduceToNat, Int.reducePow, Int.reduceMul, Int.reduceNeg, Bool.not_true, Bool.not_false, forall_const, cond_true, cond_false, sizeT_ok, szl_ok, szl_ok2, small_ok, at_lt, at_ge, at_sne, at_seq, set_ge, set_lt, gcE_set, gcE_set0, gcE_ll, gcE_ss, gcE_ssl, gcE_lsl, gcE_l0l, Nat.sub_self, Nat.add_sub_cancel_left, Nat.add_sub_cancel, Int.zero_add, Int.add_zero, Option.getD_some, Option.getD_none, Option.isSome_some, Option.isSome_none, ixn, ixm]
        have sm : (zs.map D.str).set r3 (D.str ⟨#[r]⟩) = (zs.set r3 ⟨#[r]⟩).map D.str := by rw [List.map_set]
        have hz2 : ∀ z ∈ zs.set r3 ⟨#[r]⟩, Chr z := fun z hz' => by
          rcases List.mem_or_eq_of_mem_set hz' with hz' | rfl
          · exact hz z hz'
          · exact chr_of (z := Str.ofString "A1 _-^") (by decide +kernel) hr
        rw [sm]
        (try with_reducible refine nx_in ?_); simp (disch := (first | assumption | omega | rfl | (simp only [List.length_set, List.length_append, List.length_cons, List.length_nil, List.length_map, List.length_range, intsD_len]; omega) | (simp only [List.length_cons, List.length_nil, Nat.zero_add, Nat.reduceAdd, List.take_succ_cons, List.take_zero]))) only [↓wpk, wpI, wpT, withS, asTup, asCons, asNil, onB, onI, onKey, keyOf, onSome, endsOf, startD_n, nones, w1, w2, w3, pre2, pre3, isDct, wSl, wSet, wAug, wDel, seqAt, listAt, lstAt, getAt, putAt, dctAt, itemAt, wSeq, wLock, unlk, post0, newLst, wipeD, dispOf, onDisp, List.map_cons, List.map_nil, List.length_cons, List.length_nil, List.length_map, List.length_append, List.length_set, List.nil_append, List.cons_append, List.append_assoc, List.set_cons_zero, List.set_cons_succ, List.getElem?_cons_zero, List.getElem?_cons_succ, List.append_nil, perm, List.getD_cons_zero, List.getD_cons_succ, Int.toNat_natCast, Nat.reduceAdd, Nat.reduceSub, true_and, and_true, if_true, if_false, Bool.false_eq_true, decide_eq_true_eq, D.isNon, Nat.reduceLT, Nat.reduceLeDiff, Int.reduceLT, Int.reduceLE, Int.reduceToNat, Int.reducePow, Int.reduceMul, Int.reduceNeg, Bool.not_true, Bool.not_false, forall_const, cond_true, cond_false, sizeT_ok, szl_ok, szl_ok2, small_ok, at_lt, at_ge, at_sne, at_seq, set_ge, set_lt, gcE_set, gcE_set0, gcE_ll, gcE_ss, gcE_ssl, gcE_lsl, gcE_l0l, Nat.sub_self, Nat.add_sub_cancel_left, Nat.add_sub_cancel, Int.zero_add, Int.add_zero, Option.getD_some, Option.getD_none, Option.isSome_some, Option.isSome_none, onStr_map]
        exact ⟨by have := join_sz hz2 (by rw [List.length_set]; omega); rwa [List.length_set] at this, fin _ _ k3 hz2 (by rw [List.length_set]; omega)⟩
      · (try with_reducible refine nx_in ?_); simp (disch := (first | assumption | omega | rfl | (simp only [List.length_set, List.length_append, List.length_cons, List.length_nil, List.length_map, List.length_range, intsD_len]; omega) | (simp only [List.length_cons, List.length_nil, Nat.zero_add, Nat.reduceAdd, List.take_succ_cons, List.take_zero]))) only [↓wpk, wpI, wpT, withS, asTup, asCons, asNil, onB, onI, onKey, keyOf, onSome, endsOf, startD_n, nones, w1, w2, w3, pre2, pre3, isDct, wSl, wSet, wAug, wDel, seqAt, listAt, lstAt, getAt, putAt, dctAt, itemAt, wSeq, wLock, unlk, post0, newLst, wipeD, dispOf, onDisp, List.map_cons, List.map_nil, List.length_cons, List.length_nil, List.length_map, List.length_append, List.length_set, List.nil_append, List.cons_append, List.append_assoc, List.set_cons_zero, List.set_cons_succ, List.getElem?_cons_zero, List.getElem?_cons_succ, List.append_nil, perm, List.getD_cons_zero, List.getD_cons_succ, Int.toNat_natCast, Nat.reduceAdd, Nat.reduceSub, true_and, and_true, if_true, if_false, Bool.false_eq_true, decide_eq_true_eq, D.isNon, Nat.reduceLT, Nat.reduceLeDiff, Int.reduceLT, Int.reduceLE, Int.reduceToNat, Int.reducePow, Int.reduceMul, Int.reduceNeg, Bool.not_true, Bool.not_false, forall_const, cond_true, cond_false, sizeT_ok, szl_ok, szl_ok2, small_ok, at_lt, at_ge, at_sne, at_seq, set_ge, set_lt, gcE_set, gcE_set0, gcE_ll, gcE_ss, gcE_ssl, gcE_lsl, gcE_l0l, Nat.sub_self, Nat.add_sub_cancel_left, Nat.add_sub_cancel, Int.zero_add, Int.add_zero, Option.getD_some, Option.getD_none, Option.isSome_some, Option.isSome_none, onStr_map]
        exact ⟨join_sz hz (by omega), fin _ _ (k2.less (by omega)) hz (by omega)⟩
    · (try with_reducible refine nx_in ?_); simp (disch := (first | assumption | omega | rfl | (simp only [List.length_set, List.length_append, List.length_cons, List.length_nil, List.length_map, List.length_range, intsD_len]; omega) | (simp only [List.length_cons, List.length_nil, Nat.zero_add, Nat.reduceAdd, List.take_succ_cons, List.take_zero]))) only [↓wpk, wpI, wpT, withS, asTup, asCons, asNil, onB, onI, onKey, keyOf, onSome, endsOf, startD_n, nones, w1, w2, w3, pre2, pre3, isDct, wSl, wSet, wAug, wDel, seqAt, listAt, lstAt, getAt, putAt, dctAt, itemAt, wSeq, wLock, unlk, post0, newLst, wipeD, dispOf, onDisp, List.map_cons, List.map_nil, List.length_cons, List.length_nil, List.length_map, List.length_append, List.length_set, List.nil_append, List.cons_append, List.append_assoc, List.set_cons_zero, List.set_cons_succ, List.getElem?_cons_zero, List.getElem?_cons_succ, List.append_nil, perm, List.getD_cons_zero, List.getD_cons_succ, Int.toNat_natCast, Nat.reduceAdd, Nat.reduceSub, true_and, and_true, if_true, if_false, Bool.false_eq_true, decide_eq_true_eq, D.isNon, Nat.reduceLT, Nat.reduceLeDiff, Int.reduceLT, Int.reduceLE, Int.reduceToNat, Int.reducePow, Int.reduceMul, Int.reduceNeg, Bool.not_true, Bool.not_false, forall_const, cond_true, cond_false, sizeT_ok, szl_ok, szl_ok2, small_ok, at_lt, at_ge, at_sne, at_seq, set_ge, set_lt, gcE_set, gcE_set0, gcE_ll, gcE_ss, gcE_ssl, gcE_lsl, gcE_l0l, Nat.sub_self, Nat.add_sub_cancel_left, Nat.add_sub_cancel, Int.zero_add, Int.add_zero, Option.getD_some, Option.getD_none, Option.isSome_some, Option.isSome_none, onStr_map]
      exact ⟨join_sz hz (by omega), fin _ _ (kc.less (by omega)) hz (by omega)⟩
end MP
namespace MP
open PySem PySem.Spec PyProof.Rows L2
def spLaw : DSp := fun ds mu Q _ => ∃ ns : List Int, ds = [.ro (ns.map D.int)] ∧ ns.length ≤ 63 ∧ ∀ nu, Q (.bl true) nu
end MP
namespace MP
open PySem PySem.Spec PyProof.Rows L2
def c_law_v5 (i_law_right i_law_bent i_law_letters i_law_string : Nat) : CSs := (.cons (.for (.name 1) (.rng1 (.op2 .max (.con (.int 1)) (.op2 .min (.con (.int 3)) (.op1 .len (.var 0))))) (.cons (.asg (.name 2) (.call i_law_hand [0, 1] (.cons (.var 0) (.cons (.var 1) .nil)) .nil)) (.cons (.asg (.name 3) (.op2 .add (.lc [6] (.name 6) (.rng1 (.con (.int 8))) (.con (.bl true)) (.call i_law_string [0] (.cons (.var 2) .nil) .nil)) (.lst (.cons (.op2 .mul (.con (.str "a")) (.con (.int 8))) (.cons (.op2 .mul (.con (.str "a")) (.con (.int 9))) (.cons (.con (.str "")) (.cons (.con (.str "z")) .nil))))))) (.cons (.asg (.name 4) (.gc (.op1 .tuple (.lc [6] (.name 6) (.rng1 (.call i_law_take [0, 1] (.cons (.var 2) (.cons (.con (.int 13)) .nil)) .nil)) (.con (.bl true)) (.call i_law_of [0, 1] (.cons (.var 2) (.cons (.call i_law_letters [0, 1] (.cons (.var 2) (.cons (.con (.int 3)) .nil)) .nil) .nil)) .nil))))) (.cons (.asg (.name 5) (.lc [7] (.name 7) (.seq (.tup (.cons (.con (.int 199)) (.cons (.con (.int 200)) (.cons (.con (.int 201)) .nil))))) (.con (.bl true)) (.sl (.op2 .add (.var 4) (.op2 .mul (.tup (.cons (.con (.str "a")) .nil)) (.con (.int 201)))) .no (.some (.var 7))))) (.cons (.asg (.name 3) (.op2 .add (.op2 .add (.var 3) (.var 5)) (.lst (.cons (.op2 .add (.sl (.op2 .ix (.var 5) (.con (.int 1))) .no (.some (.op1 .neg (.con (.int 1))))) (.tup (.cons (.con (.str "A")) .nil))) (.cons (.var 4) (.cons (.op1 .list (.var 4)) (.cons (.op2 .add (.var 4) (.tup (.cons (.con (.int 1)) .nil))) (.cons (.con .non) (.cons (.con (.int 0)) (.cons (.dnew false) (.cons (.lst .nil) (.cons (.tup (.cons (.tup (.cons (.con (.str "a")) .nil)) .nil)) .nil)))))))))))) (.cons (.asg (.name 3) (.op2 .add (.var 3) (.lc [6] (.name 6) (.rng1 (.con (.int 8))) (.con (.bl true)) (.call i_law_bent [0, 1, 2] (.cons (.var 2) (.cons (.call i_law_bent [0, 1, 2] (.cons (.var 2) (.cons (.var 4) (.cons (.con (.int 2)) .nil))) .nil) (.cons (.con (.int 2)) .nil))) .nil)))) (.cons (.ite (.not (.gc (.op1 .all (.lc [8] (.name 8) (.seq (.var 3)) (.con (.bl true)) (.call i_law_right [0] (.cons (.var 8) .nil) .nil))))) (.cons (.ret (.con (.bl false))) .nil) .nil) .nil)))))))) (.cons (.ret (.con (.bl true))) .nil))
def N_law_v5 : List Str := ["_law_script", "_law_k", "_law_hand_here", "_law_some", "_law_row", "_law_far", "_law_turn", "_law_size", "_law_thing"]
/-- a store over mu with the hand at h -/
def StH (mu S : Store) (h m : Nat) : Prop := mu <+: S ∧ mu.length ≤ h ∧ Hand S h m
theorem StH.lt {mu S : Store} {h m : Nat} (s : StH mu S h m) : h < S.length := s.2.2.lt
theorem StH.set {mu S : Store} {h m m' : Nat} {c : Cell} (s : StH mu S h m) (k : HandC m' c) : StH mu (S.set h c) h m' := by
  obtain ⟨⟨l, rfl⟩, b, d⟩ := s
  refine ⟨?_, b, Hand.set d.lt k⟩
  rw [List.set_append_right _ _ b]
  exact List.prefix_append _ _
theorem StH.app {mu S l : Store} {h m : Nat} (s : StH mu S h m) : StH mu (S ++ l) h m := ⟨s.1.trans (List.prefix_append _ _), s.2.1, s.2.2.app⟩
theorem StH.less {mu S : Store} {h m m' : Nat} (s : StH mu S h m) (l : m' ≤ m) : StH mu S h m' := ⟨s.1, s.2.1, s.2.2.less l⟩
/-- a value that can be shown -/
def Vx (S : Store) (h : Nat) (d : D) : Prop := ∃ n k, Va S h n k d ∧ n ≤ 100000 ∧ k ≤ 64 ∧ wb n k ≤ 2 ^ 20
theorem Vx.keep {S T : Store} {h : Nat} {d : D} (v : Vx S h d) (K : Keeps S T h) : Vx T h d := let ⟨n, k, a, b⟩ := v; ⟨n, k, a.keep K, b⟩
theorem sym_va {S : Store} {h n k : Nat} {z : Str} (s : IsSym z) (hn : 8 ≤ n) : Va S h n k (.str z) := .str (fun c hc => by have := (s.2.2 c hc).2; omega) (Nat.le_trans s.2.1 hn)
theorem w_law01 {G : Ctx} {i1 i2 i3 i4 : Nat} (g0 : G.fn i_law_hand = spHand) (gt : G.fn i_law_take = spTake) (go : G.fn i_law_of = spOf) (g1 : G.fn i1 = spRight01) (g2 : G.fn i2 = spBent) (g3 : G.fn i3 = spLetters) (g4 : G.fn i4 = spString) {ds : List D} {mu : Store} {Q : QD} {E : QX} (s : spLaw ds mu Q E) : wpSs G (c_law_v5 i1 i2 i3 i4) (endsOf (gcD mu Q) (gcX mu E)) (startD N_law_v5 ds) mu := by
  obtain ⟨ns, rfl, hl, q⟩ := s
  (try with_reducible refine nx_in ?_); simp (disch := (first | assumption | omega | rfl | (simp only [List.length_set, List.length_append, List.length_cons, List.length_nil, List.length_map, List.length_range, intsD_len]; omega) | (simp only [List.length_cons, List.length_nil, Nat.zero_add, Nat.reduceAdd, List.take_succ_cons, List.take_zero]))) only [↓wpk, wpI, wpT, withS, asTup, asCons, asNil, onB, onI, onKey, keyOf, onSome, endsOf, startD_n, nones, w1, w2, w3, pre2, pre3, isDct, wSl, wSet, wAug, wDel, seqAt, listAt, lstAt, getAt, putAt, dctAt, itemAt, wSeq, wLock, unlk, post0, newLst, wipeD, dispOf, onDisp, List.map_cons, List.map_nil, List.length_cons, List.length_nil, List.length_map, List.length_append, List.length_set, List.nil_append, List.cons_append, List.append_assoc, List.set_cons_zero, List.set_cons_succ, List.getElem?_cons_zero, List.getElem?_cons_succ, List.append_nil, perm, List.getD_cons_zero, List.getD_cons_succ, Int.toNat_natCast, Nat.reduceAdd, Nat.reduceSub, true_and, and_true, if_true, if_false, Bool.false_eq_true, decide_eq_true_eq, D.isNon, Nat.reduceLT, Nat.reduceLeDiff, Int.reduceLT, Int.reduceLE, Int.reduceToNat, Int.reducePow, Int.reduceMul, Int.reduceNeg, Bool.not_true, Bool.not_false, forall_const, cond_true, cond_false, sizeT_ok, szl_ok, szl_ok2, small_ok, at_lt, at_ge, at_sne, at_seq, set_ge, set_lt, gcE_set, gcE_set0, gcE_ll, gcE_ss, gcE_ssl, gcE_lsl, gcE_l0l, Nat.sub_self, Nat.add_sub_cancel_left, Nat.add_sub_cancel, Int.zero_add, Int.add_zero, Option.getD_some, Option.getD_none, Option.isSome_some, Option.isSome_none, c_law_v5, N_law_v5]
  obtain ⟨t, ht, hb⟩ : ∃ t : Nat, t = (if (if (ns.length : Int) < 3 then (ns.length : Int) else 3) > 1 then if (ns.length : Int) < 3 then (ns.length : Int) else 3 else 1).toNat ∧ t ≤ 3 := ⟨_, rfl, by split <;> split <;> omega⟩
  rw [← ht]
  refine forGo_inv (fun i rh nu => ∃ (l : Store) (x1 x2 x3 x4 x5 x6 x7 x8 : Option D), rh = [some (.ro (ns.map .int)), x1, x2, x3, x4, x5, x6, x7, x8] ∧ nu = mu ++ l) ⟨[], _, _, _, _, _, _, _, _, rfl, by simp⟩ (fun _ _ _ _ => trivial) (fun i x rh nu k ex hI hk => ?_) (fun rh nu hI => ?_)
  · obtain ⟨l, x1, x2, x3, x4, x5, x6, x7, x8, rfl, rfl⟩ := hI
    obtain ⟨hi, rfl⟩ := intsD_get ex
    (try with_reducible refine nx_in ?_); simp (disch := (first | assumption | omega | rfl | (simp only [List.length_set, List.length_append, List.length_cons, List.length_nil, List.length_map, List.length_range, intsD_len]; omega) | (simp only [List.length_cons, List.length_nil, Nat.zero_add, Nat.reduceAdd, List.take_succ_cons, List.take_zero]))) only [↓wpk, wpI, wpT, withS, asTup, asCons, asNil, onB, onI, onKey, keyOf, onSome, endsOf, startD_n, nones, w1, w2, w3, pre2, pre3, isDct, wSl, wSet, wAug, wDel, seqAt, listAt, lstAt, getAt, putAt, dctAt, itemAt, wSeq, wLock, unlk, post0, newLst, wipeD, dispOf, onDisp, List.map_cons, List.map_nil, List.length_cons, List.length_nil, List.length_map, List.length_append, List.length_set, List.nil_append, List.cons_append, List.append_assoc, List.set_cons_zero, List.set_cons_succ, List.getElem?_cons_zero, List.getElem?_cons_succ, List.append_nil, perm, List.getD_cons_zero, List.getD_cons_succ, Int.toNat_natCast, Nat.reduceAdd, Nat.reduceSub, true_and, and_true, if_true, if_false, Bool.false_eq_true, decide_eq_true_eq, D.isNon, Nat.reduceLT, Nat.reduceLeDiff, Int.reduceLT, Int.reduceLE, Int.reduceToNat, Int.reducePow, Int.reduceMul, Int.reduceNeg, Bool.not_true, Bool.not_false, forall_const, cond_true, cond_false, sizeT_ok, szl_ok, szl_ok2, small_ok, at_lt, at_ge, at_sne, at_seq, set_ge, set_lt, gcE_set, gcE_set0, gcE_ll, gcE_ss, gcE_ssl, gcE_lsl, gcE_l0l, Nat.sub_self, Nat.add_sub_cancel_left, Nat.add_sub_cancel, Int.zero_add, Int.add_zero, Option.getD_some, Option.getD_none, Option.isSome_some, Option.isSome_none, forT]
    refine call_to g0 ⟨ns, _, rfl, by omega, by omega, fun c1 k1 => ?_⟩
    obtain ⟨h, eh⟩ : ∃ h, h = (mu ++ l).length := ⟨_, rfl⟩
    obtain ⟨S, eS⟩ : ∃ S, S = mu ++ l ++ [c1] := ⟨_, rfl⟩
    have st : StH mu S h 1000 := ⟨by rw [eS, List.append_assoc]; exact List.prefix_append _ _, by rw [eh, List.length_append]; omega, c1, by rw [eS, eh, at_end0]; rfl, k1.less (by decide)⟩
    rw [← eh, ← eS]
    clear eS eh
    (try with_reducible refine nx_in ?_); simp (disch := (first | assumption | omega | rfl | (simp only [List.length_set, List.length_append, List.length_cons, List.length_nil, List.length_map, List.length_range, intsD_len]; omega) | (simp only [List.length_cons, List.length_nil, Nat.zero_add, Nat.reduceAdd, List.take_succ_cons, List.take_zero]))) only [↓wpk, wpI, wpT, withS, asTup, asCons, asNil, onB, onI, onKey, keyOf, onSome, endsOf, startD_n, nones, w1, w2, w3, pre2, pre3, isDct, wSl, wSet, wAug, wDel, seqAt, listAt, lstAt, getAt, putAt, dctAt, itemAt, wSeq, wLock, unlk, post0, newLst, wipeD, dispOf, onDisp, List.map_cons, List.map_nil, List.length_cons, List.length_nil, List.length_map, List.length_append, List.length_set, List.nil_append, List.cons_append, List.append_assoc, List.set_cons_zero, List.set_cons_succ, List.getElem?_cons_zero, List.getElem?_cons_succ, List.append_nil, perm, List.getD_cons_zero, List.getD_cons_succ, Int.toNat_natCast, Nat.reduceAdd, Nat.reduceSub, true_and, and_true, if_true, if_false, Bool.false_eq_true, decide_eq_true_eq, D.isNon, Nat.reduceLT, Nat.reduceLeDiff, Int.reduceLT, Int.reduceLE, Int.reduceToNat, Int.reducePow, Int.reduceMul, Int.reduceNeg, Bool.not_true, Bool.not_false, forall_const, cond_true, cond_false, sizeT_ok, szl_ok, szl_ok2, small_ok, at_lt, at_ge, at_sne, at_seq, set_ge, set_lt, gcE_set, gcE_set0, gcE_ll, gcE_ss, gcE_ssl, gcE_lsl, gcE_l0l, Nat.sub_self, Nat.add_sub_cancel_left, Nat.add_sub_cancel, Int.zero_add, Int.add_zero, Option.getD_some, Option.getD_none, Option.isSome_some, Option.isSome_none]
    refine lcGo_inv (fun i acc nu => StH mu nu h (1000 - 13 * i) ∧ Keeps S nu h ∧ (∀ x ∈ acc, ∀ T, Va T h 9 0 x) ∧ acc.length = i) ⟨st, .refl, by simp, rfl⟩ (fun _ _ _ _ => trivial) (fun j x acc nu k2 ex hI hk2 => ?_) (fun acc nu hI => ?_)
    · have hj : j < 8 := by have := (List.getElem?_eq_some_iff.mp ex).1; rw [intsD_len] at this; omega
      obtain ⟨s1, kp, av, al⟩ := hI
      (try with_reducible refine nx_in ?_); simp (disch := (first | assumption | omega | rfl | (simp only [List.length_set, List.length_append, List.length_cons, List.length_nil, List.length_map, List.length_range, intsD_len]; omega) | (simp only [List.length_cons, List.length_nil, Nat.zero_add, Nat.reduceAdd, List.take_succ_cons, List.take_zero]))) only [↓wpk, wpI, wpT, withS, asTup, asCons, asNil, onB, onI, onKey, keyOf, onSome, endsOf, startD_n, nones, w1, w2, w3, pre2, pre3, isDct, wSl, wSet, wAug, wDel, seqAt, listAt, lstAt, getAt, putAt, dctAt, itemAt, wSeq, wLock, unlk, post0, newLst, wipeD, dispOf, onDisp, List.map_cons, List.map_nil, List.length_cons, List.length_nil, List.length_map, List.length_append, List.length_set, List.nil_append, List.cons_append, List.append_assoc, List.set_cons_zero, List.set_cons_succ, List.getElem?_cons_zero, List.getElem?_cons_succ, List.append_nil, perm, List.getD_cons_zero, List.getD_cons_succ, Int.toNat_natCast, Nat.reduceAdd, Nat.reduceSub, true_and, and_true, if_true, if_false, Bool.false_eq_true, decide_eq_true_eq, D.isNon, Nat.reduceLT, Nat.reduceLeDiff, Int.reduceLT, Int.reduceLE, Int.reduceToNat, Int.reducePow, Int.reduceMul, Int.reduceNeg, Bool.not_true, Bool.not_false, forall_const, cond_true, cond_false, sizeT_ok, szl_ok, szl_ok2, small_ok, at_lt, at_ge, at_sne, at_seq, set_ge, set_lt, gcE_set, gcE_set0, gcE_ll, gcE_ss, gcE_ssl, gcE_lsl, gcE_l0l, Nat.sub_self, Nat.add_sub_cancel_left, Nat.add_sub_cancel, Int.zero_add, Int.add_zero, Option.getD_some, Option.getD_none, Option.isSome_some, Option.isSome_none, lcT]
      refine call_to g4 ⟨h, 1000 - 13 * (j + 1), rfl, s1.2.2.less (by omega), fun z c' kc za zl => ?_⟩
      refine hk2 _ _ ⟨s1.set kc, kp.trans .set, fun x hx T => ?_, by simp [al]⟩
      rcases List.mem_append.mp hx with hx | hx
      · exact av x hx T
      · rw [List.mem_singleton.mp hx]
        exact .str za zl
    obtain ⟨s1, kp, av, al⟩ := hI
    rw [intsD_len] at s1 al
    have la : (Str.ofString "a").length = 1 := by decide +kernel
    refine ⟨by rw [la]; unfold sizeT; rw [sizeLine_eq]; decide, by rw [la]; unfold sizeT; rw [sizeLine_eq]; decide, by rw [al]; unfold sizeT; rw [sizeLine_eq]; decide, ?_⟩
    obtain ⟨xs1, e1⟩ : ∃ xs1, xs1 = acc ++ [D.str { cps := (List.replicate 8 (Str.ofString "a").cps.toList).flatten.toArray }, D.str { cps := (List.replicate 9 (Str.ofString "a").cps.toList).flatten.toArray }, D.str (Str.ofString ""), D.str (Str.ofString "z")] := ⟨_, rfl⟩
    have xl1 : xs1.length = 12 := by rw [e1, List.length_append, al]; rfl
    have xv1 : ∀ x ∈ xs1, ∀ T, Va T h 9 0 x := fun x hx T => by
      rw [e1] at hx
      rcases List.mem_append.mp hx with hx | hx
      · exact av x hx T
      · simp only [List.mem_cons, List.not_mem_nil, or_false] at hx
        rcases hx with rfl | rfl | rfl | rfl <;> exact .str (by decide +kernel) (by decide +kernel)
    rw [← e1]
    obtain ⟨S1, eS1⟩ : ∃ S1, S1 = nu ++ [Cell.lst acc, Cell.lst [D.str { cps := (List.replicate 8 (Str.ofString "a").cps.toList).flatten.toArray }, D.str { cps := (List.replicate 9 (Str.ofString "a").cps.toList).flatten.toArray }, D.str (Str.ofString ""), D.str (Str.ofString "z")], Cell.lst xs1] := ⟨_, rfl⟩
    obtain ⟨a1, ea1⟩ : ∃ a1, a1 = nu.length + 2 := ⟨_, rfl⟩
    have st1 : StH mu S1 h 800 := by rw [eS1]; exact s1.app.less (by omega)
    have la1 : S1[a1]? = some (.lst xs1) := by rw [eS1, ea1, at_endk]; rfl
    have ha1 : h < a1 := by have := s1.lt; omega
    rw [← eS1, ← ea1]
    clear eS1 ea1 e1
    have hlt := st1.lt
    (try with_reducible refine nx_in ?_); simp (disch := (first | assumption | omega | rfl | (simp only [List.length_set, List.length_append, List.length_cons, List.length_nil, List.length_map, List.length_range, intsD_len]; omega) | (simp only [List.length_cons, List.length_nil, Nat.zero_add, Nat.reduceAdd, List.take_succ_cons, List.take_zero]))) only [↓wpk, wpI, wpT, withS, asTup, asCons, asNil, onB, onI, onKey, keyOf, onSome, endsOf, startD_n, nones, w1, w2, w3, pre2, pre3, isDct, wSl, wSet, wAug, wDel, seqAt, listAt, lstAt, getAt, putAt, dctAt, itemAt, wSeq, wLock, unlk, post0, newLst, wipeD, dispOf, onDisp, List.map_cons, List.map_nil, List.length_cons, List.length_nil, List.length_map, List.length_append, List.length_set, List.nil_append, List.cons_append, List.append_assoc, List.set_cons_zero, List.set_cons_succ, List.getElem?_cons_zero, List.getElem?_cons_succ, List.append_nil, perm, List.getD_cons_zero, List.getD_cons_succ, Int.toNat_natCast, Nat.reduceAdd, Nat.reduceSub, true_and, and_true, if_true, if_false, Bool.false_eq_true, decide_eq_true_eq, D.isNon, Nat.reduceLT, Nat.reduceLeDiff, Int.reduceLT, Int.reduceLE, Int.reduceToNat, Int.reducePow, Int.reduceMul, Int.reduceNeg, Bool.not_true, Bool.not_false, forall_const, cond_true, cond_false, sizeT_ok, szl_ok, szl_ok2, small_ok, at_lt, at_ge, at_sne, at_seq, set_ge, set_lt, gcE_set, gcE_set0, gcE_ll, gcE_ss, gcE_ssl, gcE_lsl, gcE_l0l, Nat.sub_self, Nat.add_sub_cancel_left, Nat.add_sub_cancel, Int.zero_add, Int.add_zero, Option.getD_some, Option.getD_none, Option.isSome_some, Option.isSome_none]
    refine call_to gt ⟨h, 799, 13, rfl, by decide, by decide, st1.2.2, fun r2 c2 b2 k2 => ?_⟩
    have b2 : r2 < 13 := by omega
    (try with_reducible refine nx_in ?_); simp (disch := (first | assumption | omega | rfl | (simp only [List.length_set, List.length_append, List.length_cons, List.length_nil, List.length_map, List.length_range, intsD_len]; omega) | (simp only [List.length_cons, List.length_nil, Nat.zero_add, Nat.reduceAdd, List.take_succ_cons, List.take_zero]))) only [↓wpk, wpI, wpT, withS, asTup, asCons, asNil, onB, onI, onKey, keyOf, onSome, endsOf, startD_n, nones, w1, w2, w3, pre2, pre3, isDct, wSl, wSet, wAug, wDel, seqAt, listAt, lstAt, getAt, putAt, dctAt, itemAt, wSeq, wLock, unlk, post0, newLst, wipeD, dispOf, onDisp, List.map_cons, List.map_nil, List.length_cons, List.length_nil, List.length_map, List.length_append, List.length_set, List.nil_append, List.cons_append, List.append_assoc, List.set_cons_zero, List.set_cons_succ, List.getElem?_cons_zero, List.getElem?_cons_succ, List.append_nil, perm, List.getD_cons_zero, List.getD_cons_succ, Int.toNat_natCast, Nat.reduceAdd, Nat.reduceSub, true_and, and_true, if_true, if_false, Bool.false_eq_true, decide_eq_true_eq, D.isNon, Nat.reduceLT, Nat.reduceLeDiff, Int.reduceLT, Int.reduceLE, Int.reduceToNat, Int.reducePow, Int.reduceMul, Int.reduceNeg, Bool.not_true, Bool.not_false, forall_const, cond_true, cond_false, sizeT_ok, szl_ok, szl_ok2, small_ok, at_lt, at_ge, at_sne, at_seq, set_ge, set_lt, gcE_set, gcE_set0, gcE_ll, gcE_ss, gcE_ssl, gcE_lsl, gcE_l0l, Nat.sub_self, Nat.add_sub_cancel_left, Nat.add_sub_cancel, Int.zero_add, Int.add_zero, Option.getD_some, Option.getD_none, Option.isSome_some, Option.isSome_none]
    refine lcGo_inv (fun i acc nu => ∃ (c' : Cell) (l : Store), nu = S1.set h c' ++ l ∧ HandC (799 - 6 * i) c' ∧ (∀ x ∈ acc, ∃ z, x = .str z ∧ IsSym z) ∧ acc.length = i) ⟨c2, [], by rw [List.append_nil], k2, by simp, rfl⟩ (fun _ _ _ _ => trivial) (fun j x acc nu k3 ex hI hk3 => ?_) (fun row nu hI => ?_)
    · have hj : j < r2 := by have := (List.getElem?_eq_some_iff.mp ex).1; rw [intsD_len] at this; omega
      obtain ⟨c', l', rfl, kc, av, al⟩ := hI
      (try with_reducible refine nx_in ?_); simp (disch := (first | assumption | omega | rfl | (simp only [List.length_set, List.length_append, List.length_cons, List.length_nil, List.length_map, List.length_range, intsD_len]; omega) | (simp only [List.length_cons, List.length_nil, Nat.zero_add, Nat.reduceAdd, List.take_succ_cons, List.take_zero]))) only [↓wpk, wpI, wpT, withS, asTup, asCons, asNil, onB, onI, onKey, keyOf, onSome, endsOf, startD_n, nones, w1, w2, w3, pre2, pre3, isDct, wSl, wSet, wAug, wDel, seqAt, listAt, lstAt, getAt, putAt, dctAt, itemAt, wSeq, wLock, unlk, post0, newLst, wipeD, dispOf, onDisp, List.map_cons, List.map_nil, List.length_cons, List.length_nil, List.length_map, List.length_append, List.length_set, List.nil_append, List.cons_append, List.append_assoc, List.set_cons_zero, List.set_cons_succ, List.getElem?_cons_zero, List.getElem?_cons_succ, List.append_nil, perm, List.getD_cons_zero, List.getD_cons_succ, Int.toNat_natCast, Nat.reduceAdd, Nat.reduceSub, true_and, and_true, if_true, if_false, Bool.false_eq_true, decide_eq_true_eq, D.isNon, Nat.reduceLT, Nat.reduceLeDiff, Int.reduceLT, Int.reduceLE, Int.reduceToNat, Int.reducePow, Int.reduceMul, Int.reduceNeg, Bool.not_true, Bool.not_false, forall_const, cond_true, cond_false, sizeT_ok, szl_ok, szl_ok2, small_ok, at_lt, at_ge, at_sne, at_seq, set_ge, set_lt, gcE_set, gcE_set0, gcE_ll, gcE_ss, gcE_ssl, gcE_lsl, gcE_l0l, Nat.sub_self, Nat.add_sub_cancel_left, Nat.add_sub_cancel, Int.zero_add, Int.add_zero, Option.getD_some, Option.getD_none, Option.isSome_some, Option.isSome_none, lcT]
      refine call_to g3 ⟨h, 799 - 6 * (j + 1) + 1, 3, rfl, by decide, (Hand.set hlt (kc.less (by omega))).app, fun ws c3 lw nd sy k4 => ?_⟩
      rw [List.set_append_left _ _ (by rw [List.length_set]; exact hlt), List.set_set]
      have er : (S1.set h c' ++ l').length = (S1.set h c3 ++ l').length := by simp only [List.length_append, List.length_set]
      rw [er]
      have wl : (ws.map D.str).length = 3 := by rw [List.length_map]; exact lw
      refine call_to go ⟨h, 799 - 6 * (j + 1), _, rfl, (Hand.set hlt k4).app.app, .inl ⟨ws.map .str, .inr ⟨_, ?_, rfl, by rw [at_end0]; rfl⟩, ?_, by rw [wl]; decide, fun r c5 hr hc => ?_⟩⟩
      · simp only [List.length_append, List.length_set]; omega
      · intro e0
        rw [e0] at wl
        cases wl
      rw [List.append_assoc, List.set_append_left _ _ (by rw [List.length_set]; exact hlt), List.set_set]
      refine hk3 _ _ ⟨c5, _, rfl, hc, fun x hx => ?_, by simp [al]⟩
      rcases List.mem_append.mp hx with hx | hx
      · exact av x hx
      · rw [List.mem_singleton.mp hx]
        obtain ⟨z, hz, rfl⟩ := List.mem_map.mp hr
        exact ⟨z, rfl, sy z hz⟩
    obtain ⟨c3, l', rfl, k3, rv, rl⟩ := hI
    rw [intsD_len] at k3 rl
    rw [List.append_assoc, gcE_set k3.cl]
    refine ⟨cls_of fun x hx => by obtain ⟨z, rfl, _⟩ := rv x hx; trivial, ?_⟩
    have rva : ∀ x ∈ row, ∀ (T : Store) (n k : Nat), 8 ≤ n → Va T h n k x := fun x hx T n k hn => by
      obtain ⟨z, rfl, sz⟩ := rv x hx
      exact sym_va sz hn
    obtain ⟨S2, eS2⟩ : ∃ S2, S2 = S1.set h c3 := ⟨_, rfl⟩
    have st2 : StH mu S2 h 700 := by rw [eS2]; exact st1.set (k3.less (by omega))
    have la2 : S2[a1]? = some (.lst xs1) := by rw [eS2, List.getElem?_set_ne (by omega)]; exact la1
    rw [← eS2]
    clear eS2
    have hl2 := st2.lt
    have al2 : a1 < S2.length := (List.getElem?_eq_some_iff.mp la2).1
    (try with_reducible refine nx_in ?_); simp (disch := (first | assumption | omega | rfl | (simp only [List.length_set, List.length_append, List.length_cons, List.length_nil, List.length_map, List.length_range, intsD_len]; omega) | (simp only [List.length_cons, List.length_nil, Nat.zero_add, Nat.reduceAdd, List.take_succ_cons, List.take_zero]))) only [↓wpk, wpI, wpT, withS, asTup, asCons, asNil, onB, onI, onKey, keyOf, onSome, endsOf, startD_n, nones, w1, w2, w3, pre2, pre3, isDct, wSl, wSet, wAug, wDel, seqAt, listAt, lstAt, getAt, putAt, dctAt, itemAt, wSeq, wLock, unlk, post0, newLst, wipeD, dispOf, onDisp, List.map_cons, List.map_nil, List.length_cons, List.length_nil, List.length_map, List.length_append, List.length_set, List.nil_append, List.cons_append, List.append_assoc, List.set_cons_zero, List.set_cons_succ, List.getElem?_cons_zero, List.getElem?_cons_succ, List.append_nil, perm, List.getD_cons_zero, List.getD_cons_succ, Int.toNat_natCast, Nat.reduceAdd, Nat.reduceSub, true_and, and_true, if_true, if_false, Bool.false_eq_true, decide_eq_true_eq, D.isNon, Nat.reduceLT, Nat.reduceLeDiff, Int.reduceLT, Int.reduceLE, Int.reduceToNat, Int.reducePow, Int.reduceMul, Int.reduceNeg, Bool.not_true, Bool.not_false, forall_const, cond_true, cond_false, sizeT_ok, szl_ok, szl_ok2, small_ok, at_lt, at_ge, at_sne, at_seq, set_ge, set_lt, gcE_set, gcE_set0, gcE_ll, gcE_ss, gcE_ssl, gcE_lsl, gcE_l0l, Nat.sub_self, Nat.add_sub_cancel_left, Nat.add_sub_cancel, Int.zero_add, Int.add_zero, Option.getD_some, Option.getD_none, Option.isSome_some, Option.isSome_none]
    obtain ⟨fr, efr⟩ : ∃ fr : Int → List D, fr = fun n => cutD (row ++ (List.replicate 201 [D.str (Str.ofString "a")]).flatten) none (some n) := ⟨_, rfl⟩
    have aa : ∀ (T : Store) (n k : Nat), 8 ≤ n → Va T h n k (.str (Str.ofString "a")) := fun T n k hn => .str (by decide +kernel) (by rw [la]; omega)
    have frv : ∀ n, ∀ x ∈ fr n, ∀ (T : Store) (m k : Nat), 8 ≤ m → Va T h m k x := fun n x hx T m k hm => by
      rw [efr] at hx
      rcases List.mem_append.mp (mem_cutD hx) with hx | hx
      · exact rva x hx T m k hm
      · rw [List.mem_singleton.mp (mem_rep hx)]
        exact aa T m k hm
    have frl : ∀ n : Nat, (fr n).length ≤ n := fun n => by
      rw [efr]
      show (cutD _ none (some (n : Int))).length ≤ n
      unfold cutD
      rw [HT.sIx_none, HT.sIx_nat, List.length_take]
      omega
    refine lcGo_each (g := D.int) (ys := [199, 200, 201]) (fun n => .tup (fr n)) trivial (fun n hn k5 hk5 => ?_) ?_
    · (try with_reducible refine nx_in ?_); simp (disch := (first | assumption | omega | rfl | (simp only [List.length_set, List.length_append, List.length_cons, List.length_nil, List.length_map, List.length_range, intsD_len]; omega) | (simp only [List.length_cons, List.length_nil, Nat.zero_add, Nat.reduceAdd, List.take_succ_cons, List.take_zero]))) only [↓wpk, wpI, wpT, withS, asTup, asCons, asNil, onB, onI, onKey, keyOf, onSome, endsOf, startD_n, nones, w1, w2, w3, pre2, pre3, isDct, wSl, wSet, wAug, wDel, seqAt, listAt, lstAt, getAt, putAt, dctAt, itemAt, wSeq, wLock, unlk, post0, newLst, wipeD, dispOf, onDisp, List.map_cons, List.map_nil, List.length_cons, List.length_nil, List.length_map, List.length_append, List.length_set, List.nil_append, List.cons_append, List.append_assoc, List.set_cons_zero, List.set_cons_succ, List.getElem?_cons_zero, List.getElem?_cons_succ, List.append_nil, perm, List.getD_cons_zero, List.getD_cons_succ, Int.toNat_natCast, Nat.reduceAdd, Nat.reduceSub, true_and, and_true, if_true, if_false, Bool.false_eq_true, decide_eq_true_eq, D.isNon, Nat.reduceLT, Nat.reduceLeDiff, Int.reduceLT, Int.reduceLE, Int.reduceToNat, Int.reducePow, Int.reduceMul, Int.reduceNeg, Bool.not_true, Bool.not_false, forall_const, cond_true, cond_false, sizeT_ok, szl_ok, szl_ok2, small_ok, at_lt, at_ge, at_sne, at_seq, set_ge, set_lt, gcE_set, gcE_set0, gcE_ll, gcE_ss, gcE_ssl, gcE_lsl, gcE_l0l, Nat.sub_self, Nat.add_sub_cancel_left, Nat.add_sub_cancel, Int.zero_add, Int.add_zero, Option.getD_some, Option.getD_none, Option.isSome_some, Option.isSome_none, lcT]
      have e201 : (List.replicate 201 [D.str (Str.ofString "a")]).flatten.length = 201 := by rw [List.length_flatten, List.map_replicate, List.sum_replicate_nat]; rfl
      rw [efr] at hk5
      exact ⟨by rw [rl, e201]; unfold sizeT; rw [sizeLine_eq]; omega, hk5⟩
    have l2 := frl 200
    have lc2 := len_cutD (xs := fr 200) (lo := none) (hi := some (-1))
    have ls : ∀ m : Nat, m ≤ 1000 → sizeT m := fun m hm => by unfold sizeT; rw [sizeLine_eq]; omega
    have hs2 : sizeT ((cutD (fr 200) none (some (-1))).length + 1) := ls _ (by have l2 : (fr 200).length ≤ 200 := l2; omega)
    (try with_reducible refine nx_in ?_); simp (disch := (first | assumption | omega | rfl | (simp only [List.length_set, List.length_append, List.length_cons, List.length_nil, List.length_map, List.length_range, intsD_len]; omega) | (simp only [List.length_cons, List.length_nil, Nat.zero_add, Nat.reduceAdd, List.take_succ_cons, List.take_zero]))) only [↓wpk, wpI, wpT, withS, asTup, asCons, asNil, onB, onI, onKey, keyOf, onSome, endsOf, startD_n, nones, w1, w2, w3, pre2, pre3, isDct, wSl, wSet, wAug, wDel, seqAt, listAt, lstAt, getAt, putAt, dctAt, itemAt, wSeq, wLock, unlk, post0, newLst, wipeD, dispOf, onDisp, List.map_cons, List.map_nil, List.length_cons, List.length_nil, List.length_map, List.length_append, List.length_set, List.nil_append, List.cons_append, List.append_assoc, List.set_cons_zero, List.set_cons_succ, List.getElem?_cons_zero, List.getElem?_cons_succ, List.append_nil, perm, List.getD_cons_zero, List.getD_cons_succ, Int.toNat_natCast, Nat.reduceAdd, Nat.reduceSub, true_and, and_true, if_true, if_false, Bool.false_eq_true, decide_eq_true_eq, D.isNon, Nat.reduceLT, Nat.reduceLeDiff, Int.reduceLT, Int.reduceLE, Int.reduceToNat, Int.reducePow, Int.reduceMul, Int.reduceNeg, Bool.not_true, Bool.not_false, forall_const, cond_true, cond_false, sizeT_ok, szl_ok, szl_ok2, small_ok, at_lt, at_ge, at_sne, at_seq, set_ge, set_lt, gcE_set, gcE_set0, gcE_ll, gcE_ss, gcE_ssl, gcE_lsl, gcE_l0l, Nat.sub_self, Nat.add_sub_cancel_left, Nat.add_sub_cancel, Int.zero_add, Int.add_zero, Option.getD_some, Option.getD_none, Option.isSome_some, Option.isSome_none, la2, xl1]
    refine ⟨hs2, ?_⟩
    obtain ⟨xs3, e3⟩ : ∃ xs3, xs3 = xs1 ++ [D.tup (fr 199), D.tup (fr 200), D.tup (fr 201), D.tup (cutD (fr 200) none (some (-1)) ++ [D.str (Str.ofString "A")]), D.tup row, D.ref (S2.length + 2), D.tup (row ++ [D.int 1]), D.non, D.int 0, D.ref (S2.length + 3), D.ref (S2.length + 4), D.tup [D.tup [D.str (Str.ofString "a")]]] := ⟨_, rfl⟩
    rw [← e3]
    obtain ⟨S3, eS3⟩ : ∃ S3, S3 = S2 ++ [Cell.lst [D.tup (fr 199), D.tup (fr 200), D.tup (fr 201)], Cell.lst (xs1 ++ [D.tup (fr 199), D.tup (fr 200), D.tup (fr 201)]), Cell.lst row, Cell.dct [] false, Cell.lst [], Cell.lst [D.tup (cutD (fr 200) none (some (-1)) ++ [D.str (Str.ofString "A")]), D.tup row, D.ref (S2.length + 2), D.tup (row ++ [D.int 1]), D.non, D.int 0, D.ref (S2.length + 3), D.ref (S2.length + 4), D.tup [D.tup [D.str (Str.ofString "a")]]], Cell.lst xs3] := ⟨_, rfl⟩
    obtain ⟨a3, ea3⟩ : ∃ a3, a3 = S2.length + 6 := ⟨_, rfl⟩
    have st3 : StH mu S3 h 700 := by rw [eS3]; exact st2.app
    have la3 : S3[a3]? = some (.lst xs3) := by rw [eS3, ea3, at_endk]; rfl
    have ha3 : h < a3 := by omega
    have xl3 : xs3.length = 24 := by rw [e3, List.length_append, xl1]; rfl
    have c1 : S3[S2.length + 2]? = some (.lst row) := by rw [eS3, at_endk]; rfl
    have c2 : S3[S2.length + 3]? = some (.dct [] false) := by rw [eS3, at_endk]; rfl
    have c3 : S3[S2.length + 4]? = some (.lst []) := by rw [eS3, at_endk]; rfl
    have frx : ∀ n : Nat, n ≤ 201 → Vx S3 h (.tup (fr n)) := fun n hn => ⟨201, 1, .tup (fun x hx => frv _ x hx _ _ _ (by decide)) (Nat.le_trans (frl n) hn), by decide, by decide, by decide⟩
    have xv3 : ∀ x ∈ xs3, Vx S3 h x := fun x hx => by
      rw [e3] at hx
      rcases List.mem_append.mp hx with hx | hx
      · exact ⟨9, 0, xv1 x hx _, by decide, by decide, by decide⟩
      · simp only [List.mem_cons, List.not_mem_nil, or_false] at hx
        rcases hx with rfl | rfl | rfl | rfl | rfl | rfl | rfl | rfl | rfl | rfl | rfl | rfl
        · exact frx 199 (by decide)
        · exact frx 200 (by decide)
        · exact frx 201 (by decide)
        · refine ⟨202, 1, .tup (fun x hx => ?_) ?_, by decide, by decide, by decide⟩
          · rcases List.mem_append.mp hx with hx | hx
            · exact frv _ x (mem_cutD hx) _ _ _ (by decide)
            · rw [List.mem_singleton.mp hx]; exact .str (by decide +kernel) (by decide +kernel)
          · rw [List.length_append]
            have l2 : (fr 200).length ≤ 200 := l2
            simp only [List.length_cons, List.length_nil]
            omega
        · exact ⟨12, 1, .tup (fun x hx => rva x hx _ _ _ (by decide)) (by omega), by decide, by decide, by decide⟩
        · exact ⟨12, 1, .lst (by omega) c1 (fun x hx => rva x hx _ _ _ (by decide)) (by omega), by decide, by decide, by decide⟩
        · refine ⟨13, 1, .tup (fun x hx => ?_) (by rw [List.length_append]; simp only [List.length_cons, List.length_nil]; omega), by decide, by decide, by decide⟩
          rcases List.mem_append.mp hx with hx | hx
          · exact rva x hx _ _ _ (by decide)
          · rw [List.mem_singleton.mp hx]; exact .int (by decide)
        · exact ⟨0, 0, .non, by decide, by decide, by decide⟩
        · exact ⟨0, 0, .int (by decide), by decide, by decide, by decide⟩
        · exact ⟨0, 1, .dct (by omega) c2, by decide, by decide, by decide⟩
        · exact ⟨0, 1, .lst (by omega) c3 (by simp) (by simp), by decide, by decide, by decide⟩
        · refine ⟨9, 2, .tup (fun x hx => ?_) (by decide), by decide, by decide, by decide⟩
          rw [List.mem_singleton.mp hx]
          refine .tup (fun x hx => ?_) (by decide)
          rw [List.mem_singleton.mp hx]
          exact aa _ _ _ (by decide)
    have rowv : Va S3 h 12 1 (.tup row) := .tup (fun x hx => rva x hx _ _ _ (by decide)) (by omega)
    rw [← eS3, ← ea3]
    clear eS3 ea3 e3 c1 c2 c3
    have hl3 := st3.lt
    (try with_reducible refine nx_in ?_); simp (disch := (first | assumption | omega | rfl | (simp only [List.length_set, List.length_append, List.length_cons, List.length_nil, List.length_map, List.length_range, intsD_len]; omega) | (simp only [List.length_cons, List.length_nil, Nat.zero_add, Nat.reduceAdd, List.take_succ_cons, List.take_zero]))) only [↓wpk, wpI, wpT, withS, asTup, asCons, asNil, onB, onI, onKey, keyOf, onSome, endsOf, startD_n, nones, w1, w2, w3, pre2, pre3, isDct, wSl, wSet, wAug, wDel, seqAt, listAt, lstAt, getAt, putAt, dctAt, itemAt, wSeq, wLock, unlk, post0, newLst, wipeD, dispOf, onDisp, List.map_cons, List.map_nil, List.length_cons, List.length_nil, List.length_map, List.length_append, List.length_set, List.nil_append, List.cons_append, List.append_assoc, List.set_cons_zero, List.set_cons_succ, List.getElem?_cons_zero, List.getElem?_cons_succ, List.append_nil, perm, List.getD_cons_zero, List.getD_cons_succ, Int.toNat_natCast, Nat.reduceAdd, Nat.reduceSub, true_and, and_true, if_true, if_false, Bool.false_eq_true, decide_eq_true_eq, D.isNon, Nat.reduceLT, Nat.reduceLeDiff, Int.reduceLT, Int.reduceLE, Int.reduceToNat, Int.reducePow, Int.reduceMul, Int.reduceNeg, Bool.not_true, Bool.not_false, forall_const, cond_true, cond_false, sizeT_ok, szl_ok, szl_ok2, small_ok, at_lt, at_ge, at_sne, at_seq, set_ge, set_lt, gcE_set, gcE_set0, gcE_ll, gcE_ss, gcE_ssl, gcE_lsl, gcE_l0l, Nat.sub_self, Nat.add_sub_cancel_left, Nat.add_sub_cancel, Int.zero_add, Int.add_zero, Option.getD_some, Option.getD_none, Option.isSome_some, Option.isSome_none]
    refine lcGo_inv (fun i acc nu => StH mu nu h (700 - 12 * i) ∧ Keeps S3 nu h ∧ (∀ x ∈ acc, Va nu h 14 4 x) ∧ acc.length = i) ⟨st3, .refl, by simp, rfl⟩ (fun _ _ _ _ => trivial) (fun j x acc nu k5 ex hI hk5 => ?_) (fun acc nu hI => ?_)
    · have hj : j < 8 := by have := (List.getElem?_eq_some_iff.mp ex).1; rw [intsD_len] at this; omega
      obtain ⟨s4, kp4, av, al⟩ := hI
      (try with_reducible refine nx_in ?_); simp (disch := (first | assumption | omega | rfl | (simp only [List.length_set, List.length_append, List.length_cons, List.length_nil, List.length_map, List.length_range, intsD_len]; omega) | (simp only [List.length_cons, List.length_nil, Nat.zero_add, Nat.reduceAdd, List.take_succ_cons, List.take_zero]))) only [↓wpk, wpI, wpT, withS, asTup, asCons, asNil, onB, onI, onKey, keyOf, onSome, endsOf, startD_n, nones, w1, w2, w3, pre2, pre3, isDct, wSl, wSet, wAug, wDel, seqAt, listAt, lstAt, getAt, putAt, dctAt, itemAt, wSeq, wLock, unlk, post0, newLst, wipeD, dispOf, onDisp, List.map_cons, List.map_nil, List.length_cons, List.length_nil, List.length_map, List.length_append, List.length_set, List.nil_append, List.cons_append, List.append_assoc, List.set_cons_zero, List.set_cons_succ, List.getElem?_cons_zero, List.getElem?_cons_succ, List.append_nil, perm, List.getD_cons_zero, List.getD_cons_succ, Int.toNat_natCast, Nat.reduceAdd, Nat.reduceSub, true_and, and_true, if_true, if_false, Bool.false_eq_true, decide_eq_true_eq, D.isNon, Nat.reduceLT, Nat.reduceLeDiff, Int.reduceLT, Int.reduceLE, Int.reduceToNat, Int.reducePow, Int.reduceMul, Int.reduceNeg, Bool.not_true, Bool.not_false, forall_const, cond_true, cond_false, sizeT_ok, szl_ok, szl_ok2, small_ok, at_lt, at_ge, at_sne, at_seq, set_ge, set_lt, gcE_set, gcE_set0, gcE_ll, gcE_ss, gcE_ssl, gcE_lsl, gcE_l0l, Nat.sub_self, Nat.add_sub_cancel_left, Nat.add_sub_cancel, Int.zero_add, Int.add_zero, Option.getD_some, Option.getD_none, Option.isSome_some, Option.isSome_none, lcT]
      refine call_to g2 ⟨2, by decide, h, 700 - 12 * (j + 1) + 6, 12, 1, 3, _, rfl, s4.2.2.less (by omega), rowv.keep kp4, by decide, by decide, by decide, by decide, fun d c4 P k4 v4 => ?_⟩
      have s5 : StH mu (nu.set h c4 ++ P) h (700 - 12 * (j + 1) + 6) := (s4.set k4).app
      have kp5 : Keeps nu (nu.set h c4 ++ P) h := Keeps.set.trans .app
      obtain ⟨T, eT⟩ : ∃ T, T = nu.set h c4 ++ P := ⟨_, rfl⟩
      rw [← eT] at s5 kp5 v4 ⊢
      clear eT
      refine call_to g2 ⟨2, by decide, h, 700 - 12 * (j + 1), 13, 3, 4, _, rfl, s5.2.2, v4, by decide, by decide, by decide, by decide, fun d2 c5 P2 k6 v5 => ?_⟩
      have kp6 : Keeps T (T.set h c5 ++ P2) h := Keeps.set.trans .app
      refine hk5 _ _ ⟨(s5.set k6).app, kp4.trans (kp5.trans kp6), fun x hx => ?_, by simp [al]⟩
      rcases List.mem_append.mp hx with hx | hx
      · exact (av x hx).keep (kp5.trans kp6)
      · rw [List.mem_singleton.mp hx]
        exact v5
    obtain ⟨s4, kp4, av, al⟩ := hI
    rw [intsD_len] at s4 al
    have la4 : (nu ++ [Cell.lst acc])[a3]? = some (.lst xs3) := Keeps.app a3 _ ha3 (kp4 a3 _ ha3 la3)
    rw [la4]
    dsimp only
    refine ⟨ls _ (by rw [xl3, al]; decide), ?_⟩
    obtain ⟨S4, eS4⟩ : ∃ S4, S4 = nu ++ [Cell.lst acc, Cell.lst (xs3 ++ acc)] := ⟨_, rfl⟩
    obtain ⟨a4, ea4⟩ : ∃ a4, a4 = nu.length + 1 := ⟨_, rfl⟩
    have st4 : StH mu S4 h 100 := by rw [eS4]; exact s4.app.less (by decide)
    have la4 : S4[a4]? = some (.lst (xs3 ++ acc)) := by rw [eS4, ea4, at_endk]; rfl
    have xv4 : ∀ x ∈ xs3 ++ acc, Vx S4 h x := fun x hx => by
      have K4 : Keeps nu S4 h := by rw [eS4]; exact .app
      rcases List.mem_append.mp hx with hx | hx
      · exact (xv3 x hx).keep (kp4.trans K4)
      · exact ⟨14, 4, (av x hx).keep K4, by decide, by decide, by decide⟩
    rw [← eS4, ← ea4]
    clear eS4 ea4
    have al4 := (List.getElem?_eq_some_iff.mp la4).1
    generalize xs3 ++ acc = xs4 at la4 xv4
    (try with_reducible refine nx_in ?_); simp (disch := (first | assumption | omega | rfl | (simp only [List.length_set, List.length_append, List.length_cons, List.length_nil, List.length_map, List.length_range, intsD_len]; omega) | (simp only [List.length_cons, List.length_nil, Nat.zero_add, Nat.reduceAdd, List.take_succ_cons, List.take_zero]))) only [↓wpk, wpI, wpT, withS, asTup, asCons, asNil, onB, onI, onKey, keyOf, onSome, endsOf, startD_n, nones, w1, w2, w3, pre2, pre3, isDct, wSl, wSet, wAug, wDel, seqAt, listAt, lstAt, getAt, putAt, dctAt, itemAt, wSeq, wLock, unlk, post0, newLst, wipeD, dispOf, onDisp, List.map_cons, List.map_nil, List.length_cons, List.length_nil, List.length_map, List.length_append, List.length_set, List.nil_append, List.cons_append, List.append_assoc, List.set_cons_zero, List.set_cons_succ, List.getElem?_cons_zero, List.getElem?_cons_succ, List.append_nil, perm, List.getD_cons_zero, List.getD_cons_succ, Int.toNat_natCast, Nat.reduceAdd, Nat.reduceSub, true_and, and_true, if_true, if_false, Bool.false_eq_true, decide_eq_true_eq, D.isNon, Nat.reduceLT, Nat.reduceLeDiff, Int.reduceLT, Int.reduceLE, Int.reduceToNat, Int.reducePow, Int.reduceMul, Int.reduceNeg, Bool.not_true, Bool.not_false, forall_const, cond_true, cond_false, sizeT_ok, szl_ok, szl_ok2, small_ok, at_lt, at_ge, at_sne, at_seq, set_ge, set_lt, gcE_set, gcE_set0, gcE_ll, gcE_ss, gcE_ssl, gcE_lsl, gcE_l0l, Nat.sub_self, Nat.add_sub_cancel_left, Nat.add_sub_cancel, Int.zero_add, Int.add_zero, Option.getD_some, Option.getD_none, Option.isSome_some, Option.isSome_none, la4]
    refine lcGo_own (fun _ => .bl true) (by show lstAt S4 a4 _; unfold lstAt; rw [la4]) (fun x hx k5 hk5 => ?_) ?_
    · obtain ⟨n', k', vx, vn, vk, vw⟩ := xv4 x hx
      (try with_reducible refine nx_in ?_); simp (disch := (first | assumption | omega | rfl | (simp only [List.length_set, List.length_append, List.length_cons, List.length_nil, List.length_map, List.length_range, intsD_len]; omega) | (simp only [List.length_cons, List.length_nil, Nat.zero_add, Nat.reduceAdd, List.take_succ_cons, List.take_zero]))) only [↓wpk, wpI, wpT, withS, asTup, asCons, asNil, onB, onI, onKey, keyOf, onSome, endsOf, startD_n, nones, w1, w2, w3, pre2, pre3, isDct, wSl, wSet, wAug, wDel, seqAt, listAt, lstAt, getAt, putAt, dctAt, itemAt, wSeq, wLock, unlk, post0, newLst, wipeD, dispOf, onDisp, List.map_cons, List.map_nil, List.length_cons, List.length_nil, List.length_map, List.length_append, List.length_set, List.nil_append, List.cons_append, List.append_assoc, List.set_cons_zero, List.set_cons_succ, List.getElem?_cons_zero, List.getElem?_cons_succ, List.append_nil, perm, List.getD_cons_zero, List.getD_cons_succ, Int.toNat_natCast, Nat.reduceAdd, Nat.reduceSub, true_and, and_true, if_true, if_false, Bool.false_eq_true, decide_eq_true_eq, D.isNon, Nat.reduceLT, Nat.reduceLeDiff, Int.reduceLT, Int.reduceLE, Int.reduceToNat, Int.reducePow, Int.reduceMul, Int.reduceNeg, Bool.not_true, Bool.not_false, forall_const, cond_true, cond_false, sizeT_ok, szl_ok, szl_ok2, small_ok, at_lt, at_ge, at_sne, at_seq, set_ge, set_lt, gcE_set, gcE_set0, gcE_ll, gcE_ss, gcE_ssl, gcE_lsl, gcE_l0l, Nat.sub_self, Nat.add_sub_cancel_left, Nat.add_sub_cancel, Int.zero_add, Int.add_zero, Option.getD_some, Option.getD_none, Option.isSome_some, Option.isSome_none, lcT]
      refine call_to g1 ⟨x, h, n', k', rfl, vx, vn, vk, vw, ?_⟩
      exact hk5
    · have ha : (xs4.map fun _ => true).all id = true := by
        rw [List.all_eq_true]
        intro x hx
        obtain ⟨_, _, rfl⟩ := List.mem_map.mp hx
        rfl
      (try with_reducible refine nx_in ?_); simp (disch := (first | assumption | omega | rfl | (simp only [List.length_set, List.length_append, List.length_cons, List.length_nil, List.length_map, List.length_range, intsD_len]; omega) | (simp only [List.length_cons, List.length_nil, Nat.zero_add, Nat.reduceAdd, List.take_succ_cons, List.take_zero]))) only [↓wpk, wpI, wpT, withS, asTup, asCons, asNil, onB, onI, onKey, keyOf, onSome, endsOf, startD_n, nones, w1, w2, w3, pre2, pre3, isDct, wSl, wSet, wAug, wDel, seqAt, listAt, lstAt, getAt, putAt, dctAt, itemAt, wSeq, wLock, unlk, post0, newLst, wipeD, dispOf, onDisp, List.map_cons, List.map_nil, List.length_cons, List.length_nil, List.length_map, List.length_append, List.length_set, List.nil_append, List.cons_append, List.append_assoc, List.set_cons_zero, List.set_cons_succ, List.getElem?_cons_zero, List.getElem?_cons_succ, List.append_nil, perm, List.getD_cons_zero, List.getD_cons_succ, Int.toNat_natCast, Nat.reduceAdd, Nat.reduceSub, true_and, and_true, if_true, if_false, Bool.false_eq_true, decide_eq_true_eq, D.isNon, Nat.reduceLT, Nat.reduceLeDiff, Int.reduceLT, Int.reduceLE, Int.reduceToNat, Int.reducePow, Int.reduceMul, Int.reduceNeg, Bool.not_true, Bool.not_false, forall_const, cond_true, cond_false, sizeT_ok, szl_ok, szl_ok2, small_ok, at_lt, at_ge, at_sne, at_seq, set_ge, set_lt, gcE_set, gcE_set0, gcE_ll, gcE_ss, gcE_ssl, gcE_lsl, gcE_l0l, Nat.sub_self, Nat.add_sub_cancel_left, Nat.add_sub_cancel, Int.zero_add, Int.add_zero, Option.getD_some, Option.getD_none, Option.isSome_some, Option.isSome_none, onBl_fn, D.cl]
      rw [ha]
      (try with_reducible refine nx_in ?_); simp (disch := (first | assumption | omega | rfl | (simp only [List.length_set, List.length_append, List.length_cons, List.length_nil, List.length_map, List.length_range, intsD_len]; omega) | (simp only [List.length_cons, List.length_nil, Nat.zero_add, Nat.reduceAdd, List.take_succ_cons, List.take_zero]))) only [↓wpk, wpI, wpT, withS, asTup, asCons, asNil, onB, onI, onKey, keyOf, onSome, endsOf, startD_n, nones, w1, w2, w3, pre2, pre3, isDct, wSl, wSet, wAug, wDel, seqAt, listAt, lstAt, getAt, putAt, dctAt, itemAt, wSeq, wLock, unlk, post0, newLst, wipeD, dispOf, onDisp, List.map_cons, List.map_nil, List.length_cons, List.length_nil, List.length_map, List.length_append, List.length_set, List.nil_append, List.cons_append, List.append_assoc, List.set_cons_zero, List.set_cons_succ, List.getElem?_cons_zero, List.getElem?_cons_succ, List.append_nil, perm, List.getD_cons_zero, List.getD_cons_succ, Int.toNat_natCast, Nat.reduceAdd, Nat.reduceSub, true_and, and_true, if_true, if_false, Bool.false_eq_true, decide_eq_true_eq, D.isNon, Nat.reduceLT, Nat.reduceLeDiff, Int.reduceLT, Int.reduceLE, Int.reduceToNat, Int.reducePow, Int.reduceMul, Int.reduceNeg, Bool.not_true, Bool.not_false, forall_const, cond_true, cond_false, sizeT_ok, szl_ok, szl_ok2, small_ok, at_lt, at_ge, at_sne, at_seq, set_ge, set_lt, gcE_set, gcE_set0, gcE_ll, gcE_ss, gcE_ssl, gcE_lsl, gcE_l0l, Nat.sub_self, Nat.add_sub_cancel_left, Nat.add_sub_cancel, Int.zero_add, Int.add_zero, Option.getD_some, Option.getD_none, Option.isSome_some, Option.isSome_none, D.cl]
      obtain ⟨l', el⟩ := st4.1
      exact hk _ _ ⟨l', _, _, _, _, _, _, _, _, rfl, el.symm⟩
  · obtain ⟨l, x1, x2, x3, x4, x5, x6, x7, x8, rfl, rfl⟩ := hI
    (try with_reducible refine nx_in ?_); simp (disch := (first | assumption | omega | rfl | (simp only [List.length_set, List.length_append, List.length_cons, List.length_nil, List.length_map, List.length_range, intsD_len]; omega) | (simp only [List.length_cons, List.length_nil, Nat.zero_add, Nat.reduceAdd, List.take_succ_cons, List.take_zero]))) only [↓wpk, wpI, wpT, withS, asTup, asCons, asNil, onB, onI, onKey, keyOf, onSome, endsOf, startD_n, nones, w1, w2, w3, pre2, pre3, isDct, wSl, wSet, wAug, wDel, seqAt, listAt, lstAt, getAt, putAt, dctAt, itemAt, wSeq, wLock, unlk, post0, newLst, wipeD, dispOf, onDisp, List.map_cons, List.map_nil, List.length_cons, List.length_nil, List.length_map, List.length_append, List.length_set, List.nil_append, List.cons_append, List.append_assoc, List.set_cons_zero, List.set_cons_succ, List.getElem?_cons_zero, List.getElem?_cons_succ, List.append_nil, perm, List.getD_cons_zero, List.getD_cons_succ, Int.toNat_natCast, Nat.reduceAdd, Nat.reduceSub, true_and, and_true, if_true, if_false, Bool.false_eq_true, decide_eq_true_eq, D.isNon, Nat.reduceLT, Nat.reduceLeDiff, Int.reduceLT, Int.reduceLE, Int.reduceToNat, Int.reducePow, Int.reduceMul, Int.reduceNeg, Bool.not_true, Bool.not_false, forall_const, cond_true, cond_false, sizeT_ok, szl_ok, szl_ok2, small_ok, at_lt, at_ge, at_sne, at_seq, set_ge, set_lt, gcE_set, gcE_set0, gcE_ll, gcE_ss, gcE_ssl, gcE_lsl, gcE_l0l, Nat.sub_self, Nat.add_sub_cancel_left, Nat.add_sub_cancel, Int.zero_add, Int.add_zero, Option.getD_some, Option.getD_none, Option.isSome_some, Option.isSome_none]
    exact gc_any (q _)
end MP
namespace MP
open PySem PySem.Spec PyProof.Rows L2
end MP
namespace MP
open PySem PySem.Spec PyProof.Rows L2
def c_law_hand_v2 : CSs := (.cons (.asg (.name 2) (.cond (.op2 .lt (.var 1) (.op1 .len (.var 0))) (.op2 .ix (.var 0) (.var 1)) (.op2 .add (.op2 .mul (.con (.int 9)) (.var 1)) (.con (.int 4))))) (.cons (.asg (.name 3) (.op2 .mul (.op2 .mod (.op1 .abs (.var 2)) (.op2 .pow (.op2 .pow (.con (.int 10)) (.con (.int 60))) (.con (.int 5)))) (.op1 .int (.op2 .ge (.op1 .abs (.var 2)) (.op2 .pow (.con (.int 10)) (.con (.int 18))))))) (.cons (.ret (.lst (.cons (.var 3) (.cons (.op2 .mod (.op2 .mul (.op2 .add (.op2 .add (.op2 .mod (.var 2) (.con (.int 2305843009213693951))) (.op2 .mul (.op2 .mul (.con (.int 104729)) (.var 1)) (.var 1))) (.con (.int 37))) (.con (.int 48271))) (.con (.int 2305843009213693921))) (.cons (.con (.int 0)) .nil))))) .nil)))
def N_law_hand_v2 : List Str := ["_law_script", "_law_k", "_law_cell", "_law_great"]
theorem w_hand_v2 {G : Ctx} {ds : List D} {mu : Store} {Q : QD} {E : QX} (s : spHand ds mu Q E) : wpSs G c_law_hand_v2 (endsOf (gcD mu Q) (gcX mu E)) (startD N_law_hand_v2 ds) mu := by
  obtain ⟨ns, k, rfl, h0, h1, q⟩ := s
  have p10 : (Builtin.Int.intBits 10 : Int) ≤ 4 := by exact_mod_cast bits_le (i := 10) (k := 4) (by decide)
  have p60 : Builtin.Int.intBits 1000000000000000000000000000000000000000000000000000000000000 ≤ 200 := bits_le (i := 1000000000000000000000000000000000000000000000000000000000000) (k := 200) (by decide)
  (try with_reducible refine nx_in ?_); simp (disch := (first | assumption | omega | rfl | (simp only [List.length_set, List.length_append, List.length_cons, List.length_nil, List.length_map, List.length_range, intsD_len]; omega) | (simp only [List.length_cons, List.length_nil, Nat.zero_add, Nat.reduceAdd, List.take_succ_cons, List.take_zero]))) only [↓wpk, wpI, wpT, withS, asTup, asCons, asNil, onB, onI, onKey, keyOf, onSome, endsOf, startD_n, nones, w1, w2, w3, pre2, pre3, isDct, wSl, wSet, wAug, wDel, seqAt, listAt, lstAt, getAt, putAt, dctAt, itemAt, wSeq, wLock, unlk, post0, newLst, wipeD, dispOf, onDisp, List.map_cons, List.map_nil, List.length_cons, List.length_nil, List.length_map, List.length_append, List.length_set, List.nil_append, List.cons_append, List.append_assoc, List.set_cons_zero, List.set_cons_succ, List.getElem?_cons_zero, List.getElem?_cons_succ, List.append_nil, perm, List.getD_cons_zero, List.getD_cons_succ, Int.toNat_natCast, Nat.reduceAdd, Nat.reduceSub, true_and, and_true, if_true, if_false, Bool.false_eq_true, decide_eq_true_eq, D.isNon, Nat.reduceLT, Nat.reduceLeDiff, Int.reduceLT, Int.reduceLE, Int.reduceToNat, Int.reducePow, Int.reduceMul, Int.reduceNeg, Bool.not_true, Bool.not_false, forall_const, cond_true, cond_false, sizeT_ok, szl_ok, szl_ok2, small_ok, at_lt, at_ge, at_sne, at_seq, set_ge, set_lt, gcE_set, gcE_set0, gcE_ll, gcE_ss, gcE_ssl, gcE_lsl, gcE_l0l, Nat.sub_self, Nat.add_sub_cancel_left, Nat.add_sub_cancel, Int.zero_add, Int.add_zero, Option.getD_some, Option.getD_none, Option.isSome_some, Option.isSome_none, c_law_hand_v2, N_law_hand_v2]
  refine ite_pos_neg (fun c => ?_) fun c => ?_
  · obtain ⟨v, ev, hv, _⟩ := atI_mem (xs := List.map D.int ns) h0 (by rw [List.length_map]; exact c)
    obtain ⟨i, _, rfl⟩ := List.mem_map.mp hv
    rw [ev]
    (try with_reducible refine nx_in ?_); simp (disch := (first | assumption | omega | rfl | (simp only [List.length_set, List.length_append, List.length_cons, List.length_nil, List.length_map, List.length_range, intsD_len]; omega) | (simp only [List.length_cons, List.length_nil, Nat.zero_add, Nat.reduceAdd, List.take_succ_cons, List.take_zero]))) only [↓wpk, wpI, wpT, withS, asTup, asCons, asNil, onB, onI, onKey, keyOf, onSome, endsOf, startD_n, nones, w1, w2, w3, pre2, pre3, isDct, wSl, wSet, wAug, wDel, seqAt, listAt, lstAt, getAt, putAt, dctAt, itemAt, wSeq, wLock, unlk, post0, newLst, wipeD, dispOf, onDisp, List.map_cons, List.map_nil, List.length_cons, List.length_nil, List.length_map, List.length_append, List.length_set, List.nil_append, List.cons_append, List.append_assoc, List.set_cons_zero, List.set_cons_succ, List.getElem?_cons_zero, List.getElem?_cons_succ, List.append_nil, perm, List.getD_cons_zero, List.getD_cons_succ, Int.toNat_natCast, Nat.reduceAdd, Nat.reduceSub, true_and, and_true, if_true, if_false, Bool.false_eq_true, decide_eq_true_eq, D.isNon, Nat.reduceLT, Nat.reduceLeDiff, Int.reduceLT, Int.reduceLE, Int.reduceToNat, Int.reducePow, Int.reduceMul, Int.reduceNeg, Bool.not_true, Bool.not_false, forall_const, cond_true, cond_false, sizeT_ok, szl_ok, szl_ok2, small_ok, at_lt, at_ge, at_sne, at_seq, set_ge, set_lt, gcE_set, gcE_set0, gcE_ll, gcE_ss, gcE_ssl, gcE_lsl, gcE_l0l, Nat.sub_self, Nat.add_sub_cancel_left, Nat.add_sub_cancel, Int.zero_add, Int.add_zero, Option.getD_some, Option.getD_none, Option.isSome_some, Option.isSome_none]
    refine ⟨by omega, by omega, by omega, mulR (bit_lo _) (bit_hi _), ?_⟩
    (try with_reducible refine nx_in ?_); simp (disch := (first | assumption | omega | rfl | (simp only [List.length_set, List.length_append, List.length_cons, List.length_nil, List.length_map, List.length_range, intsD_len]; omega) | (simp only [List.length_cons, List.length_nil, Nat.zero_add, Nat.reduceAdd, List.take_succ_cons, List.take_zero]))) only [↓wpk, wpI, wpT, withS, asTup, asCons, asNil, onB, onI, onKey, keyOf, onSome, endsOf, startD_n, nones, w1, w2, w3, pre2, pre3, isDct, wSl, wSet, wAug, wDel, seqAt, listAt, lstAt, getAt, putAt, dctAt, itemAt, wSeq, wLock, unlk, post0, newLst, wipeD, dispOf, onDisp, List.map_cons, List.map_nil, List.length_cons, List.length_nil, List.length_map, List.length_append, List.length_set, List.nil_append, List.cons_append, List.append_assoc, List.set_cons_zero, List.set_cons_succ, List.getElem?_cons_zero, List.getElem?_cons_succ, List.append_nil, perm, List.getD_cons_zero, List.getD_cons_succ, Int.toNat_natCast, Nat.reduceAdd, Nat.reduceSub, true_and, and_true, if_true, if_false, Bool.false_eq_true, decide_eq_true_eq, D.isNon, Nat.reduceLT, Nat.reduceLeDiff, Int.reduceLT, Int.reduceLE, Int.reduceToNat, Int.reducePow, Int.reduceMul, Int.reduceNeg, Bool.not_true, Bool.not_false, forall_const, cond_true, cond_false, sizeT_ok, szl_ok, szl_ok2, small_ok, at_lt, at_ge, at_sne, at_seq, set_ge, set_lt, gcE_set, gcE_set0, gcE_ll, gcE_ss, gcE_ssl, gcE_lsl, gcE_l0l, Nat.sub_self, Nat.add_sub_cancel_left, Nat.add_sub_cancel, Int.zero_add, Int.add_zero, Option.getD_some, Option.getD_none, Option.isSome_some, Option.isSome_none]
    refine ⟨mulL (by decide) (by decide), mulR (by omega) (by omega), mulR (by decide) (by decide), ?_⟩
    exact gc_any (q _ ⟨_, _, 0, rfl, Int.mul_nonneg (Int.emod_nonneg _ (by decide)) (bit_nn _), Int.emod_nonneg _ (by decide), Int.lt_of_lt_of_le (Int.emod_lt_of_pos _ (by decide)) (by decide), by decide, by decide⟩)
  · refine ⟨mulL (by decide) (by decide), ?_⟩
    (try with_reducible refine nx_in ?_); simp (disch := (first | assumption | omega | rfl | (simp only [List.length_set, List.length_append, List.length_cons, List.length_nil, List.length_map, List.length_range, intsD_len]; omega) | (simp only [List.length_cons, List.length_nil, Nat.zero_add, Nat.reduceAdd, List.take_succ_cons, List.take_zero]))) only [↓wpk, wpI, wpT, withS, asTup, asCons, asNil, onB, onI, onKey, keyOf, onSome, endsOf, startD_n, nones, w1, w2, w3, pre2, pre3, isDct, wSl, wSet, wAug, wDel, seqAt, listAt, lstAt, getAt, putAt, dctAt, itemAt, wSeq, wLock, unlk, post0, newLst, wipeD, dispOf, onDisp, List.map_cons, List.map_nil, List.length_cons, List.length_nil, List.length_map, List.length_append, List.length_set, List.nil_append, List.cons_append, List.append_assoc, List.set_cons_zero, List.set_cons_succ, List.getElem?_cons_zero, List.getElem?_cons_succ, List.append_nil, perm, List.getD_cons_zero, List.getD_cons_succ, Int.toNat_natCast, Nat.reduceAdd, Nat.reduceSub, true_and, and_true, if_true, if_false, Bool.false_eq_true, decide_eq_true_eq, D.isNon, Nat.reduceLT, Nat.reduceLeDiff, Int.reduceLT, Int.reduceLE, Int.reduceToNat, Int.reducePow, Int.reduceMul, Int.reduceNeg, Bool.not_true, Bool.not_false, forall_const, cond_true, cond_false, sizeT_ok, szl_ok, szl_ok2, small_ok, at_lt, at_ge, at_sne, at_seq, set_ge, set_lt, gcE_set, gcE_set0, gcE_ll, gcE_ss, gcE_ssl, gcE_lsl, gcE_l0l, Nat.sub_self, Nat.add_sub_cancel_left, Nat.add_sub_cancel, Int.zero_add, Int.add_zero, Option.getD_some, Option.getD_none, Option.isSome_some, Option.isSome_none]
    refine ⟨by omega, by omega, by omega, mulR (bit_lo _) (bit_hi _), ?_⟩
    (try with_reducible refine nx_in ?_); simp (disch := (first | assumption | omega | rfl | (simp only [List.length_set, List.length_append, List.length_cons, List.length_nil, List.length_map, List.length_range, intsD_len]; omega) | (simp only [List.length_cons, List.length_nil, Nat.zero_add, Nat.reduceAdd, List.take_succ_cons, List.take_zero]))) only [↓wpk, wpI, wpT, withS, asTup, asCons, asNil, onB, onI, onKey, keyOf, onSome, endsOf, startD_n, nones, w1, w2, w3, pre2, pre3, isDct, wSl, wSet, wAug, wDel, seqAt, listAt, lstAt, getAt, putAt, dctAt, itemAt, wSeq, wLock, unlk, post0, newLst, wipeD, dispOf, onDisp, List.map_cons, List.map_nil, List.length_cons, List.length_nil, List.length_map, List.length_append, List.length_set, List.nil_append, List.cons_append, List.append_assoc, List.set_cons_zero, List.set_cons_succ, List.getElem?_cons_zero, List.getElem?_cons_succ, List.append_nil, perm, List.getD_cons_zero, List.getD_cons_succ, Int.toNat_natCast, Nat.reduceAdd, Nat.reduceSub, true_and, and_true, if_true, if_false, Bool.false_eq_true, decide_eq_true_eq, D.isNon, Nat.reduceLT, Nat.reduceLeDiff, Int.reduceLT, Int.reduceLE, Int.reduceToNat, Int.reducePow, Int.reduceMul, Int.reduceNeg, Bool.not_true, Bool.not_false, forall_const, cond_true, cond_false, sizeT_ok, szl_ok, szl_ok2, small_ok, at_lt, at_ge, at_sne, at_seq, set_ge, set_lt, gcE_set, gcE_set0, gcE_ll, gcE_ss, gcE_ssl, gcE_lsl, gcE_l0l, Nat.sub_self, Nat.add_sub_cancel_left, Nat.add_sub_cancel, Int.zero_add, Int.add_zero, Option.getD_some, Option.getD_none, Option.isSome_some, Option.isSome_none]
    refine ⟨mulL (by decide) (by decide), mulR (by omega) (by omega), mulR (by decide) (by decide), ?_⟩
    exact gc_any (q _ ⟨_, _, 0, rfl, Int.mul_nonneg (Int.emod_nonneg _ (by decide)) (bit_nn _), Int.emod_nonneg _ (by decide), Int.lt_of_lt_of_le (Int.emod_lt_of_pos _ (by decide)) (by decide), by decide, by decide⟩)
end MP
namespace MPL
open PySem PySem.Spec PyProof.Rows L2 MP
def top (i : Nat) : Stmt := PySem.Challenge.pw_surenext_k01_symbols_and_words_of_any_va.main.body.getD i (.Pass ⟨0, 0, 0, 0⟩)
abbrev i_law_letters : Nat := 3
abbrev i_law_odd : Nat := 4
abbrev i_law_bent : Nat := 5
abbrev i_law_string : Nat := 6
abbrev i_is_symbol : Nat := 7
abbrev i_is_word : Nat := 8
abbrev i_law_is_symbol : Nat := 9
abbrev i_law_is_row : Nat := 10
abbrev i_law_right : Nat := 11
def fns : List Str := ["_law_hand", "_law_take", "_law_of", "_law_letters", "_law_odd", "_law_bent", "_law_string", "is_symbol", "is_word", "_law_is_symbol", "_law_is_row", "_law_right", "law"]
def blts : List Str := ["abs", "all", "int", "isinstance", "len", "list", "max", "min", "range", "repr", "str", "tuple"]
def kwp : List (Nat × Nat × List Str × List Nat) := [(0, 2, [], [0, 1]), (1, 2, [], [0, 1]), (2, 2, [], [0, 1]), (3, 2, [], [0, 1]), (4, 2, [], [0, 1]), (5, 3, [], [0, 1, 2]), (6, 1, [], [0]), (7, 0, ["value"], [0]), (7, 1, [], [0]), (8, 0, ["value"], [0]), (8, 1, [], [0]), (9, 1, [], [0]), (10, 1, [], [0]), (11, 1, [], [0])]
def cons : List (Str × D) := [("LETTERS", (.str "abcdefghijklmnopqrstuvwxyz")), ("MAX_LETTERS", (.int 8)), ("MAX_WORD", (.int 200))]
def nm (N : List Str) (j : Nat) : Nm := { N := N, fns := fns.take j, cons := cons, blts := blts, kwp := kwp }
def G : MP.Ctx := { fn := fun i => [spHand, spTake, spOf, spLetters, spOdd, spBent, spString, spSymD, spWordD, spSymD, spWordD, spRight01, spLaw].getD i (fun _ _ _ _ => False) }
def t_law_hand_v2 : CSs := (c_law_hand_v2)
theorem m_law_hand_v2 : mSs (nm N_law_hand_v2 0) t_law_hand_v2 (defScope (top 7)) (defScope (top 7)) (defBody (top 7)) = true := by decide +kernel
theorem q_law_hand_v2 : FnScope N_law_hand_v2 ["_law_script", "_law_k"] (defScope (top 7)) := ⟨rfl, rfl, rfl, by decide +kernel, by decide +kernel, by decide +kernel, by decide +kernel⟩
theorem v_law_hand_v2 {ds : List D} {mu : Store} {Q : QD} {E : QX} (s : spHand ds mu Q E) : wpSs G t_law_hand_v2 (endsOf (gcD mu Q) (gcX mu E)) (startD N_law_hand_v2 ds) mu := w_hand_v2 s
def N_law_take : List Str := ["_law_hand_here", "_law_many", "_law_digit", "_law_turn", "_law_prime", "_law_mixed"]
def t_law_take : CSs := (c_law_take)
theorem m_law_take : mSs (nm N_law_take 1) t_law_take (defScope (top 8)) (defScope (top 8)) (defBody (top 8)) = true := by decide +kernel
theorem q_law_take : FnScope N_law_take ["_law_hand_here", "_law_many"] (defScope (top 8)) := ⟨rfl, rfl, rfl, by decide +kernel, by decide +kernel, by decide +kernel, by decide +kernel⟩
theorem v_law_take {ds : List D} {mu : Store} {Q : QD} {E : QX} (s : spTake ds mu Q E) : wpSs G t_law_take (endsOf (gcD mu Q) (gcX mu E)) (startD N_law_take ds) mu := w_take s
def N_law_of : List Str := ["_law_hand_here", "_law_some"]
def t_law_of : CSs := (c_law_of)
theorem m_law_of : mSs (nm N_law_of 2) t_law_of (defScope (top 9)) (defScope (top 9)) (defBody (top 9)) = true := by decide +kernel
theorem q_law_of : FnScope N_law_of ["_law_hand_here", "_law_some"] (defScope (top 9)) := ⟨rfl, rfl, rfl, by decide +kernel, by decide +kernel, by decide +kernel, by decide +kernel⟩
theorem v_law_of {ds : List D} {mu : Store} {Q : QD} {E : QX} (s : spOf ds mu Q E) : wpSs G t_law_of (endsOf (gcD mu Q) (gcX mu E)) (startD N_law_of ds) mu := w_of rfl s
def t_law_letters : CSs := (c_law_letters)
theorem m_law_letters : mSs (nm N_law_letters 3) t_law_letters (defScope (top 10)) (defScope (top 10)) (defBody (top 10)) = true := by decide +kernel
theorem q_law_letters : FnScope N_law_letters ["_law_hand_here", "_law_many"] (defScope (top 10)) := ⟨rfl, rfl, rfl, by decide +kernel, by decide +kernel, by decide +kernel, by decide +kernel⟩
theorem v_law_letters {ds : List D} {mu : Store} {Q : QD} {E : QX} (s : spLetters ds mu Q E) : wpSs G t_law_letters (endsOf (gcD mu Q) (gcX mu E)) (startD N_law_letters ds) mu := w_letters rfl rfl s
def t_law_odd : CSs := (c_law_odd)
theorem m_law_odd : mSs (nm N_law_odd 4) t_law_odd (defScope (top 11)) (defScope (top 11)) (defBody (top 11)) = true := by decide +kernel
theorem q_law_odd : FnScope N_law_odd ["_law_hand_here", "_law_one"] (defScope (top 11)) := ⟨rfl, rfl, rfl, by decide +kernel, by decide +kernel, by decide +kernel, by decide +kernel⟩
theorem v_law_odd {ds : List D} {mu : Store} {Q : QD} {E : QX} (s : spOdd ds mu Q E) : wpSs G t_law_odd (endsOf (gcD mu Q) (gcX mu E)) (startD N_law_odd ds) mu := w_odd rfl s
def t_law_bent : CSs := (c_law_bent i_law_bent i_law_odd)
theorem m_law_bent : mSs (nm N_law_bent 6) t_law_bent (defScope (top 12)) (defScope (top 12)) (defBody (top 12)) = true := by decide +kernel
theorem q_law_bent : FnScope N_law_bent ["_law_hand_here", "_law_one", "_law_deep"] (defScope (top 12)) := ⟨rfl, rfl, rfl, by decide +kernel, by decide +kernel, by decide +kernel, by decide +kernel⟩
theorem v_law_bent {d : Nat} {ds : List D} {mu : Store} {Q : QD} {E : QX} (s : spBentF d ds mu Q E) : wpSs (recG G 5 spBentF d) t_law_bent (endsOf (gcD mu Q) (gcX mu E)) (startD N_law_bent ds) mu := w_bent rfl rfl rfl s
def t_law_string : CSs := (c_law_string)
theorem m_law_string : mSs (nm N_law_string 6) t_law_string (defScope (top 14)) (defScope (top 14)) (defBody (top 14)) = true := by decide +kernel
theorem q_law_string : FnScope N_law_string ["_law_hand_here"] (defScope (top 14)) := ⟨rfl, rfl, rfl, by decide +kernel, by decide +kernel, by decide +kernel, by decide +kernel⟩
theorem v_law_string {ds : List D} {mu : Store} {Q : QD} {E : QX} (s : spString ds mu Q E) : wpSs G t_law_string (endsOf (gcD mu Q) (gcX mu E)) (startD N_law_string ds) mu := w_string rfl rfl s
def t_is_symbol : CSs := (c_is_symbol)
theorem m_is_symbol : mSs (nm N_is_symbol 7) t_is_symbol (defScope (top 4)) (defScope (top 4)) (defBody (top 4)) = true := by decide +kernel
theorem q_is_symbol : FnScope N_is_symbol ["value"] (defScope (top 4)) := ⟨rfl, rfl, rfl, by decide +kernel, by decide +kernel, by decide +kernel, by decide +kernel⟩
theorem v_is_symbol {ds : List D} {mu : Store} {Q : QD} {E : QX} (s : spSymD ds mu Q E) : wpSs G t_is_symbol (endsOf (gcD mu Q) (gcX mu E)) (startD N_is_symbol ds) mu := w_symD s
def t_is_word : CSs := (c_is_word i_is_symbol)
theorem m_is_word : mSs (nm N_is_word 8) t_is_word (defScope (top 5)) (defScope (top 5)) (defBody (top 5)) = true := by decide +kernel
theorem q_is_word : FnScope N_is_word ["value"] (defScope (top 5)) := ⟨rfl, rfl, rfl, by decide +kernel, by decide +kernel, by decide +kernel, by decide +kernel⟩
theorem v_is_word {ds : List D} {mu : Store} {Q : QD} {E : QX} (s : spWordD ds mu Q E) : wpSs G t_is_word (endsOf (gcD mu Q) (gcX mu E)) (startD N_is_word ds) mu := w_wordD rfl s
def t_law_is_symbol : CSs := (c_law_is_symbol)
theorem m_law_is_symbol : mSs (nm N_law_is_symbol 9) t_law_is_symbol (defScope (top 13)) (defScope (top 13)) (defBody (top 13)) = true := by decide +kernel
theorem q_law_is_symbol : FnScope N_law_is_symbol ["_law_thing"] (defScope (top 13)) := ⟨rfl, rfl, rfl, by decide +kernel, by decide +kernel, by decide +kernel, by decide +kernel⟩
theorem v_law_is_symbol {ds : List D} {mu : Store} {Q : QD} {E : QX} (s : spSymD ds mu Q E) : wpSs G t_law_is_symbol (endsOf (gcD mu Q) (gcX mu E)) (startD N_law_is_symbol ds) mu := w_symD s
def t_law_is_row : CSs := (c_law_is_row i_law_is_symbol)
theorem m_law_is_row : mSs (nm N_law_is_row 10) t_law_is_row (defScope (top 15)) (defScope (top 15)) (defBody (top 15)) = true := by decide +kernel
theorem q_law_is_row : FnScope N_law_is_row ["_law_thing"] (defScope (top 15)) := ⟨rfl, rfl, rfl, by decide +kernel, by decide +kernel, by decide +kernel, by decide +kernel⟩
theorem v_law_is_row {ds : List D} {mu : Store} {Q : QD} {E : QX} (s : spWordD ds mu Q E) : wpSs G t_law_is_row (endsOf (gcD mu Q) (gcX mu E)) (startD N_law_is_row ds) mu := w_wordD rfl s
def t_law_right_v10 : CSs := (c_law_right_v10 i_law_is_row i_law_is_symbol i_is_word i_is_symbol)
theorem m_law_right_v10 : mSs (nm N_law_right_v10 11) t_law_right_v10 (defScope (top 16)) (defScope (top 16)) (defBody (top 16)) = true := by decide +kernel
theorem q_law_right_v10 : FnScope N_law_right_v10 ["_law_thing"] (defScope (top 16)) := ⟨rfl, rfl, rfl, by decide +kernel, by decide +kernel, by decide +kernel, by decide +kernel⟩
theorem v_law_right_v10 {ds : List D} {mu : Store} {Q : QD} {E : QX} (s : spRight01 ds mu Q E) : wpSs G t_law_right_v10 (endsOf (gcD mu Q) (gcX mu E)) (startD N_law_right_v10 ds) mu := w_right01 rfl rfl rfl rfl s
def t_law_v5 : CSs := (c_law_v5 i_law_right i_law_bent i_law_letters i_law_string)
theorem m_law_v5 : mSs (nm N_law_v5 12) t_law_v5 (defScope (top 17)) (defScope (top 17)) (defBody (top 17)) = true := by decide +kernel
theorem q_law_v5 : FnScope N_law_v5 ["_law_script"] (defScope (top 17)) := ⟨rfl, rfl, rfl, by decide +kernel, by decide +kernel, by decide +kernel, by decide +kernel⟩
theorem v_law_v5 {ds : List D} {mu : Store} {Q : QD} {E : QX} (s : spLaw ds mu Q E) : wpSs G t_law_v5 (endsOf (gcD mu Q) (gcX mu E)) (startD N_law_v5 ds) mu := w_law01 rfl rfl rfl rfl rfl rfl rfl s
theorem all_mk {l : PySem.W.OpenLaw} {w : World} {K : PySem.W.Frag} {h : Heap} {mg : Str → Option Value} {fa f0 f1 f2 f3 f4 f5 f6 f7 f8 f9 f10 f11 f12 : Addr} {od0 an0 od1 an1 od2 an2 od3 an3 od4 an4 od5 an5 od6 an6 od7 an7 od8 an8 od9 an9 od10 an10 od11 an11 od12 an12 : Option Addr} {sl0 sl1 sl2 sl3 sl4 sl5 sl6 sl7 sl8 sl9 sl10 sl11 sl12 : Array (Option Value)} {oc0 kV0 dc0 pm0 cd0 ct0 oc1 kV1 dc1 pm1 cd1 ct1 oc2 kV2 dc2 pm2 cd2 ct2 oc3 kV3 dc3 pm3 cd3 ct3 oc4 kV4 dc4 pm4 cd4 ct4 oc5 kV5 dc5 pm5 cd5 ct5 oc6 kV6 dc6 pm6 cd6 ct6 oc7 kV7 dc7 pm7 cd7 ct7 oc8 kV8 dc8 pm8 cd8 ct8 oc9 kV9 dc9 pm9 cd9 ct9 oc10 kV10 dc10 pm10 cd10 ct10 oc11 kV11 dc11 pm11 cd11 ct11 oc12 kV12 dc12 pm12 cd12 ct12 u0 u1 u2 : Value} (X : K.In h) (NG : h.Ns mainGlobals mg) (hfa : mg "law" = some (.ref fa))
    (a0 : PySem.W.nsIn K mainGlobals "_law_hand" = some (some (.ref f0))) (l0 : K.lookup f0 = some ⟨oc0, od0, .func (PySem.W.fnOf "_law_hand" "_law_hand" (defArgs (top 7)) (defBody (top 7)) (defScope (top 7)) .none kV0 dc0 pm0 an0 cd0 ct0), sl0⟩) (c0 : PySem.W.codeIn K cd0 "_law_hand" = true) (k0 : PySem.W.keepIn K (.ref f0) = true)
    (a1 : PySem.W.nsIn K mainGlobals "_law_take" = some (some (.ref f1))) (l1 : K.lookup f1 = some ⟨oc1, od1, .func (PySem.W.fnOf "_law_take" "_law_take" (defArgs (top 8)) (defBody (top 8)) (defScope (top 8)) .none kV1 dc1 pm1 an1 cd1 ct1), sl1⟩) (c1 : PySem.W.codeIn K cd1 "_law_take" = true) (k1 : PySem.W.keepIn K (.ref f1) = true)
    (a2 : PySem.W.nsIn K mainGlobals "_law_of" = some (some (.ref f2))) (l2 : K.lookup f2 = some ⟨oc2, od2, .func (PySem.W.fnOf "_law_of" "_law_of" (defArgs (top 9)) (defBody (top 9)) (defScope (top 9)) .none kV2 dc2 pm2 an2 cd2 ct2), sl2⟩) (c2 : PySem.W.codeIn K cd2 "_law_of" = true) (k2 : PySem.W.keepIn K (.ref f2) = true)
    (a3 : PySem.W.nsIn K mainGlobals "_law_letters" = some (some (.ref f3))) (l3 : K.lookup f3 = some ⟨oc3, od3, .func (PySem.W.fnOf "_law_letters" "_law_letters" (defArgs (top 10)) (defBody (top 10)) (defScope (top 10)) .none kV3 dc3 pm3 an3 cd3 ct3), sl3⟩) (c3 : PySem.W.codeIn K cd3 "_law_letters" = true) (k3 : PySem.W.keepIn K (.ref f3) = true)
    (a4 : PySem.W.nsIn K mainGlobals "_law_odd" = some (some (.ref f4))) (l4 : K.lookup f4 = some ⟨oc4, od4, .func (PySem.W.fnOf "_law_odd" "_law_odd" (defArgs (top 11)) (defBody (top 11)) (defScope (top 11)) .none kV4 dc4 pm4 an4 cd4 ct4), sl4⟩) (c4 : PySem.W.codeIn K cd4 "_law_odd" = true) (k4 : PySem.W.keepIn K (.ref f4) = true)
    (a5 : PySem.W.nsIn K mainGlobals "_law_bent" = some (some (.ref f5))) (l5 : K.lookup f5 = some ⟨oc5, od5, .func (PySem.W.fnOf "_law_bent" "_law_bent" (defArgs (top 12)) (defBody (top 12)) (defScope (top 12)) .none kV5 dc5 pm5 an5 cd5 ct5), sl5⟩) (c5 : PySem.W.codeIn K cd5 "_law_bent" = true) (k5 : PySem.W.keepIn K (.ref f5) = true)
    (a6 : PySem.W.nsIn K mainGlobals "_law_string" = some (some (.ref f6))) (l6 : K.lookup f6 = some ⟨oc6, od6, .func (PySem.W.fnOf "_law_string" "_law_string" (defArgs (top 14)) (defBody (top 14)) (defScope (top 14)) .none kV6 dc6 pm6 an6 cd6 ct6), sl6⟩) (c6 : PySem.W.codeIn K cd6 "_law_string" = true) (k6 : PySem.W.keepIn K (.ref f6) = true)
    (a7 : PySem.W.nsIn K mainGlobals "is_symbol" = some (some (.ref f7))) (l7 : K.lookup f7 = some ⟨oc7, od7, .func (PySem.W.fnOf "is_symbol" "is_symbol" (defArgs (top 4)) (defBody (top 4)) (defScope (top 4)) .none kV7 dc7 pm7 an7 cd7 ct7), sl7⟩) (c7 : PySem.W.codeIn K cd7 "is_symbol" = true) (k7 : PySem.W.keepIn K (.ref f7) = true)
    (a8 : PySem.W.nsIn K mainGlobals "is_word" = some (some (.ref f8))) (l8 : K.lookup f8 = some ⟨oc8, od8, .func (PySem.W.fnOf "is_word" "is_word" (defArgs (top 5)) (defBody (top 5)) (defScope (top 5)) .none kV8 dc8 pm8 an8 cd8 ct8), sl8⟩) (c8 : PySem.W.codeIn K cd8 "is_word" = true) (k8 : PySem.W.keepIn K (.ref f8) = true)
    (a9 : PySem.W.nsIn K mainGlobals "_law_is_symbol" = some (some (.ref f9))) (l9 : K.lookup f9 = some ⟨oc9, od9, .func (PySem.W.fnOf "_law_is_symbol" "_law_is_symbol" (defArgs (top 13)) (defBody (top 13)) (defScope (top 13)) .none kV9 dc9 pm9 an9 cd9 ct9), sl9⟩) (c9 : PySem.W.codeIn K cd9 "_law_is_symbol" = true) (k9 : PySem.W.keepIn K (.ref f9) = true)
    (a10 : PySem.W.nsIn K mainGlobals "_law_is_row" = some (some (.ref f10))) (l10 : K.lookup f10 = some ⟨oc10, od10, .func (PySem.W.fnOf "_law_is_row" "_law_is_row" (defArgs (top 15)) (defBody (top 15)) (defScope (top 15)) .none kV10 dc10 pm10 an10 cd10 ct10), sl10⟩) (c10 : PySem.W.codeIn K cd10 "_law_is_row" = true) (k10 : PySem.W.keepIn K (.ref f10) = true)
    (a11 : PySem.W.nsIn K mainGlobals "_law_right" = some (some (.ref f11))) (l11 : K.lookup f11 = some ⟨oc11, od11, .func (PySem.W.fnOf "_law_right" "_law_right" (defArgs (top 16)) (defBody (top 16)) (defScope (top 16)) .none kV11 dc11 pm11 an11 cd11 ct11), sl11⟩) (c11 : PySem.W.codeIn K cd11 "_law_right" = true) (k11 : PySem.W.keepIn K (.ref f11) = true)
    (a12 : PySem.W.nsIn K mainGlobals "law" = some (some (.ref f12))) (l12 : K.lookup f12 = some ⟨oc12, od12, .func (PySem.W.fnOf "law" "law" (defArgs (top 17)) (defBody (top 17)) (defScope (top 17)) .none kV12 dc12 pm12 an12 cd12 ct12), sl12⟩) (c12 : PySem.W.codeIn K cd12 "law" = true) (k12 : PySem.W.keepIn K (.ref f12) = true)
    (z0 : PySem.W.nsIn K mainGlobals "abs" = some none)
    (z1 : PySem.W.nsIn K mainGlobals "all" = some none)
    (z2 : PySem.W.nsIn K mainGlobals "int" = some none)
    (z3 : PySem.W.nsIn K mainGlobals "isinstance" = some none)
    (z4 : PySem.W.nsIn K mainGlobals "len" = some none)
    (z5 : PySem.W.nsIn K mainGlobals "list" = some none)
    (z6 : PySem.W.nsIn K mainGlobals "max" = some none)
    (z7 : PySem.W.nsIn K mainGlobals "min" = some none)
    (z8 : PySem.W.nsIn K mainGlobals "range" = some none)
    (z9 : PySem.W.nsIn K mainGlobals "repr" = some none)
    (z10 : PySem.W.nsIn K mainGlobals "str" = some none)
    (z11 : PySem.W.nsIn K mainGlobals "tuple" = some none)
    (y0 : PySem.W.nsIn K mainGlobals "LETTERS" = some (some u0)) (yr0 : ∀ H be, ∃ v, L2.RelV v u0 ∧ IsD K H be (.str "abcdefghijklmnopqrstuvwxyz") v)
    (y1 : PySem.W.nsIn K mainGlobals "MAX_LETTERS" = some (some u1)) (yr1 : ∀ H be, ∃ v, L2.RelV v u1 ∧ IsD K H be (.int 8) v)
    (y2 : PySem.W.nsIn K mainGlobals "MAX_WORD" = some (some u2)) (yr2 : ∀ H be, ∃ v, L2.RelV v u2 ∧ IsD K H be (.int 200) v)
    : ∃ (fd : FuncData) (CT : Cls), (∀ (s : Shared) (v : Value), BindsTo s fd ⟨[v], []⟩ [("_law_script", v)]) ∧ ∀ base : Heap, K.In base → base.Ns mainGlobals mg → FnG l.prog w K mg base 15 fa fd ["_law_script"] (liftF K CT spLaw) := by
  have e := hfa.symm.trans (PySem.W.mg_of X NG a12)
  cases e
  have GB : ∀ (N : List Str) (j : Nat), GlbOk K mg (nm N j) := by
    intro N j
    refine ⟨fun x hx => ?_, fun p hp => ?_⟩
    · have hx : x ∈ blts := hx
      simp only [blts, List.mem_cons, List.not_mem_nil, or_false] at hx
      rcases hx with rfl | rfl | rfl | rfl | rfl | rfl | rfl | rfl | rfl | rfl | rfl | rfl
      · exact PySem.W.mg_none_of X NG z0
      · exact PySem.W.mg_none_of X NG z1
      · exact PySem.W.mg_none_of X NG z2
      · exact PySem.W.mg_none_of X NG z3
      · exact PySem.W.mg_none_of X NG z4
      · exact PySem.W.mg_none_of X NG z5
      · exact PySem.W.mg_none_of X NG z6
      · exact PySem.W.mg_none_of X NG z7
      · exact PySem.W.mg_none_of X NG z8
      · exact PySem.W.mg_none_of X NG z9
      · exact PySem.W.mg_none_of X NG z10
      · exact PySem.W.mg_none_of X NG z11
    · have hp : p ∈ cons := hp
      simp only [cons, List.mem_cons, List.not_mem_nil, or_false] at hp
      rcases hp with rfl | rfl | rfl
      · exact ⟨u0, PySem.W.mg_of X NG y0, yr0⟩
      · exact ⟨u1, PySem.W.mg_of X NG y1, yr1⟩
      · exact ⟨u2, PySem.W.mg_of X NG y2, yr2⟩
  have F0 := fun_mk (st := top 7) l0 c0 k0
  have b0 := F0.binds (ps := ["_law_script", "_law_k"]) fun _ _ _ _ _ _ us hl => match us, hl with | [_, _], _ => rfl
  have F1 := fun_mk (st := top 8) l1 c1 k1
  have b1 := F1.binds (ps := ["_law_hand_here", "_law_many"]) fun _ _ _ _ _ _ us hl => match us, hl with | [_, _], _ => rfl
  have F2 := fun_mk (st := top 9) l2 c2 k2
  have b2 := F2.binds (ps := ["_law_hand_here", "_law_some"]) fun _ _ _ _ _ _ us hl => match us, hl with | [_, _], _ => rfl
  have F3 := fun_mk (st := top 10) l3 c3 k3
  have b3 := F3.binds (ps := ["_law_hand_here", "_law_many"]) fun _ _ _ _ _ _ us hl => match us, hl with | [_, _], _ => rfl
  have F4 := fun_mk (st := top 11) l4 c4 k4
  have b4 := F4.binds (ps := ["_law_hand_here", "_law_one"]) fun _ _ _ _ _ _ us hl => match us, hl with | [_, _], _ => rfl
  have F5 := fun_mk (st := top 12) l5 c5 k5
  have b5 := F5.binds (ps := ["_law_hand_here", "_law_one", "_law_deep"]) fun _ _ _ _ _ _ us hl => match us, hl with | [_, _, _], _ => rfl
  have F6 := fun_mk (st := top 14) l6 c6 k6
  have b6 := F6.binds (ps := ["_law_hand_here"]) fun _ _ _ _ _ _ us hl => match us, hl with | [_], _ => rfl
  have F7 := fun_mk (st := top 4) l7 c7 k7
  have b7 := F7.binds (ps := ["value"]) fun _ _ _ _ _ _ us hl => match us, hl with | [_], _ => rfl
  have F8 := fun_mk (st := top 5) l8 c8 k8
  have b8 := F8.binds (ps := ["value"]) fun _ _ _ _ _ _ us hl => match us, hl with | [_], _ => rfl
  have F9 := fun_mk (st := top 13) l9 c9 k9
  have b9 := F9.binds (ps := ["_law_thing"]) fun _ _ _ _ _ _ us hl => match us, hl with | [_], _ => rfl
  have F10 := fun_mk (st := top 15) l10 c10 k10
  have b10 := F10.binds (ps := ["_law_thing"]) fun _ _ _ _ _ _ us hl => match us, hl with | [_], _ => rfl
  have F11 := fun_mk (st := top 16) l11 c11 k11
  have b11 := F11.binds (ps := ["_law_thing"]) fun _ _ _ _ _ _ us hl => match us, hl with | [_], _ => rfl
  have F12 := fun_mk (st := top 17) l12 c12 k12
  let CT : Cls := ⟨fun _ => 0, l.prog, w⟩
  refine ⟨PySem.W.fnOf "law" "law" (defArgs (top 17)) (defBody (top 17)) (defScope (top 17)) .none kV12 dc12 pm12 an12 cd12 ct12, CT, fun s v => .of_eq rfl, fun base _ _ => ?_⟩
  have S0 : FnsOk l.prog w K mg base (nm [] 0) G CT 0 := .none rfl
  have R0 : FnG l.prog w K mg base 1 f0 _ ["_law_script", "_law_k"] (liftF K CT spHand) := fng_of (n := nm N_law_hand_v2 0) (body := t_law_hand_v2) F0 q_law_hand_v2 rfl m_law_hand_v2 ⟨rfl, rfl⟩ (S0.same rfl rfl) (ExsOk.none rfl) (GB _ _) (KepK.none rfl rfl) (fun _ _ _ _ _ s => v_law_hand_v2 s)
  have S1 : FnsOk l.prog w K mg base (nm [] 1) G CT 1 := (S0.mono (by decide)).snoc (x := "_law_hand") rfl rfl (PySem.W.mg_of X NG a0) k0 R0 (bind_pos b0 (by decide +kernel))
  have R1 : FnG l.prog w K mg base 2 f1 _ ["_law_hand_here", "_law_many"] (liftF K CT spTake) := fng_of (n := nm N_law_take 1) (body := t_law_take) F1 q_law_take rfl m_law_take ⟨rfl, rfl⟩ (S1.same rfl rfl) (ExsOk.none rfl) (GB _ _) (KepK.none rfl rfl) (fun _ _ _ _ _ s => v_law_take s)
  have S2 : FnsOk l.prog w K mg base (nm [] 2) G CT 2 := (S1.mono (by decide)).snoc (x := "_law_take") rfl rfl (PySem.W.mg_of X NG a1) k1 R1 (bind_pos b1 (by decide +kernel))
  have R2 : FnG l.prog w K mg base 3 f2 _ ["_law_hand_here", "_law_some"] (liftF K CT spOf) := fng_of (n := nm N_law_of 2) (body := t_law_of) F2 q_law_of rfl m_law_of ⟨rfl, rfl⟩ (S2.same rfl rfl) (ExsOk.none rfl) (GB _ _) (KepK.none rfl rfl) (fun _ _ _ _ _ s => v_law_of s)
  have S3 : FnsOk l.prog w K mg base (nm [] 3) G CT 3 := (S2.mono (by decide)).snoc (x := "_law_of") rfl rfl (PySem.W.mg_of X NG a2) k2 R2 (bind_pos b2 (by decide +kernel))
  have R3 : FnG l.prog w K mg base 4 f3 _ ["_law_hand_here", "_law_many"] (liftF K CT spLetters) := fng_of (n := nm N_law_letters 3) (body := t_law_letters) F3 q_law_letters rfl m_law_letters ⟨rfl, rfl⟩ (S3.same rfl rfl) (ExsOk.none rfl) (GB _ _) (KepK.none rfl rfl) (fun _ _ _ _ _ s => v_law_letters s)
  have S4 : FnsOk l.prog w K mg base (nm [] 4) G CT 4 := (S3.mono (by decide)).snoc (x := "_law_letters") rfl rfl (PySem.W.mg_of X NG a3) k3 R3 (bind_pos b3 (by decide +kernel))
  have R4 : FnG l.prog w K mg base 5 f4 _ ["_law_hand_here", "_law_one"] (liftF K CT spOdd) := fng_of (n := nm N_law_odd 4) (body := t_law_odd) F4 q_law_odd rfl m_law_odd ⟨rfl, rfl⟩ (S4.same rfl rfl) (ExsOk.none rfl) (GB _ _) (KepK.none rfl rfl) (fun _ _ _ _ _ s => v_law_odd s)
  have S5 : FnsOk l.prog w K mg base (nm [] 5) G CT 5 := (S4.mono (by decide)).snoc (x := "_law_odd") rfl rfl (PySem.W.mg_of X NG a4) k4 R4 (bind_pos b4 (by decide +kernel))
  have R5 : FnG l.prog w K mg base 8 f5 _ ["_law_hand_here", "_law_one", "_law_deep"] (liftF K CT spBent) := rec_all (rec_fn (n' := nm [] 6) (x := "_law_bent") (F := spBentF) S5 rfl rfl (PySem.W.mg_of X NG a5) k5 (bind_pos b5 (by decide +kernel)) (fun d k' _ S' => fng_of (n := nm N_law_bent 6) (body := t_law_bent) F5 q_law_bent rfl m_law_bent ⟨rfl, rfl⟩ (S'.same rfl rfl) (ExsOk.none rfl) (GB _ _) (KepK.none rfl rfl) (fun _ _ _ _ _ s => v_law_bent s))) 2
  have S6 : FnsOk l.prog w K mg base (nm [] 6) G CT 8 := (S5.mono (by decide)).snoc (x := "_law_bent") rfl rfl (PySem.W.mg_of X NG a5) k5 R5 (bind_pos b5 (by decide +kernel))
  have R6 : FnG l.prog w K mg base 9 f6 _ ["_law_hand_here"] (liftF K CT spString) := fng_of (n := nm N_law_string 6) (body := t_law_string) F6 q_law_string rfl m_law_string ⟨rfl, rfl⟩ (S6.same rfl rfl) (ExsOk.none rfl) (GB _ _) (KepK.none rfl rfl) (fun _ _ _ _ _ s => v_law_string s)
  have S7 : FnsOk l.prog w K mg base (nm [] 7) G CT 9 := (S6.mono (by decide)).snoc (x := "_law_string") rfl rfl (PySem.W.mg_of X NG a6) k6 R6 (bind_pos b6 (by decide +kernel))
  have R7 : FnG l.prog w K mg base 10 f7 _ ["value"] (liftF K CT spSymD) := fng_of (n := nm N_is_symbol 7) (body := t_is_symbol) F7 q_is_symbol rfl m_is_symbol ⟨rfl, rfl⟩ (S7.same rfl rfl) (ExsOk.none rfl) (GB _ _) (KepK.none rfl rfl) (fun _ _ _ _ _ s => v_is_symbol s)
  have S8 : FnsOk l.prog w K mg base (nm [] 8) G CT 10 := (S7.mono (by decide)).snoc (x := "is_symbol") rfl rfl (PySem.W.mg_of X NG a7) k7 R7 (bind_all [(7, 0, ["value"], [0]), (7, 1, [], [0])] (by decide +kernel) (kw_cons ⟨rfl, fun s us ws _ hu hw => match us, ws, hu, hw with | [], [_], _, _ => .of_eq rfl⟩ (kw_cons ⟨rfl, fun s us ws _ hu hw => match us, ws, hu, hw with | [_], [], _, _ => .of_eq rfl⟩ kw_nil)))
  have R8 : FnG l.prog w K mg base 11 f8 _ ["value"] (liftF K CT spWordD) := fng_of (n := nm N_is_word 8) (body := t_is_word) F8 q_is_word rfl m_is_word ⟨rfl, rfl⟩ (S8.same rfl rfl) (ExsOk.none rfl) (GB _ _) (KepK.none rfl rfl) (fun _ _ _ _ _ s => v_is_word s)
  have S9 : FnsOk l.prog w K mg base (nm [] 9) G CT 11 := (S8.mono (by decide)).snoc (x := "is_word") rfl rfl (PySem.W.mg_of X NG a8) k8 R8 (bind_all [(8, 0, ["value"], [0]), (8, 1, [], [0])] (by decide +kernel) (kw_cons ⟨rfl, fun s us ws _ hu hw => match us, ws, hu, hw with | [], [_], _, _ => .of_eq rfl⟩ (kw_cons ⟨rfl, fun s us ws _ hu hw => match us, ws, hu, hw with | [_], [], _, _ => .of_eq rfl⟩ kw_nil)))
  have R9 : FnG l.prog w K mg base 12 f9 _ ["_law_thing"] (liftF K CT spSymD) := fng_of (n := nm N_law_is_symbol 9) (body := t_law_is_symbol) F9 q_law_is_symbol rfl m_law_is_symbol ⟨rfl, rfl⟩ (S9.same rfl rfl) (ExsOk.none rfl) (GB _ _) (KepK.none rfl rfl) (fun _ _ _ _ _ s => v_law_is_symbol s)
  have S10 : FnsOk l.prog w K mg base (nm [] 10) G CT 12 := (S9.mono (by decide)).snoc (x := "_law_is_symbol") rfl rfl (PySem.W.mg_of X NG a9) k9 R9 (bind_pos b9 (by decide +kernel))
  have R10 : FnG l.prog w K mg base 13 f10 _ ["_law_thing"] (liftF K CT spWordD) := fng_of (n := nm N_law_is_row 10) (body := t_law_is_row) F10 q_law_is_row rfl m_law_is_row ⟨rfl, rfl⟩ (S10.same rfl rfl) (ExsOk.none rfl) (GB _ _) (KepK.none rfl rfl) (fun _ _ _ _ _ s => v_law_is_row s)
  have S11 : FnsOk l.prog w K mg base (nm [] 11) G CT 13 := (S10.mono (by decide)).snoc (x := "_law_is_row") rfl rfl (PySem.W.mg_of X NG a10) k10 R10 (bind_pos b10 (by decide +kernel))
  have R11 : FnG l.prog w K mg base 14 f11 _ ["_law_thing"] (liftF K CT spRight01) := fng_of (n := nm N_law_right_v10 11) (body := t_law_right_v10) F11 q_law_right_v10 rfl m_law_right_v10 ⟨rfl, rfl⟩ (S11.same rfl rfl) (ExsOk.none rfl) (GB _ _) (KepK.none rfl rfl) (fun _ _ _ _ _ s => v_law_right_v10 s)
  have S12 : FnsOk l.prog w K mg base (nm [] 12) G CT 14 := (S11.mono (by decide)).snoc (x := "_law_right") rfl rfl (PySem.W.mg_of X NG a11) k11 R11 (bind_pos b11 (by decide +kernel))
  have R12 : FnG l.prog w K mg base 15 fa _ ["_law_script"] (liftF K CT spLaw) := fng_of (n := nm N_law_v5 12) (body := t_law_v5) F12 q_law_v5 rfl m_law_v5 ⟨rfl, rfl⟩ (S12.same rfl rfl) (ExsOk.none rfl) (GB _ _) (KepK.none rfl rfl) (fun _ _ _ _ _ s => v_law_v5 s)
  exact R12
end MPL
open PySem PySem.W PyProof.Rows
set_option maxHeartbeats 0 in
theorem PySem.Challenge.cw_surenext_k01_symbols_and_words_of_any_va_holds : PySem.Challenge.rw_surenext_k01_symbols_and_words_of_any_va.Holds := by
  w_on
  o_law
  k_head
  (case hw => w_witness2)
  k_fill
  refine MP.walk_law (l := PySem.Challenge.rw_surenext_k01_symbols_and_words_of_any_va) (sp := MP.spLaw) (k := 15) (n := 63) (x := "_law_script") rfl (by decide) rfl ⟨rfl, by decide, by decide⟩ (fun w h Y => PySem.W.kIn_of Y) (fun ns hl => ⟨ns, rfl, hl, fun _ => rfl⟩) ?F
  case F =>
    intro w mg fa h KX G hmg
    refine' MPL.all_mk KX G hmg ?a0 ?l0 ?c0 ?k0 ?a1 ?l1 ?c1 ?k1 ?a2 ?l2 ?c2 ?k2 ?a3 ?l3 ?c3 ?k3 ?a4 ?l4 ?c4 ?k4 ?a5 ?l5 ?c5 ?k5 ?a6 ?l6 ?c6 ?k6 ?a7 ?l7 ?c7 ?k7 ?a8 ?l8 ?c8 ?k8 ?a9 ?l9 ?c9 ?k9 ?a10 ?l10 ?c10 ?k10 ?a11 ?l11 ?c11 ?k11 ?a12 ?l12 ?c12 ?k12 ?z0 ?z1 ?z2 ?z3 ?z4 ?z5 ?z6 ?z7 ?z8 ?z9 ?z10 ?z11 ?y0 ?yr0 ?y1 ?yr1 ?y2 ?yr2
    (case a0 => k_is); (case l0 => k_is); (case c0 => k_is); (case k0 => k_is)
    (case a1 => k_is); (case l1 => k_is); (case c1 => k_is); (case k1 => k_is)
    (case a2 => k_is); (case l2 => k_is); (case c2 => k_is); (case k2 => k_is)
    (case a3 => k_is); (case l3 => k_is); (case c3 => k_is); (case k3 => k_is)
    (case a4 => k_is); (case l4 => k_is); (case c4 => k_is); (case k4 => k_is)
    (case a5 => k_is); (case l5 => k_is); (case c5 => k_is); (case k5 => k_is)
    (case a6 => k_is); (case l6 => k_is); (case c6 => k_is); (case k6 => k_is)
    (case a7 => k_is); (case l7 => k_is); (case c7 => k_is); (case k7 => k_is)
    (case a8 => k_is); (case l8 => k_is); (case c8 => k_is); (case k8 => k_is)
    (case a9 => k_is); (case l9 => k_is); (case c9 => k_is); (case k9 => k_is)
    (case a10 => k_is); (case l10 => k_is); (case c10 => k_is); (case k10 => k_is)
    (case a11 => k_is); (case l11 => k_is); (case c11 => k_is); (case k11 => k_is)
    (case a12 => k_is); (case l12 => k_is); (case c12 => k_is); (case k12 => k_is)
    (case z0 => k_is)
    (case z1 => k_is)
    (case z2 => k_is)
    (case z3 => k_is)
    (case z4 => k_is)
    (case z5 => k_is)
    (case z6 => k_is)
    (case z7 => k_is)
    (case z8 => k_is)
    (case z9 => k_is)
    (case z10 => k_is)
    (case z11 => k_is)
    (case y0 => k_is)
    (case yr0 => exact fun H be => ⟨L2.V.str _, ⟨_, rfl⟩, by simp only [MP.IsD]⟩)
    (case y1 => k_is)
    (case yr1 => exact fun H be => ⟨L2.V.int _, ⟨_, rfl⟩, by simp only [MP.IsD]⟩)
    (case y2 => k_is)
    (case yr2 => exact fun H be => ⟨L2.V.int _, ⟨_, rfl⟩, by simp only [MP.IsD]⟩)
