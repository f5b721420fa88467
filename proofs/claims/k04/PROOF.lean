import PyProof.Rows.All
import Wide.All
import OpenK.AllK
import Wide.FinOn
import HandS.ForMost
import HandS.Zip
import HandS.IsInst
import HandS.Wide
import HandS.TupAny
import HandS.TupMul
import HandS.SortInts
import HandS.Exc
import HandS.ExcInit
import HandS.ExcValue
import HandS.Lambda
import HandS.Deep
import HandS.Text
import PyProof.P3In
import KE.SortData
import HandS.Conv
import HandS.Style
import HandS.TupSets
import HandS.SetFor
import PyProof.ReprRoads
import HandS.Words
import HandS.Ends
import HandS.Strs
import HandS.ExcField
import KE.KExcIs
import HandS.Star
import HandS.More
import HandS.List
import PyProof.ReprLen
import PyProof.FitsInt
import PyProof.Rows.StrSplitJoin
import PyProof.Rows.StrFirst
import PyProof.Rows.StrSplitAre
import PyProof.Rows.StrItems
import PyProof.StrLawsTight
import PySem.Challenge.RW_nobodyleft_k04_rules_written_and_read_an
set_option autoImplicit false
/-! Which defs of the law make lambdas. -/
namespace NB
open PySem
def lamNames : List Str := ["_law_is_read", "_law_right", "law"]
end NB
set_option Elab.async false
set_option linter.all false
set_option maxRecDepth 100000
set_option maxHeartbeats 4000000
set_option autoImplicit false
/-! The data layer: data, what represents it, the state between two steps. -/
namespace NB
open PySem PySem.Spec PyProof.Rows L2

/-- data; pot: the law's own list of draws, opaque; scr: the script -/
inductive D where
  | non | bl (b : Bool) | int (i : Int) | str (s : Str) | tup (xs : List D) | lst (xs : List D) | pot | scr (ns : List Int)
  /-- an exception of the package, with its value -/
  | exc (c : Str) (v : D)
/-- a slot: nothing known, immutable data, a list of this frame's own -/
inductive Sl where
  | non | im (d : D) | ow (ds : List D)
/-- what an expression gives: data, or a new list that nobody else holds -/
inductive R where
  | im (d : D) | nw (ds : List D)
def R.d : R → D
  | .im d => d
  | .nw ds => .lst ds
/-- an operand: a slot that is read when the operation is done, or data -/
inductive Od where
  | sl (i : Nat) | va (d : D)

abbrev PA1 := Addr → Prop
abbrev St := L2.St

/-- a list of the written part -/
def KL (K : PySem.W.Frag) (a : Addr) (xs : List V) : Prop := ∃ (o : Obj) (its : Array Value) (n : Nat), K.lookup a = some o ∧ o.cls = .type "list" ∧ o.dict = none ∧ o.data = .seq its n ∧ its.size ≤ sizeLine ∧ Vals xs its.toList
/-! ### defs that make lambdas: their tables of code objects -/
def lamQ (x : Str) : Str := x ++ ".<locals>." ++ "<lambda>"
def tabsOf (K : PySem.W.Frag) : List (Addr × Str) := lamNames.filterMap fun x => (PySem.W.tabIn K x).map fun p => (p.2, lamQ x)
def Tb (K : PySem.W.Frag) (H : Hp) : Prop := LamX.Tabs (tabsOf K) H
/-- a class of the text -/
def ClsAt (K : PySem.W.Frag) (c : Str) (C : Addr) : Prop := PySem.W.nsIn K mainGlobals c = some (some (.ref C))
/-- an exception object of the class at C, its dict at x, at a -/
def ExV (C x a : Addr) : HO := .ext fun h => ∃ (oe : Obj) (vs : Array Value), h.get? a = some oe ∧ Zc (.ref C) (some x) oe ∧ oe.data = .fields vs
mutual
/-- v represents d in H; lists lie outside M -/
def Rp (K : PySem.W.Frag) (H : Hp) (P M : PA1) : D → V → Prop
  | .non, v => v = V.non
  | .bl b, v => v = V.bl b
  | .int i, v => v = V.int i
  | .str s, v => v = V.str s
  | .tup ds, v => ∃ a xs, v = V.ref a ∧ SqT K H a xs ∧ RpA K H P M ds xs
  | .lst ds, v => ∃ a xs, v = V.ref a ∧ ¬ M a ∧ H a = some (.lst xs) ∧ RpA K H P M ds xs
  | .pot, v => ∃ a, v = V.ref a ∧ P a
  | .scr ns, v => ∃ a, v = V.ref a ∧ ((∃ o, H a = some (.frz o (.lst (ns.map V.int)))) ∨ KL K a (ns.map V.int))
  | .exc c d, v => ∃ (a C x : Addr) (y : V), v = V.ref a ∧ ClsAt K c C ∧ H a = some (ExV C x a) ∧ H x = some (.xd [("value", y)]) ∧ Rp K H P M d y
def RpA (K : PySem.W.Frag) (H : Hp) (P M : PA1) : List D → List V → Prop
  | [], xs => xs = []
  | d :: ds, xs => ∃ x r, xs = x :: r ∧ Rp K H P M d x ∧ RpA K H P M ds r
end
/-- the same, but the outermost list may lie in M -/
def Rs (K : PySem.W.Frag) (H : Hp) (P M : PA1) : D → V → Prop
  | .lst ds, v => ∃ a xs, v = V.ref a ∧ H a = some (.lst xs) ∧ RpA K H P M ds xs
  | d, v => Rp K H P M d v

def isT : HO → Bool
  | .tbl _ => true
  | _ => false
/-- new over H0: nothing of it but a table, at most -/
def Nw (H0 : Hp) (a : Addr) : Prop := ∀ o, H0 a = some o → isT o = true
theorem nw_of {H0 : Hp} {a : Addr} (h : H0 a = none) : Nw H0 a := fun o e => by rw [h] at e; cases e
theorem Nw.no {H0 : Hp} {a : Addr} {o : HO} (h : Nw H0 a) (e : H0 a = some o) (t : isT o = false) : False := by
  rw [h o e] at t; cases t
/-- all but N is kept (tables may grow) -/
structure Kp (K : PySem.W.Frag) (N : PA1) (H H' : Hp) : Prop where
  go : ∀ a o, H a = some o → ¬ N a → H' a = some o ∨ isT o = true
  tb : Tb K H → Tb K H'
section
variable {K : PySem.W.Frag}
theorem Kp.refl {N : PA1} {H : Hp} : Kp K N H H := ⟨fun _ _ h _ => .inl h, id⟩
theorem Kp.of {N : PA1} {H H' : Hp} (h : ∀ a o, H a = some o → H' a = some o) : Kp K N H H' := ⟨fun a o e _ => .inl (h a o e), fun t => LamX.Tabs.ext t h⟩
/-- .. but lists -/
theorem Kp.but {N : PA1} {H H' : Hp} (hN : ∀ a, N a → ∃ xs, H a = some (.lst xs)) (h : ∀ a o, ¬ N a → H a = some o → H' a = some o) : Kp K N H H' := ⟨fun a o e n => .inl (h a o n e), fun t p hp => by
  obtain ⟨ps, h1, h2, h3⟩ := t p hp
  have nl : ∀ {a : Addr} {o : HO}, H a = some o → (∀ xs, o ≠ .lst xs) → ¬ N a := fun e q z => by
    obtain ⟨xs, e2⟩ := hN _ z
    rw [e] at e2
    exact q xs (Option.some.inj e2)
  refine ⟨ps, h _ _ (nl h1 fun xs z => by cases z) h1, h2, fun pos cv hc => ?_⟩
  obtain ⟨c, e1, e2⟩ := h3 pos cv hc
  exact ⟨c, e1, h _ _ (nl e2 fun xs z => by unfold LamX.CodeO at z; cases z) e2⟩⟩
theorem Kp.seq {N : PA1} {H H' : Hp} (k : Kp K N H H') {a : Addr} {o : HO} (h : H a = some o) (n : ¬ N a) (t : isT o = false) : H' a = some o := by
  rcases k.go a o h n with e | e
  · exact e
  · rw [t] at e; cases e
theorem Kp.mono {N N' : PA1} {H H' : Hp} (k : Kp K N H H') (h : ∀ a, N a → N' a) : Kp K N' H H' := ⟨fun a o e n => k.go a o e fun z => n (h a z), k.tb⟩
theorem Kp.trans {N N' : PA1} {H H1 H2 : Hp} (a : Kp K N H H1) (b : Kp K N' H1 H2) (h : ∀ x o, H x = Option.some o → N' x → N x ∨ isT o = true) : Kp K N H H2 := ⟨fun c o e n => by
  rcases a.go c o e n with e1 | t
  · by_cases hc : N' c
    · rcases h c o e hc with z | z
      · exact absurd z n
      · exact .inr z
    · exact b.go c o e1 hc
  · exact .inr t, fun t => b.tb (a.tb t)⟩
end

theorem RpA.length {K : PySem.W.Frag} {H : Hp} {P M : PA1} : ∀ {ds : List D} {xs : List V}, RpA K H P M ds xs → ds.length = xs.length
  | [], xs, h => by rw [RpA] at h; subst h; rfl
  | d :: ds, xs, h => by
    rw [RpA] at h
    obtain ⟨x, r, rfl, _, h2⟩ := h
    rw [List.length_cons, List.length_cons, RpA.length h2]
theorem RpA.nil {K : PySem.W.Frag} {H : Hp} {P M : PA1} : RpA K H P M [] [] := by rw [RpA]
theorem RpA.cons {K : PySem.W.Frag} {H : Hp} {P M : PA1} {d : D} {ds : List D} {x : V} {xs : List V} (a : Rp K H P M d x) (b : RpA K H P M ds xs) : RpA K H P M (d :: ds) (x :: xs) := by
  rw [RpA]; exact ⟨x, xs, rfl, a, b⟩
theorem RpA.cons_inv {K : PySem.W.Frag} {H : Hp} {P M : PA1} {d : D} {ds : List D} {xs : List V} (h : RpA K H P M (d :: ds) xs) : ∃ x r, xs = x :: r ∧ Rp K H P M d x ∧ RpA K H P M ds r := by
  rw [RpA] at h; exact h
theorem RpA.get {K : PySem.W.Frag} {H : Hp} {P M : PA1} : ∀ {ds : List D} {xs : List V} {i : Nat} {d : D}, RpA K H P M ds xs → ds[i]? = some d → ∃ x, xs[i]? = some x ∧ Rp K H P M d x
  | [], _, _, _, _, e => by simp at e
  | d :: ds, xs, 0, e, h, he => by
    obtain ⟨x, r, rfl, h1, _⟩ := h.cons_inv
    simp at he; subst he
    exact ⟨x, rfl, h1⟩
  | d :: ds, xs, i + 1, e, h, he => by
    obtain ⟨x, r, rfl, _, h2⟩ := h.cons_inv
    obtain ⟨y, h3, h4⟩ := RpA.get (i := i) h2 (by simpa using he)
    exact ⟨y, by simpa using h3, h4⟩
theorem RpA.get' {K : PySem.W.Frag} {H : Hp} {P M : PA1} {ds : List D} {xs : List V} {i : Nat} {x : V} (h : RpA K H P M ds xs) (e : xs[i]? = some x) : ∃ d, ds[i]? = some d ∧ Rp K H P M d x := by
  have hl := h.length
  have hi : i < xs.length := (List.getElem?_eq_some_iff.mp e).1
  have e2 : ds[i]? = some (ds[i]'(by omega)) := List.getElem?_eq_getElem (by omega)
  obtain ⟨y, h1, h2⟩ := h.get e2
  rw [e] at h1; cases h1
  exact ⟨_, e2, h2⟩
theorem RpA.append {K : PySem.W.Frag} {H : Hp} {P M : PA1} : ∀ {ds es : List D} {xs ys : List V}, RpA K H P M ds xs → RpA K H P M es ys → RpA K H P M (ds ++ es) (xs ++ ys)
  | [], _, xs, _, h, g => by
    rw [RpA] at h; subst h; exact g
  | d :: ds, es, xs, ys, h, g => by
    obtain ⟨x, r, rfl, h1, h2⟩ := h.cons_inv
    exact .cons h1 (RpA.append h2 g)
theorem RpA.take {K : PySem.W.Frag} {H : Hp} {P M : PA1} : ∀ {ds : List D} {xs : List V} (n : Nat), RpA K H P M ds xs → RpA K H P M (ds.take n) (xs.take n)
  | _, _, 0, _ => .nil
  | [], xs, n + 1, h => by rw [RpA] at h; subst h; exact .nil
  | d :: ds, xs, n + 1, h => by
    obtain ⟨x, r, rfl, h1, h2⟩ := h.cons_inv
    exact .cons h1 (RpA.take n h2)
theorem RpA.drop {K : PySem.W.Frag} {H : Hp} {P M : PA1} : ∀ {ds : List D} {xs : List V} (n : Nat), RpA K H P M ds xs → RpA K H P M (ds.drop n) (xs.drop n)
  | _, _, 0, h => h
  | [], xs, n + 1, h => by rw [RpA] at h; subst h; exact .nil
  | d :: ds, xs, n + 1, h => by
    obtain ⟨x, r, rfl, h1, h2⟩ := h.cons_inv
    exact RpA.drop n h2
theorem RpA.reverse {K : PySem.W.Frag} {H : Hp} {P M : PA1} : ∀ {ds : List D} {xs : List V}, RpA K H P M ds xs → RpA K H P M ds.reverse xs.reverse
  | [], xs, h => by rw [RpA] at h; subst h; exact .nil
  | d :: ds, xs, h => by
    obtain ⟨x, r, rfl, h1, h2⟩ := h.cons_inv
    rw [List.reverse_cons, List.reverse_cons]
    exact (RpA.reverse h2).append (.cons h1 .nil)
theorem RpA.eraseIdx {K : PySem.W.Frag} {H : Hp} {P M : PA1} {ds : List D} {xs : List V} (n : Nat) (h : RpA K H P M ds xs) : RpA K H P M (ds.eraseIdx n) (xs.eraseIdx n) := by
  rw [List.eraseIdx_eq_take_drop_succ, List.eraseIdx_eq_take_drop_succ]
  exact (h.take n).append (h.drop (n + 1))
theorem RpA.set {K : PySem.W.Frag} {H : Hp} {P M : PA1} : ∀ {ds : List D} {xs : List V} {d : D} {x : V} (n : Nat), RpA K H P M ds xs → Rp K H P M d x → RpA K H P M (ds.set n d) (xs.set n x)
  | [], xs, _, _, n, h, _ => by rw [RpA] at h; subst h; exact .nil
  | e :: ds, xs, d, x, 0, h, g => by
    obtain ⟨y, r, rfl, _, h2⟩ := h.cons_inv
    exact .cons g h2
  | e :: ds, xs, d, x, n + 1, h, g => by
    obtain ⟨y, r, rfl, h1, h2⟩ := h.cons_inv
    exact .cons h1 (RpA.set n h2 g)

/-- from one heap to a later one -/
structure Mo (K : PySem.W.Frag) (H H' : Hp) (P P' M M' : PA1) : Prop where
  /-- lists are kept outside M, tuples anywhere -/
  lst : ∀ a xs, ¬ M a → H a = some (.lst xs) → H' a = some (.lst xs)
  tup : ∀ a xs, Rd H a (.tup xs) → Rd H' a (.tup xs)
  frz : ∀ a o u, H a = some (.frz o u) → H' a = some (.frz o u)
  ext : ∀ a φ, H a = some (.ext φ) → H' a = some (.ext φ)
  xd : ∀ a fs, H a = some (.xd fs) → H' a = some (.xd fs)
  pot : ∀ a, P a → P' a
  mem : ∀ a xs, H a = some (.lst xs) → M' a → M a
mutual
theorem Rp.mo {K : PySem.W.Frag} {H H' : Hp} {P P' M M' : PA1} (m : Mo K H H' P P' M M') : ∀ {d : D} {v : V}, Rp K H P M d v → Rp K H' P' M' d v
  | .non, v, h => by rw [Rp] at h ⊢; exact h
  | .bl _, v, h => by rw [Rp] at h ⊢; exact h
  | .int _, v, h => by rw [Rp] at h ⊢; exact h
  | .str _, v, h => by rw [Rp] at h ⊢; exact h
  | .tup ds, v, h => by
    rw [Rp] at h ⊢
    obtain ⟨a, xs, e, h1, h2⟩ := h
    refine ⟨a, xs, e, ?_, RpA.mo m h2⟩
    rcases h1 with h1 | h1
    · exact .inl (m.tup a xs h1)
    · exact .inr h1
  | .lst ds, v, h => by
    rw [Rp] at h ⊢
    obtain ⟨a, xs, e, n, h1, h2⟩ := h
    exact ⟨a, xs, e, fun z => n (m.mem a xs h1 z), m.lst a xs n h1, RpA.mo m h2⟩
  | .pot, v, h => by
    rw [Rp] at h ⊢
    obtain ⟨a, e, h⟩ := h
    exact ⟨a, e, m.pot a h⟩
  | .scr ns, v, h => by
    rw [Rp] at h ⊢
    obtain ⟨a, e, h⟩ := h
    refine ⟨a, e, ?_⟩
    rcases h with ⟨o, h⟩ | h
    · exact .inl ⟨o, m.frz a o _ h⟩
    · exact .inr h
  | .exc c d, v, h => by
    rw [Rp] at h ⊢
    obtain ⟨a, C, x, y, e, hc, h1, h2, h3⟩ := h
    exact ⟨a, C, x, y, e, hc, m.ext a _ h1, m.xd x _ h2, Rp.mo m h3⟩
theorem RpA.mo {K : PySem.W.Frag} {H H' : Hp} {P P' M M' : PA1} (m : Mo K H H' P P' M M') : ∀ {ds : List D} {xs : List V}, RpA K H P M ds xs → RpA K H' P' M' ds xs
  | [], xs, h => by rw [RpA] at h ⊢; exact h
  | d :: ds, xs, h => by
    obtain ⟨x, r, rfl, h1, h2⟩ := h.cons_inv
    exact .cons (Rp.mo m h1) (RpA.mo m h2)
end
/-- N may have changed: lists, all within M -/
theorem Mo.of {K : PySem.W.Frag} {H H' : Hp} {P P' M M' N : PA1} (k : Kp K N H H') (hl : ∀ a, N a → ∃ xs, H a = some (.lst xs)) (hN : ∀ a, N a → M a) (hP : ∀ a, P a → P' a) (hM : ∀ a, M' a → M a ∨ Nw H a) : Mo K H H' P P' M M' where
  lst := fun a xs n h => k.seq h (fun z => n (hN a z)) rfl
  frz := fun a o u h => k.seq h (fun z => by
    obtain ⟨ys, e2⟩ := hl a z
    rw [h] at e2
    cases e2) rfl
  ext := fun a φ h => k.seq h (fun z => by
    obtain ⟨ys, e2⟩ := hl a z
    rw [h] at e2
    cases e2) rfl
  xd := fun a fs h => k.seq h (fun z => by
    obtain ⟨ys, e2⟩ := hl a z
    rw [h] at e2
    cases e2) rfl
  tup := fun a xs h => by
    have nn : ∀ o, H a = some o → (∀ ys, o ≠ .lst ys) → ¬ N a := fun o e q z => by
      obtain ⟨ys, e2⟩ := hl a z
      rw [e] at e2
      exact q ys (Option.some.inj e2)
    rcases h with h | ⟨o, h⟩
    · exact .inl (k.seq h (nn _ h fun ys z => by cases z) rfl)
    · exact .inr ⟨o, k.seq h (nn _ h fun ys z => by cases z) rfl⟩
  pot := hP
  mem := fun a xs h z => by
    rcases hM a z with q | q
    · exact q
    · exact (q.no h rfl).elim
theorem Mo.grow {K : PySem.W.Frag} {H H' : Hp} {P M : PA1} (k : Kp K (fun _ => False) H H') : Mo K H H' P P M M :=
  .of k (fun _ z => z.elim) (fun _ z => z.elim) (fun _ z => z) fun _ z => .inl z
theorem Mo.less {K : PySem.W.Frag} {H : Hp} {P M M' : PA1} (h : ∀ a, M' a → M a) : Mo K H H P P M M' :=
  .of (N := fun _ => False) Kp.refl (fun _ z => z.elim) (fun _ z => z.elim) (fun _ z => z) fun a z => .inl (h a z)

theorem Rp.rs {K : PySem.W.Frag} {H : Hp} {P M : PA1} {d : D} {v : V} (h : Rp K H P M d v) : Rs K H P M d v := by
  cases d with
  | lst ds =>
    rw [Rp] at h
    obtain ⟨a, xs, e, _, h1, h2⟩ := h
    exact ⟨a, xs, e, h1, h2⟩
  | _ => exact h

/-! ### the state between two steps -/
/-- what is fixed: F the foreign lists (their contents by HF), P0 H0 the entry of the frame, hd data held -/
structure Gh where
  F : PA1
  HF : Hp
  P0 : PA1
  H0 : Hp
  hd : List (D × V)
def Own (ρ : List Sl) (σ : St) (a : Addr) : Prop := ∃ (i : Nat) (ds : List D), ρ[i]? = some (.ow ds) ∧ σ[i]? = some (some (V.ref a))
def Mx (F P : PA1) (ρ : List Sl) (σ : St) : PA1 := fun a => F a ∨ P a ∨ Own ρ σ a
def PotAt (H : Hp) (t : Nat) (a : Addr) : Prop := ∃ i j k : Int, H a = some (.lst [.int i, .int j, .int k]) ∧ 0 ≤ i ∧ i < 10 ^ 300 ∧ 0 ≤ j ∧ j < 2 ^ 61 ∧ 0 ≤ k ∧ k ≤ t
theorem PotAt.mono {H : Hp} {t t' : Nat} {a : Addr} (h : PotAt H t a) (l : t ≤ t') : PotAt H t' a := by
  obtain ⟨i, j, k, e, h1, h2, h3, h4, h5, h6⟩ := h
  exact ⟨i, j, k, e, h1, h2, h3, h4, h5, by omega⟩

structure Sat (K : PySem.W.Frag) (G : Gh) (P : PA1) (ρ : List Sl) (t : Nat) (σ : St) (H : Hp) : Prop where
  len : ρ.length = σ.length
  im : ∀ (i : Nat) (d : D), ρ[i]? = some (.im d) → ∃ (v : V), σ[i]? = some (some v) ∧ Rp K H P (Mx G.F P ρ σ) d v
  ow : ∀ (i : Nat) (ds : List D), ρ[i]? = some (.ow ds) → ∃ (a : Addr) (xs : List V), σ[i]? = some (some (.ref a)) ∧ H a = some (.lst xs) ∧ RpA K H P (Mx G.F P ρ σ) ds xs ∧ ¬ G.F a ∧ ¬ P a ∧ Nw G.H0 a
  dj : ∀ (i j : Nat) (ds es : List D) (a : Addr), ρ[i]? = some (.ow ds) → ρ[j]? = some (.ow es) → σ[i]? = some (some (.ref a)) → σ[j]? = some (some (.ref a)) → i = j
  fo : ∀ a, G.F a → ∃ xs, G.HF a = some (.lst xs) ∧ H a = some (.lst xs)
  hd : ∀ p ∈ G.hd, Rp K H P (Mx G.F P ρ σ) p.1 p.2
  pt : ∀ a, P a → PotAt H t a
  p0 : ∀ a, G.P0 a → P a
  pn : ∀ a, P a → G.P0 a ∨ Nw G.H0 a
  kp : Kp K G.P0 G.H0 H
  fp : ∀ a, G.F a → ¬ P a
  tb : Tb K H

section
variable {K : PySem.W.Frag} {G : Gh} {P : PA1} {ρ : List Sl} {t : Nat} {σ : St} {H H' : Hp}
/-- what is in M is a list of H -/
theorem Sat.mlist (S : Sat K G P ρ t σ H) : ∀ a, Mx G.F P ρ σ a → ∃ xs, H a = some (.lst xs) := by
  rintro a (h | h | ⟨i, ds, h1, h2⟩)
  · obtain ⟨xs, _, e⟩ := S.fo a h
    exact ⟨xs, e⟩
  · obtain ⟨i, j, k, e, _⟩ := S.pt a h
    exact ⟨_, e⟩
  · obtain ⟨b, xs, e1, e2, _⟩ := S.ow i ds h1
    rw [h2] at e1
    cases e1
    exact ⟨xs, e2⟩
theorem Sat.h0 (S : Sat K G P ρ t σ H) {a : Addr} (h : Nw H a) : Nw G.H0 a := fun o e => by
  by_cases hp : G.P0 a
  · obtain ⟨i, j, k, e2, _⟩ := S.pt a (S.p0 a hp)
    exact (h.no e2 rfl).elim
  · rcases S.kp.go a o e hp with e2 | e2
    · exact h o e2
    · exact e2
/-- the heap has grown -/
theorem Sat.grow (S : Sat K G P ρ t σ H) (k : Kp K (fun _ => False) H H') : Sat K G P ρ t σ H' where
  len := S.len
  im := fun i d e => let ⟨v, h1, h2⟩ := S.im i d e; ⟨v, h1, h2.mo (.grow k)⟩
  ow := fun i ds e => let ⟨a, xs, h1, h2, h3, h4⟩ := S.ow i ds e; ⟨a, xs, h1, k.seq h2 id rfl, h3.mo (.grow k), h4⟩
  dj := S.dj
  fo := fun a h => let ⟨xs, e1, e2⟩ := S.fo a h; ⟨xs, e1, k.seq e2 id rfl⟩
  hd := fun p hp => (S.hd p hp).mo (.grow k)
  pt := fun a h => let ⟨i, j, l, e, r⟩ := S.pt a h; ⟨i, j, l, k.seq e id rfl, r⟩
  p0 := S.p0
  pn := S.pn
  kp := S.kp.trans k fun _ _ _ z => z.elim
  fp := S.fp
  tb := k.tb S.tb
def Gh.add (G : Gh) (a : Addr) (xs : List V) : Gh := { G with F := fun b => G.F b ∨ b = a, HF := upd G.HF a (.lst xs) }
def Gh.hold (G : Gh) (d : D) (v : V) : Gh := { G with hd := (d, v) :: G.hd }
def Gh.holds (G : Gh) (l : List (D × V)) : Gh := { G with hd := l ++ G.hd }
/-- a new list, foreign from now on -/
theorem Sat.add (S : Sat K G P ρ t σ H) {a : Addr} {xs : List V} (k : Kp K (fun _ => False) H H') (h0 : H a = none) (h1 : H' a = some (.lst xs)) : Sat K (G.add a xs) P ρ t σ H' := by
  have nm : ¬ Mx G.F P ρ σ a := fun z => by
    obtain ⟨ys, e⟩ := S.mlist a z
    rw [h0] at e; cases e
  have mo : Mo K H H' P P (Mx G.F P ρ σ) (Mx (G.add a xs).F P ρ σ) := .of k (fun _ z => z.elim) (fun _ z => z.elim) (fun _ z => z) fun b z => by
    rcases z with (z | z) | z
    · exact .inl (.inl z)
    · subst z; exact .inr (nw_of h0)
    · exact .inl (.inr z)
  refine ⟨S.len, fun i d e => ?_, fun i ds e => ?_, S.dj, fun b h => ?_, fun p hp => (S.hd p hp).mo mo, fun b h => ?_, S.p0, S.pn, S.kp.trans k fun _ _ _ z => z.elim, fun b h => ?_, k.tb S.tb⟩
  · obtain ⟨v, h1, h2⟩ := S.im i d e
    exact ⟨v, h1, h2.mo mo⟩
  · obtain ⟨b, ys, e1, e2, e3, e4, e5, e6⟩ := S.ow i ds e
    refine ⟨b, ys, e1, k.seq e2 id rfl, e3.mo mo, fun z => ?_, e5, e6⟩
    rcases z with z | z
    · exact e4 z
    · subst z; rw [h0] at e2; cases e2
  · rcases h with h | h
    · obtain ⟨ys, e1, e2⟩ := S.fo b h
      refine ⟨ys, ?_, k.seq e2 id rfl⟩
      show upd G.HF a _ b = _
      rw [upd_ne (fun z => by subst z; rw [h0] at e2; cases e2)]
      exact e1
    · subst h
      exact ⟨xs, upd_same, h1⟩
  · obtain ⟨i, j, l, e, r⟩ := S.pt b h
    exact ⟨i, j, l, k.seq e id rfl, r⟩
  · rcases h with h | h
    · exact S.fp b h
    · subst h
      intro z
      obtain ⟨i, j, l, e, _⟩ := S.pt b z
      rw [h0] at e; cases e
/-- the new list is data from now on -/
theorem Sat.less {a : Addr} {xs : List V} (S : Sat K (G.add a xs) P ρ t σ H) (hF : ∀ b, G.F b → b ≠ a) : Sat K G P ρ t σ H := by
  have mo : Mo K H H P P (Mx (G.add a xs).F P ρ σ) (Mx G.F P ρ σ) := .less fun b z => by
    rcases z with z | z
    · exact .inl (.inl z)
    · exact .inr z
  refine ⟨S.len, fun i d e => ?_, fun i ds e => ?_, S.dj, fun b h => ?_, fun p hp => (S.hd p hp).mo mo, S.pt, S.p0, S.pn, S.kp, fun b h => S.fp b (.inl h), S.tb⟩
  · obtain ⟨v, h1, h2⟩ := S.im i d e
    exact ⟨v, h1, h2.mo mo⟩
  · obtain ⟨b, ys, e1, e2, e3, e4, e5⟩ := S.ow i ds e
    exact ⟨b, ys, e1, e2, e3.mo mo, fun z => e4 (.inl z), e5⟩
  · obtain ⟨ys, e1, e2⟩ := S.fo b (.inl h)
    refine ⟨ys, ?_, e2⟩
    have e1 : upd G.HF a _ b = _ := e1
    rw [upd_ne (hF b h)] at e1
    exact e1
theorem Sat.hold (S : Sat K G P ρ t σ H) {d : D} {v : V} (h : Rp K H P (Mx G.F P ρ σ) d v) : Sat K (G.hold d v) P ρ t σ H :=
  ⟨S.len, S.im, S.ow, S.dj, S.fo, fun p hp => by
    rcases List.mem_cons.mp hp with e | e
    · subst e; exact h
    · exact S.hd p e, S.pt, S.p0, S.pn, S.kp, S.fp, S.tb⟩
theorem Sat.unhold {d : D} {v : V} (S : Sat K (G.hold d v) P ρ t σ H) : Sat K G P ρ t σ H ∧ Rp K H P (Mx G.F P ρ σ) d v :=
  ⟨⟨S.len, S.im, S.ow, S.dj, S.fo, fun p hp => S.hd p (List.mem_cons_of_mem _ hp), S.pt, S.p0, S.pn, S.kp, S.fp, S.tb⟩, S.hd (d, v) List.mem_cons_self⟩
theorem Sat.holds (S : Sat K G P ρ t σ H) {l : List (D × V)} (h : ∀ p ∈ l, Rp K H P (Mx G.F P ρ σ) p.1 p.2) : Sat K (G.holds l) P ρ t σ H :=
  ⟨S.len, S.im, S.ow, S.dj, S.fo, fun p hp => by
    rcases List.mem_append.mp hp with e | e
    · exact h p e
    · exact S.hd p e, S.pt, S.p0, S.pn, S.kp, S.fp, S.tb⟩
theorem Sat.unholds {l : List (D × V)} (S : Sat K (G.holds l) P ρ t σ H) : Sat K G P ρ t σ H ∧ ∀ p ∈ l, Rp K H P (Mx G.F P ρ σ) p.1 p.2 :=
  ⟨⟨S.len, S.im, S.ow, S.dj, S.fo, fun p hp => S.hd p (List.mem_append_right _ hp), S.pt, S.p0, S.pn, S.kp, S.fp, S.tb⟩, fun p hp => S.hd p (List.mem_append_left _ hp)⟩

/-! ### results -/
/-- the state behind an expression, and its value -/
def RS (K : PySem.W.Frag) (G : Gh) (P : PA1) (ρ : List Sl) (t : Nat) (σ : St) (H : Hp) : R → V → Prop
  | .im d, v => Sat K G P ρ t σ H ∧ Rp K H P (Mx G.F P ρ σ) d v
  | .nw ds, v => ∃ a xs, v = .ref a ∧ Sat K (G.add a xs) P ρ t σ H ∧ ¬ Mx G.F P ρ σ a ∧ Nw G.H0 a ∧ H a = some (.lst xs) ∧ RpA K H P (Mx (G.add a xs).F P ρ σ) ds xs
theorem RS.im {r : R} {v : V} (h : RS K G P ρ t σ H r v) : Sat K G P ρ t σ H ∧ Rp K H P (Mx G.F P ρ σ) r.d v := by
  cases r with
  | im d => exact h
  | nw ds =>
    obtain ⟨a, xs, rfl, S, nm, h0, e, ra⟩ := h
    refine ⟨S.less fun b hb z => by subst z; exact nm (.inl hb), ?_⟩
    show Rp K H P _ (.lst ds) _
    rw [Rp]
    exact ⟨a, xs, rfl, nm, e, ra.mo (.less fun b z => by
      rcases z with z | z
      · exact .inl (.inl z)
      · exact .inr z)⟩
/-- an operand's value: a slot's, or data -/
def RO (K : PySem.W.Frag) (G : Gh) (P : PA1) (ρ : List Sl) (t : Nat) (σ : St) (H : Hp) : Od → V → Prop
  | .sl i, v => Sat K G P ρ t σ H ∧ σ[i]? = some (some v)
  | .va d, v => Sat K G P ρ t σ H ∧ Rp K H P (Mx G.F P ρ σ) d v
@[simp] def rsv (ρ : List Sl) : Od → Option D
  | .va d => some d
  | .sl i => match ρ[i]? with
    | some (.im d) => some d
    | some (.ow ds) => some (.lst ds)
    | _ => none
theorem RO.sat {o : Od} {v : V} (h : RO K G P ρ t σ H o v) : Sat K G P ρ t σ H := by
  cases o <;> exact h.1
theorem rsv_ok {o : Od} {v : V} {d : D} (S : Sat K G P ρ t σ H) (h : RO K G P ρ t σ H o v) (e : rsv ρ o = some d) : Rs K H P (Mx G.F P ρ σ) d v := by
  cases o with
  | va x =>
    cases e
    exact h.2.rs
  | sl i =>
    have e : (match ρ[i]? with | some (.im d) => some d | some (.ow ds) => some (.lst ds) | _ => none) = some d := e
    have hv : σ[i]? = some (some v) := h.2
    split at e
    · rename_i x q
      cases e
      obtain ⟨v', h1, h2⟩ := S.im i _ q
      rw [hv] at h1; cases h1
      exact h2.rs
    · rename_i ds q
      cases e
      obtain ⟨a, xs, h1, h2, h3, _⟩ := S.ow i _ q
      rw [hv] at h1; cases h1
      exact ⟨a, xs, rfl, h2, h3⟩
    · cases e
end
end NB
set_option Elab.async false
set_option linter.all false
set_option maxRecDepth 100000
set_option maxHeartbeats 4000000
set_option autoImplicit false
/-! Readings by data: what an expression, a test, an argument list does to the state. -/
namespace NB
open PySem PySem.Spec PyProof.Rows L2

/-- what is wanted of an exception: its class, its value, the draws so far -/
abbrev KX := Str → D → Nat → Prop
/-- slots, draws, what is wanted behind -/
abbrev Wg (α : Type) := List Sl → Nat → (α → List Sl → Nat → Prop) → KX → Prop
abbrev W := Wg R
abbrev WO := Wg Od
/-- the state as a def is left -/
structure EndOk (K : PySem.W.Frag) (G : Gh) (P : PA1) (t : Nat) (H : Hp) : Prop where
  pt : ∀ a, P a → PotAt H t a
  p0 : ∀ a, G.P0 a → P a
  pn : ∀ a, P a → G.P0 a ∨ Nw G.H0 a
  kp : Kp K G.P0 G.H0 H
  tb : Tb K H
/-- an exception of the class c with the value v leaves as EX wants it -/
def Lk (K : PySem.W.Frag) (EX : XK) (G : Gh) (E : KX) : Prop := ∀ (c : Str) (v : D) (t : Nat) (P : PA1) (H : Hp) (C x : Addr) (y : V), E c v t → ClsAt K c C → EndOk K G P t H → H x = some (.xd [("value", y)]) → Rp K H P (fun a => G.F a ∨ P a) v y → EX (.ref C) (some x) H
section
variable {K : PySem.W.Frag} {EX : XK} {G : Gh} {E : KX}
theorem Lk.add {a : Addr} {xs : List V} (h : Lk K EX G E) : Lk K EX (G.add a xs) E := fun c v t P H C x y e hc ok hx r =>
  h c v t P H C x y e hc ⟨ok.pt, ok.p0, ok.pn, ok.kp, ok.tb⟩ hx (r.mo (.less fun b z => z.elim (fun z => .inl (.inl z)) .inr))
theorem Lk.hold {d : D} {v : V} (h : Lk K EX G E) : Lk K EX (G.hold d v) E := fun c v t P H C x y e hc ok hx r => h c v t P H C x y e hc ⟨ok.pt, ok.p0, ok.pn, ok.kp, ok.tb⟩ hx r
theorem Lk.holds {l : List (D × V)} (h : Lk K EX G E) : Lk K EX (G.holds l) E := fun c v t P H C x y e hc ok hx r => h c v t P H C x y e hc ⟨ok.pt, ok.p0, ok.pn, ok.kp, ok.tb⟩ hx r
/-- nothing is wanted -/
theorem Lk.no (h : ∀ c d t, ¬ E c d t) : Lk K EX G E := fun c v t _ _ _ _ _ e => (h c v t e).elim
end

abbrev Rel (α β : Type) := Gh → PA1 → List Sl → Nat → St → Hp → α → β → Prop
def Go {α β : Type} (K : PySem.W.Frag) (EX : XK) (R : Rel α β) (w : Wg α) : St → Hp → (β → Hp → Prop) → Prop := fun σ H Q =>
  ∃ (G : Gh) (P : PA1) (ρ : List Sl) (t : Nat) (Q' : α → List Sl → Nat → Prop) (E : KX), Sat K G P ρ t σ H ∧ w ρ t Q' E ∧ Lk K EX G E ∧
    ∀ r ρ' t' v H' P', Q' r ρ' t' → R G P' ρ' t' σ H' r v → Q v H'
/-- what is left to do: from the state behind the first part -/
def Rest {α β γ δ : Type} (K : PySem.W.Frag) (EX : XK) (R : Rel α β) (R2 : Rel γ δ) (k : α → Wg γ) (σ : St) (Q : δ → Hp → Prop) (x : β) (H : Hp) : Prop :=
  ∃ (G : Gh) (P : PA1) (ρ : List Sl) (t : Nat) (r : α) (Q' : γ → List Sl → Nat → Prop) (E : KX), R G P ρ t σ H r x ∧ k r ρ t Q' E ∧ Lk K EX G E ∧
    ∀ r2 ρ' t' v H' P', Q' r2 ρ' t' → R2 G P' ρ' t' σ H' r2 v → Q v H'
def bindW {α γ : Type} (w : Wg α) (k : α → Wg γ) : Wg γ := fun ρ t Q E => w ρ t (fun r ρ1 t1 => k r ρ1 t1 Q E) E
@[simp] def pureW {α : Type} (r : α) : Wg α := fun ρ t Q _ => Q r ρ t
theorem go_bind {α β γ δ : Type} {K : PySem.W.Frag} {EX : XK} {R : Rel α β} {R2 : Rel γ δ} {w : Wg α} {k : α → Wg γ} {σ : St} {H : Hp} {Q : δ → Hp → Prop}
    (h : Go K EX R2 (bindW w k) σ H Q) : Go K EX R w σ H (Rest K EX R R2 k σ Q) := by
  obtain ⟨G, P, ρ, t, Q', E, S, hw, lk, hq⟩ := h
  exact ⟨G, P, ρ, t, _, E, S, hw, lk, fun r ρ' t' v H' P' hr rel => ⟨G, P', ρ', t', r, Q', E, rel, hr, lk, hq⟩⟩

/-! ### judgements -/
/-- a value part of an operand -/
def ROv (K : PySem.W.Frag) (G : Gh) (P : PA1) (ρ : List Sl) (σ : St) (H : Hp) : Od → V → Prop
  | .sl i, v => σ[i]? = some (some v)
  | .va d, v => Rp K H P (Mx G.F P ρ σ) d v
theorem RO.iff {K : PySem.W.Frag} {G : Gh} {P : PA1} {ρ : List Sl} {t : Nat} {σ : St} {H : Hp} {o : Od} {v : V} : RO K G P ρ t σ H o v ↔ Sat K G P ρ t σ H ∧ ROv K G P ρ σ H o v := by
  cases o <;> exact Iff.rfl
def holdO (G : Gh) : Od → V → Gh
  | .sl _, _ => G
  | .va d, v => G.hold d v
def RT (K : PySem.W.Frag) : Rel Bool Bool := fun G P ρ t σ H r v => Sat K G P ρ t σ H ∧ r = v
def RA (K : PySem.W.Frag) : Rel (List D) (List V) := fun G P ρ t σ H r v => Sat K G P ρ t σ H ∧ RpA K H P (Mx G.F P ρ σ) r v
def ROA (K : PySem.W.Frag) : Rel (List Od) (List V) := fun G P ρ t σ H r v => Sat K G P ρ t σ H ∧ Paired (ROv K G P ρ σ H) r v

abbrev DE (X : Cx) (EX : XK) (e : Expr) (w : W) : Prop := PE X e (Go X.K EX (RS X.K) w)
abbrev DO (X : Cx) (EX : XK) (e : Expr) (w : WO) : Prop := PE X e (Go X.K EX (RO X.K) w)
abbrev DT (X : Cx) (EX : XK) (e : Expr) (w : Wg Bool) : Prop := PT X e (Go X.K EX (RT X.K) w)
abbrev DA (X : Cx) (EX : XK) (es : List Expr) (w : Wg (List D)) : Prop := PA X es (Go X.K EX (RA X.K) w)
abbrev DOA (X : Cx) (EX : XK) (es : List Expr) (w : Wg (List Od)) : Prop := PA X es (Go X.K EX (ROA X.K) w)

theorem PE.imp {X : Cx} {e : Expr} {t t' : TE} (h : PE X e t) (i : ∀ σ H Q, t' σ H Q → t σ H Q) : PE X e t' := ⟨fun pins s σ H Q I q => h.run pins s σ H Q I (i σ H Q q)⟩
theorem PT.imp {X : Cx} {e : Expr} {t t' : TT} (h : PT X e t) (i : ∀ σ H Q, t' σ H Q → t σ H Q) : PT X e t' := ⟨fun pins s σ H Q I q => h.run pins s σ H Q I (i σ H Q q)⟩
theorem PA.imp {X : Cx} {e : List Expr} {t t' : TA} (h : PA X e t) (i : ∀ σ H Q, t' σ H Q → t σ H Q) : PA X e t' := ⟨fun pos pins s σ H Q I q => h.run pos pins s σ H Q I (i σ H Q q)⟩

section
variable {K : PySem.W.Frag} {EX : XK} {G : Gh} {P P' : PA1} {ρ ρ' : List Sl} {t t' : Nat} {σ : St} {H H' : Hp} {o : Od} {x v : V} {d : D}
theorem RO.hold (h : RO K G P ρ t σ H o x) : Sat K (holdO G o x) P ρ t σ H := by
  cases o with
  | sl i => exact h.1
  | va d => exact h.1.hold h.2
theorem RO.back (h : RO K G P ρ t σ H o x) (S : Sat K (holdO G o x) P' ρ' t' σ H') : Sat K G P' ρ' t' σ H' ∧ RO K G P' ρ' t' σ H' o x := by
  cases o with
  | sl i => exact ⟨S, S, h.2⟩
  | va d =>
    obtain ⟨S', r⟩ := S.unhold
    exact ⟨S', S', r⟩
theorem Lk.holdO {E : KX} (h : Lk K EX G E) : Lk K EX (holdO G o x) E := by
  cases o
  · exact h
  · exact h.hold
theorem holdO_F : (holdO G o x).F = G.F := by cases o <;> rfl
/-- behind a second part under the first one's hold: an operand -/
theorem RO.back2 {o2 : Od} {y : V} (h : RO K G P ρ t σ H o x) (h2 : RO K (holdO G o x) P' ρ' t' σ H' o2 y) : Sat K G P' ρ' t' σ H' ∧ RO K G P' ρ' t' σ H' o x ∧ RO K G P' ρ' t' σ H' o2 y := by
  obtain ⟨S, r⟩ := h.back h2.sat
  refine ⟨S, r, ?_⟩
  cases o2 with
  | sl i => exact ⟨S, h2.2⟩
  | va d =>
    have q := h2.2
    rw [holdO_F] at q
    exact ⟨S, q⟩
end

/-! ### operations on values, by data -/
/-- what an operation gives: data of the grown heap, or a list that is new -/
def Rz (K : PySem.W.Frag) (H H' : Hp) (P M : PA1) : R → V → Prop
  | .im d, z => Rp K H' P M d z
  | .nw ds, z => ∃ a xs, z = .ref a ∧ H a = none ∧ H' a = some (.lst xs) ∧ RpA K H' P (fun b => M b ∨ b = a) ds xs
def Ml (H : Hp) (M : PA1) : Prop := ∀ a, M a → ∃ xs, H a = some (.lst xs)
theorem rz_rs {K : PySem.W.Frag} {G : Gh} {P : PA1} {ρ : List Sl} {t : Nat} {σ : St} {H H' : Hp} {r : R} {z : V} (S : Sat K G P ρ t σ H) (k : Kp K (fun _ => False) H H') (h : Rz K H H' P (Mx G.F P ρ σ) r z) : RS K G P ρ t σ H' r z := by
  cases r with
  | im d => exact ⟨S.grow k, h⟩
  | nw ds =>
    obtain ⟨a, xs, rfl, h0, h1, ra⟩ := h
    refine ⟨a, xs, rfl, S.add k h0 h1, fun z => ?_, S.h0 (nw_of h0), h1, ra.mo (.less fun b z => ?_)⟩
    · obtain ⟨ys, e⟩ := S.mlist a z
      rw [h0] at e; cases e
    · rcases z with (z | z) | z
      · exact .inl (.inl z)
      · exact .inr z
      · exact .inl (.inr z)
abbrev R1D := D → Option R
abbrev R2D := D → D → Option R
abbrev RND := List D → Option R
def Fit (K : PySem.W.Frag) (H : Hp) (P M : PA1) (r : Option R) (Q : VK) : Prop := ∃ r', r = some r' ∧ ∀ z H', Kp K (fun _ => False) H H' → Rz K H H' P M r' z → Q z H'
def Op2 (X : Cx) (f : Value → Value → Sem Value) (g : R2D) : Prop := OpR X f fun x y H Q => ∃ (P M : PA1) (d e : D), Rs X.K H P M d x ∧ Rs X.K H P M e y ∧ Ml H M ∧ Fit X.K H P M (g d e) Q
def Op1 (X : Cx) (f : Value → Sem Value) (g : R1D) : Prop := UnR X f fun x H Q => ∃ (P M : PA1) (d : D), Rs X.K H P M d x ∧ Ml H M ∧ Fit X.K H P M (g d) Q
def OpN (X : Cx) (f : List Value → Sem Value) (g : RND) : Prop :=
  ∀ (pins : List (Addr × Obj)) (s : Shared) (σ : St) (H : Hp) (xs : List V) (us : List Value) (Q : VK) (P M : PA1) (ds : List D), Inv X pins σ H s → Vals xs us → Paired (Rs X.K H P M) ds xs → Ml H M → Fit X.K H P M (g ds) Q →
    wpAny (model X.prog X.w) X.A (f us) (EP X pins σ Q) X.xe s

@[simp] def op2W (g : R2D) (a b : WO) : W := fun ρ t Q E => a ρ t (fun x ρ1 t1 => b ρ1 t1 (fun y ρ2 t2 => ∃ d e r, rsv ρ2 x = some d ∧ rsv ρ2 y = some e ∧ g d e = some r ∧ Q r ρ2 t2) E) E
@[simp] def op1W (g : R1D) (a : WO) : W := fun ρ t Q E => a ρ t (fun x ρ1 t1 => ∃ d r, rsv ρ1 x = some d ∧ g d = some r ∧ Q r ρ1 t1) E
@[simp] def rsvs (ρ : List Sl) : List Od → Option (List D)
  | [] => some []
  | o :: os => match rsv ρ o, rsvs ρ os with
    | some d, some ds => some (d :: ds)
    | _, _ => none
@[simp] def opNW (g : RND) (a : Wg (List Od)) : W := fun ρ t Q E => a ρ t (fun x ρ1 t1 => ∃ ds r, rsvs ρ1 x = some ds ∧ g ds = some r ∧ Q r ρ1 t1) E

section
variable {X : Cx} {EX : XK} {a b c : Expr} {pos : Pos} {wa wb wc : WO} {σ : St} {H : Hp} {Q : VK}
theorem op2_read {g : R2D} (h : Go X.K EX (RS X.K) (op2W g wa wb) σ H Q) :
    Go X.K EX (RO X.K) wa σ H fun x H1 => Go X.K EX (RO X.K) wb σ H1 fun y H2 => ∃ (P M : PA1) (d e : D), Rs X.K H2 P M d x ∧ Rs X.K H2 P M e y ∧ Ml H2 M ∧ Fit X.K H2 P M (g d e) Q := by
  obtain ⟨G, P, ρ, t, Q', E, S, hw, lk, hq⟩ := h
  refine ⟨G, P, ρ, t, _, E, S, hw, lk, fun o ρ1 t1 x H1 P1 h1 r1 => ?_⟩
  refine ⟨holdO G o x, P1, ρ1, t1, _, E, r1.hold, h1, lk.holdO, fun o2 ρ2 t2 y H2 P2 h2 r2 => ?_⟩
  obtain ⟨d, e, r, e1, e2, e3, q⟩ := h2
  obtain ⟨S2, q1, q2⟩ := r1.back2 r2
  refine ⟨P2, Mx G.F P2 ρ2 σ, d, e, rsv_ok S2 q1 e1, rsv_ok S2 q2 e2, S2.mlist, r, e3, fun z H' k rz => ?_⟩
  exact hq r ρ2 t2 z H' P2 q (rz_rs S2 k rz)
theorem op1_read {g : R1D} (h : Go X.K EX (RS X.K) (op1W g wa) σ H Q) :
    Go X.K EX (RO X.K) wa σ H fun x H1 => ∃ (P M : PA1) (d : D), Rs X.K H1 P M d x ∧ Ml H1 M ∧ Fit X.K H1 P M (g d) Q := by
  obtain ⟨G, P, ρ, t, Q', E, S, hw, lk, hq⟩ := h
  refine ⟨G, P, ρ, t, _, E, S, hw, lk, fun o ρ1 t1 x H1 P1 h1 r1 => ?_⟩
  obtain ⟨d, r, e1, e3, q⟩ := h1
  have S1 := r1.sat
  exact ⟨P1, Mx G.F P1 ρ1 σ, d, rsv_ok S1 r1 e1, S1.mlist, r, e3, fun z H' k rz => hq r ρ1 t1 z H' P1 q (rz_rs S1 k rz)⟩
theorem rsvs_ok {K : PySem.W.Frag} {G : Gh} {P : PA1} {ρ : List Sl} {t : Nat} {σ : St} {H : Hp} (S : Sat K G P ρ t σ H) : ∀ {os : List Od} {vs : List V} {ds : List D}, Paired (ROv K G P ρ σ H) os vs → rsvs ρ os = some ds → Paired (Rs K H P (Mx G.F P ρ σ)) ds vs
  | _, _, ds, .nil, e => by
    cases e
    exact .nil
  | o :: os, _, ds, .cons r p, e => by
    rw [rsvs] at e
    split at e
    · rename_i d ds' e1 e2
      cases e
      exact .cons (rsv_ok S (RO.iff.mpr ⟨S, r⟩) e1) (rsvs_ok S p e2)
    · cases e
theorem opN_read {g : RND} {w : Wg (List Od)} (h : Go X.K EX (RS X.K) (opNW g w) σ H Q) :
    Go X.K EX (ROA X.K) w σ H fun xs H1 => ∃ (P M : PA1) (ds : List D), Paired (Rs X.K H1 P M) ds xs ∧ Ml H1 M ∧ Fit X.K H1 P M (g ds) Q := by
  obtain ⟨G, P, ρ, t, Q', E, S, hw, lk, hq⟩ := h
  refine ⟨G, P, ρ, t, _, E, S, hw, lk, fun os ρ1 t1 xs H1 P1 h1 r1 => ?_⟩
  obtain ⟨ds, r, e1, e3, q⟩ := h1
  obtain ⟨S1, p1⟩ := r1
  exact ⟨P1, Mx G.F P1 ρ1 σ, ds, rsvs_ok S1 p1 e1, S1.mlist, r, e3, fun z H' k rz => hq r ρ1 t1 z H' P1 q (rz_rs S1 k rz)⟩

theorem de_bin {op : Operator} {g : R2D} (ho : Op2 X (binaryOp op) g) (ha : DO X EX a wa) (hb : DO X EX b wb) : DE X EX (.BinOp a op b pos) (op2W g wa wb) :=
  PE.imp (pe_op ho ha hb) fun _ _ _ h => op2_read h
theorem de_un {op : UnaryOp} {g : R1D} (ho : Op1 X (unaryOp op) g) (ha : DO X EX a wa) : DE X EX (.UnaryOp op a pos) (op1W g wa) :=
  PE.imp (pe_un ho ha) fun _ _ _ h => op1_read h
theorem de_cmp {op : CmpOp} {g : R2D} (ho : Op2 X (compareOp op) g) (ha : DO X EX a wa) (hb : DO X EX b wb) (hm : behindInMarks op b = false) : DE X EX (.Compare a [op] [b] pos) (op2W g wa wb) :=
  PE.imp (pe_cmpR ho ha hb hm) fun _ _ _ h => op2_read h
/-- a bool as a test -/
@[simp] def testW (w : W) : Wg Bool := fun ρ t Q E => w ρ t (fun r ρ1 t1 => ∃ b, r = .im (.bl b) ∧ Q b ρ1 t1) E
theorem test_read {w : W} {QT : Bool → Hp → Prop} (h : Go X.K EX (RT X.K) (testW w) σ H QT) : Go X.K EX (RS X.K) w σ H fun x H' => ∃ k, x = .bl k ∧ QT k H' := by
  obtain ⟨G, P, ρ, t, Q', E, S, hw, lk, hq⟩ := h
  refine ⟨G, P, ρ, t, _, E, S, hw, lk, fun r ρ1 t1 x H1 P1 h1 r1 => ?_⟩
  obtain ⟨k, rfl, q⟩ := h1
  obtain ⟨S1, e⟩ := r1
  rw [Rp] at e
  exact ⟨k, e, hq k ρ1 t1 k H1 P1 q ⟨S1, rfl⟩⟩
theorem dt_cmp {op : CmpOp} {g : R2D} (ho : Op2 X (compareOp op) g) (ha : DO X EX a wa) (hb : DO X EX b wb) (hm : behindInMarks op b = false) : DT X EX (.Compare a [op] [b] pos) (testW (op2W g wa wb)) :=
  PT.imp (pt_cmpR ho ha hb hm) fun _ _ _ h => op2_read (test_read h)
/-- two comparisons, the middle one asked once -/
@[simp] def chainW (g g' : R2D) (a b c : WO) : W := fun ρ t Q E => a ρ t (fun x ρ1 t1 => b ρ1 t1 (fun y ρ2 t2 => ∃ d e k, rsv ρ2 x = some d ∧ rsv ρ2 y = some e ∧ g d e = some (.im (.bl k)) ∧
  if k = true then c ρ2 t2 (fun z ρ3 t3 => ∃ e' f r, rsv ρ3 y = some e' ∧ rsv ρ3 z = some f ∧ g' e' f = some r ∧ Q r ρ3 t3) E else Q (.im (.bl false)) ρ2 t2) E) E
theorem chain_read {g g' : R2D} (h : Go X.K EX (RS X.K) (chainW g g' wa wb wc) σ H Q) :
    Go X.K EX (RO X.K) wa σ H fun x H1 => Go X.K EX (RO X.K) wb σ H1 fun y H2 => ∃ (P M : PA1) (d e : D), Rs X.K H2 P M d x ∧ Rs X.K H2 P M e y ∧ Ml H2 M ∧ Fit X.K H2 P M (g d e) fun z H3 => ∃ k, z = .bl k ∧
      (if k = true then Go X.K EX (RO X.K) wc σ H3 (fun w' H4 => ∃ (P M : PA1) (d e : D), Rs X.K H4 P M d y ∧ Rs X.K H4 P M e w' ∧ Ml H4 M ∧ Fit X.K H4 P M (g' d e) Q) else Q (.bl false) H3) := by
  obtain ⟨G, P, ρ, t, Q', E, S, hw, lk, hq⟩ := h
  refine ⟨G, P, ρ, t, _, E, S, hw, lk, fun o ρ1 t1 x H1 P1 h1 r1 => ?_⟩
  refine ⟨holdO G o x, P1, ρ1, t1, _, E, r1.hold, h1, lk.holdO, fun o2 ρ2 t2 y H2 P2 h2 r2 => ?_⟩
  obtain ⟨d, e, k, e1, e2, e3, q⟩ := h2
  obtain ⟨S2, q1, q2⟩ := r1.back2 r2
  refine ⟨P2, Mx G.F P2 ρ2 σ, d, e, rsv_ok S2 q1 e1, rsv_ok S2 q2 e2, S2.mlist, _, e3, fun z H3 k3 rz => ?_⟩
  have rz : Rp X.K H3 P2 (Mx G.F P2 ρ2 σ) (.bl k) z := rz
  rw [Rp] at rz
  refine ⟨k, rz, ?_⟩
  have S3 := S2.grow k3
  have q3 : RO X.K G P2 ρ2 t2 σ H3 o2 y := by
    cases o2 with
    | sl i => exact ⟨S3, q2.2⟩
    | va d => exact ⟨S3, q2.2.mo (.grow k3)⟩
  cases k with
  | false =>
    rw [if_neg Bool.false_ne_true] at q ⊢
    refine hq _ ρ2 t2 _ H3 P2 q ⟨S3, ?_⟩
    rw [Rp]
  | true =>
    rw [if_pos rfl] at q ⊢
    refine ⟨holdO G o2 y, P2, ρ2, t2, _, E, q3.hold, q, lk.holdO, fun o3 ρ3 t3 z H4 P3 h3 r3 => ?_⟩
    obtain ⟨e', f, r, f1, f2, f3, q4⟩ := h3
    obtain ⟨S4, q5, q6⟩ := q3.back2 r3
    exact ⟨P3, Mx G.F P3 ρ3 σ, e', f, rsv_ok S4 q5 f1, rsv_ok S4 q6 f2, S4.mlist, r, f3, fun z H' k rz => hq r ρ3 t3 z H' P3 q4 (rz_rs S4 k rz)⟩
theorem de_chain {op op' : CmpOp} {g g' : R2D} (ho : Op2 X (compareOp op) g) (ho' : Op2 X (compareOp op') g') (ha : DO X EX a wa) (hb : DO X EX b wb) (hc : DO X EX c wc) (hm : lastMarks [op, op'] [b, c] = false) :
    DE X EX (.Compare a [op, op'] [b, c] pos) (chainW g g' wa wb wc) :=
  PE.imp (pe_chain ho ho' ha hb hc hm) fun _ _ _ h => chain_read h
theorem dt_chain {op op' : CmpOp} {g g' : R2D} (ho : Op2 X (compareOp op) g) (ho' : Op2 X (compareOp op') g') (ha : DO X EX a wa) (hb : DO X EX b wb) (hc : DO X EX c wc) (hm : lastMarks [op, op'] [b, c] = false) :
    DT X EX (.Compare a [op, op'] [b, c] pos) (testW (chainW g g' wa wb wc)) :=
  PT.imp (pt_chain ho ho' ha hb hc hm) fun _ _ _ h => chain_read (test_read h)

/-! ### names, constants -/
@[simp] def varW (i : Nat) : W := fun ρ t Q _ => match ρ[i]? with
  | some (.im d) => Q (.im d) ρ t
  | some (.ow ds) => Q (.im (.lst ds)) (ρ.set i (.im (.lst ds))) t
  | _ => False
@[simp] def slotO (i : Nat) : WO := fun ρ t Q _ => match ρ[i]? with
  | some .non => False
  | none => False
  | _ => Q (.sl i) ρ t
/-- an own list becomes data -/
theorem Sat.freeze {K : PySem.W.Frag} {G : Gh} {P : PA1} {ρ : List Sl} {t : Nat} {σ : St} {H : Hp} {i : Nat} {ds : List D} (S : Sat K G P ρ t σ H) (e : ρ[i]? = some (.ow ds)) :
    Sat K G P (ρ.set i (.im (.lst ds))) t σ H ∧ ∃ v, σ[i]? = some (some v) ∧ Rp K H P (Mx G.F P (ρ.set i (.im (.lst ds))) σ) (.lst ds) v := by
  have hi : i < ρ.length := (List.getElem?_eq_some_iff.mp e).1
  have self : (ρ.set i (.im (.lst ds)))[i]? = some (.im (.lst ds)) := List.getElem?_set_self hi
  have other : ∀ j, j ≠ i → (ρ.set i (.im (.lst ds)))[j]? = ρ[j]? := fun j hj => List.getElem?_set_ne (Ne.symm hj)
  have sub : ∀ a, Mx G.F P (ρ.set i (.im (.lst ds))) σ a → Mx G.F P ρ σ a := fun a z => by
    rcases z with z | z | ⟨j, es, h1, h2⟩
    · exact .inl z
    · exact .inr (.inl z)
    · by_cases hj : j = i
      · subst hj; rw [self] at h1; cases h1
      · rw [other j hj] at h1
        exact .inr (.inr ⟨j, es, h1, h2⟩)
  have mo : Mo K H H P P (Mx G.F P ρ σ) (Mx G.F P (ρ.set i (.im (.lst ds))) σ) := .less sub
  obtain ⟨a, xs, h1, h2, h3, h4, h5, h6⟩ := S.ow i ds e
  have nm : ¬ Mx G.F P (ρ.set i (.im (.lst ds))) σ a := fun z => by
    rcases z with z | z | ⟨j, es, q1, q2⟩
    · exact h4 z
    · exact h5 z
    · by_cases hj : j = i
      · subst hj; rw [self] at q1; cases q1
      · rw [other j hj] at q1
        exact hj (S.dj j i es ds a q1 e q2 h1)
  have rp : Rp K H P (Mx G.F P (ρ.set i (.im (.lst ds))) σ) (.lst ds) (.ref a) := by
    rw [Rp]
    exact ⟨a, xs, rfl, nm, h2, h3.mo mo⟩
  refine ⟨⟨by rw [List.length_set]; exact S.len, fun j d q => ?_, fun j es q => ?_, fun j k es fs b q1 q2 q3 q4 => ?_, S.fo, fun p hp => (S.hd p hp).mo mo, S.pt, S.p0, S.pn, S.kp, S.fp, S.tb⟩, _, h1, rp⟩
  · by_cases hj : j = i
    · subst hj
      rw [self] at q
      cases q
      exact ⟨_, h1, rp⟩
    · rw [other j hj] at q
      obtain ⟨v, r1, r2⟩ := S.im j d q
      exact ⟨v, r1, r2.mo mo⟩
  · by_cases hj : j = i
    · subst hj; rw [self] at q; cases q
    · rw [other j hj] at q
      obtain ⟨b, ys, r1, r2, r3, r4⟩ := S.ow j es q
      exact ⟨b, ys, r1, r2, r3.mo mo, r4⟩
  · by_cases hj : j = i
    · subst hj; rw [self] at q1; cases q1
    · by_cases hk : k = i
      · subst hk; rw [self] at q2; cases q2
      · rw [other j hj] at q1
        rw [other k hk] at q2
        exact S.dj j k es fs b q1 q2 q3 q4
theorem de_var {i : Nat} {x : Str} (h : PE X (.Name x pos) (tVar i)) : DE X EX (.Name x pos) (varW i) := PE.imp h fun σ H Q h => by
  obtain ⟨G, P, ρ, t, Q', E, S, hw, lk, hq⟩ := h
  have hw : (match ρ[i]? with | some (.im d) => Q' (.im d) ρ t | some (.ow ds) => Q' (.im (.lst ds)) (ρ.set i (.im (.lst ds))) t | _ => False) := hw
  split at hw
  · rename_i d e
    obtain ⟨v, h1, h2⟩ := S.im i d e
    exact ⟨v, h1, hq _ _ _ _ _ P hw ⟨S, h2⟩⟩
  · rename_i ds e
    obtain ⟨S', v, h1, h2⟩ := S.freeze e
    exact ⟨v, h1, hq _ _ _ _ _ P hw ⟨S', h2⟩⟩
  · exact hw.elim
theorem do_var {i : Nat} {x : Str} (h : PE X (.Name x pos) (tVar i)) : DO X EX (.Name x pos) (slotO i) := PE.imp h fun σ H Q h => by
  obtain ⟨G, P, ρ, t, Q', E, S, hw, lk, hq⟩ := h
  have hw : (match ρ[i]? with | some .non => False | none => False | _ => Q' (.sl i) ρ t) := hw
  split at hw
  · exact hw.elim
  · exact hw.elim
  · rename_i n1 n2
    have key : ∃ v, σ[i]? = some (some v) := by
      cases e : ρ[i]? with
      | none => exact absurd e n2
      | some s =>
        cases s with
        | non => exact absurd e n1
        | im d => obtain ⟨v, h1, _⟩ := S.im i d e; exact ⟨v, h1⟩
        | ow ds => obtain ⟨a, xs, h1, _⟩ := S.ow i ds e; exact ⟨_, h1⟩
    obtain ⟨v, h1⟩ := key
    exact ⟨v, h1, hq _ _ _ _ _ P hw ⟨S, h1⟩⟩
/-- any expression as an operand -/
@[simp] def valO (w : W) : WO := fun ρ t Q E => w ρ t (fun r ρ1 t1 => Q (.va r.d) ρ1 t1) E
theorem do_of {e : Expr} {w : W} (h : DE X EX e w) : DO X EX e (valO w) := PE.imp h fun σ H Q h => by
  obtain ⟨G, P, ρ, t, Q', E, S, hw, lk, hq⟩ := h
  exact ⟨G, P, ρ, t, _, E, S, hw, lk, fun r ρ1 t1 x H1 P1 h1 r1 => hq _ _ _ _ _ P1 h1 r1.im⟩
/-- a constant: its value is the data, at any heap -/
theorem de_const {e : Expr} {v : V} {d : D} (h : PE X e (tC v)) (hd : ∀ H P M, Rp X.K H P M d v) : DE X EX e (pureW (.im d)) := PE.imp h fun σ H Q h => by
  obtain ⟨G, P, ρ, t, Q', E, S, hw, lk, hq⟩ := h
  exact hq _ _ _ _ _ P hw ⟨S, hd _ _ _⟩
end
end NB
set_option Elab.async false
set_option linter.all false
set_option maxRecDepth 100000
set_option maxHeartbeats 4000000
set_option autoImplicit false
/-! Argument lists, tests, displays; statements; what is walked. -/
namespace NB
open PySem PySem.Spec PyProof.Rows L2

/-! ### argument lists -/
@[simp] def nilW {α : Type} : Wg (List α) := fun ρ t Q _ => Q [] ρ t
/-- operands -/
@[simp] def consO (a : WO) (r : Wg (List Od)) : Wg (List Od) := fun ρ t Q E => a ρ t (fun o ρ1 t1 => r ρ1 t1 (fun os ρ2 t2 => Q (o :: os) ρ2 t2) E) E
/-- data -/
@[simp] def consD (a : W) (r : Wg (List D)) : Wg (List D) := fun ρ t Q E => a ρ t (fun x ρ1 t1 => r ρ1 t1 (fun xs ρ2 t2 => Q (x.d :: xs) ρ2 t2) E) E
section
variable {X : Cx} {EX : XK} {e a b c : Expr} {es rest : List Expr} {pos : Pos}
theorem doa_nil : DOA X EX [] nilW := PA.imp pa_nil fun σ H Q h => by
  obtain ⟨G, P, ρ, t, Q', E, S, hw, lk, hq⟩ := h
  exact hq _ _ _ _ _ P hw ⟨S, .nil⟩
theorem doa_cons {w : WO} {r : Wg (List Od)} (ha : DO X EX e w) (hr : DOA X EX es r) (hs : starEach (e :: es) X.env = (false, eval e X.env) :: starEach es X.env) : DOA X EX (e :: es) (consO w r) := PA.imp (pa_cons ha hr hs) fun σ H Q h => by
  obtain ⟨G, P, ρ, t, Q', E, S, hw, lk, hq⟩ := h
  refine ⟨G, P, ρ, t, _, E, S, hw, lk, fun o ρ1 t1 x H1 P1 h1 r1 => ?_⟩
  refine ⟨holdO G o x, P1, ρ1, t1, _, E, r1.hold, h1, lk.holdO, fun os ρ2 t2 xs H2 P2 h2 r2 => ?_⟩
  obtain ⟨S2, p2⟩ := r2
  obtain ⟨S3, r3⟩ := r1.back S2
  refine hq _ _ _ _ _ P2 h2 ⟨S3, .cons (RO.iff.mp r3).2 (Paired.mapP p2 fun od v q => ?_)⟩
  cases od with
  | sl i => exact q
  | va d =>
    have q : Rp X.K H2 P2 (Mx (holdO G o x).F P2 ρ2 σ) d v := q
    rw [holdO_F] at q
    exact q
theorem da_nil : DA X EX [] nilW := PA.imp pa_nil fun σ H Q h => by
  obtain ⟨G, P, ρ, t, Q', E, S, hw, lk, hq⟩ := h
  exact hq _ _ _ _ _ P hw ⟨S, .nil⟩
theorem da_cons {w : W} {r : Wg (List D)} (ha : DE X EX e w) (hr : DA X EX es r) (hs : starEach (e :: es) X.env = (false, eval e X.env) :: starEach es X.env) : DA X EX (e :: es) (consD w r) := PA.imp (pa_cons ha hr hs) fun σ H Q h => by
  obtain ⟨G, P, ρ, t, Q', E, S, hw, lk, hq⟩ := h
  refine ⟨G, P, ρ, t, _, E, S, hw, lk, fun o ρ1 t1 x H1 P1 h1 r1 => ?_⟩
  obtain ⟨S1, p1⟩ := r1.im
  refine ⟨G.hold o.d x, P1, ρ1, t1, _, E, S1.hold p1, h1, lk.hold, fun os ρ2 t2 xs H2 P2 h2 r2 => ?_⟩
  obtain ⟨S2, p2⟩ := r2
  obtain ⟨S3, r3⟩ := S2.unhold
  exact hq _ _ _ _ _ P2 h2 ⟨S3, .cons r3 p2⟩

/-! ### and, or, not, if -/
@[simp] def andV (a b : W) : W := fun ρ t Q E => a ρ t (fun r ρ1 t1 => ∃ k, r = .im (.bl k) ∧ if k = true then b ρ1 t1 Q E else Q (.im (.bl false)) ρ1 t1) E
@[simp] def orV (a b : W) : W := fun ρ t Q E => a ρ t (fun r ρ1 t1 => ∃ k, r = .im (.bl k) ∧ if k = true then Q (.im (.bl true)) ρ1 t1 else b ρ1 t1 Q E) E
@[simp] def notV (a : W) : W := fun ρ t Q E => a ρ t (fun r ρ1 t1 => ∃ k, r = .im (.bl k) ∧ Q (.im (.bl (!k))) ρ1 t1) E
@[simp] def andT (a b : Wg Bool) : Wg Bool := fun ρ t Q E => a ρ t (fun k ρ1 t1 => if k = true then b ρ1 t1 Q E else Q false ρ1 t1) E
@[simp] def orT (a b : Wg Bool) : Wg Bool := fun ρ t Q E => a ρ t (fun k ρ1 t1 => if k = true then Q true ρ1 t1 else b ρ1 t1 Q E) E
@[simp] def notT (a : Wg Bool) : Wg Bool := fun ρ t Q E => a ρ t (fun k ρ1 t1 => Q (!k) ρ1 t1) E
@[simp] def ifV {α : Type} (c : Wg Bool) (a b : Wg α) : Wg α := fun ρ t Q E => c ρ t (fun k ρ1 t1 => if k = true then a ρ1 t1 Q E else b ρ1 t1 Q E) E
theorem rp_bl {K : PySem.W.Frag} {H : Hp} {P M : PA1} {k : Bool} {v : V} : Rp K H P M (.bl k) v ↔ v = .bl k := by rw [Rp]
theorem de_one {op : BoolOp} {w : W} (h : DE X EX a w) : DE X EX (.BoolOp op [a] pos) w := pe_one h
theorem de_and {wa wb : W} (ha : DE X EX a wa) (hb : DE X EX (.BoolOp .And (b :: rest) pos) wb) : DE X EX (.BoolOp .And (a :: b :: rest) pos) (andV wa wb) := PE.imp (pe_and ha hb) fun σ H Q h => by
  obtain ⟨G, P, ρ, t, Q', E, S, hw, lk, hq⟩ := h
  refine ⟨G, P, ρ, t, _, E, S, hw, lk, fun r ρ1 t1 x H1 P1 h1 r1 => ?_⟩
  obtain ⟨k, rfl, q⟩ := h1
  obtain ⟨S1, e1⟩ := r1
  refine ⟨k, rp_bl.mp e1, ?_⟩
  cases k with
  | true =>
    rw [if_pos rfl] at q ⊢
    exact ⟨G, P1, ρ1, t1, Q', E, S1, q, lk, hq⟩
  | false =>
    rw [if_neg Bool.false_ne_true] at q ⊢
    exact hq _ _ _ _ _ P1 q ⟨S1, rp_bl.mpr rfl⟩
theorem de_or {wa wb : W} (ha : DE X EX a wa) (hb : DE X EX (.BoolOp .Or (b :: rest) pos) wb) : DE X EX (.BoolOp .Or (a :: b :: rest) pos) (orV wa wb) := PE.imp (pe_or ha hb) fun σ H Q h => by
  obtain ⟨G, P, ρ, t, Q', E, S, hw, lk, hq⟩ := h
  refine ⟨G, P, ρ, t, _, E, S, hw, lk, fun r ρ1 t1 x H1 P1 h1 r1 => ?_⟩
  obtain ⟨k, rfl, q⟩ := h1
  obtain ⟨S1, e1⟩ := r1
  refine ⟨k, rp_bl.mp e1, ?_⟩
  cases k with
  | false =>
    rw [if_neg Bool.false_ne_true] at q ⊢
    exact ⟨G, P1, ρ1, t1, Q', E, S1, q, lk, hq⟩
  | true =>
    rw [if_pos rfl] at q ⊢
    exact hq _ _ _ _ _ P1 q ⟨S1, rp_bl.mpr rfl⟩
theorem de_not {wa : W} (ha : DE X EX a wa) : DE X EX (.UnaryOp .Not a pos) (notV wa) := PE.imp (pe_not ha) fun σ H Q h => by
  obtain ⟨G, P, ρ, t, Q', E, S, hw, lk, hq⟩ := h
  refine ⟨G, P, ρ, t, _, E, S, hw, lk, fun r ρ1 t1 x H1 P1 h1 r1 => ?_⟩
  obtain ⟨k, rfl, q⟩ := h1
  obtain ⟨S1, e1⟩ := r1
  exact ⟨k, rp_bl.mp e1, hq _ _ _ _ _ P1 q ⟨S1, rp_bl.mpr rfl⟩⟩
abbrev DW (X : Cx) (EX : XK) (e : Expr) (w : Wg Bool) : Prop := PW X e (Go X.K EX (RT X.K) w)
theorem PW.imp {X : Cx} {e : Expr} {t t' : TT} (h : PW X e t) (i : ∀ σ H Q, t' σ H Q → t σ H Q) : PW X e t' := ⟨fun wh pins s σ H Q I q => h.run wh pins s σ H Q I (i σ H Q q)⟩
theorem dw_and1 {w : Wg Bool} (h : DT X EX a w) : DW X EX (.BoolOp .And [a] pos) w := pw_and1 h
theorem dw_or1 {w : Wg Bool} (h : DT X EX a w) : DW X EX (.BoolOp .Or [a] pos) w := pw_or1 h
theorem dw_and {wa wb : Wg Bool} (ha : DT X EX a wa) (hb : DW X EX (.BoolOp .And (b :: rest) pos) wb) : DW X EX (.BoolOp .And (a :: b :: rest) pos) (andT wa wb) := PW.imp (pw_and ha hb) fun σ H Q h => by
  obtain ⟨G, P, ρ, t, Q', E, S, hw, lk, hq⟩ := h
  refine ⟨G, P, ρ, t, _, E, S, hw, lk, fun k ρ1 t1 x H1 P1 q r1 => ?_⟩
  obtain ⟨S1, rfl⟩ := r1
  cases k with
  | true =>
    rw [if_pos rfl] at q ⊢
    exact ⟨G, P1, ρ1, t1, Q', E, S1, q, lk, hq⟩
  | false =>
    rw [if_neg Bool.false_ne_true] at q ⊢
    exact hq _ _ _ _ _ P1 q ⟨S1, rfl⟩
theorem dw_or {wa wb : Wg Bool} (ha : DT X EX a wa) (hb : DW X EX (.BoolOp .Or (b :: rest) pos) wb) : DW X EX (.BoolOp .Or (a :: b :: rest) pos) (orT wa wb) := PW.imp (pw_or ha hb) fun σ H Q h => by
  obtain ⟨G, P, ρ, t, Q', E, S, hw, lk, hq⟩ := h
  refine ⟨G, P, ρ, t, _, E, S, hw, lk, fun k ρ1 t1 x H1 P1 q r1 => ?_⟩
  obtain ⟨S1, rfl⟩ := r1
  cases k with
  | false =>
    rw [if_neg Bool.false_ne_true] at q ⊢
    exact ⟨G, P1, ρ1, t1, Q', E, S1, q, lk, hq⟩
  | true =>
    rw [if_pos rfl] at q ⊢
    exact hq _ _ _ _ _ P1 q ⟨S1, rfl⟩
theorem dt_not {wa : Wg Bool} (ha : DT X EX a wa) : DT X EX (.UnaryOp .Not a pos) (notT wa) := PT.imp (pt_not ha) fun σ H Q h => by
  obtain ⟨G, P, ρ, t, Q', E, S, hw, lk, hq⟩ := h
  refine ⟨G, P, ρ, t, _, E, S, hw, lk, fun k ρ1 t1 x H1 P1 q r1 => ?_⟩
  obtain ⟨S1, rfl⟩ := r1
  exact hq _ _ _ _ _ P1 q ⟨S1, rfl⟩
theorem dt_val {w : W} (h : DE X EX e w) (he : ∀ whole, isTrue e X.env whole = (do let v ← whole; standAt e.pos; holding [v] (truthy v))) : DT X EX e (testW w) := PT.imp (pt_val h he) fun _ _ _ h => test_read h
theorem de_if {wc : Wg Bool} {wa wb : W} (hc : DT X EX c wc) (ha : DE X EX a wa) (hb : DE X EX b wb) : DE X EX (.IfExp c a b pos) (ifV wc wa wb) := PE.imp (pe_ifExp hc ha hb) fun σ H Q h => by
  obtain ⟨G, P, ρ, t, Q', E, S, hw, lk, hq⟩ := h
  refine ⟨G, P, ρ, t, _, E, S, hw, lk, fun k ρ1 t1 x H1 P1 q r1 => ?_⟩
  obtain ⟨S1, rfl⟩ := r1
  cases k with
  | true =>
    rw [if_pos rfl] at q ⊢
    exact ⟨G, P1, ρ1, t1, Q', E, S1, q, lk, hq⟩
  | false =>
    rw [if_neg Bool.false_ne_true] at q ⊢
    exact ⟨G, P1, ρ1, t1, Q', E, S1, q, lk, hq⟩

/-! ### displays -/
@[simp] def tupW (a : Wg (List D)) : W := fun ρ t Q E => a ρ t (fun ds ρ1 t1 => ds.length ≤ sizeLine ∧ Q (.im (.tup ds)) ρ1 t1) E
@[simp] def lstW (a : Wg (List D)) : W := fun ρ t Q E => a ρ t (fun ds ρ1 t1 => ds.length ≤ sizeLine ∧ Q (.nw ds) ρ1 t1) E
theorem kp_upd {K : PySem.W.Frag} {H : Hp} {p : Addr} {o : HO} (h : H p = none) : Kp K (fun _ => False) H (upd H p o) := Kp.of fun a u e => by
  rw [upd_ne (ne_of_none e h)]; exact e
theorem de_tup {w : Wg (List D)} {k : Nat} (h : DA X EX es w) : DE X EX (.Tuple es k pos) (tupW w) := PE.imp (pe_tup h) fun σ H Q h => by
  obtain ⟨G, P, ρ, t, Q', E, S, hw, lk, hq⟩ := h
  refine ⟨G, P, ρ, t, _, E, S, hw, lk, fun ds ρ1 t1 xs H1 P1 q r1 => ?_⟩
  obtain ⟨q1, q2⟩ := q
  obtain ⟨S1, ra⟩ := r1
  refine ⟨by rw [← ra.length]; exact q1, fun p hp => hq _ _ _ _ _ P1 q2 ⟨S1.grow (kp_upd hp), ?_⟩⟩
  rw [Rp]
  exact ⟨p, xs, rfl, .inl (.inl upd_same), ra.mo (.grow (kp_upd hp))⟩
theorem rz_list {K : PySem.W.Frag} {H : Hp} {P M : PA1} {ds : List D} {xs : List V} {p : Addr} (hp : H p = none) (ra : RpA K H P M ds xs) : Rz K H (upd H p (.lst xs)) P M (.nw ds) (.ref p) :=
  ⟨p, xs, rfl, hp, upd_same, ra.mo (.of (N := fun _ => False) (kp_upd hp) (fun _ z => z.elim) (fun _ z => z.elim) (fun _ z => z) fun b z => by
    rcases z with z | z
    · exact .inl z
    · subst z; exact .inr (nw_of hp))⟩
theorem de_lst {w : Wg (List D)} (h : DA X EX es w) : DE X EX (.List es pos) (lstW w) := PE.imp (pe_lst h) fun σ H Q h => by
  obtain ⟨G, P, ρ, t, Q', E, S, hw, lk, hq⟩ := h
  refine ⟨G, P, ρ, t, _, E, S, hw, lk, fun ds ρ1 t1 xs H1 P1 q r1 => ?_⟩
  obtain ⟨q1, q2⟩ := q
  obtain ⟨S1, ra⟩ := r1
  exact ⟨by rw [← ra.length]; exact q1, fun p hp => hq _ _ _ _ _ P1 q2 (rz_rs S1 (kp_upd hp) (rz_list hp ra))⟩
end

/-! ### statements -/
structure KS where
  nx : List Sl → Nat → Prop
  rt : R → Nat → Prop
  bk : List Sl → Nat → Prop
  ct : List Sl → Nat → Prop
  ex : KX
abbrev WS := List Sl → Nat → KS → Prop
def EndR (K : PySem.W.Frag) (G : Gh) (P : PA1) (t : Nat) (H : Hp) (r : R) (v : V) : Prop :=
  EndOk K G P t H ∧ match r with
  | .im d => Rp K H P (fun a => G.F a ∨ P a) d v
  | .nw ds => ∃ a xs, v = .ref a ∧ Nw G.H0 a ∧ ¬ G.F a ∧ ¬ P a ∧ H a = some (.lst xs) ∧ RpA K H P (fun b => (G.F b ∨ P b) ∨ b = a) ds xs
theorem Sat.endOk {K : PySem.W.Frag} {G : Gh} {P : PA1} {ρ : List Sl} {t : Nat} {σ : St} {H : Hp} (S : Sat K G P ρ t σ H) : EndOk K G P t H := ⟨S.pt, S.p0, S.pn, S.kp, S.tb⟩
theorem RS.endR {K : PySem.W.Frag} {G : Gh} {P : PA1} {ρ : List Sl} {t : Nat} {σ : St} {H : Hp} {r : R} {v : V} (h : RS K G P ρ t σ H r v) : EndR K G P t H r v := by
  cases r with
  | im d =>
    obtain ⟨S, rp⟩ := h
    exact ⟨S.endOk, rp.mo (.less fun a z => z.elim .inl fun z => .inr (.inl z))⟩
  | nw ds =>
    obtain ⟨a, xs, rfl, S, nm, h0, e, ra⟩ := h
    refine ⟨⟨S.pt, S.p0, S.pn, S.kp, S.tb⟩, a, xs, rfl, h0, fun z => nm (.inl z), fun z => nm (.inr (.inl z)), e, ra.mo (.less fun b z => ?_)⟩
    rcases z with (z | z) | z
    · exact .inl (.inl z)
    · exact .inr (.inl z)
    · exact .inl (.inr z)
def GoS (K : PySem.W.Frag) (EX : XK) (ws : WS) : TS := fun Dn σ H =>
  ∃ (G : Gh) (P : PA1) (ρ : List Sl) (t : Nat) (k : KS), Sat K G P ρ t σ H ∧ ws ρ t k ∧ Lk K EX G k.ex ∧
    (∀ ρ' t' σ' H' P', k.nx ρ' t' → Sat K G P' ρ' t' σ' H' → Dn.nx σ' H') ∧
    (∀ ρ' t' σ' H' P', k.bk ρ' t' → Sat K G P' ρ' t' σ' H' → Dn.bk σ' H') ∧
    (∀ ρ' t' σ' H' P', k.ct ρ' t' → Sat K G P' ρ' t' σ' H' → Dn.ct σ' H') ∧
    (∀ r t' v H' P', k.rt r t' → EndR K G P' t' H' r v → Dn.rt v H')
abbrev DS (X : Cx) (EX : XK) (s : Stmt) (w : WS) : Prop := PS X s (GoS X.K EX w)
abbrev DSs (X : Cx) (EX : XK) (s : List Stmt) (w : WS) : Prop := PSs X s (GoS X.K EX w)
theorem PS.imp {X : Cx} {st : Stmt} {t t' : TS} (h : PS X st t) (i : ∀ D σ H, t' D σ H → t D σ H) : PS X st t' := ⟨fun pins s σ H D I q => h.run pins s σ H D I (i D σ H q)⟩
theorem PSs.imp {X : Cx} {st : List Stmt} {t t' : TS} (h : PSs X st t) (i : ∀ D σ H, t' D σ H → t D σ H) : PSs X st t' := ⟨fun pins s σ H D I q => h.run pins s σ H D I (i D σ H q)⟩

@[simp] def nextS : WS := fun ρ t k => k.nx ρ t
@[simp] def seqS (a b : WS) : WS := fun ρ t k => a ρ t { k with nx := fun ρ' t' => b ρ' t' k }
@[simp] def retS (w : W) : WS := fun ρ t k => w ρ t (fun r _ t' => k.rt r t') k.ex
@[simp] def retNS : WS := fun ρ t k => k.rt (.im .non) t
/-- return of a name: an own list is handed out -/
@[simp] def retV (i : Nat) : WS := fun ρ t k => match ρ[i]? with
  | some (.im d) => k.rt (.im d) t
  | some (.ow ds) => k.rt (.nw ds) t
  | _ => False
@[simp] def dropS (w : W) : WS := fun ρ t k => w ρ t (fun _ ρ' t' => k.nx ρ' t') k.ex
@[simp] def ifS (c : Wg Bool) (a b : WS) : WS := fun ρ t k => c ρ t (fun x ρ1 t1 => if x = true then a ρ1 t1 k else b ρ1 t1 k) k.ex
@[simp] def breakS : WS := fun ρ t k => k.bk ρ t
@[simp] def contS : WS := fun ρ t k => k.ct ρ t
@[simp] def slOf : R → Sl
  | .im d => .im d
  | .nw ds => .ow ds
@[simp] def setS (i : Nat) (w : W) : WS := fun ρ t k => w ρ t (fun r ρ' t' => k.nx (ρ'.set i (slOf r)) t') k.ex

section
variable {K : PySem.W.Frag} {G : Gh} {P : PA1} {ρ : List Sl} {t : Nat} {σ : St} {H : Hp}
/-- a slot is set anew: to data -/
theorem Sat.setIm (S : Sat K G P ρ t σ H) {i : Nat} {d : D} {v : V} (h : Rp K H P (Mx G.F P ρ σ) d v) : Sat K G P (ρ.set i (.im d)) t (σ.set i (some v)) H := by
  by_cases hi : i < ρ.length
  · have hi' : i < σ.length := by rw [← S.len]; exact hi
    have other : ∀ j, j ≠ i → (ρ.set i (.im d))[j]? = ρ[j]? := fun j hj => List.getElem?_set_ne (Ne.symm hj)
    have self : (ρ.set i (.im d))[i]? = some (.im d) := List.getElem?_set_self hi
    have other' : ∀ j, j ≠ i → (σ.set i (some v))[j]? = σ[j]? := fun j hj => List.getElem?_set_ne (Ne.symm hj)
    have self' : (σ.set i (some v))[i]? = some (some v) := List.getElem?_set_self hi'
    have sub : ∀ a, Mx G.F P (ρ.set i (.im d)) (σ.set i (some v)) a → Mx G.F P ρ σ a := fun a z => by
      rcases z with z | z | ⟨j, es, h1, h2⟩
      · exact .inl z
      · exact .inr (.inl z)
      · by_cases hj : j = i
        · subst hj; rw [self] at h1; cases h1
        · rw [other j hj] at h1
          rw [other' j hj] at h2
          exact .inr (.inr ⟨j, es, h1, h2⟩)
    have mo : Mo K H H P P (Mx G.F P ρ σ) (Mx G.F P (ρ.set i (.im d)) (σ.set i (some v))) := .less sub
    refine ⟨by rw [List.length_set, List.length_set]; exact S.len, fun j e q => ?_, fun j es q => ?_, fun j k es fs b q1 q2 q3 q4 => ?_, S.fo, fun p hp => (S.hd p hp).mo mo, S.pt, S.p0, S.pn, S.kp, S.fp, S.tb⟩
    · by_cases hj : j = i
      · subst hj
        rw [self] at q
        cases q
        exact ⟨v, self', h.mo mo⟩
      · rw [other j hj] at q
        obtain ⟨u, r1, r2⟩ := S.im j e q
        exact ⟨u, by rw [other' j hj]; exact r1, r2.mo mo⟩
    · by_cases hj : j = i
      · subst hj; rw [self] at q; cases q
      · rw [other j hj] at q
        obtain ⟨b, ys, r1, r2, r3, r4⟩ := S.ow j es q
        exact ⟨b, ys, by rw [other' j hj]; exact r1, r2, r3.mo mo, r4⟩
    · by_cases hj : j = i
      · subst hj; rw [self] at q1; cases q1
      · by_cases hk : k = i
        · subst hk; rw [self] at q2; cases q2
        · rw [other j hj] at q1
          rw [other k hk] at q2
          rw [other' j hj] at q3
          rw [other' k hk] at q4
          exact S.dj j k es fs b q1 q2 q3 q4
  · have e1 : ρ.set i (.im d) = ρ := List.set_eq_of_length_le (by omega)
    have e2 : σ.set i (some v) = σ := List.set_eq_of_length_le (by rw [← S.len]; omega)
    rw [e1, e2]
    exact S
/-- .. to a new list, the frame's own from now on -/
theorem Sat.setOw {i : Nat} {ds : List D} {a : Addr} {xs : List V} (S : Sat K (G.add a xs) P ρ t σ H) (nm : ¬ Mx G.F P ρ σ a) (h0 : Nw G.H0 a) (e : H a = some (.lst xs)) (ra : RpA K H P (Mx (G.add a xs).F P ρ σ) ds xs) :
    Sat K G P (ρ.set i (.ow ds)) t (σ.set i (some (.ref a))) H := by
  have S0 : Sat K G P ρ t σ H := S.less fun b hb z => by subst z; exact nm (.inl hb)
  by_cases hi : i < ρ.length
  · have hi' : i < σ.length := by rw [← S.len]; exact hi
    have other : ∀ j, j ≠ i → (ρ.set i (.ow ds))[j]? = ρ[j]? := fun j hj => List.getElem?_set_ne (Ne.symm hj)
    have self : (ρ.set i (.ow ds))[i]? = some (.ow ds) := List.getElem?_set_self hi
    have other' : ∀ j, j ≠ i → (σ.set i (some (V.ref a)))[j]? = σ[j]? := fun j hj => List.getElem?_set_ne (Ne.symm hj)
    have self' : (σ.set i (some (V.ref a)))[i]? = some (some (V.ref a)) := List.getElem?_set_self hi'
    have sub : ∀ b, Mx G.F P (ρ.set i (.ow ds)) (σ.set i (some (.ref a))) b → Mx (G.add a xs).F P ρ σ b := fun b z => by
      rcases z with z | z | ⟨j, es, h1, h2⟩
      · exact .inl (.inl z)
      · exact .inr (.inl z)
      · by_cases hj : j = i
        · subst hj
          rw [self'] at h2
          cases h2
          exact .inl (.inr rfl)
        · rw [other j hj] at h1
          rw [other' j hj] at h2
          exact .inr (.inr ⟨j, es, h1, h2⟩)
    have mo : Mo K H H P P (Mx (G.add a xs).F P ρ σ) (Mx G.F P (ρ.set i (.ow ds)) (σ.set i (some (.ref a)))) := .less sub
    refine ⟨by rw [List.length_set, List.length_set]; exact S.len, fun j e q => ?_, fun j es q => ?_, fun j k es fs b q1 q2 q3 q4 => ?_, S0.fo, fun p hp => (S.hd p hp).mo mo, S.pt, S.p0, S.pn, S.kp, S0.fp, S.tb⟩
    · by_cases hj : j = i
      · subst hj; rw [self] at q; cases q
      · rw [other j hj] at q
        obtain ⟨u, r1, r2⟩ := S.im j e q
        exact ⟨u, by rw [other' j hj]; exact r1, r2.mo mo⟩
    · by_cases hj : j = i
      · subst hj
        rw [self] at q
        cases q
        exact ⟨a, xs, self', e, ra.mo mo, fun z => nm (.inl z), fun z => nm (.inr (.inl z)), h0⟩
      · rw [other j hj] at q
        obtain ⟨b, ys, r1, r2, r3, r4, r5⟩ := S.ow j es q
        exact ⟨b, ys, by rw [other' j hj]; exact r1, r2, r3.mo mo, fun z => r4 (.inl z), r5⟩
    · by_cases hj : j = i
      · by_cases hk : k = i
        · rw [hj, hk]
        · subst hj
          rw [self'] at q3
          cases q3
          rw [other k hk] at q2
          rw [other' k hk] at q4
          exact absurd (.inr (.inr ⟨k, fs, q2, q4⟩)) nm
      · by_cases hk : k = i
        · subst hk
          rw [self'] at q4
          cases q4
          rw [other j hj] at q1
          rw [other' j hj] at q3
          exact absurd (.inr (.inr ⟨j, es, q1, q3⟩)) nm
        · rw [other j hj] at q1
          rw [other k hk] at q2
          rw [other' j hj] at q3
          rw [other' k hk] at q4
          exact S0.dj j k es fs b q1 q2 q3 q4
  · have e1 : ρ.set i (.ow ds) = ρ := List.set_eq_of_length_le (by omega)
    have e2 : σ.set i (some (V.ref a)) = σ := List.set_eq_of_length_le (by rw [← S.len]; omega)
    rw [e1, e2]
    exact S0
theorem RS.set {i : Nat} {r : R} {v : V} (h : RS K G P ρ t σ H r v) : Sat K G P (ρ.set i (slOf r)) t (σ.set i (some v)) H := by
  cases r with
  | im d => exact h.1.setIm h.2
  | nw ds =>
    obtain ⟨a, xs, rfl, S, nm, h0, e, ra⟩ := h
    exact S.setOw nm h0 e ra
end

section
variable {X : Cx} {EX : XK} {e c : Expr} {st : Stmt} {rest p q : List Stmt} {pos : Pos} {wa wb : WS} {w : W}
theorem dss_nil : DSs X EX [] nextS := PSs.imp pss_nil fun D σ H h => by
  obtain ⟨G, P, ρ, t, k, S, hw, lk, hn, _⟩ := h
  exact hn _ _ _ _ P hw S
theorem seq_read {K : PySem.W.Frag} {D : Ends} {σ : St} {H : Hp} (h : GoS K EX (seqS wa wb) D σ H) : GoS K EX wa { D with nx := GoS K EX wb D } σ H := by
  obtain ⟨G, P, ρ, t, k, S, hw, lk, hn, hb, hc, hr⟩ := h
  exact ⟨G, P, ρ, t, _, S, hw, lk, fun ρ' t' σ' H' P' z S' => ⟨G, P', ρ', t', k, S', z, lk, hn, hb, hc, hr⟩, hb, hc, hr⟩
theorem dss_cons (h1 : DS X EX st wa) (h2 : DSs X EX rest wb) : DSs X EX (st :: rest) (seqS wa wb) := PSs.imp (pss_cons h1 h2) fun _ _ _ h => seq_read h
theorem dss_one (h1 : DS X EX st wa) : DSs X EX [st] wa := pss_one h1
theorem ds_pass : DS X EX (.Pass pos) nextS := PS.imp ps_pass fun D σ H h => by
  obtain ⟨G, P, ρ, t, k, S, hw, lk, hn, _⟩ := h
  exact hn _ _ _ _ P hw S
theorem ds_break : DS X EX (.Break pos) breakS := PS.imp ps_break fun D σ H h => by
  obtain ⟨G, P, ρ, t, k, S, hw, lk, hn, hb, _⟩ := h
  exact hb _ _ _ _ P hw S
theorem ds_cont : DS X EX (.Continue pos) contS := PS.imp ps_continue fun D σ H h => by
  obtain ⟨G, P, ρ, t, k, S, hw, lk, hn, hb, hc, _⟩ := h
  exact hc _ _ _ _ P hw S
theorem ds_doc {x : Str} {j : Nat} {pos' : Pos} : DS X EX (.Expr (.Constant (.str x) j pos) pos') nextS := PS.imp ps_doc fun D σ H h => by
  obtain ⟨G, P, ρ, t, k, S, hw, lk, hn, _⟩ := h
  exact hn _ _ _ _ P hw S
theorem ds_ret (h : DE X EX e w) : DS X EX (.Return (some e) pos) (retS w) := PS.imp (ps_ret h) fun D σ H h => by
  obtain ⟨G, P, ρ, t, k, S, hw, lk, hn, hb, hc, hr⟩ := h
  exact ⟨G, P, ρ, t, _, k.ex, S, hw, lk, fun r ρ' t' v H' P' z rs => hr r t' v H' P' z rs.endR⟩
theorem ds_retN : DS X EX (.Return none pos) retNS := PS.imp ps_retN fun D σ H h => by
  obtain ⟨G, P, ρ, t, k, S, hw, lk, hn, hb, hc, hr⟩ := h
  exact hr _ _ _ _ P hw ⟨S.endOk, (by show Rp X.K H P _ .non .non; rw [Rp])⟩
theorem ds_retV {i : Nat} {x : Str} {pos' : Pos} (h : PE X (.Name x pos') (tVar i)) : DS X EX (.Return (some (.Name x pos')) pos) (retV i) := PS.imp (ps_ret h) fun D σ H h => by
  obtain ⟨G, P, ρ, t, k, S, hw, lk, hn, hb, hc, hr⟩ := h
  have hw : (match ρ[i]? with | some (.im d) => k.rt (.im d) t | some (.ow ds) => k.rt (.nw ds) t | _ => False) := hw
  split at hw
  · rename_i d e
    obtain ⟨v, h1, h2⟩ := S.im i d e
    exact ⟨v, h1, hr _ _ _ _ P hw ⟨S.endOk, h2.mo (.less fun a z => z.elim .inl fun z => .inr (.inl z))⟩⟩
  · rename_i ds e
    obtain ⟨a, xs, h1, h2, h3, h4, h5, h6⟩ := S.ow i ds e
    refine ⟨_, h1, hr _ _ _ _ P hw ⟨S.endOk, a, xs, rfl, h6, h4, h5, h2, h3.mo (.less fun b z => ?_)⟩⟩
    rcases z with (z | z) | z
    · exact .inl z
    · exact .inr (.inl z)
    · subst z; exact .inr (.inr ⟨i, ds, e, h1⟩)
  · exact hw.elim
theorem ds_drop (h : DE X EX e w) (hs : swapsWith e none pos.line X.env = pure false) : DS X EX (.Expr e pos) (dropS w) := PS.imp (ps_expr h hs) fun D σ H h => by
  obtain ⟨G, P, ρ, t, k, S, hw, lk, hn, hb, hc, hr⟩ := h
  exact ⟨G, P, ρ, t, _, k.ex, S, hw, lk, fun r ρ' t' v H' P' z rs => hn _ _ _ _ P' z rs.im.1⟩
theorem ds_if {wc : Wg Bool} (hc : DT X EX c wc) (ha : DSs X EX p wa) (hb : DSs X EX q wb) : DS X EX (.If c p q pos) (ifS wc wa wb) := PS.imp (ps_if hc ha hb) fun D σ H h => by
  obtain ⟨G, P, ρ, t, k, S, hw, lk, hn, hb, hc, hr⟩ := h
  refine ⟨G, P, ρ, t, _, k.ex, S, hw, lk, fun x ρ' t' v H' P' z rs => ?_⟩
  obtain ⟨S', rfl⟩ := rs
  cases x with
  | true =>
    rw [if_pos rfl] at z ⊢
    exact ⟨G, P', ρ', t', k, S', z, lk, hn, hb, hc, hr⟩
  | false =>
    rw [if_neg Bool.false_ne_true] at z ⊢
    exact ⟨G, P', ρ', t', k, S', z, lk, hn, hb, hc, hr⟩
theorem set_read {K : PySem.W.Frag} {i : Nat} {D : Ends} {σ : St} {H : Hp} (h : GoS K EX (setS i w) D σ H) : Go K EX (RS K) w σ H fun x H1 => D.nx (σ.set i (some x)) H1 := by
  obtain ⟨G, P, ρ, t, k, S, hw, lk, hn, hb, hc, hr⟩ := h
  exact ⟨G, P, ρ, t, _, k.ex, S, hw, lk, fun r ρ' t' v H' P' z rs => hn _ _ _ _ P' z rs.set⟩
theorem ds_set {i : Nat} {x : Str} {pos' : Pos} (hN : X.N.Nodup) (hi : X.N[i]? = some x) (hx : Loc X.env.scope x) (he : DE X EX e w) (hs : swapsWith e (some (.Name x pos')) pos.line X.env = pure false) (hf : X.fn x = true ∨ X.env.scope.names.lookup x = some .local) :
    DS X EX (.Assign [.Name x pos'] e pos) (setS i w) := PS.imp (ps_set hN hi hx he hs hf) fun _ _ _ h => set_read h
end

/-! ### targets -/
inductive Pt where
  | nm (i : Nat) | tp (ps : List Pt)
mutual
def bindP : Pt → D → List Sl → Option (List Sl)
  | .nm i, d, ρ => some (ρ.set i (.im d))
  | .tp ps, .tup ds, ρ => bindPs ps ds ρ
  | .tp _, _, _ => none
def bindPs : List Pt → List D → List Sl → Option (List Sl)
  | [], [], ρ => some ρ
  | p :: ps, d :: ds, ρ => match bindP p d ρ with
    | some ρ' => bindPs ps ds ρ'
    | none => none
  | _, _, _ => none
end
mutual
def Pt.ix : Pt → List Nat
  | .nm i => [i]
  | .tp ps => Pt.ixs ps
def Pt.ixs : List Pt → List Nat
  | [] => []
  | p :: ps => p.ix ++ Pt.ixs ps
end
/-- the slots but those at vs are as they were -/
def Alike (vs : List Nat) (σ σ' : St) : Prop := ∀ ws : List Nat, (∀ i ∈ vs, i ∈ ws) → wipe σ' ws = wipe σ ws
theorem wipe_get (σ : St) : ∀ (ws : List Nat) (j : Nat), (wipe σ ws)[j]? = if j ∈ ws ∧ j < σ.length then some none else σ[j]?
  | [], j => by simp [wipe]
  | v :: ws, j => by
    rw [wipe]
    by_cases hv : v = j
    · subst hv
      by_cases hj : v < σ.length
      · rw [List.getElem?_set_self (by rw [wipe_length]; exact hj), if_pos ⟨List.mem_cons_self, hj⟩]
      · rw [if_neg (fun z => hj z.2), List.getElem?_eq_none (by rw [List.length_set, wipe_length]; omega), List.getElem?_eq_none (by omega)]
    · rw [List.getElem?_set_ne hv, wipe_get σ ws j]
      have e : (j ∈ v :: ws ∧ j < σ.length) ↔ (j ∈ ws ∧ j < σ.length) := by
        rw [List.mem_cons]
        exact ⟨fun z => ⟨z.1.resolve_left fun q => hv q.symm, z.2⟩, fun z => ⟨.inr z.1, z.2⟩⟩
      by_cases hc : j ∈ ws ∧ j < σ.length
      · rw [if_pos hc, if_pos (e.mpr hc)]
      · rw [if_neg hc, if_neg (fun z => hc (e.mp z))]
theorem Alike.refl (vs : List Nat) (σ : St) : Alike vs σ σ := fun _ _ => rfl
theorem Alike.set {i : Nat} {σ : St} {v : V} : Alike [i] σ (σ.set i (some v)) := fun ws h => by
  apply List.ext_getElem?
  intro j
  rw [wipe_get, wipe_get, List.length_set]
  by_cases hc : j ∈ ws ∧ j < σ.length
  · rw [if_pos hc, if_pos hc]
  · rw [if_neg hc, if_neg hc]
    by_cases hj : i = j
    · subst hj
      have hl : ¬ i < σ.length := fun z => hc ⟨h i List.mem_cons_self, z⟩
      rw [List.getElem?_eq_none (by rw [List.length_set]; omega), List.getElem?_eq_none (by omega)]
    · rw [List.getElem?_set_ne hj]
theorem Alike.trans {a b : List Nat} {σ σ1 σ2 : St} (h : Alike a σ σ1) (g : Alike b σ1 σ2) : Alike (a ++ b) σ σ2 := fun ws hw =>
  (g ws fun i hi => hw i (List.mem_append_right _ hi)).trans (h ws fun i hi => hw i (List.mem_append_left _ hi))

def GoP (K : PySem.W.Frag) (p : Pt) : TG := fun v σ H Q => ∃ (G : Gh) (P : PA1) (ρ : List Sl) (t : Nat) (d : D) (ρ' : List Sl), Sat K G P ρ t σ H ∧ Rp K H P (Mx G.F P ρ σ) d v ∧ bindP p d ρ = some ρ' ∧
  ∀ σ', Sat K G P ρ' t σ' H → Alike p.ix σ σ' → Q σ' H
def GoPs (K : PySem.W.Frag) (ps : List Pt) : TGs := fun vs σ H Q => ∃ (G : Gh) (P : PA1) (ρ : List Sl) (t : Nat) (ds : List D) (ρ' : List Sl), Sat K G P ρ t σ H ∧ RpA K H P (Mx G.F P ρ σ) ds vs ∧ bindPs ps ds ρ = some ρ' ∧
  ∀ σ', Sat K G P ρ' t σ' H → Alike (Pt.ixs ps) σ σ' → Q σ' H
theorem PG.imp {X : Cx} {e : Expr} {t t' : TG} (h : PG X e t) (i : ∀ v σ H Q, t' v σ H Q → t v σ H Q) : PG X e t' := ⟨fun pins s σ H v u Q I r q => h.run pins s σ H v u Q I r (i v σ H Q q)⟩
theorem PGs.imp {X : Cx} {e : List Expr} {t t' : TGs} (h : PGs X e t) (i : ∀ v σ H Q, t' v σ H Q → t v σ H Q) : PGs X e t' := ⟨fun pins s σ H v u Q I r q => h.run pins s σ H v u Q I r (i v σ H Q q)⟩
abbrev DP (X : Cx) (e : Expr) (p : Pt) : Prop := PG X e (GoP X.K p)
abbrev DPs (X : Cx) (es : List Expr) (ps : List Pt) : Prop := PGs X es (GoPs X.K ps)
/-- values that are held across a target's binding -/
theorem bindP_sat {K : PySem.W.Frag} {G : Gh} {P : PA1} {ρ : List Sl} {t : Nat} {σ : St} {H : Hp} {l : List (D × V)} (S : Sat K G P ρ t σ H) (h : ∀ p ∈ l, Rp K H P (Mx G.F P ρ σ) p.1 p.2) : Sat K (G.holds l) P ρ t σ H := S.holds h
section
variable {X : Cx} {e : Expr} {es : List Expr} {pos : Pos}
theorem dp_name {i : Nat} {x : Str} (hN : X.N.Nodup) (hi : X.N[i]? = some x) (hx : Loc X.env.scope x) (hf : X.fn x = true ∨ X.env.scope.names.lookup x = some .local) : DP X (.Name x pos) (.nm i) := PG.imp (pg_name hN hi hx hf) fun v σ H Q h => by
  obtain ⟨G, P, ρ, t, d, ρ', S, rp, eb, hq⟩ := h
  rw [bindP] at eb
  cases eb
  exact hq _ (S.setIm rp) .set
theorem dps_nil : DPs X [] [] := PGs.imp pgs_nil fun vs σ H Q h => by
  obtain ⟨G, P, ρ, t, ds, ρ', S, ra, eb, hq⟩ := h
  cases ds with
  | nil =>
    rw [bindPs] at eb
    cases eb
    rw [RpA] at ra
    exact ⟨ra, hq σ S (.refl _ _)⟩
  | cons d ds => simp [bindPs] at eb
theorem dps_cons {p : Pt} {ps : List Pt} (h1 : DP X e p) (h2 : DPs X es ps) (hs : (assignEach (e :: es) X.env).map (·.2) = assign e X.env :: (assignEach es X.env).map (·.2)) : DPs X (e :: es) (p :: ps) := PGs.imp (pgs_cons h1 h2 hs) fun vs σ H Q h => by
  obtain ⟨G, P, ρ, t, ds, ρ', S, ra, eb, hq⟩ := h
  cases ds with
  | nil => simp [bindPs] at eb
  | cons d ds =>
    rw [bindPs] at eb
    obtain ⟨x, r, rfl, rp, ra⟩ := ra.cons_inv
    split at eb
    · rename_i ρ1 e1
      have Sh : Sat X.K (G.holds (ds.zip r)) P ρ t σ H := S.holds fun p hp => by
        obtain ⟨i, hi⟩ := List.getElem?_of_mem hp
        rw [List.getElem?_zip_eq_some] at hi
        obtain ⟨y, g1, g2⟩ := ra.get hi.1
        rw [hi.2] at g1; cases g1
        exact g2
      refine ⟨x, r, rfl, G.holds (ds.zip r), P, ρ, t, d, ρ1, Sh, rp, e1, fun σ1 S1 al1 => ?_⟩
      obtain ⟨S2, hh⟩ := S1.unholds
      have ra2 : ∀ {ds : List D} {r : List V}, ds.length = r.length → (∀ p ∈ ds.zip r, Rp X.K H P (Mx G.F P ρ1 σ1) p.1 p.2) → RpA X.K H P (Mx G.F P ρ1 σ1) ds r := by
        intro ds
        induction ds with
        | nil => intro r hl _; cases r with | nil => exact .nil | cons _ _ => cases hl
        | cons d ds ih => intro r hl hz; cases r with
          | nil => cases hl
          | cons y r => exact .cons (hz (d, y) List.mem_cons_self) (ih (by simpa using hl) fun p hp => hz p (List.mem_cons_of_mem _ hp))
      exact ⟨G, P, ρ1, t, ds, ρ', S2, ra2 ra.length hh, eb, fun σ2 S3 al2 => hq σ2 S3 (al1.trans al2)⟩
    · cases eb
theorem dp_tup {k : Nat} {ps : List Pt} (hc : X.calm = true) (h : DPs X es ps) (hn : (assignEach es X.env).length = ps.length) (hst : (assignEach es X.env).findIdx? (·.1) = none) : DP X (.Tuple es k pos) (.tp ps) := PG.imp (pg_tup hc h hn hst) fun v σ H Q h => by
  obtain ⟨G, P, ρ, t, d, ρ', S, rp, eb, hq⟩ := h
  have lenOk : ∀ {ps : List Pt} {ds : List D} {ρ ρ' : List Sl}, bindPs ps ds ρ = some ρ' → ps.length = ds.length := by
    intro ps
    induction ps with
    | nil => intro ds ρ ρ' e; cases ds with | nil => rfl | cons _ _ => simp [bindPs] at e
    | cons p ps ih => intro ds ρ ρ' e; cases ds with
      | nil => simp [bindPs] at e
      | cons d ds =>
        rw [bindPs] at e
        split at e
        · rw [List.length_cons, List.length_cons, ih e]
        · cases e
  cases d with
  | tup ds =>
    rw [bindP] at eb
    rw [Rp] at rp
    obtain ⟨a, xs, rfl, hq1, ra⟩ := rp
    refine ⟨a, xs, rfl, hq1, by rw [← ra.length, lenOk eb], G, P, ρ, t, ds, ρ', S, ra, eb, fun σ' S' al => hq σ' S' al⟩
  | _ => simp [bindP] at eb
end
/-- target = value, a tuple unpacked -/
@[simp] def unpS (p : Pt) (w : W) : WS := fun ρ t k => w ρ t (fun r ρ1 t1 => ∃ ρ2, bindP p r.d ρ1 = some ρ2 ∧ k.nx ρ2 t1) k.ex
section
variable {X : Cx} {EX : XK} {e tg : Expr} {pos : Pos} {w : W}
theorem ds_unp {p : Pt} (he : DE X EX e w) (hg : DP X tg p) (hs : swapsWithSole [tg] e pos.line X.env = pure false) (hw : swappedStores [tg] e X.env = pure none) (h1 : (assignEach [tg] X.env).map (·.2) = [assign tg X.env]) :
    DS X EX (.Assign [tg] e pos) (unpS p w) := PS.imp (ps_asg he hg hs hw h1) fun D σ H h => by
  obtain ⟨G, P, ρ, t, k, S, hw, lk, hn, hb, hc, hr⟩ := h
  refine ⟨G, P, ρ, t, _, k.ex, S, hw, lk, fun r ρ' t' v H' P' z rs => ?_⟩
  obtain ⟨ρ2, eb, q⟩ := z
  obtain ⟨S1, rp⟩ := rs.im
  exact ⟨G, P', ρ', t', r.d, ρ2, S1, rp, eb, fun σ' S' _ => hn _ _ _ _ P' q S'⟩
end
end NB
set_option Elab.async false
set_option linter.all false
set_option maxRecDepth 100000
set_option maxHeartbeats 4000000
set_option autoImplicit false
/-! What is walked; for, while, comprehensions. -/
namespace NB
open PySem PySem.Spec PyProof.Rows L2

/-- an iterator that gives ds, as long as hs is held -/
def ItOk (K : PySem.W.Frag) (hs : List (D × V)) (ds : List D) (J : It) : Prop :=
  ∀ (G : Gh) (P : PA1) (ρ : List Sl) (t : Nat) (σ : St) (H : Hp), Sat K G P ρ t σ H → (∀ p ∈ hs, p ∈ G.hd) →
    (∀ i, i < ds.length → J.go i H) ∧ J.stop ds.length H ∧
    ∀ i x H', i < ds.length → J.yld i H x H' → Kp K (fun _ => False) H H' ∧ ∃ d, ds[i]? = some d ∧ Rp K H' P (Mx G.F P ρ σ) d x
def RI (K : PySem.W.Frag) : Rel (List D) It := fun G P ρ t σ H ds J => ∃ hs, Sat K (G.holds hs) P ρ t σ H ∧ ItOk K hs ds J
abbrev DI (X : Cx) (EX : XK) (tg iter : Expr) (wi : Wg (List D)) : Prop := PI X tg iter (Go X.K EX (RI X.K) wi)
theorem PI.imp {X : Cx} {tg e : Expr} {t t' : TI} (h : PI X tg e t) (i : ∀ σ H Q, t' σ H Q → t σ H Q) : PI X tg e t' := ⟨fun pins s σ H R I q => h.run pins s σ H R I (i σ H R q)⟩

section
variable {K : PySem.W.Frag} {ds es : List D} {a b : Addr} {v u : V}
theorem itok_list : ItOk K [(.lst ds, .ref a)] ds (Itl K a) := fun G P ρ t σ H S hh => by
  have h := S.hd _ (hh _ List.mem_cons_self)
  rw [Rp] at h
  obtain ⟨a', xs, e, _, hl, ra⟩ := h
  cases e
  have hq : SqL K H a xs := .of hl
  have hlen := ra.length
  refine ⟨fun i hi => ⟨xs, xs[i]'(by omega), hq, List.getElem?_eq_getElem (by omega)⟩, ⟨xs, hq, by omega⟩, fun i x H' hi y => ?_⟩
  obtain ⟨rfl, y⟩ := y
  obtain ⟨d, h1, h2⟩ := ra.get' (y xs hq)
  exact ⟨.refl, d, h1, h2⟩
theorem itok_tup : ItOk K [(.tup ds, .ref a)] ds (Itt K a) := fun G P ρ t σ H S hh => by
  have h := S.hd _ (hh _ List.mem_cons_self)
  rw [Rp] at h
  obtain ⟨a', xs, e, hq, ra⟩ := h
  cases e
  have hlen := ra.length
  refine ⟨fun i hi => ⟨xs, xs[i]'(by omega), hq, List.getElem?_eq_getElem (by omega)⟩, ⟨xs, hq, by omega⟩, fun i x H' hi y => ?_⟩
  obtain ⟨rfl, y⟩ := y
  obtain ⟨d, h1, h2⟩ := ra.get' (y xs hq)
  exact ⟨.refl, d, h1, h2⟩
def signsD (z : Str) : List D := z.cps.toList.map fun c => .str ⟨#[c]⟩
theorem itok_str {z : Str} : ItOk K [] (signsD z) (Its z) := fun G P ρ t σ H S hh => by
  have hl : (signsD z).length = z.cps.size := by simp [signsD]
  refine ⟨fun i hi => by show i < z.cps.size; omega, by show z.cps.size ≤ _; omega, fun i x H' hi y => ?_⟩
  obtain ⟨rfl, c, h1, rfl⟩ := y
  refine ⟨.refl, .str ⟨#[c]⟩, ?_, by rw [Rp]⟩
  unfold signsD
  rw [List.getElem?_map, Array.getElem?_toList, h1]
  rfl
def rangeD (lo : Int) (n : Nat) : List D := (List.range n).map fun i => .int (lo + (i : Nat))
theorem itok_range {lo : Int} {n : Nat} : ItOk K [] (rangeD lo n) (Itr lo n) := fun G P ρ t σ H S hh => by
  have hl : (rangeD lo n).length = n := by simp [rangeD]
  refine ⟨fun i hi => by show i < n; omega, by show n ≤ _; omega, fun i x H' hi y => ?_⟩
  obtain ⟨rfl, rfl⟩ := y
  refine ⟨.refl, .int (lo + (i : Nat)), ?_, by rw [Rp]⟩
  unfold rangeD
  rw [List.getElem?_map, List.getElem?_range (by omega)]
  rfl
theorem kp_new {H H' : Hp} {T : Addr} {o : HO} (h : H T = none) (e : H' = upd H T o) : Kp K (fun _ => False) H H' := by
  subst e; exact kp_upd h
def zipD (ds es : List D) : List D := (ds.zip es).map fun p => .tup [p.1, p.2]
theorem pair_new {H : Hp} {P M : PA1} {T : Addr} {x y : V} {d e : D} (hT : H T = none) (h1 : Rp K H P M d x) (h2 : Rp K H P M e y) : Rp K (upd H T (.tup [x, y])) P M (.tup [d, e]) (.ref T) := by
  rw [Rp]
  exact ⟨T, [x, y], rfl, .inl (.inl upd_same), .cons (h1.mo (.grow (kp_upd hT))) (.cons (h2.mo (.grow (kp_upd hT))) .nil)⟩
theorem itok_zipL : ItOk K [(.lst ds, .ref a), (.lst es, .ref b)] (zipD ds es) (Itz K a b) := fun G P ρ t σ H S hh => by
  have h := S.hd _ (hh _ List.mem_cons_self)
  have g := S.hd _ (hh _ (List.mem_cons_of_mem _ List.mem_cons_self))
  rw [Rp] at h g
  obtain ⟨a', xs, e1, _, hl, ra⟩ := h
  obtain ⟨b', ys, e2, _, gl, rb⟩ := g
  cases e1
  cases e2
  have l1 := ra.length
  have l2 := rb.length
  have hn : (zipD ds es).length = min ds.length es.length := by simp [zipD]
  refine ⟨fun i hi => ⟨xs, ys, xs[i]'(by omega), ys[i]'(by omega), .of hl, .of gl, List.getElem?_eq_getElem (by omega), List.getElem?_eq_getElem (by omega)⟩, ⟨xs, ys, .of hl, .of gl, by omega⟩, fun i v H' hi y => ?_⟩
  obtain ⟨T, x, y, rfl, hT, rfl, f1, f2⟩ := y
  obtain ⟨d, h1, h2⟩ := ra.get' (f1 xs (.of hl))
  obtain ⟨d', h3, h4⟩ := rb.get' (f2 ys (.of gl))
  refine ⟨kp_upd hT, .tup [d, d'], ?_, pair_new hT h2 h4⟩
  unfold zipD
  rw [List.getElem?_map, (List.getElem?_zip_eq_some (z := (d, d'))).mpr ⟨h1, h3⟩]
  rfl
theorem itok_zipT : ItOk K [(.tup ds, .ref a), (.tup es, .ref b)] (zipD ds es) (RZ.ItzT K a b) := fun G P ρ t σ H S hh => by
  have h := S.hd _ (hh _ List.mem_cons_self)
  have g := S.hd _ (hh _ (List.mem_cons_of_mem _ List.mem_cons_self))
  rw [Rp] at h g
  obtain ⟨a', xs, e1, hl, ra⟩ := h
  obtain ⟨b', ys, e2, gl, rb⟩ := g
  cases e1
  cases e2
  have l1 := ra.length
  have l2 := rb.length
  have hn : (zipD ds es).length = min ds.length es.length := by simp [zipD]
  refine ⟨fun i hi => ⟨xs, ys, xs[i]'(by omega), ys[i]'(by omega), hl, gl, List.getElem?_eq_getElem (by omega), List.getElem?_eq_getElem (by omega)⟩, ⟨xs, ys, hl, gl, by omega⟩, fun i v H' hi y => ?_⟩
  obtain ⟨T, x, y, rfl, hT, rfl, f1, f2⟩ := y
  obtain ⟨d, h1, h2⟩ := ra.get' (f1 xs hl)
  obtain ⟨d', h3, h4⟩ := rb.get' (f2 ys gl)
  refine ⟨kp_upd hT, .tup [d, d'], ?_, pair_new hT h2 h4⟩
  unfold zipD
  rw [List.getElem?_map, (List.getElem?_zip_eq_some (z := (d, d'))).mpr ⟨h1, h3⟩]
  rfl
def enumD (ds : List D) : List D := (ds.zipIdx).map fun p => .tup [.int (p.2 : Nat), p.1]
theorem itok_enum : ItOk K [(.lst ds, .ref a)] (enumD ds) (Ite K a) := fun G P ρ t σ H S hh => by
  have h := S.hd _ (hh _ List.mem_cons_self)
  rw [Rp] at h
  obtain ⟨a', xs, e1, _, hl, ra⟩ := h
  cases e1
  have l1 := ra.length
  have hn : (enumD ds).length = ds.length := by simp [enumD]
  refine ⟨fun i hi => ⟨xs, xs[i]'(by omega), .of hl, List.getElem?_eq_getElem (by omega)⟩, ⟨xs, .of hl, by omega⟩, fun i v H' hi y => ?_⟩
  obtain ⟨T, x, rfl, hT, rfl, f1⟩ := y
  obtain ⟨d, h1, h2⟩ := ra.get' (f1 xs (.of hl))
  refine ⟨kp_upd hT, .tup [.int (i : Nat), d], ?_, pair_new hT (by rw [Rp]) h2⟩
  unfold enumD
  rw [List.getElem?_map, List.getElem?_zipIdx, h1]
  simp
end

/-! ### what may be walked -/
@[simp] def itemsD : D → Option (List D)
  | .lst ds => some ds
  | .tup ds => some ds
  | .str z => some (signsD z)
  | _ => none
@[simp] def seqI (w : W) : Wg (List D) := fun ρ t Q E => w ρ t (fun r ρ1 t1 => ∃ ds, itemsD r.d = some ds ∧ Q ds ρ1 t1) E
@[simp] def range1I (a : Wg (List D)) : Wg (List D) := fun ρ t Q E => a ρ t (fun xs ρ1 t1 => ∃ hi : Int, xs = [.int hi] ∧ -(2 ^ 62) ≤ hi ∧ hi < 2 ^ 62 ∧ Q (rangeD 0 hi.toNat) ρ1 t1) E
@[simp] def range2I (a : Wg (List D)) : Wg (List D) := fun ρ t Q E => a ρ t (fun xs ρ1 t1 => ∃ lo hi : Int, xs = [.int lo, .int hi] ∧ -(2 ^ 62) ≤ lo ∧ lo < 2 ^ 62 ∧ -(2 ^ 62) ≤ hi ∧ hi < 2 ^ 62 ∧ Q (rangeD lo (hi - lo).toNat) ρ1 t1) E
@[simp] def zipI (a : Wg (List D)) : Wg (List D) := fun ρ t Q E => a ρ t (fun xs ρ1 t1 => ∃ ds es, (xs = [.lst ds, .lst es] ∨ xs = [.tup ds, .tup es]) ∧ Q (zipD ds es) ρ1 t1) E
@[simp] def enumI (a : Wg (List D)) : Wg (List D) := fun ρ t Q E => a ρ t (fun xs ρ1 t1 => ∃ ds, xs = [.lst ds] ∧ Q (enumD ds) ρ1 t1) E
section
variable {X : Cx} {EX : XK} {tg e e2 : Expr} {pos p : Pos}
/-- an iterator's one object at the heap's end -/
theorem pie_one {pins : List (Addr × Obj)} {σ : St} {H : Hp} {s : Shared} {R : It → Hp → Prop} {J : It} {tn : Nat → Heap → Prop} {o : Obj} (I : Inv X pins σ H s) (T : Turn X.prog X.w X.K tg J [s.heap.objs.size] s.heap.objs.size tn) (st : tn 0 (s.heap.push o)) (q : R J H) :
    PIE X pins σ tg R (.ref s.heap.objs.size) { s with heap := s.heap.push o } := by
  refine ⟨_, _, tn, J, H, rfl, I.kept (t' := s.toks) fun b u z => Heap.get?_push_of_some _ z, T, st, fun b hb => ?_, q⟩
  rw [List.mem_singleton.mp hb]
  exact I.fpOk (Nat.le_refl _) (I.hok.fresh (Nat.le_refl _))
theorem di_seq {w : W} (h : DE X EX e w) : DI X EX tg e (seqI w) := by
  refine ⟨fun pins s σ H R I hw => ?_⟩
  obtain ⟨G, P, ρ, t, Q', E, S, hw, lk, hq⟩ := hw
  refine thn (h.run pins s σ H (fun x H1 => ∃ r ρ1 t1 P1 ds, RS X.K G P1 ρ1 t1 σ H1 r x ∧ itemsD r.d = some ds ∧ Q' ds ρ1 t1) I ⟨G, P, ρ, t, _, E, S, hw, lk, fun r ρ1 t1 x H1 P1 z rs => ?_⟩) fun v s1 ⟨x, H1, I1, r1, r, ρ1, t1, P1, ds, rs, e1, q⟩ => ?_
  · obtain ⟨ds, e1, q⟩ := z
    exact ⟨r, ρ1, t1, P1, ds, rs, e1, q⟩
  · obtain ⟨S1, rp⟩ := rs.im
    cases hd : r.d with
    | lst es =>
      rw [hd] at e1 rp
      cases e1
      have rp0 := rp
      rw [Rp] at rp
      obtain ⟨a, xs, rfl, _, hl, ra⟩ := rp
      cases r1
      obtain ⟨its, rv, pl, hz⟩ := I1.list (show SqL X.K H1 a xs from .of hl)
      refine wpAny_pyIter_list pl.isList (pie_one I1 (turn_list a _) ⟨_, Heap.get?_push_size _ rfl, rfl, rfl⟩ ?_)
      exact hq _ _ _ _ _ P1 q ⟨[(.lst ds, .ref a)], S1.holds (fun p hp => by rw [List.mem_singleton.mp hp]; exact rp0), itok_list⟩
    | tup es =>
      rw [hd] at e1 rp
      cases e1
      have rp0 := rp
      rw [Rp] at rp
      obtain ⟨a, xs, rfl, hl, ra⟩ := rp
      cases r1
      obtain ⟨its, rv, pl, hz⟩ := I1.tuple hl
      refine wpAny_pyIter_tuple (show s1.heap.IsTuple a its.toArray from pl) (pie_one I1 (turn_tuple a _) ⟨_, Heap.get?_push_size _ rfl, rfl, rfl⟩ ?_)
      exact hq _ _ _ _ _ P1 q ⟨[(.tup ds, .ref a)], S1.holds (fun p hp => by rw [List.mem_singleton.mp hp]; exact rp0), itok_tup⟩
    | str z =>
      rw [hd] at e1 rp
      cases e1
      rw [Rp] at rp
      subst rp
      obtain ⟨tk, rfl⟩ := r1
      have fin : Q' (signsD z) ρ1 t1 → R (Its z) H1 := fun q => hq _ _ _ _ _ P1 q ⟨[], S1.holds (fun p hp => absurd hp (by simp)), itok_str⟩
      cases ha : z.cps.all (· < 128)
      · exact wpAny_pyIter_wide ha (pie_one I1 (turn_str _ z tk "str_iterator" (.inr rfl)) ⟨_, Heap.get?_push_size _ rfl, rfl, rfl⟩ (fin q))
      · exact wpAny_pyIter_ascii ha (pie_one I1 (turn_str _ z tk "str_ascii_iterator" (.inl rfl)) ⟨_, Heap.get?_push_size _ rfl, rfl, rfl⟩ (fin q))
    | non => rw [hd] at e1; cases e1
    | bl _ => rw [hd] at e1; cases e1
    | int _ => rw [hd] at e1; cases e1
    | pot => rw [hd] at e1; cases e1
    | scr _ => rw [hd] at e1; cases e1
    | exc _ _ => rw [hd] at e1; cases e1
theorem ra_one {K : PySem.W.Frag} {H : Hp} {P M : PA1} {d : D} {vs : List V} (h : RpA K H P M [d] vs) : ∃ v, vs = [v] ∧ Rp K H P M d v := by
  obtain ⟨x, r, rfl, h1, h2⟩ := h.cons_inv
  rw [RpA] at h2
  subst h2
  exact ⟨x, rfl, h1⟩
theorem ra_two {K : PySem.W.Frag} {H : Hp} {P M : PA1} {d e : D} {vs : List V} (h : RpA K H P M [d, e] vs) : ∃ v u, vs = [v, u] ∧ Rp K H P M d v ∧ Rp K H P M e u := by
  obtain ⟨x, r, rfl, h1, h2⟩ := h.cons_inv
  obtain ⟨y, rfl, h3⟩ := ra_one h2
  exact ⟨x, y, rfl, h1, h3⟩
theorem di_range1 {w : Wg (List D)} (hg : Gl X "range") (hm : X.mg "range" = none) (ha : DA X EX [e] w) (hs : starEach [e] X.env = [(false, eval e X.env)]) : DI X EX tg (.Call (.Name "range" p) [e] [] pos) (range1I w) := PI.imp (pi_range1 hg hm ha hs) fun σ H R h => by
  obtain ⟨G, P, ρ, t, Q', E, S, hw, lk, hq⟩ := h
  refine ⟨G, P, ρ, t, _, E, S, hw, lk, fun xs ρ1 t1 vs H1 P1 z rs => ?_⟩
  obtain ⟨hi, rfl, b3, b4, q⟩ := z
  obtain ⟨S1, ra⟩ := rs
  obtain ⟨v, rfl, h1⟩ := ra_one ra
  rw [Rp] at h1
  exact ⟨hi, by rw [h1], b3, b4, hq _ _ _ _ _ P1 q ⟨[], S1.holds (fun p hp => absurd hp (by simp)), itok_range⟩⟩
theorem di_range2 {w : Wg (List D)} (hg : Gl X "range") (hm : X.mg "range" = none) (ha : DA X EX [e, e2] w) (hs : starEach [e, e2] X.env = [(false, eval e X.env), (false, eval e2 X.env)]) (hs2 : starEach [e2] X.env = [(false, eval e2 X.env)]) :
    DI X EX tg (.Call (.Name "range" p) [e, e2] [] pos) (range2I w) := PI.imp (pi_range2 hg hm ha hs hs2) fun σ H R h => by
  obtain ⟨G, P, ρ, t, Q', E, S, hw, lk, hq⟩ := h
  refine ⟨G, P, ρ, t, _, E, S, hw, lk, fun xs ρ1 t1 vs H1 P1 z rs => ?_⟩
  obtain ⟨lo, hi, rfl, b1, b2, b3, b4, q⟩ := z
  obtain ⟨S1, ra⟩ := rs
  obtain ⟨v, u, rfl, h1, h2⟩ := ra_two ra
  rw [Rp] at h1 h2
  exact ⟨lo, hi, by rw [h1, h2], ⟨b1, b2, b3, b4⟩, hq _ _ _ _ _ P1 q ⟨[], S1.holds (fun p hp => absurd hp (by simp)), itok_range⟩⟩
theorem di_zip {w : Wg (List D)} {elts : List Expr} {kk : Nat} {tpos : Pos} (hg : Gl X "zip") (hm : X.mg "zip" = none) (ha : DA X EX [e, e2] w) (hs : starEach [e, e2] X.env = (false, eval e X.env) :: starEach [e2] X.env) (hpl : (backTo pos (starEach [e2] X.env)).any (·.1) = false) :
    DI X EX (.Tuple elts kk tpos) (.Call (.Name "zip" p) [e, e2] [] pos) (zipI w) := PI.imp (RZ.pi_zipA hg hm ha hs hpl) fun σ H R h => by
  obtain ⟨G, P, ρ, t, Q', E, S, hw, lk, hq⟩ := h
  refine ⟨G, P, ρ, t, _, E, S, hw, lk, fun xs ρ1 t1 vs H1 P1 z rs => ?_⟩
  obtain ⟨ds, es, hx, q⟩ := z
  obtain ⟨S1, ra⟩ := rs
  have two : ∀ {d1 d2 : D} {v1 v2 : V}, Rp X.K H1 P1 (Mx G.F P1 ρ1 σ) d1 v1 → Rp X.K H1 P1 (Mx G.F P1 ρ1 σ) d2 v2 → Sat X.K (G.holds [(d1, v1), (d2, v2)]) P1 ρ1 t1 σ H1 := fun {d1 d2 v1 v2} g1 g2 => S1.holds fun p hp => by
    rcases List.mem_cons.mp hp with e | hp
    · rw [e]; exact g1
    · rw [List.mem_singleton.mp hp]; exact g2
  rcases hx with rfl | rfl
  · obtain ⟨v, u, rfl, h1, h2⟩ := ra_two ra
    have h1' := h1
    have h2' := h2
    rw [Rp] at h1 h2
    obtain ⟨a, ys, rfl, _, hl, _⟩ := h1
    obtain ⟨b, zs, rfl, _, gl, _⟩ := h2
    exact ⟨a, b, ys, zs, rfl, .inl ⟨.of hl, .of gl, hq _ _ _ _ _ P1 q ⟨_, two h1' h2', itok_zipL⟩⟩⟩
  · obtain ⟨v, u, rfl, h1, h2⟩ := ra_two ra
    have h1' := h1
    have h2' := h2
    rw [Rp] at h1 h2
    obtain ⟨a, ys, rfl, hl, _⟩ := h1
    obtain ⟨b, zs, rfl, gl, _⟩ := h2
    exact ⟨a, b, ys, zs, rfl, .inr ⟨hl, gl, hq _ _ _ _ _ P1 q ⟨_, two h1' h2', itok_zipT⟩⟩⟩
theorem di_enum {w : Wg (List D)} {elts : List Expr} {kk : Nat} {tpos : Pos} (hg : Gl X "enumerate") (hm : X.mg "enumerate" = none) (ha : DA X EX [e] w) (hs : starEach [e] X.env = [(false, eval e X.env)]) :
    DI X EX (.Tuple elts kk tpos) (.Call (.Name "enumerate" p) [e] [] pos) (enumI w) := PI.imp (pi_enum hg hm ha hs) fun σ H R h => by
  obtain ⟨G, P, ρ, t, Q', E, S, hw, lk, hq⟩ := h
  refine ⟨G, P, ρ, t, _, E, S, hw, lk, fun xs ρ1 t1 vs H1 P1 z rs => ?_⟩
  obtain ⟨ds, rfl, q⟩ := z
  obtain ⟨S1, ra⟩ := rs
  obtain ⟨v, rfl, h1⟩ := ra_one ra
  have h1' := h1
  rw [Rp] at h1
  obtain ⟨a, ys, rfl, _, hl, _⟩ := h1
  exact ⟨a, ys, rfl, .of hl, hq _ _ _ _ _ P1 q ⟨_, S1.holds (fun p hp => by rw [List.mem_singleton.mp hp]; exact h1'), itok_enum⟩⟩
end

/-! ### for, while -/
theorem EndR.unholds {K : PySem.W.Frag} {G : Gh} {P : PA1} {t : Nat} {H : Hp} {r : R} {v : V} {l : List (D × V)} (h : EndR K (G.holds l) P t H r v) : EndR K G P t H r v := ⟨⟨h.1.pt, h.1.p0, h.1.pn, h.1.kp, h.1.tb⟩, h.2⟩
@[simp] def turnS (p : Pt) (b : WS) (d : D) : WS := fun ρ t k => ∃ ρ', bindP p d ρ = some ρ' ∧ b ρ' t k
def forL (b : D → WS) : List D → WS
  | [] => nextS
  | d :: ds => fun ρ t k => b d ρ t { k with nx := fun ρ' t' => forL b ds ρ' t' k, ct := fun ρ' t' => forL b ds ρ' t' k, bk := k.nx }
@[simp] def forS (wi : Wg (List D)) (p : Pt) (b : WS) : WS := fun ρ t k => wi ρ t (fun ds ρ' t' => forL (turnS p b) ds ρ' t' k) k.ex
def whileS (c : Wg Bool) (b : WS) : WS := fun ρ t k => ∃ I : Nat → List Sl → Nat → Prop, (∃ m, I m ρ t) ∧ ∀ m ρ t, I m ρ t →
  c ρ t (fun x ρ1 t1 => if x = true then b ρ1 t1 { k with nx := fun ρ' t' => ∃ m', m' < m ∧ I m' ρ' t', ct := fun ρ' t' => ∃ m', m' < m ∧ I m' ρ' t', bk := k.nx } else k.nx ρ1 t1) k.ex
section
variable {X : Cx} {EX : XK} {tg iter c : Expr} {body : List Stmt} {pos : Pos}
theorem ds_for {wi : Wg (List D)} {p : Pt} {wb : WS} (hp : PassesOwn (model X.prog X.w) X.A X.env X.xe) (hc : X.calm = true) (hi : DI X EX tg iter wi) (hg : DP X tg p) (hb : DSs X EX body wb) (hs : ∀ x, foldedSetIterable iter X.env x = pure x) :
    DS X EX (.For tg iter body [] pos) (forS wi p wb) := PS.imp (ps_for hp hc hi hg hb hs) fun D σ H h => by
  obtain ⟨G, P, ρ, t, k, S, hw, lk, hn, hb, hct, hr⟩ := h
  refine ⟨G, P, ρ, t, _, k.ex, S, hw, lk, fun ds ρ1 t1 J H1 P1 z ri => ?_⟩
  obtain ⟨hs, S1, ok⟩ := ri
  have inh : ∀ q ∈ hs, q ∈ (G.holds hs).hd := fun q hq => List.mem_append_left _ hq
  refine ⟨fun i m σ H => m = ds.length - i ∧ i ≤ ds.length ∧ ∃ P ρ t, Sat X.K (G.holds hs) P ρ t σ H ∧ forL (turnS p wb) (ds.drop i) ρ t k, ⟨ds.length, rfl, Nat.zero_le _, P1, ρ1, t1, S1, z⟩, ?_⟩
  rintro i m σ2 H2 ⟨rfl, hi, P2, ρ2, t2, S2, q⟩
  obtain ⟨g1, g2, g3⟩ := ok _ _ _ _ _ _ S2 inh
  by_cases hlt : i < ds.length
  · refine .inr ⟨g1 i hlt, fun σ' H' => ∃ P ρ t, Sat X.K (G.holds hs) P ρ t σ' H' ∧ forL (turnS p wb) (ds.drop (i + 1)) ρ t k, fun σ' H' n => ⟨ds.length - (i + 1), by omega, rfl, hlt, n⟩, fun x H3 y => ?_⟩
    obtain ⟨k3, d, e1, rp⟩ := g3 i x H3 hlt y
    have ed : ds.drop i = d :: ds.drop (i + 1) := by
      rw [List.drop_eq_getElem_cons hlt]
      rw [List.getElem?_eq_getElem hlt] at e1
      cases e1
      rfl
    rw [ed] at q
    obtain ⟨ρ', eb, q⟩ := q
    refine ⟨G.holds hs, P2, ρ2, t2, d, ρ', S2.grow k3, rp, eb, fun σ4 S4 _ => ?_⟩
    refine ⟨G.holds hs, P2, ρ', t2, _, S4, q, lk.holds, fun ρ5 t5 σ5 H5 P5 n5 S5 => ⟨P5, ρ5, t5, S5, n5⟩, fun ρ5 t5 σ5 H5 P5 n5 S5 => hn _ _ _ _ P5 n5 S5.unholds.1, fun ρ5 t5 σ5 H5 P5 n5 S5 => ⟨P5, ρ5, t5, S5, n5⟩, fun r t5 v H5 P5 n5 S5 => hr r t5 v H5 P5 n5 S5.unholds⟩
  · have e : i = ds.length := by omega
    subst e
    rw [List.drop_length] at q
    exact .inl ⟨g2, hn _ _ _ _ P2 q S2.unholds.1⟩
theorem ds_while {wc : Wg Bool} {wb : WS} (hp : PassesOwn (model X.prog X.w) X.A X.env X.xe) (hc : DT X EX c wc) (hb : DSs X EX body wb) : DS X EX (.While c body [] pos) (whileS wc wb) := PS.imp (ps_while hp hc hb) fun D σ H h => by
  obtain ⟨G, P, ρ, t, k, S, hw, lk, hn, hb, hct, hr⟩ := h
  obtain ⟨Iv, ⟨m0, h0⟩, turn⟩ := hw
  refine ⟨fun m σ H => ∃ P ρ t, Sat X.K G P ρ t σ H ∧ Iv m ρ t, ⟨m0, P, ρ, t, S, h0⟩, ?_⟩
  rintro m σ1 H1 ⟨P1, ρ1, t1, S1, i1⟩
  refine ⟨G, P1, ρ1, t1, _, k.ex, S1, turn m ρ1 t1 i1, lk, fun x ρ2 t2 v H2 P2 z rs => ?_⟩
  obtain ⟨S2, rfl⟩ := rs
  cases x with
  | false =>
    rw [if_neg Bool.false_ne_true] at z ⊢
    exact hn _ _ _ _ P2 z S2
  | true =>
    rw [if_pos rfl] at z ⊢
    refine ⟨fun σ' H' => ∃ m', m' < m ∧ ∃ P ρ t, Sat X.K G P ρ t σ' H' ∧ Iv m' ρ t, fun σ' H' ⟨m', l, q⟩ => ⟨m', l, q⟩, ?_⟩
    exact ⟨G, P2, ρ2, t2, _, S2, z, lk, fun ρ5 t5 σ5 H5 P5 ⟨m', l, n5⟩ S5 => ⟨m', l, P5, ρ5, t5, S5, n5⟩, fun ρ5 t5 σ5 H5 P5 n5 S5 => hn _ _ _ _ P5 n5 S5, fun ρ5 t5 σ5 H5 P5 ⟨m', l, n5⟩ S5 => ⟨m', l, P5, ρ5, t5, S5, n5⟩, hr⟩
end

/-! ### comprehensions -/
@[simp] def wipeR (ρ : List Sl) : List Nat → List Sl
  | [] => ρ
  | v :: vs => (wipeR ρ vs).set v .non
theorem wipeR_length (ρ : List Sl) : ∀ vs : List Nat, (wipeR ρ vs).length = ρ.length
  | [] => rfl
  | v :: vs => by rw [wipeR, List.length_set, wipeR_length ρ vs]
theorem wipeR_get (ρ : List Sl) : ∀ (ws : List Nat) (j : Nat), (wipeR ρ ws)[j]? = if j ∈ ws ∧ j < ρ.length then some .non else ρ[j]?
  | [], j => by simp [wipeR]
  | v :: ws, j => by
    rw [wipeR]
    by_cases hv : v = j
    · subst hv
      by_cases hj : v < ρ.length
      · rw [List.getElem?_set_self (by rw [wipeR_length]; exact hj), if_pos ⟨List.mem_cons_self, hj⟩]
      · rw [if_neg (fun z => hj z.2), List.getElem?_eq_none (by rw [List.length_set, wipeR_length]; omega), List.getElem?_eq_none (by omega)]
    · rw [List.getElem?_set_ne hv, wipeR_get ρ ws j]
      have e : (j ∈ v :: ws ∧ j < ρ.length) ↔ (j ∈ ws ∧ j < ρ.length) := by
        rw [List.mem_cons]
        exact ⟨fun z => ⟨z.1.resolve_left fun q => hv q.symm, z.2⟩, fun z => ⟨.inr z.1, z.2⟩⟩
      by_cases hc : j ∈ ws ∧ j < ρ.length
      · rw [if_pos hc, if_pos (e.mpr hc)]
      · rw [if_neg hc, if_neg (fun z => hc (e.mp z))]
section
variable {K : PySem.W.Frag} {G : Gh} {P : PA1} {ρ ρ' : List Sl} {t : Nat} {σ σ' : St} {H : Hp}
/-- the slots that are known are as they were, others may be forgotten -/
theorem Sat.agree (S : Sat K G P ρ t σ H) (hl : ρ'.length = ρ.length) (hl2 : σ'.length = σ.length) (h : ∀ (i : Nat) (s : Sl), ρ'[i]? = some s → s ≠ .non → ρ[i]? = some s ∧ σ'[i]? = σ[i]?) : Sat K G P ρ' t σ' H := by
  have sub : ∀ a, Mx G.F P ρ' σ' a → Mx G.F P ρ σ a := fun a z => by
    rcases z with z | z | ⟨j, es, h1, h2⟩
    · exact .inl z
    · exact .inr (.inl z)
    · obtain ⟨e1, e2⟩ := h j _ h1 (by intro z; cases z)
      exact .inr (.inr ⟨j, es, e1, e2 ▸ h2⟩)
  have mo : Mo K H H P P (Mx G.F P ρ σ) (Mx G.F P ρ' σ') := .less sub
  refine ⟨by rw [hl, hl2]; exact S.len, fun i d e => ?_, fun i ds e => ?_, fun i j ds es a e1 e2 e3 e4 => ?_, S.fo, fun p hp => (S.hd p hp).mo mo, S.pt, S.p0, S.pn, S.kp, S.fp, S.tb⟩
  · obtain ⟨e1, e2⟩ := h i _ e (by intro z; cases z)
    obtain ⟨v, r1, r2⟩ := S.im i d e1
    exact ⟨v, e2 ▸ r1, r2.mo mo⟩
  · obtain ⟨e1, e2⟩ := h i _ e (by intro z; cases z)
    obtain ⟨a, xs, r1, r2, r3, r4⟩ := S.ow i ds e1
    exact ⟨a, xs, e2 ▸ r1, r2, r3.mo mo, r4⟩
  · obtain ⟨a1, a2⟩ := h i _ e1 (by intro z; cases z)
    obtain ⟨b1, b2⟩ := h j _ e2 (by intro z; cases z)
    exact S.dj i j ds es a a1 b1 (a2 ▸ e3) (b2 ▸ e4)
/-- a foreign list's content is another one -/
theorem Sat.updF {a : Addr} {xs ys : List V} (S : Sat K (G.add a xs) P ρ t σ H) (hF : ∀ b, G.F b → b ≠ a) (h0 : Nw G.H0 a) : Sat K (G.add a ys) P ρ t σ (upd H a (.lst ys)) := by
  have hx : H a = some (.lst xs) := by
    obtain ⟨zs, e1, e2⟩ := S.fo a (.inr rfl)
    have e1 : upd G.HF a (.lst xs) a = some (.lst zs) := e1
    rw [upd_same] at e1
    cases e1
    exact e2
  have npa : ¬ P a := S.fp a (.inr rfl)
  have k : Kp K (fun b => b = a) H (upd H a (.lst ys)) := .but (fun b z => ⟨xs, by rw [z]; exact hx⟩) fun b o n e => by rw [upd_ne n]; exact e
  have mo : Mo K H (upd H a (.lst ys)) P P (Mx (G.add a xs).F P ρ σ) (Mx (G.add a ys).F P ρ σ) := .of k (fun b z => by subst z; exact ⟨xs, hx⟩) (fun b z => by subst z; exact .inl (.inr rfl)) (fun _ z => z) fun b z => .inl z
  refine ⟨S.len, fun i d e => ?_, fun i ds e => ?_, S.dj, fun b h => ?_, fun p hp => (S.hd p hp).mo mo, fun b h => ?_, S.p0, S.pn, ⟨fun b o e n => ?_, fun t => k.tb (S.kp.tb t)⟩, S.fp, k.tb S.tb⟩
  · obtain ⟨v, r1, r2⟩ := S.im i d e
    exact ⟨v, r1, r2.mo mo⟩
  · obtain ⟨b, zs, r1, r2, r3, r4, r5⟩ := S.ow i ds e
    have nb : b ≠ a := fun z => by subst z; exact r4 (.inr rfl)
    exact ⟨b, zs, r1, by rw [upd_ne nb]; exact r2, r3.mo mo, r4, r5⟩
  · by_cases hb : b = a
    · subst hb
      exact ⟨ys, upd_same, upd_same⟩
    · obtain ⟨zs, e1, e2⟩ := S.fo b h
      have e1 : upd G.HF a (.lst xs) b = some (.lst zs) := e1
      rw [upd_ne hb] at e1
      exact ⟨zs, by show upd G.HF a _ b = _; rw [upd_ne hb]; exact e1, by rw [upd_ne hb]; exact e2⟩
  · obtain ⟨i, j, l, e, r⟩ := S.pt b h
    have nb : b ≠ a := fun z => npa (z ▸ h)
    exact ⟨i, j, l, by rw [upd_ne nb]; exact e, r⟩
  · have e : G.H0 b = some o := e
    by_cases nb : b = a
    · rw [nb] at e
      exact .inr (h0 o e)
    · rw [upd_ne nb]
      exact S.kp.go b o e n
end
def compL (p : Pt) (c : Wg Bool) (e : W) (ρw : List Sl) : List D → List D → Nat → (List D → Nat → Prop) → Prop
  | [], acc, t, Q => Q acc t
  | d :: ds, acc, t, Q => ∃ ρ', bindP p d ρw = some ρ' ∧ c ρ' t (fun b ρ1 t1 => ρ1 = ρ' ∧
      if b = true then e ρ' t1 (fun r ρ2 t2 => ρ2 = ρ' ∧ acc.length < sizeLine ∧ compL p c e ρw ds (acc ++ [r.d]) t2 Q) (fun _ _ _ => False) else compL p c e ρw ds acc t1 Q) (fun _ _ _ => False)
@[simp] def compW (wi : Wg (List D)) (vs : List Nat) (p : Pt) (c : Wg Bool) (e : W) : W := fun ρ t Q E => wi ρ t (fun ds ρ1 t1 => compL p c e (wipeR ρ1 vs) ds [] t1 (fun acc t2 => Q (.nw acc) (wipeR ρ1 vs) t2)) E
@[simp] def yesT : Wg Bool := fun ρ t Q _ => Q true ρ t
theorem lk0 {K : PySem.W.Frag} {EX : XK} {G : Gh} : Lk K EX G (fun _ _ _ => False) := .no fun _ _ _ h => h
/-- the tests of a clause -/
abbrev DTs (X : Cx) (EX : XK) (ifs : List Expr) (w : Wg Bool) : Prop := PTs X ifs (Go X.K EX (RT X.K) w)
theorem PTs.imp {X : Cx} {e : List Expr} {t t' : TT} (h : PTs X e t) (i : ∀ σ H Q, t' σ H Q → t σ H Q) : PTs X e t' := ⟨fun pins s σ H Q I q => h.run pins s σ H Q I (i σ H Q q)⟩
theorem dts_nil {X : Cx} {EX : XK} : DTs X EX [] yesT := PTs.imp pts_nil fun σ H Q h => by
  obtain ⟨G, P, ρ, t, Q', E, S, hw, lk, hq⟩ := h
  exact hq _ _ _ _ _ P hw ⟨S, rfl⟩
theorem dts_one {X : Cx} {EX : XK} {c : Expr} {w : Wg Bool} (h : DT X EX c w) : DTs X EX [c] w := pts_one h
mutual
theorem bindP_len : ∀ {p : Pt} {d : D} {ρ ρ' : List Sl}, bindP p d ρ = some ρ' → ρ'.length = ρ.length
  | .nm i, d, ρ, ρ', e => by rw [bindP] at e; cases e; rw [List.length_set]
  | .tp ps, .tup ds, ρ, ρ', e => by rw [bindP] at e; exact bindPs_len e
  | .tp ps, .non, ρ, ρ', e => by simp [bindP] at e
  | .tp ps, .bl _, ρ, ρ', e => by simp [bindP] at e
  | .tp ps, .int _, ρ, ρ', e => by simp [bindP] at e
  | .tp ps, .str _, ρ, ρ', e => by simp [bindP] at e
  | .tp ps, .lst _, ρ, ρ', e => by simp [bindP] at e
  | .tp ps, .pot, ρ, ρ', e => by simp [bindP] at e
  | .tp ps, .scr _, ρ, ρ', e => by simp [bindP] at e
theorem bindPs_len : ∀ {ps : List Pt} {ds : List D} {ρ ρ' : List Sl}, bindPs ps ds ρ = some ρ' → ρ'.length = ρ.length
  | [], [], ρ, ρ', e => by rw [bindPs] at e; cases e; rfl
  | [], _ :: _, ρ, ρ', e => by simp [bindPs] at e
  | _ :: _, [], ρ, ρ', e => by simp [bindPs] at e
  | p :: ps, d :: ds, ρ, ρ', e => by
    rw [bindPs] at e
    split at e
    · rename_i ρ1 e1
      rw [bindPs_len e, bindP_len e1]
    · cases e
end
mutual
theorem bindP_other : ∀ {p : Pt} {d : D} {ρ ρ' : List Sl} {j : Nat}, bindP p d ρ = some ρ' → j ∉ p.ix → ρ'[j]? = ρ[j]?
  | .nm i, d, ρ, ρ', j, e, hj => by
    rw [bindP] at e; cases e
    exact List.getElem?_set_ne fun z => hj (by rw [Pt.ix, z]; exact List.mem_singleton.mpr rfl)
  | .tp ps, .tup ds, ρ, ρ', j, e, hj => by
    rw [bindP] at e
    rw [Pt.ix] at hj
    exact bindPs_other e hj
  | .tp ps, .non, ρ, ρ', _, e, _ => by simp [bindP] at e
  | .tp ps, .bl _, ρ, ρ', _, e, _ => by simp [bindP] at e
  | .tp ps, .int _, ρ, ρ', _, e, _ => by simp [bindP] at e
  | .tp ps, .str _, ρ, ρ', _, e, _ => by simp [bindP] at e
  | .tp ps, .lst _, ρ, ρ', _, e, _ => by simp [bindP] at e
  | .tp ps, .pot, ρ, ρ', _, e, _ => by simp [bindP] at e
  | .tp ps, .scr _, ρ, ρ', _, e, _ => by simp [bindP] at e
theorem bindPs_other : ∀ {ps : List Pt} {ds : List D} {ρ ρ' : List Sl} {j : Nat}, bindPs ps ds ρ = some ρ' → j ∉ Pt.ixs ps → ρ'[j]? = ρ[j]?
  | [], [], ρ, ρ', _, e, _ => by rw [bindPs] at e; cases e; rfl
  | [], _ :: _, ρ, ρ', _, e, _ => by simp [bindPs] at e
  | _ :: _, [], ρ, ρ', _, e, _ => by simp [bindPs] at e
  | p :: ps, d :: ds, ρ, ρ', j, e, hj => by
    rw [Pt.ixs] at hj
    rw [bindPs] at e
    split at e
    · rename_i ρ1 e1
      rw [bindPs_other e (fun z => hj (List.mem_append_right _ z)), bindP_other e1 (fun z => hj (List.mem_append_left _ z))]
    · cases e
end
theorem zip_ra {K : PySem.W.Frag} {H : Hp} {P M : PA1} : ∀ {ds : List D} {xs : List V}, ds.length = xs.length → (∀ p ∈ ds.zip xs, Rp K H P M p.1 p.2) → RpA K H P M ds xs
  | [], [], _, _ => .nil
  | [], _ :: _, h, _ => by cases h
  | _ :: _, [], h, _ => by cases h
  | d :: ds, x :: xs, h, g => .cons (g (d, x) List.mem_cons_self) (zip_ra (by simpa using h) fun p hp => g p (List.mem_cons_of_mem _ hp))
section
variable {X : Cx} {EX : XK} {elt tg iter : Expr} {ifs : List Expr} {scope : Scope} {own : List (Str × Nat)} {pos : Pos} {wi : Wg (List D)} {p : Pt} {wc : Wg Bool} {we : W}
theorem comp_read {K : PySem.W.Frag} {vs : List Nat} {σ : St} {H : Hp} {Q : VK} (hv : ∀ i ∈ p.ix, i ∈ vs) (h : Go K EX (RS K) (compW wi vs p wc we) σ H Q) :
    tLc (Go K EX (RI K) wi) (GoP K p) (Go K E0 (RT K) wc) (Go K E0 (RS K) we) vs σ H Q := by
  obtain ⟨G, P, ρ, t, Q', E, S, hw, lk, hq⟩ := h
  refine ⟨G, P, ρ, t, _, E, S, hw, lk, fun ds ρ1 t1 J H1 P1 z ri => ?_⟩
  obtain ⟨hs, S1, ok⟩ := ri
  intro L hL
  have z : compL p wc we (wipeR ρ1 vs) ds [] t1 (fun acc t2 => Q' (.nw acc) (wipeR ρ1 vs) t2) := z
  generalize hρw : wipeR ρ1 vs = ρw at z
  have lw : ρw.length = ρ1.length := by rw [← hρw, wipeR_length]
  have hF : ∀ b, G.F b → b ≠ L := fun b hb e => by
    obtain ⟨zs, _, e2⟩ := S1.fo b hb
    rw [e, hL] at e2; cases e2
  have h0L : Nw G.H0 L := S1.h0 (nw_of hL)
  have gw : ∀ (j : Nat), ρw[j]? = if j ∈ vs ∧ j < ρ1.length then some .non else ρ1[j]? := fun j => by rw [← hρw, wipeR_get]
  have inh : ∀ (l : List (D × V)) xs, ∀ q ∈ hs, q ∈ ((G.holds (hs ++ l)).add L xs).hd := fun l xs q hq => List.mem_append_left _ (List.mem_append_left _ hq)
  refine ⟨fun i m H => m = ds.length - i ∧ i ≤ ds.length ∧ ∃ P t acc xs, Sat K ((G.holds (hs ++ acc.zip xs)).add L xs) P ρw t (wipe σ vs) H ∧ acc.length = xs.length ∧ compL p wc we ρw (ds.drop i) acc t (fun acc t2 => Q' (.nw acc) ρw t2), ⟨ds.length, rfl, Nat.zero_le _, P1, t1, [], [], ?_, rfl, z⟩, ?_⟩
  · have Sa : Sat K (G.holds hs) P1 ρw t1 (wipe σ vs) H1 := S1.agree lw (wipe_length _ _) fun i s e ne => by
      rw [gw] at e
      by_cases hc : i ∈ vs ∧ i < ρ1.length
      · rw [if_pos hc] at e
        cases e
        exact absurd rfl ne
      · rw [if_neg hc] at e
        refine ⟨e, ?_⟩
        rw [wipe_get, if_neg (fun q => hc ⟨q.1, by rw [S1.len]; exact q.2⟩)]
    have := Sa.add (xs := []) (kp_upd hL) hL upd_same
    simpa using this
  rintro i m H2 ⟨rfl, hi, P2, t2, acc, xs, S2, hlen, q⟩
  obtain ⟨g1, g2, g3⟩ := ok _ _ _ _ _ _ S2 (inh _ _)
  have hHL : ∀ {P ρ t σ H}, Sat K ((G.holds (hs ++ acc.zip xs)).add L xs) P ρ t σ H → H L = some (.lst xs) := fun {P ρ t σ H} S' => by
    obtain ⟨zs, e1, e2⟩ := S'.fo L (.inr rfl)
    have e1 : upd G.HF L (.lst xs) L = some (.lst zs) := e1
    rw [upd_same] at e1
    cases e1
    exact e2
  by_cases hlt : i < ds.length
  · refine .inr ⟨g1 i hlt, fun H => ∃ P t acc xs, Sat K ((G.holds (hs ++ acc.zip xs)).add L xs) P ρw t (wipe σ vs) H ∧ acc.length = xs.length ∧ compL p wc we ρw (ds.drop (i + 1)) acc t (fun acc t2 => Q' (.nw acc) ρw t2), fun H' n => ⟨ds.length - (i + 1), by omega, rfl, hlt, n⟩, fun x H3 y => ?_⟩
    obtain ⟨k3, d, e1, rp⟩ := g3 i x H3 hlt y
    have ed : ds.drop i = d :: ds.drop (i + 1) := by
      rw [List.drop_eq_getElem_cons hlt]
      rw [List.getElem?_eq_getElem hlt] at e1
      cases e1
      rfl
    rw [ed] at q
    obtain ⟨ρ', eb, q⟩ := q
    refine ⟨_, P2, ρw, t2, d, ρ', S2.grow k3, rp, eb, fun σ4 S4 al => ⟨?_, ?_⟩⟩
    · rw [al vs hv]
      apply List.ext_getElem?
      intro j
      rw [wipe_get, wipe_get, wipe_length]
      by_cases hc : j ∈ vs ∧ j < σ.length
      · rw [if_pos hc, if_pos hc]
      · rw [if_neg hc, if_neg hc]
    · have back : ∀ {G' : Gh} {P t H}, Sat K G' P ρ' t σ4 H → Sat K G' P ρw t (wipe σ vs) H := fun {G' P t H} S' => S'.agree (bindP_len eb).symm (by have h1 := S'.len; have h2 := bindP_len eb; have h3 := S2.len; omega) fun j s e ne => by
        have e' := e
        rw [gw] at e
        by_cases hc : j ∈ vs ∧ j < ρ1.length
        · rw [if_pos hc] at e
          cases e
          exact absurd rfl ne
        · have hj : j < ρ1.length := by
            rw [if_neg hc] at e
            exact (List.getElem?_eq_some_iff.mp e).1
          have hjv : j ∉ vs := fun q => hc ⟨q, hj⟩
          refine ⟨(bindP_other eb fun q => hjv (hv j q)).trans e', ?_⟩
          have a1 := al vs hv
          have a2 := congrArg (fun l : St => l[j]?) a1
          rw [wipe_get, wipe_get, if_neg (fun q => hjv q.1), if_neg (fun q => hjv q.1)] at a2
          exact a2.symm
      refine ⟨_, P2, ρ', t2, _, _, S4, q, lk0, fun b ρ5 t5 b' H5 P5 n5 rs => ?_⟩
      obtain ⟨rfl, n5⟩ := n5
      obtain ⟨S5, rfl⟩ := rs
      cases b with
      | false =>
        rw [if_neg Bool.false_ne_true] at n5 ⊢
        exact ⟨P5, t5, acc, xs, back S5, hlen, n5⟩
      | true =>
        rw [if_pos rfl] at n5 ⊢
        refine ⟨_, P5, ρ5, t5, _, _, S5, n5, lk0, fun r ρ6 t6 yv H6 P6 n6 rs6 => ?_⟩
        obtain ⟨rfl, hz, n6⟩ := n6
        obtain ⟨S6, rp6⟩ := rs6.im
        refine ⟨xs, hHL S6, by rw [← hlen]; exact hz, P6, t6, acc ++ [r.d], xs ++ [yv], ?_, by rw [List.length_append, List.length_append, hlen]; rfl, n6⟩
        have Sh := (back (S6.hold rp6)).updF (G := (G.holds (hs ++ acc.zip xs)).hold r.d yv) (ys := xs ++ [yv]) hF h0L
        refine ⟨Sh.len, Sh.im, Sh.ow, Sh.dj, Sh.fo, fun pq hp => ?_, Sh.pt, Sh.p0, Sh.pn, Sh.kp, Sh.fp, Sh.tb⟩
        refine Sh.hd pq ?_
        have hp : pq ∈ (hs ++ (acc ++ [r.d]).zip (xs ++ [yv])) ++ G.hd := hp
        rw [List.zip_append hlen] at hp
        show pq ∈ (r.d, yv) :: ((hs ++ acc.zip xs) ++ G.hd)
        simp only [List.mem_append, List.mem_cons, List.zip_cons_cons, List.zip_nil_right, List.not_mem_nil, or_false] at hp ⊢
        rcases hp with (hp | hp | hp) | hp
        · exact .inr (.inl (.inl hp))
        · exact .inr (.inl (.inr hp))
        · exact .inl hp
        · exact .inr (.inr hp)
  · have e : i = ds.length := by omega
    subst e
    rw [List.drop_length] at q
    refine .inl ⟨g2, ?_⟩
    have S3 : Sat K ((G.holds (hs ++ acc.zip xs)).add L xs) P2 ρw t2 σ H2 := S2.agree rfl (by rw [wipe_length]) fun j s e ne => by
      have e' := e
      rw [gw] at e
      by_cases hc : j ∈ vs ∧ j < ρ1.length
      · rw [if_pos hc] at e
        cases e
        exact absurd rfl ne
      · have hj : j < ρ1.length := by
          rw [if_neg hc] at e
          exact (List.getElem?_eq_some_iff.mp e).1
        refine ⟨e', ?_⟩
        rw [wipe_get, if_neg (fun q => hc ⟨q.1, hj⟩)]
    have S3' : Sat K ((G.add L xs).holds (hs ++ acc.zip xs)) P2 ρw t2 σ H2 := S3
    obtain ⟨S4, hh⟩ := S3'.unholds
    refine hq _ _ _ _ _ P2 q ⟨L, xs, rfl, S4, fun z => ?_, h0L, hHL S3, zip_ra hlen fun pq hp => hh pq (List.mem_append_right _ hp)⟩
    rcases z with z | z | ⟨j, es, z1, z2⟩
    · exact hF L z rfl
    · exact S4.fp L (.inr rfl) z
    · obtain ⟨b, ys, r1, _, _, r4, _⟩ := S4.ow j es z1
      rw [z2] at r1
      cases r1
      exact r4 (.inr rfl)
theorem de_comp (hc : X.calm = true) (hN : X.N.Nodup) (hi : DI X EX tg iter wi) (ok : BlkOk X.N X.env.scope scope own) (hv : ∀ i ∈ p.ix, i ∈ own.map (·.2))
    (hg : ∀ (s : Shared) (H : Hp) (C : Addr) (cl : List (Str × Addr)) (fp : List Addr), DP (X.blk s H scope (compEnvC scope cl C X.env) fp) tg p)
    (ht : ∀ (s : Shared) (H : Hp) (C : Addr) (cl : List (Str × Addr)) (fp : List Addr), DTs (X.blk s H scope (compEnvC scope cl C X.env) fp) E0 ifs wc)
    (he : ∀ (s : Shared) (H : Hp) (C : Addr) (cl : List (Str × Addr)) (fp : List Addr), DE (X.blk s H scope (compEnvC scope cl C X.env) fp) E0 elt we) (hs : ∀ x, foldedSetIterable iter X.env x = pure x) :
    DE X EX (.ListComp elt [⟨tg, iter, ifs, 0⟩] scope pos) (compW wi (own.map (·.2)) p wc we) :=
  PE.imp (pe_lc hc hN hi ok hg ht he hs) fun σ H Q h => comp_read hv h
theorem ds_setComp {i : Nat} {y : Str} {py spos : Pos} (hc : X.calm = true) (hN : X.N.Nodup) (hy : X.N[i]? = some y) (hyl : X.env.scope.names.lookup y = some .local)
    (hsw : swapsWith (.ListComp elt [⟨tg, iter, ifs, 0⟩] scope pos) (some (.Name y py)) spos.line X.env = pure true) (hi : DI X EX tg iter wi) (ok : BlkOk X.N X.env.scope scope own) (hv : ∀ i ∈ p.ix, i ∈ own.map (·.2))
    (hg : ∀ (s : Shared) (H : Hp) (C : Addr) (cl : List (Str × Addr)) (fp : List Addr), DP (X.blk s H scope (compEnvC scope cl C X.env) fp) tg p)
    (ht : ∀ (s : Shared) (H : Hp) (C : Addr) (cl : List (Str × Addr)) (fp : List Addr), DTs (X.blk s H scope (compEnvC scope cl C X.env) fp) E0 ifs wc)
    (he : ∀ (s : Shared) (H : Hp) (C : Addr) (cl : List (Str × Addr)) (fp : List Addr), DE (X.blk s H scope (compEnvC scope cl C X.env) fp) E0 elt we) (hs : ∀ x, foldedSetIterable iter X.env x = pure x) :
    DS X EX (.Assign [.Name y py] (.ListComp elt [⟨tg, iter, ifs, 0⟩] scope pos) spos) (setS i (compW wi (own.map (·.2)) p wc we)) :=
  PS.imp (ps_setLc hc hN hy hyl hsw hi ok hg ht he hs) fun D σ H h => comp_read (Q := fun x H1 => D.nx (σ.set i (some x)) H1) hv (set_read h)
end
end NB
set_option Elab.async false
set_option linter.all false
set_option maxRecDepth 100000
set_option maxHeartbeats 4000000
set_option autoImplicit false
/-! Lists of the frame's own; calls; defs. -/
namespace NB
open PySem PySem.Spec PyProof.Rows L2

/-! ### own lists -/
section
variable {K : PySem.W.Frag} {G : Gh} {P : PA1} {ρ : List Sl} {t : Nat} {σ : St} {H : Hp}
/-- an own list's content is another one -/
theorem Sat.own {i : Nat} {ds ds' : List D} {a : Addr} {ys : List V} (S : Sat K G P ρ t σ H) (e : ρ[i]? = some (.ow ds)) (ea : σ[i]? = some (some (.ref a))) (ra : RpA K H P (Mx G.F P ρ σ) ds' ys) :
    Sat K G P (ρ.set i (.ow ds')) t σ (upd H a (.lst ys)) ∧ Mo K H (upd H a (.lst ys)) P P (Mx G.F P ρ σ) (Mx G.F P (ρ.set i (.ow ds')) σ) := by
  have hi : i < ρ.length := (List.getElem?_eq_some_iff.mp e).1
  have self : (ρ.set i (.ow ds'))[i]? = some (.ow ds') := List.getElem?_set_self hi
  have other : ∀ j, j ≠ i → (ρ.set i (.ow ds'))[j]? = ρ[j]? := fun j hj => List.getElem?_set_ne (Ne.symm hj)
  obtain ⟨a', xs, h1, h2, h3, h4, h5, h6⟩ := S.ow i ds e
  rw [ea] at h1
  cases h1
  have ina : Mx G.F P ρ σ a := .inr (.inr ⟨i, ds, e, ea⟩)
  have sub : ∀ b, Mx G.F P (ρ.set i (.ow ds')) σ b → Mx G.F P ρ σ b := fun b z => by
    rcases z with z | z | ⟨j, es, q1, q2⟩
    · exact .inl z
    · exact .inr (.inl z)
    · by_cases hj : j = i
      · subst hj
        exact .inr (.inr ⟨j, ds, e, q2⟩)
      · rw [other j hj] at q1
        exact .inr (.inr ⟨j, es, q1, q2⟩)
  have k : Kp K (fun b => b = a) H (upd H a (.lst ys)) := .but (fun b z => ⟨xs, by rw [z]; exact h2⟩) fun b o n q => by rw [upd_ne n]; exact q
  have mo : Mo K H (upd H a (.lst ys)) P P (Mx G.F P ρ σ) (Mx G.F P (ρ.set i (.ow ds')) σ) := .of k (fun b z => by subst z; exact ⟨xs, h2⟩) (fun b z => by subst z; exact ina) (fun _ z => z) fun b z => .inl (sub b z)
  refine ⟨⟨by rw [List.length_set]; exact S.len, fun j d q => ?_, fun j es q => ?_, fun j l es fs b q1 q2 q3 q4 => ?_, fun b h => ?_, fun p hp => (S.hd p hp).mo mo, fun b h => ?_, S.p0, S.pn, ⟨fun b o q n => ?_, fun t => k.tb (S.kp.tb t)⟩, S.fp, k.tb S.tb⟩, mo⟩
  · by_cases hj : j = i
    · subst hj; rw [self] at q; cases q
    · rw [other j hj] at q
      obtain ⟨v, r1, r2⟩ := S.im j d q
      exact ⟨v, r1, r2.mo mo⟩
  · by_cases hj : j = i
    · subst hj
      rw [self] at q
      cases q
      exact ⟨a, ys, ea, upd_same, ra.mo mo, h4, h5, h6⟩
    · rw [other j hj] at q
      obtain ⟨b, zs, r1, r2, r3, r4⟩ := S.ow j es q
      have nb : b ≠ a := fun z => by
        subst z
        exact hj (S.dj j i es ds b q e r1 ea)
      exact ⟨b, zs, r1, by rw [upd_ne nb]; exact r2, r3.mo mo, r4⟩
  · have back : ∀ (m : Nat) (fs : List D), (ρ.set i (.ow ds'))[m]? = some (.ow fs) → ∃ gs, ρ[m]? = some (.ow gs) := fun m fs q => by
      by_cases hm : m = i
      · exact ⟨ds, by rw [hm]; exact e⟩
      · rw [other m hm] at q
        exact ⟨fs, q⟩
    obtain ⟨g1, e1⟩ := back j es q1
    obtain ⟨g2, e2⟩ := back l fs q2
    exact S.dj j l g1 g2 b e1 e2 q3 q4
  · obtain ⟨zs, e1, e2⟩ := S.fo b h
    have nb : b ≠ a := fun z => by subst z; exact h4 h
    exact ⟨zs, e1, by rw [upd_ne nb]; exact e2⟩
  · obtain ⟨i', j, l, q, r⟩ := S.pt b h
    have nb : b ≠ a := fun z => by subst z; exact h5 h
    exact ⟨i', j, l, by rw [upd_ne nb]; exact q, r⟩
  · by_cases nb : b = a
    · rw [nb] at q
      exact .inr (h6 o q)
    · rw [upd_ne nb]
      exact S.kp.go b o q n
end
/-- an operation on a list of the frame's own: its new content, and what it gives -/
def OwnOp (X : Cx) (id : String) (f : List D → List D → Option (List D × D)) : Prop := MtR X id fun x vs H Q => ∃ (a : Addr) (xs : List V) (P M : PA1) (ds es ds' : List D) (r : D),
  x = .ref a ∧ H a = some (.lst xs) ∧ RpA X.K H P M ds xs ∧ RpA X.K H P M es vs ∧ f ds es = some (ds', r) ∧ ∀ ys z, RpA X.K H P M ds' ys → Rp X.K H P M r z → Q z (upd H a (.lst ys))
@[simp] def ownW (i : Nat) (a : Wg (List D)) (f : List D → List D → Option (List D × D)) : W := fun ρ t Q E => (∃ ds0, ρ[i]? = some (.ow ds0)) ∧ a ρ t (fun xs ρ1 t1 => ∃ ds ds' r, ρ1[i]? = some (.ow ds) ∧ f ds xs = some (ds', r) ∧ Q (.im r) (ρ1.set i (.ow ds')) t1) E
@[simp] def appendF : List D → List D → Option (List D × D)
  | ds, [x] => if ds.length < sizeLine then some (ds ++ [x], .non) else none
  | _, _ => none
@[simp] def extendF : List D → List D → Option (List D × D)
  | ds, [.lst es] => if ds.length + es.length ≤ sizeLine then some (ds ++ es, .non) else none
  | _, _ => none
/-- an index that a machine word holds -/
def ixFits (i : Int) : Bool := decide (-(2 ^ 63) ≤ i) && decide (i < 2 ^ 63)
theorem ixFits_iff {i : Int} : ixFits i = true ↔ -(2 ^ 63) ≤ i ∧ i < 2 ^ 63 := by
  unfold ixFits
  rw [Bool.and_eq_true, decide_eq_true_eq, decide_eq_true_eq]
@[simp] def popAtF : List D → List D → Option (List D × D)
  | ds, [.int i] => match ixFits i, seqIndex? i ds.length with
    | true, some k => (ds[k]?).map fun x => (ds.eraseIdx k, x)
    | _, _ => none
  | _, _ => none
@[simp] def popF : List D → List D → Option (List D × D)
  | ds, [] => (ds[ds.length - 1]?).map fun x => (ds.dropLast, x)
  | _, _ => none
section
variable {X : Cx} {EX : XK}
theorem own_append : OwnOp X "list.append" appendF := by
  intro pins s σ H x vs v us Q I rx rv h
  obtain ⟨a, xs, P, M, ds, es, ds', r, rfl, hH, ra, rb, hf, q⟩ := h
  unfold appendF at hf
  split at hf
  · obtain ⟨y, rfl, h1⟩ := ra_one rb
    split at hf
    · rename_i hz
      cases hf
      exact mt_append pins s σ H _ _ v us Q I rx rv ⟨a, xs, y, rfl, rfl, hH, by rw [← ra.length]; exact hz, q _ _ (ra.append (.cons h1 .nil)) (by rw [Rp])⟩
    · cases hf
  · cases hf
theorem own_extend : OwnOp X "list.extend" extendF := by
  intro pins s σ H x vs v us Q I rx rv h
  obtain ⟨a, xs, P, M, ds, es, ds', r, rfl, hH, ra, rb, hf, q⟩ := h
  unfold extendF at hf
  split at hf
  · obtain ⟨y, rfl, h1⟩ := ra_one rb
    rw [Rp] at h1
    obtain ⟨b, zs, rfl, _, hB, rc⟩ := h1
    split at hf
    · rename_i hz
      cases hf
      exact mt_extend pins s σ H _ _ v us Q I rx rv ⟨a, b, xs, zs, rfl, rfl, hH, hB, by rw [← ra.length, ← rc.length]; exact hz, q _ _ (ra.append rc) (by rw [Rp])⟩
    · cases hf
  · cases hf
theorem own_popAt : OwnOp X "list.pop" popAtF := by
  intro pins s σ H x vs v us Q I rx rv h
  obtain ⟨a, xs, P, M, ds, es, ds', r, rfl, hH, ra, rb, hf, q⟩ := h
  unfold popAtF at hf
  split at hf
  · obtain ⟨y, rfl, h1⟩ := ra_one rb
    rw [Rp] at h1
    subst h1
    split at hf
    · rename_i i _ k hb hk
      obtain ⟨d, e1, e2⟩ := Option.map_eq_some_iff.mp hf
      cases e2
      obtain ⟨z, e3, e4⟩ := ra.get e1
      obtain ⟨b1, b2⟩ := ixFits_iff.mp hb
      exact mt_popAt pins s σ H _ _ v us Q I rx rv ⟨a, xs, _, k, z, rfl, rfl, hH, b1, b2, by rw [← ra.length]; exact hk, e3, q _ _ (ra.eraseIdx k) e4⟩
    · cases hf
  · cases hf
theorem own_pop : OwnOp X "list.pop" popF := by
  intro pins s σ H x vs v us Q I rx rv h
  obtain ⟨a, xs, P, M, ds, es, ds', r, rfl, hH, ra, rb, hf, q⟩ := h
  unfold popF at hf
  split at hf
  · rw [RpA] at rb
    subst rb
    obtain ⟨d, e1, e2⟩ := Option.map_eq_some_iff.mp hf
    cases e2
    rw [ra.length] at e1
    obtain ⟨z, e3, e4⟩ := ra.get e1
    refine mt_pop pins s σ H _ _ v us Q I rx rv ⟨a, xs, z, rfl, rfl, hH, e3, q _ _ ?_ e4⟩
    rw [List.dropLast_eq_take, List.dropLast_eq_take, ra.length]
    exact ra.take _
  · cases hf
theorem own_read {K : PySem.W.Frag} {i : Nat} {w : Wg (List D)} {f : List D → List D → Option (List D × D)} {σ : St} {H : Hp} {Q : VK} (h : Go K EX (RS K) (ownW i w f) σ H Q) :
    tVar i σ H fun x H1 => tyV K "list" x H1 ∧ Go K EX (RA K) w σ H1 fun vs H2 => ∃ (a : Addr) (xs : List V) (P M : PA1) (ds es ds' : List D) (r : D),
      x = .ref a ∧ H2 a = some (.lst xs) ∧ RpA K H2 P M ds xs ∧ RpA K H2 P M es vs ∧ f ds es = some (ds', r) ∧ ∀ ys z, RpA K H2 P M ds' ys → Rp K H2 P M r z → Q z (upd H2 a (.lst ys)) := by
  obtain ⟨G, P, ρ, t, Q', E, S, hw, lk, hq⟩ := h
  obtain ⟨⟨ds0, e0⟩, hw⟩ := hw
  obtain ⟨a, xs0, h1, h2, _⟩ := S.ow i ds0 e0
  refine ⟨.ref a, h1, .inl ⟨rfl, xs0, .of h2⟩, G, P, ρ, t, _, E, S, hw, lk, fun es ρ1 t1 vs H1 P1 z rs => ?_⟩
  obtain ⟨ds, ds', r, e1, hf, q⟩ := z
  obtain ⟨S1, rb⟩ := rs
  obtain ⟨a', xs, g1, g2, g3, _⟩ := S1.ow i ds e1
  rw [h1] at g1
  cases g1
  refine ⟨a, xs, P1, Mx G.F P1 ρ1 σ, ds, es, ds', r, rfl, g2, g3, rb, hf, fun ys z r1 r2 => ?_⟩
  obtain ⟨S2, mo⟩ := S1.own e1 h1 r1
  exact hq _ _ _ _ _ P1 q ⟨S2, r2.mo mo⟩
variable {x name : Str} {p' apos cpos : Pos} {e : Expr} {es : List Expr}
theorem de_own {i : Nat} {id : String} {w : Wg (List D)} {f : List D → List D → Option (List D × D)} (pa : PlainAttrs "list") (slot : Slot "list" name id) (hty : typeOf (.builtin id) = pure (.type "method_descriptor")) (hm : OwnOp X id f) (hv : PE X (.Name x p') (tVar i)) (ha : DA X EX (e :: es) w)
    (hfew : ((backTo cpos (starEach (e :: es) X.env)).all (fun x => !x.1) && (backToKw cpos (keywordEach [] X.env)).all (fun x => x.1.isSome) && decide ((e :: es).length + ([] : List Keyword).length + (if ([] : List Keyword).isEmpty then 0 else 1) < 30)) = true)
    (hline : (apos.endLine == cpos.line) = true) (hs : starEach (e :: es) X.env = (false, eval e X.env) :: starEach es X.env) (hplain : (backTo cpos (starEach es X.env)).any (·.1) = false) :
    DE X EX (.Call (.Attribute (.Name x p') name apos) (e :: es) [] cpos) (ownW i w f) := PE.imp (pe_bm pa slot hty hm hv ha rfl hfew hline hs hplain) fun _ _ _ h => own_read h
theorem de_own0 {i : Nat} {id : String} {f : List D → List D → Option (List D × D)} (pa : PlainAttrs "list") (slot : Slot "list" name id) (hty : typeOf (.builtin id) = pure (.type "method_descriptor")) (hm : OwnOp X id f) (hv : PE X (.Name x p') (tVar i)) (hline : (apos.endLine == cpos.line) = true) :
    DE X EX (.Call (.Attribute (.Name x p') name apos) [] [] cpos) (ownW i nilW f) := PE.imp (pe_bm0 pa slot hty hm hv rfl hline) fun σ H Q h => by
  obtain ⟨v, h1, h2, h3⟩ := own_read h
  obtain ⟨G, P, ρ, t, Q', E, S, hw, lk, hq⟩ := h3
  exact ⟨v, h1, h2, hq _ _ _ _ _ P hw ⟨S, .nil⟩⟩
end

/-! ### calls -/
/-- a def by its data: the arguments, the draws so far, what is wanted -/
abbrev WF := List D → Nat → (R → Nat → Prop) → KX → Prop
@[simp] def callW (F : WF) (a : Wg (List D)) : W := fun ρ t Q E => a ρ t (fun xs ρ1 t1 => F xs t1 (fun r t2 => Q r ρ1 t2) E) E
/-- the ghost of a def's entry -/
def g0 (F P : PA1) (H : Hp) : Gh := ⟨F, H, P, H, []⟩
def spW (K : PySem.W.Frag) (n : Nat) (Fw : WF) : Sp := fun vs H Q E => vs.length = n ∧ ∃ (F P : PA1) (t : Nat) (ds : List D) (Q' : R → Nat → Prop) (E' : KX),
  (∀ a, F a → ∃ xs, H a = some (.lst xs)) ∧ (∀ a, P a → PotAt H t a) ∧ (∀ a, F a → ¬ P a) ∧ RpA K H P (fun a => F a ∨ P a) ds vs ∧ Tb K H ∧ Fw ds t Q' E' ∧ Lk K E (g0 F P H) E' ∧
  ∀ r t' v H' P', Q' r t' → EndR K (g0 F P H) P' t' H' r v → Q v H'
/-- a def keeps its promise by data; nothing is being shown meanwhile -/
structure FnG (P : Program) (w : World) (K : PySem.W.Frag) (mg : Str → Option Value) (base : Heap) (CX : CXT) (k : Nat) (f : Addr) (fd : FuncData) (ps : List Str) (Fw : WF) : Prop where
  go : ∀ (A : Around) (outer : List Env) (s : Shared) (H : Hp) (args : Args) (us : List Value) (vs : List V) (Q : VK) (E : XK), Room k A → A.guards = some [] → Env0 P w K mg base A outer s H →
    BindsTo s fd args (ps.zip us) → Vals vs us → spW K ps.length Fw vs H Q E → codeAny (model P w) A (.call (.ref f) args) (CR CX outer P w H s Q E) s
theorem FnG.up {P : Program} {w : World} {K : PySem.W.Frag} {mg : Str → Option Value} {base : Heap} {CX : CXT} {j k : Nat} {f : Addr} {fd : FuncData} {ps : List Str} {Fw : WF} (F : FnG P w K mg base CX j f fd ps Fw) (h : j ≤ k) : FnG P w K mg base CX k f fd ps Fw :=
  ⟨fun A outer s H args us vs Q E hr => F.go A outer s H args us vs Q E (hr.mono h)⟩
section
variable {X : Cx} {EX : XK} {CX : CXT} {k : Nat} {f : Addr} {fd : FuncData} {ps : List Str} {Fw : WF} {x : Str} {p pos : Pos} {e : Expr} {es : List Expr} {w : Wg (List D)}
/-- behind a call the state stands, the value with it -/
theorem Sat.call {K : PySem.W.Frag} {G : Gh} {P P' : PA1} {ρ : List Sl} {t t' : Nat} {σ : St} {H H' : Hp} {r : R} {v : V} (S : Sat K G P ρ t σ H) (h : EndR K (g0 (fun a => G.F a ∨ Own ρ σ a) P H) P' t' H' r v) : RS K G P' ρ t' σ H' r v := by
  obtain ⟨⟨pt, p0, pn, kp, tb⟩, rr⟩ := h
  have pn : ∀ a, P' a → P a ∨ Nw H a := pn
  have p0 : ∀ a, P a → P' a := p0
  have kp : Kp K P H H' := kp
  have sub : ∀ a, Mx G.F P' ρ σ a → Mx G.F P ρ σ a ∨ Nw H a := fun a z => by
    rcases z with z | z | z
    · exact .inl (.inl z)
    · rcases pn a z with q | q
      · exact .inl (.inr (.inl q))
      · exact .inr q
    · exact .inl (.inr (.inr z))
  have lp : ∀ a, P a → ∃ xs, H a = some (.lst xs) := fun a z => let ⟨i, j, l, e, _⟩ := S.pt a z; ⟨_, e⟩
  have mo : Mo K H H' P P' (Mx G.F P ρ σ) (Mx G.F P' ρ σ) := .of kp lp (fun a z => .inr (.inl z)) p0 sub
  have keep : ∀ a o, H a = some o → ¬ P a → isT o = false → H' a = some o := fun a o e n t => kp.seq e n t
  have S' : Sat K G P' ρ t' σ H' := by
    refine ⟨S.len, fun i d e => ?_, fun i ds e => ?_, S.dj, fun a z => ?_, fun q hq => (S.hd q hq).mo mo, pt, fun a z => p0 a (S.p0 a z), fun a z => ?_, ?_, fun a z q => ?_, tb⟩
    · obtain ⟨u, r1, r2⟩ := S.im i d e
      exact ⟨u, r1, r2.mo mo⟩
    · obtain ⟨a, xs, r1, r2, r3, r4, r5, r6⟩ := S.ow i ds e
      refine ⟨a, xs, r1, keep a _ r2 r5 rfl, r3.mo mo, r4, fun q => ?_, r6⟩
      rcases pn a q with q | q
      · exact r5 q
      · exact (q.no r2 rfl).elim
    · obtain ⟨xs, e1, e2⟩ := S.fo a z
      exact ⟨xs, e1, keep a _ e2 (S.fp a z) rfl⟩
    · rcases pn a z with q | q
      · exact S.pn a q
      · exact .inr (S.h0 q)
    · refine S.kp.trans kp fun a o e q => ?_
      rcases S.pn a q with z | z
      · exact .inl z
      · exact .inr (z o e)
    · rcases pn a q with q | q
      · exact S.fp a z q
      · obtain ⟨xs, _, e2⟩ := S.fo a z
        exact (q.no e2 rfl).elim
  cases r with
  | im d =>
    refine ⟨S', ?_⟩
    have rr : Rp K H' P' (fun a => (G.F a ∨ Own ρ σ a) ∨ P' a) d v := rr
    exact rr.mo (.less fun a z => by
      rcases z with z | z | z
      · exact .inl (.inl z)
      · exact .inr z
      · exact .inl (.inr z))
  | nw ds =>
    obtain ⟨a, xs, rfl, h0, nf, np, e, ra⟩ := rr
    have h0 : Nw H a := h0
    have nf : ¬ (G.F a ∨ Own ρ σ a) := nf
    have ra : RpA K H' P' (fun b => ((G.F b ∨ Own ρ σ b) ∨ P' b) ∨ b = a) ds xs := ra
    have sub2 : ∀ b, Mx (G.add a xs).F P' ρ σ b → Mx G.F P ρ σ b ∨ Nw H b := fun b z => by
      rcases z with (z | z) | z | z
      · exact .inl (.inl z)
      · subst z; exact .inr h0
      · exact sub b (.inr (.inl z))
      · exact .inl (.inr (.inr z))
    have mo2 : Mo K H H' P P' (Mx G.F P ρ σ) (Mx (G.add a xs).F P' ρ σ) := .of kp lp (fun a z => .inr (.inl z)) p0 sub2
    refine ⟨a, xs, rfl, ⟨S.len, fun i d q => ?_, fun i es q => ?_, S.dj, fun b z => ?_, fun q hq => (S.hd q hq).mo mo2, pt, S'.p0, S'.pn, S'.kp, fun b z => ?_, tb⟩, fun z => ?_, S.h0 h0, e, ra.mo (.less fun b z => ?_)⟩
    · obtain ⟨u, r1, r2⟩ := S.im i d q
      exact ⟨u, r1, r2.mo mo2⟩
    · obtain ⟨b, ys, r1, r2, r3, r4, r5, r6⟩ := S.ow i es q
      obtain ⟨b', ys', r1', r2', _, _, r5', _⟩ := S'.ow i es q
      rw [r1] at r1'
      cases r1'
      refine ⟨b, ys', r1, r2', ?_, fun z => ?_, r5', r6⟩
      · have e2 := keep b _ r2 r5 rfl
        rw [r2'] at e2
        cases e2
        exact r3.mo mo2
      · rcases z with z | z
        · exact r4 z
        · subst z; exact h0.no r2 rfl
    · rcases z with z | z
      · obtain ⟨ys, e1, e2⟩ := S'.fo b z
        refine ⟨ys, ?_, e2⟩
        show upd G.HF a _ b = _
        rw [upd_ne (fun q : b = a => nf (.inl (q ▸ z)))]
        exact e1
      · subst z
        exact ⟨xs, upd_same, e⟩
    · rcases z with z | z
      · exact S'.fp b z
      · subst z; exact np
    · rcases z with z | z | z
      · exact nf (.inl z)
      · exact np z
      · exact nf (.inr z)
    · rcases z with (z | z) | z | z
      · exact .inl (.inl (.inl z))
      · exact .inr z
      · exact .inl (.inr z)
      · exact .inl (.inl (.inr z))
/-- an exception of a call is one of ours -/
theorem Lk.call {K : PySem.W.Frag} {EX : XK} {G : Gh} {P : PA1} {ρ : List Sl} {t : Nat} {σ : St} {H : Hp} {E : KX} (h : Lk K EX G E) (S : Sat K G P ρ t σ H) : Lk K EX (g0 (fun a => G.F a ∨ Own ρ σ a) P H) E := fun c v t' P' H' C x y e hc ok hx r => by
  have er : EndR K (g0 (fun a => G.F a ∨ Own ρ σ a) P H) P' t' H' (.im v) y := ⟨ok, r⟩
  have z := (S.call er).endR
  exact h c v t' P' H' C x y e hc z.1 hx z.2
/-- the callee runs -/
theorem run_g {pins : List (Addr × Obj)} {σ : St} {H : Hp} {s : Shared} {Q : VK} {us : List Value} {vs : List V} (F : FnG X.prog X.w X.K X.mg X.base CX k f fd ps Fw) (hr : Room k X.A) (hgd : X.A.guards = some []) (hb : Binds X.K fd ps []) (hx : Passes CX X EX)
    (I : Inv X pins σ H s) (r : Vals vs us) (h : spW X.K ps.length Fw vs H Q EX) : wpAny (model X.prog X.w) X.A (call (.ref f) us) (EP X pins σ Q) X.xe s := by
  have hl : us.length = ps.length := by rw [← r.length]; exact h.1
  have bd : BindsTo s fd ⟨us, []⟩ (ps.zip us) := by
    have := hb s us I.kIn (by rw [List.append_nil]; exact hl)
    rw [List.append_nil] at this
    exact this
  refine wpAny_call (codeAny_mono (F.go X.A X.stack s H _ us vs Q EX hr hgd I.env0 bd r h) fun res s' hq => ?_)
  match res, hq with
  | .error e, hq => exact hx pins σ H s e s' I hq
  | .ok (.ret u), hq => exact I.after hq
  | .ok .next, hq => exact hq.elim
  | .ok .brk, hq => exact hq.elim
  | .ok .cont, hq => exact hq.elim
theorem call_sp {K : PySem.W.Frag} {n : Nat} {σ : St} {H : Hp} {Q : VK} (h : Go K EX (RS K) (callW Fw w) σ H Q) (hn : ∀ ds t Q E, Fw ds t Q E → ds.length = n) : Go K EX (RA K) w σ H fun vs H1 => spW K n Fw vs H1 Q EX := by
  obtain ⟨G, P, ρ, t, Q', E, S, hw, lk, hq⟩ := h
  refine ⟨G, P, ρ, t, _, E, S, hw, lk, fun ds ρ1 t1 vs H1 P1 z rs => ?_⟩
  obtain ⟨S1, ra⟩ := rs
  refine ⟨by rw [← ra.length]; exact hn _ _ _ _ z, fun a => G.F a ∨ Own ρ1 σ a, P1, t1, ds, _, E, fun a q => ?_, S1.pt, fun a q q2 => ?_, ra.mo (.less fun a q => ?_), S1.tb, z, lk.call S1, fun r t' v H' P' q er => hq _ _ _ _ _ P' q (S1.call er)⟩
  · rcases q with q | q
    · exact S1.mlist a (.inl q)
    · exact S1.mlist a (.inr (.inr q))
  · rcases q with q | ⟨i, ds, e1, e2⟩
    · exact S1.fp a q q2
    · obtain ⟨b, xs, r1, _, _, _, r5, _⟩ := S1.ow i ds e1
      rw [e2] at r1
      cases r1
      exact r5 q2
  · rcases q with (q | q) | q
    · exact .inl q
    · exact .inr (.inr q)
    · exact .inr (.inl q)
theorem de_call (F : FnG X.prog X.w X.K X.mg X.base CX k f fd ps Fw) (hn : ∀ ds t Q E, Fw ds t Q E → ds.length = ps.length) (hr : Room k X.A) (hgd : X.A.guards = some []) (hg : Gl X x) (hm : X.mg x = some (.ref f)) (hk : PySem.W.keepIn X.K (.ref f) = true) (hb : Binds X.K fd ps []) (hx : Passes CX X EX)
    (ha : DA X EX (e :: es) w) (hdb : (x == ("__debug__" : Str)) = false) (he : starEach (e :: es) X.env = (false, eval e X.env) :: starEach es X.env) (hpl : (backTo pos (starEach es X.env)).any (·.1) = false) :
    DE X EX (.Call (.Name x p) (e :: es) [] pos) (callW Fw w) := by
  refine ⟨fun pins s σ H Q I h => wpAny_Call_Name_kw (ld_glob I hg hm ?_ hdb)⟩
  refine PySem.W.callWith_K (h₀ := X.base) I.ok.mod.kin hk (thn (ha.run pos pins s σ H _ I (call_sp h hn)) fun us s1 ⟨vs, H1, I1, r, q⟩ => ?_) he hpl
  exact ⟨I1.kIn, run_g F hr hgd hb hx I1 r q⟩
theorem de_call0 (F : FnG X.prog X.w X.K X.mg X.base CX k f fd ps Fw) (hn : ∀ ds t Q E, Fw ds t Q E → ds.length = ps.length) (hr : Room k X.A) (hgd : X.A.guards = some []) (hg : Gl X x) (hm : X.mg x = some (.ref f)) (hk : PySem.W.keepIn X.K (.ref f) = true) (hb : Binds X.K fd ps []) (hx : Passes CX X EX)
    (hdb : (x == ("__debug__" : Str)) = false) : DE X EX (.Call (.Name x p) [] [] pos) (callW Fw nilW) := by
  refine ⟨fun pins s σ H Q I h => wpAny_Call_Name_kw (ld_glob I hg hm ?_ hdb)⟩
  obtain ⟨G, P, ρ, t, Q', E, S, hw, lk, hq⟩ := call_sp h hn
  exact PySem.W.callWith_K0 I.kIn hk (run_g (us := []) F hr hgd hb hx I .nil (hq _ _ _ _ _ P hw ⟨S, .nil⟩))
end

/-! ### defs -/
/-- the slots at the entry -/
@[simp] def slots0 (n : Nat) (ds : List D) : List Sl := ds.map .im ++ List.replicate (n - ds.length) .non
/-- a body as a def: k parameters, n names -/
@[simp] def defW (k n : Nat) (ws : WS) : WF := fun ds t Q E => ds.length = k ∧ ws (slots0 n ds) t { nx := fun _ t' => Q (.im .non) t', rt := Q, bk := fun _ _ => False, ct := fun _ _ => False, ex := E }
theorem start_sat {K : PySem.W.Frag} {F P : PA1} {t : Nat} {ds : List D} {vs : List V} {N : List Str} {H : Hp} (h1 : ∀ a, F a → ∃ xs, H a = some (.lst xs)) (h2 : ∀ a, P a → PotAt H t a) (h3 : ∀ a, F a → ¬ P a) (ra : RpA K H P (fun a => F a ∨ P a) ds vs) (tb : Tb K H) :
    Sat K (g0 F P H) P (slots0 N.length ds) t (L2.start N vs) H := by
  have hl := ra.length
  have no : ∀ (i : Nat) es, (slots0 N.length ds)[i]? ≠ some (.ow es) := fun i es e => by
    unfold slots0 at e
    by_cases hi : i < ds.length
    · rw [List.getElem?_append_left (by simpa using hi), List.getElem?_map, List.getElem?_eq_getElem hi] at e
      cases e
    · rw [List.getElem?_append_right (by simpa using hi), List.getElem?_replicate] at e
      split at e <;> cases e
  have less : ∀ a, Mx F P (slots0 N.length ds) (L2.start N vs) a → F a ∨ P a := fun a z => by
    rcases z with z | z | ⟨i, es, e, _⟩
    · exact .inl z
    · exact .inr z
    · exact absurd e (no i es)
  refine ⟨by unfold slots0 L2.start; simp [hl], fun i d e => ?_, fun i es e => absurd e (no i es), fun i j es fs a e => absurd e (no i es), fun a z => ?_, fun q hq => absurd (show q ∈ ([] : List (D × V)) from hq) (by simp), h2, fun a z => z, fun a z => .inl z, .refl, h3, tb⟩
  · have hi : i < ds.length := by
      by_cases hi : i < ds.length
      · exact hi
      · unfold slots0 at e
        rw [List.getElem?_append_right (by simpa using hi), List.getElem?_replicate] at e
        split at e <;> cases e
    have e' : ds[i]? = some d := by
      unfold slots0 at e
      rw [List.getElem?_append_left (by simpa using hi), List.getElem?_map] at e
      obtain ⟨x, q1, q2⟩ := Option.map_eq_some_iff.mp e
      cases q2
      exact q1
    obtain ⟨v, q1, q2⟩ := ra.get e'
    refine ⟨v, ?_, q2.mo (.less less)⟩
    unfold L2.start
    rw [List.getElem?_append_left (by rw [List.length_map]; omega), List.getElem?_map, q1]
    rfl
  · obtain ⟨xs, e⟩ := h1 a z
    exact ⟨xs, e, e⟩
section
variable {P : Program} {w : World} {K : PySem.W.Frag} {mg : Str → Option Value} {base : Heap} {CX : CXT}
/-- a def of the text by its body -/
theorem fnG_of {k : Nat} {f : Addr} {name qual : Str} {params : Arguments} {body : List Stmt} {scope : Scope} {dV kV doc pm cdv ct oc : Value} {an od : Option Addr} {osl : Array (Option Value)} {N ps : List Str} {ws : WS} {EX : XK → XK}
    (lk : K.lookup f = some ⟨oc, od, .func (PySem.W.fnOf name qual params body scope dV kV doc pm an cdv ct), osl⟩) (hcd : PySem.W.codeIn K cdv qual = true) (S : FnScope N ps scope)
    (hEX : ∀ E G E', Lk K E G E' → Lk K (EX E) G E')
    (hbody : ∀ (A : Around) (outer : List Env) (s : Shared) (H : Hp) (E : XK), Room k (A.deeper (envOfC qual scope s.heap.objs.size f cdv)) → A.guards = some [] →
      DSs (cxOf CX P w K mg base N qual scope f cdv A outer s H E) (EX E) body ws) :
    FnG P w K mg base CX (k + 1) f (PySem.W.fnOf name qual params body scope dV kV doc pm an cdv ct) ps (defW ps.length N.length ws) := by
  constructor
  intro A outer s H args us vs Q E hr hgd e0 hb r hsp
  obtain ⟨hl, F, P0, t, ds, Q', E', h1, h2, h3, ra, tb, hw, lkE, hq⟩ := hsp
  have KX : K.In s.heap := e0.mod.kin.keeps fun b o e => (e0.bs b o e).1
  have nl : s.heap.NoLimit := e0.mod.nolimit.keeps fun b o e => (e0.bs b o e).1
  have kinds : ∀ y ∈ ps.zip us, scope.names.lookup y.1 = some .local ∨ (scope.names.lookup y.1 = some .cell ∧ ((cellsFrom (s.heap.objs.size + 1) scope.names []).lookup y.1).isSome = true) := by
    rintro ⟨n, v⟩ hy
    refine (S.par n (List.of_mem_zip hy).1).imp id fun q => ⟨q, ?_⟩
    exact PySem.W.cellsFrom_some _ _ _ (.inl q)
  refine codeAny_call_function hr.depth (KX _ _ lk) rfl S.co S.gen rfl (PySem.W.codeRec_of KX hcd) (hb _ _ _ _ (wpAny_newFunctionEnv_cells S.kind kinds fun env he s1 x => ?_))
  subst he
  refine ⟨nl.keeps x.toInCall.keep, codeAny_func ?_⟩
  have I := inv_start (E := E) (CX := CX) (P := P) (w := w) (N := N) (f := f) S hr.hd e0 hl r x
  have St0 : Sat K (g0 F P0 H) P0 (slots0 N.length ds) t (L2.start N vs) H := start_sat h1 h2 h3 ra tb
  have body := (hbody A outer s H E (hr.deeper _) hgd).run [] s1 (L2.start N vs) H { nx := fun _ H' => Q .non H', rt := Q } I
    ⟨g0 F P0 H, P0, _, t, _, St0, hw.2, hEX _ _ _ lkE, fun ρ' t' σ' H' P' z S' => hq _ _ _ _ _ z ⟨S'.endOk, (by show Rp K H' P' _ .non .non; rw [Rp])⟩, fun _ _ _ _ _ z _ => z.elim, fun _ _ _ _ _ z _ => z.elim, fun r' t' v H' P' z er => hq _ _ _ _ _ z er⟩
  refine wpAny_mono body (fun fl s' hs => ?_) fun _ _ hs => hs
  match fl, hs with
  | .ret u, ⟨v, σ', H', J, rv, q⟩ => exact ⟨v, H', J.os, J.bare, J.base, J.hok, rv, q⟩
  | .next, ⟨σ', H', J, q⟩ => exact ⟨.non, H', J.os, J.bare, J.base, J.hok, rfl, q⟩
  | .brk, ⟨_, _, _, q⟩ => exact q.elim
  | .cont, ⟨_, _, _, q⟩ => exact q.elim
end
end NB
set_option Elab.async false
set_option linter.all false
set_option maxRecDepth 100000
set_option maxHeartbeats 4000000
set_option autoImplicit false
/-! Operations on values, by data. -/
namespace NB
open PySem PySem.Spec PyProof.Rows L2

/-! ### data as the library's -/
mutual
def D.py : D → PyData
  | .non => .none
  | .bl b => .bool b
  | .int i => .int i
  | .str s => .str s
  | .tup xs => .tuple (pyL xs)
  | .lst xs => .list (pyL xs)
  | .pot => .none
  | .scr _ => .none
  | .exc _ _ => .none
def pyL : List D → List PyData
  | [] => []
  | d :: ds => d.py :: pyL ds
end
mutual
/-- compared, shown: no pot, no script within; texts of code points -/
def okD : D → Bool
  | .non => true
  | .bl _ => true
  | .int _ => true
  | .str s => PyData.strOk s
  | .tup xs => okL xs
  | .lst xs => okL xs
  | .pot => false
  | .scr _ => false
  | .exc _ _ => false
def okL : List D → Bool
  | [] => true
  | d :: ds => okD d && okL ds
end
mutual
def dpD : D → Nat
  | .tup xs => dpL xs + 1
  | .lst xs => dpL xs + 1
  | .non => 0
  | .bl _ => 0
  | .int _ => 0
  | .str _ => 0
  | .pot => 0
  | .scr _ => 0
  | .exc _ _ => 0
def dpL : List D → Nat
  | [] => 0
  | d :: ds => max (dpD d) (dpL ds)
end
mutual
theorem canLay_py : ∀ {d : D}, okD d = true → d.py.canLay0 = true
  | .non, _ => by simp [D.py, PyData.canLay0]
  | .bl _, _ => by simp [D.py, PyData.canLay0]
  | .int _, _ => by simp [D.py, PyData.canLay0]
  | .str s, h => by rw [okD] at h; rw [D.py, PyData.canLay0]; exact h
  | .tup xs, h => by rw [okD] at h; rw [D.py, PyData.canLay0]; exact canLay_pyL h
  | .lst xs, h => by rw [okD] at h; rw [D.py, PyData.canLay0]; exact canLay_pyL h
  | .pot, h => by simp [okD] at h
  | .scr _, h => by simp [okD] at h
  | .exc _ _, h => by simp [okD] at h
theorem canLay_pyL : ∀ {ds : List D}, okL ds = true → PyData.canLayAll0 (pyL ds) = true
  | [], _ => by simp [pyL, PyData.canLayAll0]
  | d :: ds, h => by
    rw [okL, Bool.and_eq_true] at h
    rw [pyL, PyData.canLayAll0, Bool.and_eq_true]
    exact ⟨canLay_py h.1, canLay_pyL h.2⟩
end
mutual
theorem depth_py : ∀ {d : D}, d.py.depth = dpD d
  | .non => by simp [D.py, PyData.depth, dpD]
  | .bl _ => by simp [D.py, PyData.depth, dpD]
  | .int _ => by simp [D.py, PyData.depth, dpD]
  | .str s => by simp [D.py, PyData.depth, dpD]
  | .tup xs => by rw [D.py, PyData.depth, dpD, depth_pyL]
  | .lst xs => by rw [D.py, PyData.depth, dpD, depth_pyL]
  | .pot => by simp [D.py, PyData.depth, dpD]
  | .scr _ => by simp [D.py, PyData.depth, dpD]
  | .exc _ _ => by simp [D.py, PyData.depth, dpD]
theorem depth_pyL : ∀ {ds : List D}, PyData.depthAll (pyL ds) = dpL ds
  | [] => by simp [pyL, PyData.depthAll, dpL]
  | d :: ds => by rw [pyL, PyData.depthAll, dpL, depth_py, depth_pyL]
end
theorem shaped_py {d : D} (h : okD d = true) (h2 : dpD d ≤ 64) : SeqAt.shaped d.py = true := by
  unfold SeqAt.shaped
  rw [Bool.and_eq_true, decide_eq_true_eq, depth_py]
  exact ⟨canLay_py h, h2⟩
mutual
theorem Rp.dp {K : PySem.W.Frag} {H : Hp} {P M : PA1} : ∀ {d : D} {v : V}, okD d = true → Rp K H P M d v → Dp K H v d.py
  | .non, v, _, h => by rw [Rp] at h; subst h; rw [D.py]; exact .non
  | .bl _, v, _, h => by rw [Rp] at h; subst h; rw [D.py]; exact .bl _
  | .int _, v, _, h => by rw [Rp] at h; subst h; rw [D.py]; exact .int _
  | .str _, v, _, h => by rw [Rp] at h; subst h; rw [D.py]; exact .str _
  | .tup xs, v, o, h => by
    rw [Rp] at h
    rw [okD] at o
    obtain ⟨a, ys, rfl, h1, h2⟩ := h
    rw [D.py]
    exact .tup h1 (RpA.dp o h2)
  | .lst xs, v, o, h => by
    rw [Rp] at h
    rw [okD] at o
    obtain ⟨a, ys, rfl, _, h1, h2⟩ := h
    rw [D.py]
    exact .lst (.of h1) (RpA.dp o h2)
  | .pot, _, o, _ => by simp [okD] at o
  | .scr _, _, o, _ => by simp [okD] at o
  | .exc _ _, _, o, _ => by simp [okD] at o
theorem RpA.dp {K : PySem.W.Frag} {H : Hp} {P M : PA1} : ∀ {ds : List D} {xs : List V}, okL ds = true → RpA K H P M ds xs → DpAll K H xs (pyL ds)
  | [], xs, _, h => by rw [RpA] at h; subst h; rw [pyL]; exact .nil
  | d :: ds, xs, o, h => by
    obtain ⟨x, r, rfl, h1, h2⟩ := h.cons_inv
    rw [okL, Bool.and_eq_true] at o
    rw [pyL]
    exact .cons (Rp.dp o.1 h1) (RpA.dp o.2 h2)
end
theorem Rs.dp {K : PySem.W.Frag} {H : Hp} {P M : PA1} {d : D} {v : V} (o : okD d = true) (h : Rs K H P M d v) : Dp K H v d.py := by
  cases d with
  | lst xs =>
    obtain ⟨a, ys, rfl, h1, h2⟩ := h
    rw [okD] at o
    rw [D.py]
    exact .lst (.of h1) (RpA.dp o h2)
  | _ => exact Rp.dp (P := P) (M := M) o h

/-! ### kinds of values -/
/-- lists as they are read: the script, too -/
@[simp] def D.ls : D → Option (List D)
  | .lst ds => some ds
  | .scr ns => some (ns.map .int)
  | _ => none
theorem ra_ints {K : PySem.W.Frag} {H : Hp} {P M : PA1} : ∀ ns : List Int, RpA K H P M (ns.map .int) (ns.map V.int)
  | [] => .nil
  | n :: ns => .cons (by rw [Rp]) (ra_ints ns)
theorem ra_ints_inv {K : PySem.W.Frag} {H : Hp} {P M : PA1} : ∀ {ns : List Int} {xs : List V}, RpA K H P M (ns.map .int) xs → xs = ns.map V.int
  | [], xs, h => by rw [List.map_nil, RpA] at h; exact h
  | n :: ns, xs, h => by
    rw [List.map_cons] at h
    obtain ⟨x, r, rfl, h1, h2⟩ := h.cons_inv
    rw [Rp] at h1
    rw [h1, ra_ints_inv h2]
    rfl
theorem ra_bls_inv {K : PySem.W.Frag} {H : Hp} {P M : PA1} : ∀ {ns : List Bool} {xs : List V}, RpA K H P M (ns.map .bl) xs → xs = ns.map V.bl
  | [], xs, h => by rw [List.map_nil, RpA] at h; exact h
  | n :: ns, xs, h => by
    rw [List.map_cons] at h
    obtain ⟨x, r, rfl, h1, h2⟩ := h.cons_inv
    rw [Rp] at h1
    rw [h1, ra_bls_inv h2]
    rfl
theorem Rs.ls {K : PySem.W.Frag} {H : Hp} {P M : PA1} {d : D} {v : V} {ds : List D} (h : Rs K H P M d v) (e : d.ls = some ds) : ∃ a xs, v = .ref a ∧ SqL K H a xs ∧ RpA K H P M ds xs := by
  cases d with
  | lst es =>
    cases e
    obtain ⟨a, xs, rfl, h1, h2⟩ := h
    exact ⟨a, xs, rfl, .of h1, h2⟩
  | scr ns =>
    cases e
    have g : Rp K H P M (.scr ns) v := h
    rw [Rp] at g
    obtain ⟨a, rfl, g⟩ := g
    have hq : SqL K H a (ns.map V.int) := g.elim (fun ⟨o, z⟩ => .inl (.inr ⟨o, z⟩)) fun z => .inr z
    exact ⟨a, _, rfl, hq, ra_ints ns⟩
  | _ => cases e
theorem Rs.tp {K : PySem.W.Frag} {H : Hp} {P M : PA1} {v : V} {ds : List D} (h : Rs K H P M (.tup ds) v) : ∃ a xs, v = .ref a ∧ SqT K H a xs ∧ RpA K H P M ds xs := by
  have h : Rp K H P M (.tup ds) v := h
  rw [Rp] at h
  exact h
theorem Rs.int {K : PySem.W.Frag} {H : Hp} {P M : PA1} {v : V} {i : Int} (h : Rs K H P M (.int i) v) : v = .int i := by
  have h : Rp K H P M (.int i) v := h
  rw [Rp] at h
  exact h
theorem Rs.str {K : PySem.W.Frag} {H : Hp} {P M : PA1} {v : V} {i : Str} (h : Rs K H P M (.str i) v) : v = .str i := by
  have h : Rp K H P M (.str i) v := h
  rw [Rp] at h
  exact h
theorem Rs.bl {K : PySem.W.Frag} {H : Hp} {P M : PA1} {v : V} {i : Bool} (h : Rs K H P M (.bl i) v) : v = .bl i := by
  have h : Rp K H P M (.bl i) v := h
  rw [Rp] at h
  exact h
theorem Rs.non {K : PySem.W.Frag} {H : Hp} {P M : PA1} {v : V} (h : Rs K H P M .non v) : v = .non := by
  have h : Rp K H P M .non v := h
  rw [Rp] at h
  exact h
section
variable {K : PySem.W.Frag} {H : Hp} {P M : PA1} {Q : VK} {r : Option R}
/-- what is asked, for an answer that is flat -/
theorem Fit.im {d : D} {v : V} (h : Fit K H P M (some (.im d)) Q) (rp : Rp K H P M d v) : Q v H := by
  obtain ⟨r', e, q⟩ := h
  cases e
  exact q v H .refl rp
theorem Fit.tup {ds : List D} {xs : List V} (h : Fit K H P M (some (.im (.tup ds))) Q) (ra : RpA K H P M ds xs) : ∀ p, H p = none → Q (.ref p) (upd H p (.tup xs)) := fun p hp => by
  obtain ⟨r', e, q⟩ := h
  cases e
  refine q _ _ (kp_upd hp) ?_
  show Rp K _ P M (.tup ds) _
  rw [Rp]
  exact ⟨p, xs, rfl, .inl (.inl upd_same), ra.mo (.grow (kp_upd hp))⟩
theorem Fit.lst {ds : List D} {xs : List V} (h : Fit K H P M (some (.nw ds)) Q) (ra : RpA K H P M ds xs) : ∀ p, H p = none → Q (.ref p) (upd H p (.lst xs)) := fun p hp => by
  obtain ⟨r', e, q⟩ := h
  cases e
  exact q _ _ (kp_upd hp) (rz_list hp ra)
theorem Fit.no (h : Fit K H P M none Q) : False := by
  obtain ⟨r', e, _⟩ := h
  cases e
theorem rp_int {i : Int} : Rp K H P M (.int i) (.int i) := by rw [Rp]
theorem rp_str {i : Str} : Rp K H P M (.str i) (.str i) := by rw [Rp]
theorem rp_non : Rp K H P M .non .non := by rw [Rp]
theorem rp_bl' {i : Bool} : Rp K H P M (.bl i) (.bl i) := by rw [Rp]
end

/-! ### arithmetic -/
@[simp] def addD : D → D → Option R
  | .int i, .int j => some (.im (.int (i + j)))
  | .str x, .str y => if x.length + y.length ≤ sizeLine then some (.im (.str (x ++ y))) else none
  | .tup xs, .tup ys => if xs.length + ys.length ≤ sizeLine then some (.im (.tup (xs ++ ys))) else none
  | .lst xs, .lst ys => if xs.length + ys.length ≤ sizeLine then some (.nw (xs ++ ys)) else none
  | _, _ => none
@[simp] def subD : D → D → Option R
  | .int i, .int j => some (.im (.int (i - j)))
  | _, _ => none
/-- the factors: one of a word, or both below half a million bits -/
def mulOk (i j : Int) : Bool := decide (i.natAbs < 2 ^ 64) || decide (j.natAbs < 2 ^ 64)
@[simp] def mulD : D → D → Option R
  | .int i, .int j => if mulOk i j = true then some (.im (.int (i * j))) else none
  | _, _ => none
@[simp] def modD : D → D → Option R
  | .int i, .int j => if 0 < j then some (.im (.int (i % j))) else none
  | _, _ => none
@[simp] def fdivD : D → D → Option R
  | .int i, .int j => if 0 < j ∧ j < 1073741824 then some (.im (.int (i / j))) else none
  | _, _ => none
@[simp] def powD : D → D → Option R
  | .int i, .int j => if 0 ≤ j ∧ j ≤ 1000000 ∧ i.natAbs < 2 ^ 64 then some (.im (.int (i ^ j.toNat))) else none
  | _, _ => none
section
variable {X : Cx}
theorem op_addD : Op2 X (binaryOp .Add) addD := by
  intro pins s σ H x y v u Q I rx ry ⟨P, M, d, e, h1, h2, _, f⟩
  unfold addD at f
  split at f
  · exact op_add pins s σ H x y v u Q I rx ry ⟨_, _, h1.int, h2.int, f.im rp_int⟩
  · split at f
    · exact op_add_str pins s σ H x y v u Q I rx ry ⟨_, _, h1.str, h2.str, by assumption, f.im rp_str⟩
    · exact f.no.elim
  · split at f
    · rename_i xs ys hz
      obtain ⟨a, vs, rfl, ta, ra⟩ := h1.tp
      obtain ⟨b, ws, rfl, tb, rb⟩ := h2.tp
      refine op_catA pins s σ H _ _ v u Q I rx ry ⟨a, b, vs, ws, rfl, rfl, ta, tb, by rw [← ra.length, ← rb.length]; exact hz, fun e => ?_, fun _ e => ?_, fun _ _ => f.tup (ra.append rb)⟩
      · subst e
        have e0 : xs = [] := List.eq_nil_of_length_eq_zero ra.length
        rw [e0, List.nil_append] at f
        refine f.im ?_
        rw [Rp]
        exact ⟨b, ws, rfl, tb, rb⟩
      · subst e
        have e0 : ys = [] := List.eq_nil_of_length_eq_zero rb.length
        rw [e0, List.append_nil] at f
        refine f.im ?_
        rw [Rp]
        exact ⟨a, vs, rfl, ta, ra⟩
    · exact f.no.elim
  · split at f
    · rename_i xs ys hz
      obtain ⟨a, vs, rfl, ta, ra⟩ := h1
      obtain ⟨b, ws, rfl, tb, rb⟩ := h2
      exact op_cat pins s σ H _ _ v u Q I rx ry ⟨a, b, vs, ws, rfl, rfl, ta, tb, by rw [← ra.length, ← rb.length]; exact hz, f.lst (ra.append rb)⟩
    · exact f.no.elim
  · exact f.no.elim
theorem op_subD : Op2 X (binaryOp .Sub) subD := by
  intro pins s σ H x y v u Q I rx ry ⟨P, M, d, e, h1, h2, _, f⟩
  unfold subD at f
  split at f
  · exact op_sub pins s σ H x y v u Q I rx ry ⟨_, _, h1.int, h2.int, f.im rp_int⟩
  · exact f.no.elim
theorem natAbs_word {i : Int} (h : i.natAbs < 2 ^ 64) : -(2 ^ 64) < i ∧ i < 2 ^ 64 := by omega
theorem op_mulD : Op2 X (binaryOp .Mult) mulD := by
  intro pins s σ H x y v u Q I rx ry ⟨P, M, d, e, h1, h2, _, f⟩
  unfold mulD at f
  split at f
  · split at f
    · rename_i hm
      unfold mulOk at hm
      rw [Bool.or_eq_true, decide_eq_true_eq, decide_eq_true_eq] at hm
      exact op_mul pins s σ H x y v u Q I rx ry ⟨_, _, h1.int, h2.int, hm.imp natAbs_word natAbs_word, f.im rp_int⟩
    · exact f.no.elim
  · exact f.no.elim
theorem op_modD : Op2 X (binaryOp .Mod) modD := by
  intro pins s σ H x y v u Q I rx ry ⟨P, M, d, e, h1, h2, _, f⟩
  unfold modD at f
  split at f
  · split at f
    · exact op_mod pins s σ H x y v u Q I rx ry ⟨_, _, h1.int, h2.int, by assumption, f.im rp_int⟩
    · exact f.no.elim
  · exact f.no.elim
theorem op_fdivD : Op2 X (binaryOp .FloorDiv) fdivD := by
  intro pins s σ H x y v u Q I rx ry ⟨P, M, d, e, h1, h2, _, f⟩
  unfold fdivD at f
  split at f
  · split at f
    · exact op_fdiv pins s σ H x y v u Q I rx ry ⟨_, _, h1.int, h2.int, by assumption, f.im rp_int⟩
    · exact f.no.elim
  · exact f.no.elim
theorem op_powD : Op2 X (binaryOp .Pow) powD := by
  intro pins s σ H x y v u Q I rx ry ⟨P, M, d, e, h1, h2, _, f⟩
  unfold powD at f
  split at f
  · split at f
    · exact op_pow pins s σ H x y v u Q I rx ry ⟨_, _, h1.int, h2.int, by assumption, f.im rp_int⟩
    · exact f.no.elim
  · exact f.no.elim
@[simp] def negD : D → Option R
  | .int i => some (.im (.int (-i)))
  | _ => none
theorem op_negD : Op1 X (unaryOp .USub) negD := by
  intro pins s σ H x v Q I rx ⟨P, M, d, h1, _, f⟩
  unfold negD at f
  split at f
  · exact un_neg pins s σ H x v Q I rx ⟨_, h1.int, f.im rp_int⟩
  · exact f.no.elim
end

/-! ### comparisons -/
def D.eqv (d e : D) : Bool := PyData.eqv d.py e.py
def eqOk (d e : D) : Bool := (okD d && okD e) && (decide (dpD d ≤ 64) && decide (dpD e ≤ 64))
@[simp] def eqD : D → D → Option R
  | .int i, .int j => some (.im (.bl (decide (i = j))))
  | .str i, .str j => some (.im (.bl (decide (i = j))))
  | d, e => if eqOk d e = true then some (.im (.bl (D.eqv d e))) else none
@[simp] def neD : D → D → Option R
  | .int i, .int j => some (.im (.bl (!decide (i = j))))
  | .str i, .str j => some (.im (.bl (!decide (i = j))))
  | d, e => if eqOk d e = true then some (.im (.bl (!D.eqv d e))) else none
theorem dec_inj {α β : Type} [DecidableEq α] [DecidableEq β] {f : α → β} (hf : ∀ x y, f x = f y → x = y) {i j : α} : decide (f i = f j) = decide (i = j) := decide_eq_decide.mpr ⟨hf i j, fun h => by rw [h]⟩
theorem eqOk_iff {d e : D} (h : eqOk d e = true) : okD d = true ∧ okD e = true ∧ dpD d ≤ 64 ∧ dpD e ≤ 64 := by
  unfold eqOk at h
  rw [Bool.and_eq_true, Bool.and_eq_true, Bool.and_eq_true, decide_eq_true_eq, decide_eq_true_eq] at h
  exact ⟨h.1.1, h.1.2, h.2.1, h.2.2⟩
def intsD : List D → Option (List Int)
  | [] => some []
  | .int i :: ds => (intsD ds).map fun l => i :: l
  | _ :: _ => none
theorem intsD_some : ∀ {ds : List D} {ns : List Int}, intsD ds = some ns → ds = ns.map .int
  | [], ns, h => by rw [intsD] at h; cases h; rfl
  | .int i :: ds, ns, h => by
    rw [intsD] at h
    obtain ⟨l, h1, h2⟩ := Option.map_eq_some_iff.mp h
    subst h2
    rw [List.map_cons, ← intsD_some h1]
  | .non :: _, _, h => by simp [intsD] at h
  | .bl _ :: _, _, h => by simp [intsD] at h
  | .str _ :: _, _, h => by simp [intsD] at h
  | .tup _ :: _, _, h => by simp [intsD] at h
  | .lst _ :: _, _, h => by simp [intsD] at h
  | .pot :: _, _, h => by simp [intsD] at h
  | .scr _ :: _, _, h => by simp [intsD] at h
  | .exc _ _ :: _, _, h => by simp [intsD] at h
theorem intsD_map : ∀ ns : List Int, intsD (ns.map .int) = some ns
  | [] => rfl
  | n :: ns => by rw [List.map_cons, intsD, intsD_map ns]; rfl
@[simp] def ltD : D → D → Option R
  | .int i, .int j => some (.im (.bl (decide (i < j))))
  | .tup xs, .tup ys => match intsD xs, intsD ys with
    | some ns, some ms => some (.im (.bl (HT.lexLt ns ms)))
    | _, _ => none
  | _, _ => none
@[simp] def leD : D → D → Option R
  | .int i, .int j => some (.im (.bl (decide (i ≤ j))))
  | _, _ => none
@[simp] def gtD : D → D → Option R
  | .int i, .int j => some (.im (.bl (decide (j < i))))
  | _, _ => none
@[simp] def geD : D → D → Option R
  | .int i, .int j => some (.im (.bl (decide (j ≤ i))))
  | _, _ => none
/-- x in xs -/
@[simp] def inB : D → D → Option Bool
  | d, .lst ys => if eqOk d (.lst ys) = true then some (ys.any fun y => D.eqv y d) else none
  | d, .tup ys => if eqOk d (.tup ys) = true then some (ys.any fun y => D.eqv y d) else none
  | .str x, .str y => some (!(Builtin.Str.occurrences y x 0 y.length 1).isEmpty)
  | _, _ => none
@[simp] def inD (d e : D) : Option R := (inB d e).map fun b => .im (.bl b)
@[simp] def notInD (d e : D) : Option R := (inB d e).map fun b => .im (.bl (!b))
theorem any_py (d : D) : ∀ ys : List D, (pyL ys).any (fun y => PyData.eqv y d.py) = ys.any fun y => D.eqv y d
  | [] => rfl
  | y :: ys => by
    rw [pyL, List.any_cons, List.any_cons, any_py d ys]
    rfl
section
variable {X : Cx}
theorem op_eqDD (hu : X.A.units + 64 < cLine) : Op2 X (compareOp .Eq) eqD := by
  intro pins s σ H x y v u Q I rx ry ⟨P, M, d, e, h1, h2, _, f⟩
  unfold eqD at f
  split at f
  · refine op_eq pins s σ H x y v u Q I rx ry ?_
    rw [h1.int, h2.int]
    refine ⟨rfl, f.im ?_⟩
    rw [dec_inj (fun _ _ h => V.int.inj h)]
    exact rp_bl'
  · refine op_eq pins s σ H x y v u Q I rx ry ?_
    rw [h1.str, h2.str]
    refine ⟨rfl, f.im ?_⟩
    rw [dec_inj (fun _ _ h => V.str.inj h)]
    exact rp_bl'
  · split at f
    · rename_i ho
      obtain ⟨o1, o2, o3, o4⟩ := eqOk_iff ho
      exact op_eqD hu pins s σ H x y v u Q I rx ry ⟨_, _, h1.dp o1, h2.dp o2, shaped_py o1 o3, shaped_py o2 o4, f.im rp_bl'⟩
    · exact f.no.elim
theorem op_neDD (hu : X.A.units + 64 < cLine) : Op2 X (compareOp .NotEq) neD := by
  intro pins s σ H x y v u Q I rx ry ⟨P, M, d, e, h1, h2, _, f⟩
  unfold neD at f
  split at f
  · refine op_ne pins s σ H x y v u Q I rx ry ?_
    rw [h1.int, h2.int]
    refine ⟨rfl, f.im ?_⟩
    rw [dec_inj (fun _ _ h => V.int.inj h)]
    exact rp_bl'
  · refine op_ne pins s σ H x y v u Q I rx ry ?_
    rw [h1.str, h2.str]
    refine ⟨rfl, f.im ?_⟩
    rw [dec_inj (fun _ _ h => V.str.inj h)]
    exact rp_bl'
  · split at f
    · rename_i ho
      obtain ⟨o1, o2, o3, o4⟩ := eqOk_iff ho
      exact op_neD hu pins s σ H x y v u Q I rx ry ⟨_, _, h1.dp o1, h2.dp o2, shaped_py o1 o3, shaped_py o2 o4, f.im rp_bl'⟩
    · exact f.no.elim
theorem op_ltDD (hu : X.A.units < cLine) : Op2 X (compareOp .Lt) ltD := by
  intro pins s σ H x y v u Q I rx ry ⟨P, M, d, e, h1, h2, _, f⟩
  unfold ltD at f
  split at f
  · exact op_lt pins s σ H x y v u Q I rx ry ⟨_, _, h1.int, h2.int, f.im rp_bl'⟩
  · split at f
    · rename_i xs ys _ _ ns ms e1 e2
      have e1 := intsD_some e1
      have e2 := intsD_some e2
      subst e1 e2
      obtain ⟨a, vs, rfl, ta, ra⟩ := h1.tp
      obtain ⟨b, ws, rfl, tb, rb⟩ := h2.tp
      rw [ra_ints_inv ra] at ta
      rw [ra_ints_inv rb] at tb
      exact op_ltT hu pins s σ H _ _ v u Q I rx ry ⟨a, b, ns, ms, rfl, rfl, ta, tb, f.im rp_bl'⟩
    · exact f.no.elim
  · exact f.no.elim
theorem op_leDD : Op2 X (compareOp .LtE) leD := by
  intro pins s σ H x y v u Q I rx ry ⟨P, M, d, e, h1, h2, _, f⟩
  unfold leD at f
  split at f
  · exact op_le pins s σ H x y v u Q I rx ry ⟨_, _, h1.int, h2.int, f.im rp_bl'⟩
  · exact f.no.elim
theorem op_gtDD : Op2 X (compareOp .Gt) gtD := by
  intro pins s σ H x y v u Q I rx ry ⟨P, M, d, e, h1, h2, _, f⟩
  unfold gtD at f
  split at f
  · exact op_gt pins s σ H x y v u Q I rx ry ⟨_, _, h1.int, h2.int, f.im rp_bl'⟩
  · exact f.no.elim
theorem op_geDD : Op2 X (compareOp .GtE) geD := by
  intro pins s σ H x y v u Q I rx ry ⟨P, M, d, e, h1, h2, _, f⟩
  unfold geD at f
  split at f
  · exact op_ge pins s σ H x y v u Q I rx ry ⟨_, _, h1.int, h2.int, f.im rp_bl'⟩
  · exact f.no.elim
theorem in_core {pins : List (Addr × Obj)} {s : Shared} {σ : St} {H : Hp} {x y : V} {v u : Value} {P M : PA1} {d e : D} {b : Bool} {QV : Value → Shared → Prop} {E : Value → Shared → Prop} {op : CmpOp} (hu : X.A.units + 65 < cLine) (I : Inv X pins σ H s) (rx : RelV x v) (ry : RelV y u)
    (h1 : Rs X.K H P M d x) (h2 : Rs X.K H P M e y) (hb : inB d e = some b) (neg : Bool) (ho : op = if neg = true then .NotIn else .In) (q : QV (.bool (b != neg)) s) (qs : ∀ t, QV (.bool (b != neg)) { s with toks := t }) : wpAny (model X.prog X.w) X.A (compareOp op v u) QV E s := by
  unfold inB at hb
  split at hb
  · rename_i ys
    split at hb
    · rename_i hk
      cases hb
      obtain ⟨o1, o2, o3, o4⟩ := eqOk_iff hk
      obtain ⟨as, r1⟩ := Dp.reads I _ x v (h1.dp o1) rx
      obtain ⟨bs, r2⟩ := Dp.reads I _ y u (h2.dp o2) ry
      rw [D.py] at r2
      rw [okD] at o2
      have hd : X.A.units + 1 + min (PyData.depthAll (pyL ys)) d.py.depth < cLine := by
        rw [depth_py]
        omega
      cases neg with
      | true =>
        subst ho
        refine SeqAt.notIn_list_reads r2 r1 (canLay_pyL o2) (canLay_py o1) hd ?_
        rw [any_py]
        simpa using q
      | false =>
        subst ho
        refine SeqAt.in_list_reads r2 r1 (canLay_pyL o2) (canLay_py o1) hd ?_
        rw [any_py]
        simpa using q
    · cases hb
  · rename_i ys
    split at hb
    · rename_i hk
      cases hb
      obtain ⟨o1, o2, o3, o4⟩ := eqOk_iff hk
      obtain ⟨as, r1⟩ := Dp.reads I _ x v (h1.dp o1) rx
      obtain ⟨bs, r2⟩ := Dp.reads I _ y u (h2.dp o2) ry
      rw [D.py] at r2
      rw [okD] at o2
      have hd : X.A.units + 1 + min (PyData.depthAll (pyL ys)) d.py.depth < cLine := by
        rw [depth_py]
        omega
      cases neg with
      | true =>
        subst ho
        refine SeqAt.notIn_tuple_reads r2 r1 (canLay_pyL o2) (canLay_py o1) hd ?_
        rw [any_py]
        simpa using q
      | false =>
        subst ho
        refine SeqAt.in_tuple_reads r2 r1 (canLay_pyL o2) (canLay_py o1) hd ?_
        rw [any_py]
        simpa using q
    · cases hb
  · rename_i i j
    cases hb
    have ex := h1.str
    have ey := h2.str
    subst ex ey
    obtain ⟨t, rfl⟩ := rx
    obtain ⟨t', rfl⟩ := ry
    cases neg with
    | true =>
      subst ho
      exact notIn_str (by simpa using q)
    | false =>
      subst ho
      exact in_str (by simpa using q)
  · cases hb
theorem op_inDD (hu : X.A.units + 65 < cLine) : Op2 X (compareOp .In) inD := by
  intro pins s σ H x y v u Q I rx ry ⟨P, M, d, e, h1, h2, _, f⟩
  unfold inD at f
  cases hb : inB d e with
  | none => rw [hb] at f; exact f.no.elim
  | some b =>
    rw [hb] at f
    have q := f.im (v := .bl b) rp_bl'
    exact in_core hu I rx ry h1 h2 hb false rfl ⟨.bl b, H, I, (by show Value.bool _ = Value.bool _; simp), q⟩ fun t => ⟨.bl b, H, I.tok t, (by show Value.bool _ = Value.bool _; simp), q⟩
theorem op_notInDD (hu : X.A.units + 65 < cLine) : Op2 X (compareOp .NotIn) notInD := by
  intro pins s σ H x y v u Q I rx ry ⟨P, M, d, e, h1, h2, _, f⟩
  unfold notInD at f
  cases hb : inB d e with
  | none => rw [hb] at f; exact f.no.elim
  | some b =>
    rw [hb] at f
    have q := f.im (v := .bl (!b)) rp_bl'
    exact in_core hu I rx ry h1 h2 hb true rfl ⟨.bl (!b), H, I, (by show Value.bool _ = Value.bool _; simp), q⟩ fun t => ⟨.bl (!b), H, I.tok t, (by show Value.bool _ = Value.bool _; simp), q⟩
/-- x is None -/
@[simp] def isNoneD : D → D → Option R
  | d, .non => match d with
    | .non => some (.im (.bl true))
    | _ => some (.im (.bl false))
  | _, _ => none
@[simp] def notNoneD : D → D → Option R
  | d, .non => match d with
    | .non => some (.im (.bl false))
    | _ => some (.im (.bl true))
  | _, _ => none
theorem none_iff {K : PySem.W.Frag} {H : Hp} {P M : PA1} {d : D} {x : V} (h : Rs K H P M d x) : x = .non ↔ d = .non := by
  constructor
  · intro e
    subst e
    cases d with
    | non => rfl
    | bl _ => cases h.bl
    | int _ => cases h.int
    | str _ => cases h.str
    | tup _ => obtain ⟨_, _, e, _⟩ := h.tp; cases e
    | lst _ => obtain ⟨_, _, e, _⟩ := h; cases e
    | pot => have h : Rp K H P M .pot .non := h; rw [Rp] at h; obtain ⟨_, e, _⟩ := h; cases e
    | scr ns => have h : Rp K H P M (.scr ns) .non := h; rw [Rp] at h; obtain ⟨_, e, _⟩ := h; cases e
    | exc c v => have h : Rp K H P M (.exc c v) .non := h; rw [Rp] at h; obtain ⟨_, _, _, _, e, _⟩ := h; cases e
  · intro e
    subst e
    exact h.non
theorem op_isNone : Op2 X (compareOp .Is) isNoneD := by
  intro pins s σ H x y v u Q I rx ry ⟨P, M, d, e, h1, h2, _, f⟩
  unfold isNoneD at f
  split at f
  · refine op_isN pins s σ H x y v u Q I rx ry ⟨h2.non, ?_⟩
    by_cases hd : d = .non
    · subst hd
      rw [decide_eq_true (h1.non)]
      exact f.im rp_bl'
    · rw [decide_eq_false (fun z => hd ((none_iff h1).mp z))]
      split at f
      · exact absurd rfl hd
      · exact f.im rp_bl'
  · exact f.no.elim
theorem op_notNone : Op2 X (compareOp .IsNot) notNoneD := by
  intro pins s σ H x y v u Q I rx ry ⟨P, M, d, e, h1, h2, _, f⟩
  unfold notNoneD at f
  split at f
  · refine op_notN pins s σ H x y v u Q I rx ry ⟨h2.non, ?_⟩
    by_cases hd : d = .non
    · subst hd
      rw [decide_eq_true (h1.non)]
      exact f.im rp_bl'
    · rw [decide_eq_false (fun z => hd ((none_iff h1).mp z))]
      split at f
      · exact absurd rfl hd
      · exact f.im rp_bl'
  · exact f.no.elim
end

/-! ### items -/
theorem atI_rp {K : PySem.W.Frag} {H : Hp} {P M : PA1} {ds : List D} {xs : List V} {i : Int} {d : D} (h : RpA K H P M ds xs) (e : atI ds i = some d) : ∃ v, atI xs i = some v ∧ Rp K H P M d v := by
  unfold atI at e ⊢
  rw [h.length] at e
  cases hj : ixN xs.length i with
  | none => rw [hj] at e; cases e
  | some j =>
    rw [hj] at e
    exact h.get (show ds[j]? = some d from e)
@[simp] def itemD : D → D → Option R
  | .tup ds, .int i => (atI ds i).map .im
  | .str z, .int i => if z.length ≤ sizeLine then (atI z.cps.toList i).map fun c => .im (.str ⟨#[c]⟩) else none
  | d, .int i => (d.ls).bind fun ds => (atI ds i).map .im
  | _, _ => none
section
variable {X : Cx} {EX : XK} {a b : Expr} {pos : Pos} {wa wb : WO}
theorem ix_D : IxR X fun x y H Q => ∃ (P M : PA1) (d e : D), Rs X.K H P M d x ∧ Rs X.K H P M e y ∧ Ml H M ∧ Fit X.K H P M (itemD d e) Q := by
  intro value slice pins s σ H x y v u Q I rx ry ⟨P, M, d, e, h1, h2, _, f⟩ hs
  unfold itemD at f
  split at f
  · rename_i ds i
    obtain ⟨p, xs, rfl, ta, ra⟩ := h1.tp
    cases hd : atI ds i with
    | none => rw [hd] at f; exact f.no.elim
    | some d =>
      rw [hd] at f
      obtain ⟨w, e1, e2⟩ := atI_rp ra hd
      exact ix_tup value slice pins s σ H _ _ v u Q I rx ry ⟨p, xs, i, w, rfl, h2.int, ta, e1, f.im e2⟩ hs
  · rename_i z i
    split at f
    · cases hd : atI z.cps.toList i with
      | none => rw [hd] at f; exact f.no.elim
      | some c =>
        rw [hd] at f
        exact ix_str value slice pins s σ H _ _ v u Q I rx ry ⟨z, i, c, h1.str, h2.int, by assumption, hd, f.im rp_str⟩ hs
    · exact f.no.elim
  · rename_i i _ _
    cases hl : d.ls with
    | none => rw [hl] at f; exact f.no.elim
    | some ds =>
      rw [hl] at f
      obtain ⟨p, xs, rfl, ta, ra⟩ := h1.ls hl
      have f : Fit X.K H P M ((atI ds i).map .im) Q := f
      cases hd : atI ds i with
      | none => rw [hd] at f; exact f.no.elim
      | some d' =>
        rw [hd] at f
        obtain ⟨w, e1, e2⟩ := atI_rp ra hd
        exact ix_list value slice pins s σ H _ _ v u Q I rx ry ⟨p, xs, i, w, rfl, h2.int, ta, e1, f.im e2⟩ hs
  · exact f.no.elim
theorem de_item (ha : DO X EX a wa) (hb : DO X EX b wb) (hs : PlainIx b) : DE X EX (.Subscript a b pos) (op2W itemD wa wb) := PE.imp (pe_ix ix_D ha hb hs) fun _ _ _ h => op2_read h
end
end NB
set_option Elab.async false
set_option linter.all false
set_option maxRecDepth 100000
set_option maxHeartbeats 4000000
set_option autoImplicit false
/-! Calls of builtins, slices, by data. -/
namespace NB
open PySem PySem.Spec PyProof.Rows L2

def OpC (X : Cx) (f : Value) (g : RND) : Prop := CallR X f fun vs H Q => ∃ (P M : PA1) (ds : List D), Paired (Rs X.K H P M) ds vs ∧ Ml H M ∧ Fit X.K H P M (g ds) Q
section
variable {X : Cx} {EX : XK} {e : Expr} {es : List Expr} {p pos : Pos} {x : Str} {id T : String} {g : RND} {w : Wg (List Od)}
theorem de_callB (hc : OpC X (.builtin id) g) (hg : Gl X x) (hm : X.mg x = none) (hv : bootBuiltins x = some (.builtin id)) (ha : DOA X EX (e :: es) w) (hn : x ≠ "__name__" := by decide) (hdb : (x == ("__debug__" : Str)) = false := by decide)
    (he : starEach (e :: es) X.env = (false, eval e X.env) :: starEach es X.env := by rfl) (hpl : (backTo pos (starEach es X.env)).any (·.1) = false := by rfl) : DE X EX (.Call (.Name x p) (e :: es) [] pos) (opNW g w) :=
  PE.imp (pe_callB hc hg hm hv ha hn hdb he hpl) fun _ _ _ h => opN_read h
theorem de_callTy (hc : OpC X (.type T) g) (hg : Gl X x) (hm : X.mg x = none) (hv : bootBuiltins x = some (.type T)) (ha : DOA X EX (e :: es) w) (hn : x ≠ "__name__" := by decide) (hdb : (x == ("__debug__" : Str)) = false := by decide)
    (he : starEach (e :: es) X.env = (false, eval e X.env) :: starEach es X.env := by rfl) (hpl : (backTo pos (starEach es X.env)).any (·.1) = false := by rfl) : DE X EX (.Call (.Name x p) (e :: es) [] pos) (opNW g w) :=
  PE.imp (pe_callTy hc hg hm hv ha hn hdb he hpl) fun _ _ _ h => opN_read h
end
theorem paired1 {α β : Type} {R : α → β → Prop} {d : α} {vs : List β} (h : Paired R [d] vs) : ∃ v, vs = [v] ∧ R d v := by
  cases h with
  | cons a b => cases b; exact ⟨_, rfl, a⟩
theorem paired2 {α β : Type} {R : α → β → Prop} {d e : α} {vs : List β} (h : Paired R [d, e] vs) : ∃ v u, vs = [v, u] ∧ R d v ∧ R e u := by
  cases h with
  | cons a b => obtain ⟨u, rfl, q⟩ := paired1 b; exact ⟨_, _, rfl, a, q⟩
@[simp] def g1 (f : D → Option R) : RND := fun ds => match ds with
  | [d] => f d
  | _ => none
@[simp] def g2 (f : D → D → Option R) : RND := fun ds => match ds with
  | [d, e] => f d e
  | _ => none
section
variable {X : Cx}
theorem opC1 {f : Value} {g : D → Option R} (h : ∀ (pins : List (Addr × Obj)) (s : Shared) (σ : St) (H : Hp) (v : V) (us : List Value) (Q : VK) (P M : PA1) (d : D), Inv X pins σ H s → Vals [v] us → Rs X.K H P M d v → Fit X.K H P M (g d) Q → wpAny (model X.prog X.w) X.A (call f us) (EP X pins σ Q) X.xe s) : OpC X f (g1 g) := by
  intro pins s σ H xs us Q I r ⟨P, M, ds, pr, _, f⟩
  unfold g1 at f
  split at f
  · obtain ⟨v, rfl, q⟩ := paired1 pr
    exact h pins s σ H v us Q P M _ I r q f
  · exact f.no.elim
theorem opC2 {f : Value} {g : D → D → Option R} (h : ∀ (pins : List (Addr × Obj)) (s : Shared) (σ : St) (H : Hp) (v u : V) (us : List Value) (Q : VK) (P M : PA1) (d e : D), Inv X pins σ H s → Vals [v, u] us → Rs X.K H P M d v → Rs X.K H P M e u → Fit X.K H P M (g d e) Q → wpAny (model X.prog X.w) X.A (call f us) (EP X pins σ Q) X.xe s) : OpC X f (g2 g) := by
  intro pins s σ H xs us Q I r ⟨P, M, ds, pr, _, f⟩
  unfold g2 at f
  split at f
  · obtain ⟨v, u, rfl, q1, q2⟩ := paired2 pr
    exact h pins s σ H v u us Q P M _ _ I r q1 q2 f
  · exact f.no.elim

@[simp] def lenOf : D → Option Nat
  | .str z => if z.length ≤ sizeLine then some z.length else none
  | .tup ds => some ds.length
  | .lst ds => some ds.length
  | .scr ns => some ns.length
  | _ => none
@[simp] def lenD (d : D) : Option R := (lenOf d).map fun n => .im (.int (n : Nat))
theorem oc_len : OpC X (.builtin "len") (g1 lenD) := opC1 fun pins s σ H v us Q P M d I r rd f => by
  unfold lenD at f
  cases hl : lenOf d with
  | none => rw [hl] at f; exact f.no.elim
  | some n =>
    rw [hl] at f
    refine call_len pins s σ H _ us Q I r ⟨v, n, rfl, ?_, f.im rp_int⟩
    cases d with
    | str z =>
      rw [rd.str]
      have hl : (if z.length ≤ sizeLine then some z.length else none) = some n := hl
      by_cases hz : z.length ≤ sizeLine
      · rw [if_pos hz] at hl
        cases hl
        exact ⟨hz, rfl⟩
      · rw [if_neg hz] at hl
        cases hl
    | tup ds =>
      cases hl
      obtain ⟨a, xs, rfl, ta, ra⟩ := rd.tp
      exact .inr ⟨xs, ta, ra.length⟩
    | lst ds =>
      cases hl
      obtain ⟨a, xs, rfl, ta, ra⟩ := rd.ls rfl
      exact .inl ⟨xs, ta, ra.length⟩
    | scr ns =>
      cases hl
      obtain ⟨a, xs, rfl, ta, ra⟩ := rd.ls rfl
      exact .inl ⟨xs, ta, by rw [← ra.length, List.length_map]⟩
    | _ => cases hl
@[simp] def absD : D → Option R
  | .int i => some (.im (.int (if i < 0 then -i else i)))
  | _ => none
theorem oc_abs : OpC X (.builtin "abs") (g1 absD) := opC1 fun pins s σ H v us Q P M d I r rd f => by
  unfold absD at f
  split at f
  · exact call_abs pins s σ H _ us Q I r ⟨_, by rw [rd.int], f.im rp_int⟩
  · exact f.no.elim
@[simp] def intD : D → Option R
  | .int i => some (.im (.int i))
  | .bl k => some (.im (.int (if k then 1 else 0)))
  | _ => none
theorem oc_int : OpC X (.type "int") (g1 intD) := opC1 fun pins s σ H v us Q P M d I r rd f => by
  unfold intD at f
  split at f
  · exact call_int1 pins s σ H _ us Q I r (.inl ⟨_, by rw [rd.int], f.im rp_int⟩)
  · exact call_int1 pins s σ H _ us Q I r (.inr ⟨_, by rw [rd.bl], f.im rp_int⟩)
  · exact f.no.elim
@[simp] def strID : D → Option R
  | .int i => if i.natAbs.log2 < 1920 then some (.im (.str (toString i))) else none
  | _ => none
theorem oc_strI : OpC X (.type "str") (g1 strID) := opC1 fun pins s σ H v us Q P M d I r rd f => by
  unfold strID at f
  split at f
  · split at f
    · exact call_str_int pins s σ H _ us Q I r ⟨_, by rw [rd.int], by assumption, f.im rp_str⟩
    · exact f.no.elim
  · exact f.no.elim
@[simp] def max2D : D → D → Option R
  | .int i, .int j => some (.im (.int (if j > i then j else i)))
  | _, _ => none
@[simp] def min2D : D → D → Option R
  | .int i, .int j => some (.im (.int (if j < i then j else i)))
  | _, _ => none
theorem oc_max2 (hc : X.calm = true) : OpC X (.builtin "max") (g2 max2D) := opC2 fun pins s σ H v u us Q P M d e I r rd re f => by
  unfold max2D at f
  split at f
  · exact call_max2 hc pins s σ H _ us Q I r ⟨_, _, by rw [rd.int, re.int], f.im rp_int⟩
  · exact f.no.elim
theorem oc_min2 (hc : X.calm = true) : OpC X (.builtin "min") (g2 min2D) := opC2 fun pins s σ H v u us Q P M d e I r rd re f => by
  unfold min2D at f
  split at f
  · exact call_min2 hc pins s σ H _ us Q I r ⟨_, _, by rw [rd.int, re.int], f.im rp_int⟩
  · exact f.no.elim
@[simp] def tupOfD : D → Option R
  | .tup ds => some (.im (.tup ds))
  | d => (d.ls).map fun ds => .im (.tup ds)
theorem oc_tuple : OpC X (.type "tuple") (g1 tupOfD) := opC1 fun pins s σ H v us Q P M d I r rd f => by
  unfold tupOfD at f
  split at f
  · obtain ⟨a, xs, rfl, ta, ra⟩ := rd.tp
    refine call_tuple_of pins s σ H _ us Q I r ⟨a, xs, rfl, .inr ⟨ta, f.im ?_⟩⟩
    rw [Rp]
    exact ⟨a, xs, rfl, ta, ra⟩
  · cases hl : d.ls with
    | none => rw [hl] at f; exact f.no.elim
    | some ds =>
      rw [hl] at f
      obtain ⟨a, xs, rfl, ta, ra⟩ := rd.ls hl
      exact call_tuple_of pins s σ H _ us Q I r ⟨a, xs, rfl, .inl ⟨ta, f.tup ra⟩⟩
@[simp] def lstOfD : D → Option R
  | .tup ds => some (.nw ds)
  | d => (d.ls).map fun ds => .nw ds
theorem oc_list : OpC X (.type "list") (g1 lstOfD) := opC1 fun pins s σ H v us Q P M d I r rd f => by
  unfold lstOfD at f
  split at f
  · obtain ⟨a, xs, rfl, ta, ra⟩ := rd.tp
    exact call_list_of pins s σ H _ us Q I r ⟨a, xs, rfl, .inr ta, f.lst ra⟩
  · cases hl : d.ls with
    | none => rw [hl] at f; exact f.no.elim
    | some ds =>
      rw [hl] at f
      obtain ⟨a, xs, rfl, ta, ra⟩ := rd.ls hl
      exact call_list_of pins s σ H _ us Q I r ⟨a, xs, rfl, .inl ta, f.lst ra⟩
def blsD : List D → Option (List Bool)
  | [] => some []
  | .bl i :: ds => (blsD ds).map fun l => i :: l
  | _ :: _ => none
theorem blsD_some : ∀ {ds : List D} {ns : List Bool}, blsD ds = some ns → ds = ns.map .bl
  | [], ns, h => by rw [blsD] at h; cases h; rfl
  | .bl i :: ds, ns, h => by
    rw [blsD] at h
    obtain ⟨l, h1, h2⟩ := Option.map_eq_some_iff.mp h
    subst h2
    rw [List.map_cons, ← blsD_some h1]
  | .non :: _, _, h => by simp [blsD] at h
  | .int _ :: _, _, h => by simp [blsD] at h
  | .str _ :: _, _, h => by simp [blsD] at h
  | .tup _ :: _, _, h => by simp [blsD] at h
  | .lst _ :: _, _, h => by simp [blsD] at h
  | .pot :: _, _, h => by simp [blsD] at h
  | .scr _ :: _, _, h => by simp [blsD] at h
  | .exc _ _ :: _, _, h => by simp [blsD] at h
theorem blsD_map : ∀ ns : List Bool, blsD (ns.map .bl) = some ns
  | [] => rfl
  | n :: ns => by rw [List.map_cons, blsD, blsD_map ns]; rfl
@[simp] def allD (d : D) : Option R := (d.ls).bind fun ds => (blsD ds).map fun bs => .im (.bl (bs.all id))
@[simp] def anyD (d : D) : Option R := (d.ls).bind fun ds => (blsD ds).map fun bs => .im (.bl (bs.any id))
@[simp] def sumD (d : D) : Option R := (d.ls).bind fun ds => (intsD ds).map fun ns => .im (.int ns.sum)
theorem oc_all (hc : X.calm = true) : OpC X (.builtin "all") (g1 allD) := opC1 fun pins s σ H v us Q P M d I r rd f => by
  unfold allD at f
  cases hl : d.ls with
  | none => rw [hl] at f; exact f.no.elim
  | some ds =>
    rw [hl] at f
    obtain ⟨a, xs, rfl, ta, ra⟩ := rd.ls hl
    cases hb : blsD ds with
    | none => rw [Option.bind_some, hb] at f; exact f.no.elim
    | some bs =>
      rw [Option.bind_some, hb] at f
      rw [blsD_some hb] at ra
      rw [ra_bls_inv ra] at ta
      exact cr_all hc pins s σ H _ us Q I r ⟨a, bs, rfl, ta, f.im rp_bl'⟩
theorem oc_any (hc : X.calm = true) : OpC X (.builtin "any") (g1 anyD) := opC1 fun pins s σ H v us Q P M d I r rd f => by
  unfold anyD at f
  cases hl : d.ls with
  | none => rw [hl] at f; exact f.no.elim
  | some ds =>
    rw [hl] at f
    obtain ⟨a, xs, rfl, ta, ra⟩ := rd.ls hl
    cases hb : blsD ds with
    | none => rw [Option.bind_some, hb] at f; exact f.no.elim
    | some bs =>
      rw [Option.bind_some, hb] at f
      rw [blsD_some hb] at ra
      rw [ra_bls_inv ra] at ta
      exact cr_any hc pins s σ H _ us Q I r ⟨a, bs, rfl, ta, f.im rp_bl'⟩
theorem oc_sum (hc : X.calm = true) : OpC X (.builtin "sum") (g1 sumD) := opC1 fun pins s σ H v us Q P M d I r rd f => by
  unfold sumD at f
  cases hl : d.ls with
  | none => rw [hl] at f; exact f.no.elim
  | some ds =>
    rw [hl] at f
    obtain ⟨a, xs, rfl, ta, ra⟩ := rd.ls hl
    cases hb : intsD ds with
    | none => rw [Option.bind_some, hb] at f; exact f.no.elim
    | some bs =>
      rw [Option.bind_some, hb] at f
      rw [intsD_some hb] at ra
      rw [ra_ints_inv ra] at ta
      exact cr_sum hc pins s σ H _ us Q I r ⟨a, bs, rfl, ta, f.im rp_int⟩
/-- the greatest, the least -/
def IsMax (ns : List Int) (m : Int) : Prop := m ∈ ns ∧ ∀ y ∈ ns, y ≤ m
def IsMin (ns : List Int) (m : Int) : Prop := m ∈ ns ∧ ∀ y ∈ ns, m ≤ y

/-! ### repr -/
def showOk (d : D) : Bool := ((okD d && d.py.showable) && decide (dpD d ≤ 64)) && decide (d.py.shown.length ≤ sizeLine)
@[simp] def reprD (d : D) : Option R := if showOk d = true then some (.im (.str d.py.shown)) else none
theorem oc_repr (hg : X.A.guards = some []) (hu : X.A.units + 66 < cLine) : OpC X (.builtin "repr") (g1 reprD) := opC1 fun pins s σ H v us Q P M d I r rd f => by
  unfold reprD at f
  split at f
  · rename_i hs
    unfold showOk at hs
    rw [Bool.and_eq_true, Bool.and_eq_true, Bool.and_eq_true, decide_eq_true_eq, decide_eq_true_eq] at hs
    obtain ⟨⟨⟨h1, h2⟩, h3⟩, h4⟩ := hs
    obtain ⟨u, rfl, rv⟩ := vals1 r
    have q := f.im (v := .str d.py.shown) rp_str
    obtain ⟨as, rd'⟩ := Dp.reads I _ v u (rd.dp h1) rv
    have big : ∀ {a : Addr}, u = .ref a → wpAny (model X.prog X.w) X.A (call (.builtin "repr") [u]) (EP X pins σ Q) X.xe s := fun {a} e => by
      subst e
      exact repr_of_reads' rd' h2 (PyData.noDict_hsm (PyData.hasDict_of_canLay _ (canLay_py h1))) hg (by rw [depth_py]; omega) (fun _ _ e => e) (fun h' u tk k => ⟨.str _, H, I.kept k, ⟨_, rfl⟩, q⟩) h4
    cases d with
    | non =>
      rw [rd.non] at rv
      cases rv
      exact PySem.P.repr_of_none ⟨.str _, H, I.tok _, ⟨_, rfl⟩, q⟩
    | bl b =>
      rw [rd.bl] at rv
      cases rv
      refine PySem.P.repr_of_bool ⟨.str _, H, I.tok _, ⟨_, rfl⟩, ?_⟩
      exact q
    | int i =>
      rw [rd.int] at rv
      obtain ⟨t, rfl⟩ := rv
      exact PySem.P.repr_of_int (by simpa [D.py, PyData.showable] using h2) ⟨.str _, H, I.tok _, ⟨_, rfl⟩, q⟩
    | str z =>
      rw [rd.str] at rv
      obtain ⟨t, rfl⟩ := rv
      exact PySem.P.repr_of_str ⟨.str _, H, I.tok _, ⟨_, rfl⟩, q⟩ h4
    | tup ds =>
      obtain ⟨a, xs, rfl, _⟩ := rd.tp
      exact big rv
    | lst ds =>
      obtain ⟨a, xs, rfl, _⟩ := rd.ls rfl
      exact big rv
    | pot => simp [okD] at h1
    | scr _ => simp [okD] at h1
    | exc _ _ => simp [okD] at h1
  · exact f.no.elim

/-! ### isinstance -/
inductive Tc where
  | tuple | int | bool | str | list | dict
def Tc.nm : Tc → String
  | .tuple => "tuple" | .int => "int" | .bool => "bool" | .str => "str" | .list => "list" | .dict => "dict"
def tyD : D → Option String
  | .non => some "NoneType" | .bl _ => some "bool" | .int _ => some "int" | .str _ => some "str" | .tup _ => some "tuple" | .lst _ => some "list" | .scr _ => some "list"
  | .pot => none
  | .exc _ _ => none
@[simp] def isB : Tc → D → Option Bool
  | _, .pot => none
  | _, .exc _ _ => none
  | .tuple, .tup _ => some true
  | .int, .int _ => some true
  | .int, .bl _ => some true
  | .bool, .bl _ => some true
  | .str, .str _ => some true
  | .list, .lst _ => some true
  | .list, .scr _ => some true
  | _, _ => some false
theorem isB_kit {c : Tc} {d : D} {b : Bool} (h : isB c d = some b) : ∃ T, tyD d = some T ∧ kitB T c.nm = some b := by
  cases c <;> cases d <;> first | (cases h; exact ⟨_, rfl, by decide +kernel⟩) | cases h
theorem Rs.tyx {K : PySem.W.Frag} {H : Hp} {P M : PA1} {d : D} {v : V} {T : String} (h : Rs K H P M d v) (e : tyD d = some T) : TyX K H v (.type T) := by
  cases d with
  | non => rw [h.non]; cases e; exact .base .non
  | bl b => rw [h.bl]; cases e; exact .base (.bl _)
  | int i => rw [h.int]; cases e; exact .base (.int _)
  | str z => rw [h.str]; cases e; exact .base (.str _)
  | tup ds =>
    cases e
    obtain ⟨a, xs, rfl, ta, _⟩ := h.tp
    rcases ta with (ta | ⟨o, ta⟩) | ⟨o, its, n, l, c, _⟩
    · exact .base (.tup ta)
    · exact .fTuple ta
    · exact .kTuple l c
  | lst ds =>
    cases e
    obtain ⟨a, xs, rfl, ta, _⟩ := h
    exact .base (.lst ta)
  | scr ns =>
    cases e
    obtain ⟨a, xs, rfl, ta, _⟩ := h.ls rfl
    rcases ta with (ta | ⟨o, ta⟩) | ⟨o, its, n, l, c, _⟩
    · exact .base (.lst ta)
    · exact .base (.frz ta)
    · exact .kList l c
  | pot => cases e
  | exc _ _ => cases e
@[simp] def isiW (c : Tc) (a : WO) : W := fun ρ t Q E => a ρ t (fun x ρ1 t1 => ∃ d b, rsv ρ1 x = some d ∧ isB c d = some b ∧ Q (.im (.bl b)) ρ1 t1) E
end
section
variable {X : Cx} {EX : XK} {e : Expr} {p p2 pos : Pos} {wa : WO} {c : Tc} {xn : Str}
theorem de_isi (hg : Gl X "isinstance") (hm : X.mg "isinstance" = none) (ht : PE X (.Name xn p2) (tC (V.ty c.nm))) (ha : DO X EX e wa)
    (he : starEach [e, .Name xn p2] X.env = (false, eval e X.env) :: starEach [.Name xn p2] X.env := by rfl) (he2 : starEach [.Name xn p2] X.env = (false, eval (.Name xn p2) X.env) :: starEach [] X.env := by rfl) (hpl : (backTo pos (starEach [.Name xn p2] X.env)).any (·.1) = false := by rfl) :
    DE X EX (.Call (.Name "isinstance" p) [e, .Name xn p2] [] pos) (isiW c wa) :=
  PE.imp (pe_callB call_isi hg hm PyProof.Rows.boot_isinstance (pa_cons ha (pa_cons ht pa_nil he2) he) (by decide) (by decide) he hpl) fun σ H Q h => by
    obtain ⟨G, P, ρ, t, Q', E, S, hw, lk, hq⟩ := h
    refine ⟨G, P, ρ, t, _, E, S, hw, lk, fun o ρ1 t1 x H1 P1 h1 r1 => ?_⟩
    obtain ⟨d, b, e1, e2, q⟩ := h1
    obtain ⟨T, e3, e4⟩ := isB_kit e2
    have S1 := r1.sat
    exact ⟨x, _, _, _, b, rfl, .ty _, (rsv_ok S1 r1 e1).tyx e3, kit_ty e4, hq _ _ _ _ _ P1 q ⟨S1, rp_bl'⟩⟩
end
end NB
set_option Elab.async false
set_option linter.all false
set_option maxRecDepth 100000
set_option maxHeartbeats 4000000
set_option autoImplicit false
/-! Slices, list(range), sorted, two names at once, methods without arguments. -/
namespace NB
open PySem PySem.Spec PyProof.Rows L2

/-! ### names of types -/
section
variable {X : Cx} {p : Pos}
theorem ty_tuple (hg : Gl X "tuple") (hm : X.mg "tuple" = none) : PE X (.Name "tuple" p) (tC (V.ty Tc.tuple.nm)) := pe_bltn hg hm PyProof.Rows.boot_tuple rfl
theorem ty_int (hg : Gl X "int") (hm : X.mg "int" = none) : PE X (.Name "int" p) (tC (V.ty Tc.int.nm)) := pe_bltn (u := .type "int") hg hm (by decide +kernel) rfl
theorem ty_bool (hg : Gl X "bool") (hm : X.mg "bool" = none) : PE X (.Name "bool" p) (tC (V.ty Tc.bool.nm)) := pe_bltn (u := .type "bool") hg hm (by decide +kernel) rfl
theorem ty_str (hg : Gl X "str") (hm : X.mg "str" = none) : PE X (.Name "str" p) (tC (V.ty Tc.str.nm)) := pe_bltn (u := .type "str") hg hm (by decide +kernel) rfl
theorem ty_list (hg : Gl X "list") (hm : X.mg "list" = none) : PE X (.Name "list" p) (tC (V.ty Tc.list.nm)) := pe_bltn (u := .type "list") hg hm (by decide +kernel) rfl
theorem ty_dict (hg : Gl X "dict") (hm : X.mg "dict" = none) : PE X (.Name "dict" p) (tC (V.ty Tc.dict.nm)) := pe_bltn (u := .type "dict") hg hm (by decide +kernel) rfl
end

/-! ### list(range(..)) -/
@[simp] def lstRgW (w : W) : W := fun ρ t Q E => w ρ t (fun r ρ1 t1 => ∃ n : Int, r = .im (.int n) ∧ 0 ≤ n ∧ n ≤ 16777216 ∧ Q (.nw (rangeD 0 n.toNat)) ρ1 t1) E
theorem ra_range {K : PySem.W.Frag} {H : Hp} {P M : PA1} (lo : Int) : ∀ (l : List Nat), RpA K H P M (l.map fun i => D.int (lo + (i : Nat))) (l.map fun i => V.int (lo + (i : Nat)))
  | [] => .nil
  | i :: l => .cons rp_int (ra_range lo l)
section
variable {X : Cx} {EX : XK} {e : Expr} {w : W} {p p1 pos pos1 : Pos}
theorem de_lstRg (hc : X.calm = true) (hg : Gl X "list") (hm : X.mg "list" = none) (hg1 : Gl X "range") (hm1 : X.mg "range" = none) (he : DE X EX e w) (na : starEach [e] X.env = (false, eval e X.env) :: starEach [] X.env := by rfl)
    (na2 : starEach [.Call (.Name "range" p1) [e] [] pos1] X.env = (false, eval (.Call (.Name "range" p1) [e] [] pos1) X.env) :: starEach [] X.env := by rfl) : DE X EX (.Call (.Name "list" p) [.Call (.Name "range" p1) [e] [] pos1] [] pos) (lstRgW w) :=
  PE.imp (pe_listRg hc hg hm (prg_1 hg1 hm1 he na) na2) fun σ H Q h => by
    obtain ⟨G, P, ρ, t, Q', E, S, hw, lk, hq⟩ := h
    refine ⟨G, P, ρ, t, _, E, S, hw, lk, fun r ρ1 t1 x H1 P1 z rs => ?_⟩
    obtain ⟨n, rfl, h0, h1, q⟩ := z
    obtain ⟨S1, rp⟩ := rs
    rw [Rp] at rp
    refine ⟨n, rp, .of_le (Int.le_refl _) h1 (by omega) h0, fun a ha => hq _ _ _ _ _ P1 q (rz_rs S1 (kp_upd ha) (rz_list ha ?_))⟩
    unfold rangeD rgV
    rw [Int.sub_zero]
    exact ra_range 0 _
end

/-! ### slices -/
def RPt (K : PySem.W.Frag) : Rel (Option Int) (Option Int) := fun G P ρ t σ H r v => Sat K G P ρ t σ H ∧ r = v
abbrev DPO (X : Cx) (EX : XK) (e : Option Expr) (w : Wg (Option Int)) : Prop := PO X e (Go X.K EX (RPt X.K) w)
theorem PO.imp {X : Cx} {e : Option Expr} {t t' : TO} (h : PO X e t) (i : ∀ σ H Q, t' σ H Q → t σ H Q) : PO X e t' := ⟨fun pins s σ H Q I q => h.run pins s σ H Q I (i σ H Q q)⟩
@[simp] def noneP : Wg (Option Int) := fun ρ t Q _ => Q none ρ t
@[simp] def someP (w : W) : Wg (Option Int) := fun ρ t Q E => w ρ t (fun r ρ1 t1 => ∃ i, r = .im (.int i) ∧ Q (some i) ρ1 t1) E
def cutD (ds : List D) (lo hi : Option Int) : List D := (ds.drop (HT.sIx ds.length 0 lo)).take (HT.sIx ds.length ds.length hi - HT.sIx ds.length 0 lo)
@[simp] def sliceD (d : D) (lo hi : Option Int) : Option R := match d with
  | .tup ds => some (.im (.tup (cutD ds lo hi)))
  | .str z => if z.length ≤ sizeLine then some (.im (.str (cutS z lo hi))) else none
  | d => (d.ls).map fun ds => .nw (cutD ds lo hi)
@[simp] def sliceW (a : WO) (lo hi : Wg (Option Int)) : W := fun ρ t Q E => a ρ t (fun x ρ1 t1 => lo ρ1 t1 (fun l ρ2 t2 => hi ρ2 t2 (fun h ρ3 t3 => ∃ d r, rsv ρ3 x = some d ∧ sliceD d l h = some r ∧ Q r ρ3 t3) E) E) E
section
variable {X : Cx} {EX : XK} {e : Expr} {lo hi : Option Expr} {w : W} {wa : WO} {wl wh : Wg (Option Int)} {p p2 pos : Pos}
theorem dpo_none : DPO X EX none noneP := PO.imp po_none fun σ H Q h => by
  obtain ⟨G, P, ρ, t, Q', E, S, hw, lk, hq⟩ := h
  exact hq _ _ _ _ _ P hw ⟨S, rfl⟩
theorem dpo_some (h : DE X EX e w) : DPO X EX (some e) (someP w) := PO.imp (po_some h) fun σ H Q h => by
  obtain ⟨G, P, ρ, t, Q', E, S, hw, lk, hq⟩ := h
  refine ⟨G, P, ρ, t, _, E, S, hw, lk, fun r ρ1 t1 x H1 P1 z rs => ?_⟩
  obtain ⟨i, rfl, q⟩ := z
  obtain ⟨S1, rp⟩ := rs
  rw [Rp] at rp
  exact ⟨i, rp, hq _ _ _ _ _ P1 q ⟨S1, rfl⟩⟩
theorem ra_cut {lo' hi' : Option Int} {K : PySem.W.Frag} {H : Hp} {P M : PA1} {ds : List D} {xs : List V} (h : RpA K H P M ds xs) : RpA K H P M (cutD ds lo' hi') (cutV xs lo' hi') := by
  unfold cutD cutV
  rw [h.length]
  exact (h.drop _).take _
theorem cut_whole {α : Type} {xs : List α} {n : Nat} {lo hi : Option Int} (hn : n = xs.length) (h : HT.sIx n 0 lo = 0 ∧ HT.sIx n n hi = n) : (xs.drop (HT.sIx n 0 lo)).take (HT.sIx n n hi - HT.sIx n 0 lo) = xs := by
  rw [h.1, h.2, List.drop_zero, Nat.sub_zero, hn, List.take_length]
theorem sl_D : SlR X fun x lo hi H Q => ∃ (P M : PA1) (d : D), Rs X.K H P M d x ∧ Ml H M ∧ Fit X.K H P M (sliceD d lo hi) Q := by
  intro pins s σ H x v vl vu lo hi sl Q I rx hs pl pu ⟨P, M, d, rd, _, f⟩
  unfold sliceD at f
  split at f
  · rename_i ds
    obtain ⟨a, xs, rfl, ta, ra⟩ := rd.tp
    refine sl_tupA pins s σ H _ v vl vu lo hi sl Q I rx hs pl pu ⟨a, xs, rfl, ta, fun hw => f.im ?_, fun _ => f.tup (ra_cut ra)⟩
    rw [Rp]
    have e : cutD ds lo hi = ds := by
      unfold cutD
      rw [← ra.length] at hw
      exact cut_whole rfl hw
    rw [e]
    exact ⟨a, xs, rfl, ta, ra⟩
  · rename_i z
    split at f
    · exact sl_str pins s σ H _ v vl vu lo hi sl Q I rx hs pl pu ⟨z, rd.str, by assumption, f.im rp_str⟩
    · exact f.no.elim
  · cases hl : d.ls with
    | none => rw [hl] at f; exact f.no.elim
    | some ds =>
      rw [hl] at f
      obtain ⟨a, xs, rfl, ta, ra⟩ := rd.ls hl
      exact sl_list pins s σ H _ v vl vu lo hi sl Q I rx hs pl pu ⟨a, xs, rfl, ta, f.lst (ra_cut ra)⟩
theorem de_slice (ha : DO X EX e wa) (hl : DPO X EX lo wl) (hh : DPO X EX hi wh) : DE X EX (.Subscript e (.Slice lo hi none p2) pos) (sliceW wa wl wh) := PE.imp (pe_slice sl_D ha hl hh) fun σ H Q h => by
  obtain ⟨G, P, ρ, t, Q', E, S, hw, lk, hq⟩ := h
  refine ⟨G, P, ρ, t, _, E, S, hw, lk, fun o ρ1 t1 x H1 P1 h1 r1 => ?_⟩
  refine ⟨holdO G o x, P1, ρ1, t1, _, E, r1.hold, h1, lk.holdO, fun l ρ2 t2 l' H2 P2 h2 r2 => ?_⟩
  obtain ⟨S2, rfl⟩ := r2
  refine ⟨holdO G o x, P2, ρ2, t2, _, E, S2, h2, lk.holdO, fun u ρ3 t3 u' H3 P3 h3 r3 => ?_⟩
  obtain ⟨S3, rfl⟩ := r3
  obtain ⟨d, r, e1, e2, q⟩ := h3
  obtain ⟨S4, q1⟩ := r1.back S3
  exact ⟨P3, Mx G.F P3 ρ3 σ, d, rsv_ok S4 q1 e1, S4.mlist, r, e2, fun z H' k rz => hq r ρ3 t3 z H' P3 q (rz_rs S4 k rz)⟩
end

/-! ### xs.m() of a text -/
def m0W (g : D → Option R) (a : WO) : W := op1W g a
@[simp] def upperD : D → Option R
  | .str z => if z.length ≤ 5592405 then some (.im (.str (Txt.upper z))) else none
  | _ => none
def lowerD : D → Option R
  | .str z => if z.length ≤ 5592405 then some (.im (.str (Txt.lower z))) else none
  | _ => none
section
variable {X : Cx} {EX : XK} {e : Expr} {wa : WO} {p apos cpos : Pos}
theorem de_upper (ha : DO X EX e wa) (hbase : attributeBase e "upper" X.env (eval e X.env) = eval e X.env := by rfl) (hline : (apos.endLine == cpos.line) = true := by rfl) :
    DE X EX (.Call (.Attribute e "upper" apos) [] [] cpos) (op1W upperD wa) := PE.imp (pe_bm0 PySem.F.plainAttrs_str PySem.F.slot_str_upper PySem.F.type_str_upper mt_upper ha hbase hline) fun σ H Q h => by
  obtain ⟨G, P, ρ, t, Q', E, S, hw, lk, hq⟩ := op1_read h
  refine ⟨G, P, ρ, t, Q', E, S, hw, lk, fun o ρ1 t1 x H1 P1 h1 r1 => ?_⟩
  obtain ⟨P2, M, d, rd, _, f⟩ := hq o ρ1 t1 x H1 P1 h1 r1
  unfold upperD at f
  split at f
  · split at f
    · rw [rd.str]
      exact ⟨rfl, _, rfl, rfl, by assumption, f.im rp_str⟩
    · exact f.no.elim
  · exact f.no.elim
end

/-! ### two names at once -/
/-- what a value needs to stay: a ghost that holds it -/
theorem RS.keep {K : PySem.W.Frag} {G : Gh} {P : PA1} {ρ : List Sl} {t : Nat} {σ : St} {H : Hp} {r : R} {v : V} (h : RS K G P ρ t σ H r v) :
    ∃ G1 : Gh, Sat K G1 P ρ t σ H ∧ (∀ (P' : PA1) (ρ' : List Sl) (t' : Nat) (σ' : St) (H' : Hp), Sat K G1 P' ρ' t' σ' H' → RS K G P' ρ' t' σ' H' r v) ∧ ∀ EX E, Lk K EX G E → Lk K EX G1 E := by
  cases r with
  | im d =>
    refine ⟨G.hold d v, h.1.hold h.2, fun P' ρ' t' σ' H' S => ?_, fun _ _ h => h.hold⟩
    obtain ⟨S1, q⟩ := S.unhold
    exact ⟨S1, q⟩
  | nw ds =>
    obtain ⟨a, xs, rfl, S, nm, h0, e, ra⟩ := h
    refine ⟨(G.add a xs).holds (ds.zip xs), S.holds fun p hp => ?_, fun P' ρ' t' σ' H' S' => ?_, fun _ _ h => h.add.holds⟩
    · obtain ⟨i, hi⟩ := List.getElem?_of_mem hp
      rw [List.getElem?_zip_eq_some] at hi
      obtain ⟨y, g1, g2⟩ := ra.get hi.1
      rw [hi.2] at g1; cases g1
      exact g2
    · obtain ⟨S1, hh⟩ := S'.unholds
      have nF : ¬ G.F a := fun z => nm (.inl z)
      refine ⟨a, xs, rfl, S1, fun z => ?_, h0, ?_, zip_ra ra.length hh⟩
      · rcases z with z | z | ⟨i, es, e1, e2⟩
        · exact nF z
        · exact S1.fp a (.inr rfl) z
        · obtain ⟨b, ys, r1, _, _, r4, _⟩ := S1.ow i es e1
          rw [e2] at r1
          cases r1
          exact r4 (.inr rfl)
      · obtain ⟨ys, e1, e2⟩ := S1.fo a (.inr rfl)
        have e1 : upd G.HF a (.lst xs) a = some (.lst ys) := e1
        rw [upd_same] at e1
        cases e1
        exact e2
@[simp] def parS (i j : Nat) (a b : W) : WS := fun ρ t k => a ρ t (fun r ρ1 t1 => b ρ1 t1 (fun q ρ2 t2 => k.nx ((ρ2.set j (slOf q)).set i (slOf r)) t2) k.ex) k.ex
section
variable {X : Cx} {EX : XK} {a b : Expr} {wa wb : W} {i j : Nat} {x y : Str} {px py pt pos : Pos} {kt k2 : Nat} {pt2 : Pos}
theorem ds_par (hc : X.calm = true) (hN : X.N.Nodup) (hi : X.N[i]? = some x) (hj : X.N[j]? = some y) (hij : i ≠ j) (hx : X.env.scope.names.lookup x = some .local) (hy : X.env.scope.names.lookup y = some .local)
    (ha : DE X EX a wa) (hb : DE X EX b wb) (hs1 : starEach [a, b] X.env = (false, eval a X.env) :: starEach [b] X.env) (hs2 : starEach [b] X.env = (false, eval b X.env) :: starEach [] X.env)
    (hw : swappedStores [.Tuple [.Name x px, .Name y py] kt pt] (.Tuple [a, b] k2 pt2) X.env = pure (some [x, y]))
    (hs : swapsWithSole [.Tuple [.Name x px, .Name y py] kt pt] (.Tuple [a, b] k2 pt2) pos.line X.env = pure false := by rfl) :
    DS X EX (.Assign [.Tuple [.Name x px, .Name y py] kt pt] (.Tuple [a, b] k2 pt2) pos) (parS i j wa wb) := PS.imp (ps_par hc hN hi hj hij hx hy (pa_cons ha (pa_cons hb pa_nil hs2) hs1) hw hs) fun D σ H h => by
  obtain ⟨G, P, ρ, t, k, S, hw, lk, hn, hb, hc, hr⟩ := h
  refine ⟨G, P, ρ, t, _, k.ex, S, hw, lk, fun r ρ1 t1 v H1 P1 h1 r1 => ?_⟩
  obtain ⟨G1, S1, back, lk1⟩ := r1.keep
  refine ⟨G1, P1, ρ1, t1, _, k.ex, S1, h1, lk1 _ _ lk, fun q ρ2 t2 u H2 P2 h2 r2 => ?_⟩
  refine ⟨v, u, rfl, ?_⟩
  rw [List.set_comm _ _ hij]
  exact hn _ _ _ _ P2 h2 (back _ _ _ _ _ r2.set).set
end

/-! ### sorted -/
structure SortOk (ds : List D) : Prop where
  ok : okL ds = true
  dp : ∀ d ∈ ds, dpD d ≤ 60
  al : PySem.W.AllAlike (ds.map D.py)
  so : PySem.W.Sortable (ds.map D.py)
  ln : ds.length ≤ sizeLine
def srt (ds : List D) : List D := ds.mergeSort (PySem.W.dataLe false D.py)
@[simp] def sortW (a : WO) : W := fun ρ t Q E => a ρ t (fun x ρ1 t1 => ∃ d ds, rsv ρ1 x = some d ∧ d.ls = some ds ∧ SortOk ds ∧ Q (.nw (srt ds)) ρ1 t1) E
theorem okL_mem : ∀ {ds : List D}, okL ds = true → ∀ d ∈ ds, okD d = true
  | [], _, _, h => nomatch h
  | e :: ds, h, d, hd => by
    rw [okL, Bool.and_eq_true] at h
    rcases List.mem_cons.mp hd with e' | e'
    · rw [e']; exact h.1
    · exact okL_mem h.2 d e'
theorem each_of {K : PySem.W.Frag} {H : Hp} {P M : PA1} : ∀ {ds : List D} {xs : List V} {us : List Value}, RpA K H P M ds xs → Vals xs us → PySem.W.EachIs (fun v d => ∃ x, RelV x v ∧ Rp K H P M d x) us ds
  | [], xs, us, h, r => by rw [RpA] at h; subst h; cases r; exact .nil
  | d :: ds, xs, us, h, r => by
    obtain ⟨x, xs', rfl, h1, h2⟩ := h.cons_inv
    cases r with
    | cons r1 r2 => exact .cons ⟨x, r1, h1⟩ (each_of h2 r2)
theorem each_back {K : PySem.W.Frag} {H : Hp} {P M : PA1} : ∀ {ds : List D} {us : List Value}, PySem.W.EachIs (fun v d => ∃ x, RelV x v ∧ Rp K H P M d x) us ds → ∃ xs, Vals xs us ∧ RpA K H P M ds xs
  | _, _, .nil => ⟨[], .nil, .nil⟩
  | _, _, .cons ⟨x, r, h⟩ t => by
    obtain ⟨xs, h1, h2⟩ := each_back t
    exact ⟨x :: xs, .cons r h1, .cons h h2⟩
theorem each_and {α β : Type} {R S : α → β → Prop} : ∀ {as : List α} {bs : List β}, PySem.W.EachIs R as bs → (∀ a b, b ∈ bs → R a b → S a b) → PySem.W.EachIs S as bs
  | _, _, .nil, _ => .nil
  | _, _, .cons h t, g => .cons (g _ _ List.mem_cons_self h) (each_and t fun a b hb => g a b (List.mem_cons_of_mem _ hb))
section
variable {X : Cx}
theorem cr_sortD (hu : X.A.units + 64 < cLine) : CallR X (.builtin "sorted") (fun vs H Q => ∃ (P M : PA1) (v : V) (d : D) (ds : List D), vs = [v] ∧ Rs X.K H P M d v ∧ d.ls = some ds ∧ SortOk ds ∧ Fit X.K H P M (some (.nw (srt ds))) Q) := by
  intro pins s σ H vs us Q I r h
  obtain ⟨P, M, v, d, ds, rfl, rd, hl, ok, f⟩ := h
  obtain ⟨a, xs, rfl, ta, ra⟩ := rd.ls hl
  obtain ⟨its, rv, pl, hz⟩ := I.list ta
  rw [Vals.ref1 r]
  have e := each_of ra rv
  refine PySem.W.sorted_data (R := fun v d => ∃ x, RelV x v ∧ Rp X.K H P M d x) (enc := D.py) pl.isList e ?_ ok.al ok.so ok.ln (fun b hb => ?_) fun out ho eo => ?_
  · exact each_and e fun v d hd ⟨x, r1, h1⟩ => Dp.reads I _ x v (h1.dp (okL_mem ok.ok d hd)) r1
  · rw [depth_py]
    have := ok.dp b hb
    omega
  · obtain ⟨ys, r1, ra2⟩ := each_back eo
    obtain ⟨c, hc⟩ := sortedAll_at s.heap its out.toArray
    have hlen : ys.length ≤ sizeLine := by rw [r1.length, ho]; exact ok.ln
    have J : Inv X pins σ (upd H (s.heap.objs.size + 1) (.lst ys)) { s with heap := sortedAll s.heap its (List.toArray out) } :=
      I.laid (t' := s.toks) (fun b o q => sortedAll_old q) (Nat.le_succ _) (show ObjOk X.prog X.w _ _ _ (.lst ys) from ⟨hlen, out, c, r1, hc⟩)
    exact ⟨.ref _, _, J, rfl, f.lst ra2 _ (I.hok.fresh (Nat.le_succ _))⟩
end
section
variable {X : Cx} {EX : XK} {e : Expr} {wa : WO} {p pos : Pos}
theorem de_sorted (hu : X.A.units + 64 < cLine) (hg : Gl X "sorted") (hm : X.mg "sorted" = none) (ha : DO X EX e wa) (he : starEach [e] X.env = (false, eval e X.env) :: starEach [] X.env := by rfl) (hpl : (backTo pos (starEach [] X.env)).any (·.1) = false := by rfl) :
    DE X EX (.Call (.Name "sorted" p) [e] [] pos) (sortW wa) :=
  PE.imp (pe_callB (cr_sortD hu) hg hm PyProof.Rows.boot_sorted (pa_cons ha pa_nil he) (by decide) (by decide) he hpl) fun σ H Q h => by
    obtain ⟨G, P, ρ, t, Q', E, S, hw, lk, hq⟩ := h
    refine ⟨G, P, ρ, t, _, E, S, hw, lk, fun o ρ1 t1 x H1 P1 h1 r1 => ?_⟩
    obtain ⟨d, ds, e1, e2, ok, q⟩ := h1
    have S1 := r1.sat
    exact ⟨P1, Mx G.F P1 ρ1 σ, x, d, ds, rfl, rsv_ok S1 r1 e1, e2, ok, _, rfl, fun z H' k rz => hq _ ρ1 t1 z H' P1 q (rz_rs S1 k rz)⟩
end
end NB
set_option Elab.async false
set_option linter.all false
set_option maxRecDepth 100000
set_option maxHeartbeats 4000000
set_option autoImplicit false
/-! Tuples turned round; sorted(set(..)) of tuples of ints. -/
namespace NB
open PySem PySem.Spec PyProof.Rows L2

/-! ### t[::-1] -/
section
variable {prog : Program} {w : World} {A : Around} {E : Value → Shared → Prop} {s : Shared}
theorem back_places (n : Nat) : Builtin.Slice.slicePlaces ((n : Int) - 1) (-1) (-1) = n := by
  unfold Builtin.Slice.slicePlaces
  have h : ¬ ((-1 : Int) > 0) := by omega
  rw [if_neg h]
  by_cases hn : (n : Int) - 1 > -1
  · rw [if_pos hn, show (-(-1) : Int) = 1 by omega, Int.ediv_one]
    omega
  · rw [if_neg hn]
    omega
theorem back_applied {sl : Addr} {n : Nat} {tk : Tok} {Q : Int × Int × Nat → Shared → Prop} (hs : s.heap.IsSliceOf sl .none .none (.int (-1) tk)) (h : Q ((n : Int) - 1, -1, n) s) :
    wpAny (model prog w) A (Builtin.Slice.sliceApplied (.ref sl) (pure (n : Int))) Q E s := by
  obtain ⟨os, hos, hcs, hds⟩ := hs
  unfold Builtin.Slice.sliceApplied Builtin.Slice.sliceFields
  refine wpAny_bind (wpAny_bind (wpAny_field hos hds (x := .none) rfl (wpAny_bind (wpAny_field hos hds (x := .none) rfl (wpAny_bind (wpAny_field hos hds (x := .int (-1) tk) rfl (wpAny_pure ?_)))))))
  refine wpAny_bind (slicePart_int ?_)
  show wpAny _ _ (if ((-1 : Int) == 0) = true then _ else _) _ _ s
  rw [if_neg (by decide)]
  refine wpAny_bind (slicePart_none (wpAny_bind (slicePart_none (wpAny_bind (wpAny_pure ?_)))))
  have e : Builtin.Slice.slicePlaces ((n : Int) - 1) (-1) (-1) = n := back_places n
  show wpAny _ _ (pure ((n : Int) - 1, (-1 : Int), Builtin.Slice.slicePlaces ((n : Int) - 1) (-1) (-1))) _ _ s
  rw [e]
  exact wpAny_pure h
theorem back_pick (xs : List Value) : (List.range xs.length).filterMap (fun (k : Nat) => xs.toArray[(((xs.length : Int) - 1) + (k : Int) * (-1)).toNat]?) = xs.reverse := by
  have key : ∀ (ys : List Value) (m : Nat), m ≤ ys.length → (List.range m).filterMap (fun (k : Nat) => ys.toArray[(((m : Int) - 1) + (k : Int) * (-1)).toNat]?) = (ys.take m).reverse := by
    intro ys m
    induction m with
    | zero => intro _; rfl
    | succ m ih =>
      intro hm
      rw [List.range_succ_eq_map, List.filterMap_cons, List.filterMap_map]
      have e0 : ((((m + 1 : Nat) : Int) - 1) + ((0 : Nat) : Int) * (-1)).toNat = m := by omega
      rw [e0]
      have e1 : ys.toArray[m]? = some ys[m] := by
        rw [List.getElem?_toArray]
        exact List.getElem?_eq_getElem (by omega)
      rw [e1]
      have e2 : ((fun (k : Nat) => ys.toArray[((((m + 1 : Nat) : Int) - 1) + (k : Int) * (-1)).toNat]?) ∘ Nat.succ) = fun (k : Nat) => ys.toArray[(((m : Int) - 1) + (k : Int) * (-1)).toNat]? := by
        funext k
        show ys.toArray[((((m + 1 : Nat) : Int) - 1) + ((k + 1 : Nat) : Int) * (-1)).toNat]? = _
        rw [show ((((m + 1 : Nat) : Int) - 1) + ((k + 1 : Nat) : Int) * (-1)).toNat = (((m : Int) - 1) + (k : Int) * (-1)).toNat by omega]
      rw [e2, ih (by omega)]
      have e3 : ys.take (m + 1) = ys.take m ++ [ys[m]] := by
        rw [List.take_add_one, List.getElem?_eq_getElem (by omega)]
        rfl
      rw [e3, List.reverse_append]
      rfl
  have := key xs xs.length (Nat.le_refl _)
  rw [List.take_length] at this
  exact this
theorem back_item {t sl : Addr} {its : List Value} {tk : Tok} {Q : Value → Shared → Prop} (ht : IsTup s.heap t its.toArray) (hs : s.heap.IsSliceOf sl .none .none (.int (-1) tk)) (hz : its.length ≤ sizeLine)
    (h : Q (.ref s.heap.objs.size) { s with heap := s.heap.push { cls := .type "tuple", data := .seq its.reverse.toArray } }) : wpAny (model prog w) A (getItem (.ref t) (.ref sl)) Q E s := by
  obtain ⟨os, hos, hcs, hds⟩ := id hs
  have hT : s.TypeIs (.ref sl) "slice" := ⟨os, hos, hcs⟩
  unfold getItem
  try with_reducible refine wpAny_holding ?_
  first | refine wpAny_bind (wpAny_pure ?_) | skip
  refine wpAny_bind (wpAny_sequenceKey ht.typeIs (by decide) ?_)
  refine wpAny_bind (wpAny_callSpecial?_slot (name := Str.ofString "__getitem__") ht.typeIs PyProof.Rows.slot_tuple_getitem (wpAny_call_entry PyProof.Rows.slot_tuple_getitem ht.typeIs entry_tuple_getitem ?_ (args_tuple_getitem _ _)))
  show wpAny _ _ (Builtin.Tuple.tupleItemsOf (.ref t) >>= _) _ _ s
  refine wpAny_bind (tupleItemsOf_ ht (wpAny_bind (wpAny_typeOf hT ?_)))
  rw [if_pos (by decide)]
  have e1 : (its.toArray.size : Int) = ((its.length : Nat) : Int) := by rw [List.size_toArray]
  rw [e1]
  refine wpAny_bind (back_applied hs ?_)
  have no : ¬ ((((its.length : Int) - 1) == 0 && (-1 : Int) == 1 && its.length == its.toArray.size) = true) := by
    intro q
    rw [Bool.and_eq_true, Bool.and_eq_true] at q
    exact absurd q.1.2 (by decide)
  show wpAny _ _ (if (((its.length : Int) - 1) == 0 && (-1 : Int) == 1 && its.length == its.toArray.size) = true then _ else _) _ _ s
  rw [if_neg no, back_pick]
  have hsz : sizeOk (.seq its.reverse.toArray) := by
    show its.reverse.toArray.size ≤ sizeLine
    rw [List.size_toArray, List.length_reverse]
    exact hz
  first
    | exact wpAny_bind (m := Builtin.Tuple.tupleExact _) (wpAny_newObj_type (wpAny_pure ⟨_, rfl, wpAny_pure h⟩) hsz)
    | exact wpAny_bind (m := Builtin.Tuple.tupleExact _) (wpAny_newObj_type (wpAny_bind (wpAny_pure (wpAny_pure ⟨_, rfl, wpAny_pure h⟩))) hsz)
    | exact wpAny_bind (wpAny_bind (m := Builtin.Tuple.tupleExact _) (wpAny_newObj_type (wpAny_pure (wpAny_pure ⟨_, rfl, wpAny_pure h⟩)) hsz))
    | exact wpAny_bind (wpAny_bind (m := Builtin.Tuple.tupleExact _) (wpAny_newObj_type (wpAny_pure ⟨_, rfl, wpAny_pure h⟩) hsz))
end
@[simp] def backD : D → Option R
  | .tup ds => some (.im (.tup ds.reverse))
  | _ => none
section
variable {X : Cx} {EX : XK} {e : Expr} {wa : WO} {k : Nat} {p1 p2 p3 pos : Pos}
theorem pe_back {te : TE} (he : PE X e te) : PE X (.Subscript e (.Slice none none (some (.UnaryOp .USub (.Constant (.int 1) k p1) p2)) p3) pos) (fun σ H Q => te σ H fun x H1 => ∃ a xs, x = .ref a ∧ SqT X.K H1 a xs ∧ ∀ q, H1 q = none → Q (.ref q) (upd H1 q (.tup xs.reverse))) := by
  constructor
  intro pins s σ H Q I h
  refine Subscript_ (thn (he.run pins s σ H _ I h) ?_)
  rintro v s1 ⟨x, H1, I1, r1, a, xs, rfl, hx, q⟩
  obtain rfl : v = .ref a := r1
  have hst : PO X (some (.UnaryOp .USub (.Constant (.int 1) k p1) p2)) (tPart (tUn (rU fun i => .int (-i)) (tC (.int 1)))) := po_some (pe_un un_neg pe_int)
  refine wpAny_Slice (thn (po_none.run pins s1 σ H1 (fun o H2 => o = none ∧ H2 = H1) I1 ⟨rfl, rfl⟩) ?_)
  rintro vl s2 ⟨l, H2, I2, pl, rfl, rfl⟩
  refine thn (po_none.run pins s2 σ H2 (fun o H3 => o = none ∧ H3 = H2) I2 ⟨rfl, rfl⟩) ?_
  rintro vu s3 ⟨u, H3, I3, pu, rfl, rfl⟩
  refine thn (hst.run pins s3 σ H3 (fun o H4 => o = some (-1) ∧ H4 = H3) I3 ⟨1, rfl, -1, rfl, rfl, rfl⟩) ?_
  rintro vs s4 ⟨o, H4, I4, ps, rfl, rfl⟩
  cases pl
  cases pu
  cases ps with
  | int _ tk =>
  have I5 : Inv X pins σ H4 { s4 with heap := s4.heap.push { cls := .type "slice", data := .fields #[.none, .none, .int (-1) tk] } } := I4.kept (t' := s4.toks) fun b ob q => Heap.get?_push_of_some _ q
  obtain ⟨its, r, ht, hz⟩ := I5.tuple hx
  have hlen := r.length
  show wpAny (model X.prog X.w) X.A (subscriptTail e (.Slice none none (some (.UnaryOp .USub (.Constant (.int 1) k p1) p2)) p3) (.ref a) (.ref s4.heap.objs.size)) (EP X pins σ Q) X.xe { s4 with heap := s4.heap.push { cls := .type "slice", data := .fields #[.none, .none, .int (-1) tk] } }
  refine tail_any (ops := [.ref a, .ref s4.heap.objs.size]) ht.typeIs PyProof.Rows.slot_tuple_getitem.lookup (back_item ht (Heap.IsSliceOf.new ..) (by omega) ?_) (by with_unfolding_all rfl)
  refine ⟨.ref _, _, I5.laid (t' := s4.toks) (o := .tup xs.reverse) (fun b ob q => Heap.get?_push_of_some _ q) (Nat.le_refl _) ?_, rfl, q _ (I5.hok.fresh (Nat.le_refl _))⟩
  exact ⟨by rw [List.length_reverse]; exact hz, _, r.reverse, IsTup.new _ _⟩
theorem de_back (ha : DO X EX e wa) : DE X EX (.Subscript e (.Slice none none (some (.UnaryOp .USub (.Constant (.int 1) k p1) p2)) p3) pos) (op1W backD wa) := PE.imp (pe_back ha) fun σ H Q h => by
  obtain ⟨G, P, ρ, t, Q', E, S, hw, lk, hq⟩ := op1_read h
  refine ⟨G, P, ρ, t, Q', E, S, hw, lk, fun o ρ1 t1 x H1 P1 h1 r1 => ?_⟩
  obtain ⟨P2, M, d, rd, _, f⟩ := hq o ρ1 t1 x H1 P1 h1 r1
  unfold backD at f
  split at f
  · obtain ⟨a, xs, rfl, ta, ra⟩ := rd.tp
    exact ⟨a, xs, rfl, ta, f.tup ra.reverse⟩
  · exact f.no.elim
end
end NB
set_option Elab.async false
set_option linter.all false
set_option maxRecDepth 100000
set_option maxHeartbeats 4000000
set_option autoImplicit false
/-! sorted(set(t)) of tuples of ints. -/
namespace NB
open PySem PySem.Spec PyProof.Rows L2

section
variable {P : Program} {w : World} {A : Around} {E : Value → Shared → Prop} {s : Shared}
abbrev set0 (w : World) : Obj := { cls := .type "set", dict := none, data := .set #[] 0 (.fresh 0 0 (!w.params.followText "set-order")) }
/-- a set of the items of a tuple -/
theorem setOf_tuple {l : Addr} {its : Array Value} (ks : List (Addr × List Int)) {Q : Value → Shared → Prop} (hh : A.handled = none) (hl : s.heap.IsTuple l its) (hit : its.toList = ks.map fun p => Value.ref p.1)
    (hk : ∀ p ∈ ks, IsT P w s.heap p.2 p.1) (few : ks.length < 64) (hu : A.units + 3 < cLine)
    (h : ∀ (h' : Heap) (tk : Nat) L es ep t, SetTR P w h' s.heap.objs.size L es ep t → Got ks ks.length L → (∀ b o, s.heap.get? b = some o → h'.get? b = some o) → Q (.ref s.heap.objs.size) { s with heap := h', toks := tk }) :
    wpAny (model P w) A (call (.type "set") [.ref l]) Q E s := by
  have len : its.size = ks.length := by
    have q := congrArg List.length hit
    rwa [Array.length_toList, List.length_map] at q
  obtain ⟨c, tl, mro⟩ := F.called_set.mro
  have made := F.called_set.made
  have sub := F.called_set.sub
  have f1 := F.called_set.notType
  have f2 := F.called_set.canCreate
  have f3 := F.typeCall_set_1 (.ref l)
  refine wpAny_call (codeAny_of_tree ?_)
  show wpAny _ _ (callAny (.type "set") _) _ _ _
  refine wpAny_pure ⟨Code.quiet_builtin _ (by decide +kernel), codeAny_builtin F.entry_type_call ?_⟩
  rw [Around.under_plain (weight_type_call_type "set" [.ref l] []) rfl]
  repeat (any_goals (first | assumption | wp_step))
  refine codeAny_mono (code_set_led1 (.ref l) (E := E) (Q₁ := fun z s1 => z = .ref s.heap.objs.size ∧ s1 = { s with heap := s.heap.push (set0 w) }) ⟨rfl, rfl⟩) ?_
  intro r s1 hr
  match r, hr with
  | .error _, hr => exact hr
  | .ok .next, hr => exact hr.elim
  | .ok .brk, hr => exact hr.elim
  | .ok .cont, hr => exact hr.elim
  | .ok (.ret z), hr =>
    obtain ⟨rfl, rfl⟩ := hr
    have gS : (s.heap.push (set0 w)).get? s.heap.objs.size = some (set0 w) := Heap.get?_push_size _ rfl
    have tS : Shared.TypeIs { s with heap := s.heap.push (set0 w) } (.ref s.heap.objs.size) "set" := ⟨_, gS, rfl⟩
    have i1 := F.called_set.init.lookup
    have i2 := F.called_set.init.bind (.ref s.heap.objs.size)
    repeat (any_goals (first | assumption | wp_step))
    refine codeAny_mono (codeAny_call_builtin (R := wants (fun z s2 => z = .none ∧ ∃ h' tk L es ep t, s2 = { s with heap := h', toks := tk } ∧ SetTR P w h' s.heap.objs.size L es ep t ∧ Got ks ks.length L ∧ (∀ b o, s.heap.get? b = some o → h'.get? b = some o)) E)
      F.called_set.init.plain F.entry_set_init (check_set_init_1 tS ?_)) ?_
    · obtain ⟨⟨oc, od, odt, os⟩, gl, hc, n, hd⟩ := hl
      simp only at hc hd
      subst hc
      subst hd
      have gl' : (s.heap.push (set0 w)).get? l = some { cls := .type "tuple", dict := od, data := .seq its n, slots := os } := Heap.get?_push_of_some _ gl
      have n1 := F.sub_tuple_set
      have n2 := F.sub_tuple_frozenset
      have n3 : (Value.type "tuple" == Value.type "dict") = false := by decide
      have tl1 : (s.heap.push (set0 w)).IsTuple l its := ⟨_, gl', rfl, n, rfl⟩
      unfold Builtin.«set.__init__» noKeywords Builtin.Frozenset.updateFrom
      generalize hPI : pyIter = PI
      wp_walk
      subst hPI
      refine wpAny_pyIter_tuple tl1 (wpAny_bind (wpAny_runValue ?_))
      have lt : l < s.heap.objs.size := Heap.lt_size gl
      have h3 : A.in1.in1.in1.handled = none := by simp [hh]
      have ne1 : l ≠ (s.heap.push (set0 w)).objs.size := by
        rw [Heap.size_push]
        exact Nat.ne_of_lt (Nat.lt_succ_of_lt lt)
      have ne2 : s.heap.objs.size ∉ [(s.heap.push (set0 w)).objs.size, l] := by
        rw [Heap.size_push]
        intro q
        rcases List.mem_cons.mp q with q | q
        · exact absurd q (Nat.ne_of_lt (Nat.lt_succ_self _))
        · exact absurd (List.mem_singleton.mp q) (Nat.ne_of_gt lt)
      have at_ : ∀ (i : Nat) (v : Value), its[i]? = some v → ∃ p, ks[i]? = some p ∧ v = .ref p.1 := fun i v hv => by
        rw [← Array.getElem?_toList, hit, List.getElem?_map] at hv
        obtain ⟨p, e1, e2⟩ := Option.map_eq_some_iff.mp hv
        exact ⟨p, e1, e2.symm⟩
      have free : ∀ b, s.heap.objs.size ≤ b → s.heap.get? b = none := fun b hb => by
        cases q : s.heap.get? b with
        | none => rfl
        | some o => exact absurd (Heap.lt_size q) (Nat.not_lt_of_le hb)
      refine set_update_tups ((Walks.tuple h3 _ l ne1 its).toS) s.heap.objs.size ne2 ks len few at_ s.heap hk (free _ (Nat.le_refl _)) (fun b hb => free b ?w0) hu (its.size - 0) 0 _ (by omega) (Nat.zero_le _)
        ⟨⟨_, Heap.get?_push_size _ rfl, rfl, rfl⟩, tl1.push _⟩ (fun b o e => Heap.get?_push_of_some _ (Heap.get?_push_of_some _ e)) ?w1 ?w2
      case w0 =>
        rw [List.mem_singleton.mp hb, Heap.size_push]
        exact Nat.le_succ _
      case w1 => exact ⟨[], #[], 0, _, setTR_fresh (Heap.get?_push_of_some _ gS), Got.zero ks⟩
      case w2 =>
        intro s' L es ep t hm hS' g' hkp
        obtain ⟨h', gens', d', tk', os'⟩ := s'
        obtain rfl : gens' = s.gens := hm.gens
        obtain rfl : d' = s.drawn := hm.drawn
        obtain rfl : os' = s.os := hm.os
        rw [len] at g'
        show wpAny _ _ _ _ _ _
        refine wpAny_pure ?_
        show wpAny _ _ (ret Value.none) _ _ _
        exact wpAny_pure ⟨rfl, h', tk', L, es, ep, t, rfl, hS', g', hkp⟩
    · intro r2 s2 hr2
      match r2, hr2 with
      | .error _, hr2 => exact hr2
      | .ok .next, hr2 => exact hr2.elim
      | .ok .brk, hr2 => exact hr2.elim
      | .ok .cont, hr2 => exact hr2.elim
      | .ok (.ret z), hr2 =>
        obtain ⟨rfl, h', tk, L, es, ep, t, rfl, hS', g', hk'⟩ := hr2
        repeat (any_goals (first | assumption | wp_step))
        exact h _ _ _ _ _ _ hS' g' hk'
end
end NB
set_option Elab.async false
set_option linter.all false
set_option maxRecDepth 100000
set_option maxHeartbeats 4000000
set_option autoImplicit false
/-! sorted(set(xs)) by data. -/
namespace NB
open PySem PySem.Spec PyProof.Rows L2

def tI (ks : List Int) : D := .tup (ks.map .int)
theorem SqT.kp {K : PySem.W.Frag} {H H' : Hp} {a : Addr} {xs : List V} (h : SqT K H a xs) (k : Kp K (fun _ => False) H H') : SqT K H' a xs := by
  rcases h with (h | ⟨o, h⟩) | h
  · exact .inl (.inl (k.seq h id rfl))
  · exact .inl (.inr ⟨o, k.seq h id rfl⟩)
  · exact .inr h
theorem ks_of {K : PySem.W.Frag} {H : Hp} {P M : PA1} : ∀ {kss : List (List Int)} {xs : List V}, RpA K H P M (kss.map tI) xs → ∃ ks : List (Addr × List Int), xs = (ks.map fun p => V.ref p.1) ∧ ks.map (·.2) = kss ∧ ∀ p ∈ ks, SqT K H p.1 (p.2.map V.int)
  | [], xs, h => by
    rw [List.map_nil, RpA] at h
    exact ⟨[], h, rfl, fun _ z => nomatch z⟩
  | k :: kss, xs, h => by
    rw [List.map_cons] at h
    obtain ⟨x, r, rfl, h1, h2⟩ := h.cons_inv
    obtain ⟨ks, rfl, e2, e3⟩ := ks_of h2
    rw [tI, Rp] at h1
    obtain ⟨a, ys, rfl, ta, ra⟩ := h1
    rw [ra_ints_inv ra] at ta
    refine ⟨(a, k) :: ks, rfl, by rw [List.map_cons, e2], fun p hp => ?_⟩
    rcases List.mem_cons.mp hp with e | e
    · rw [e]; exact ta
    · exact e3 p e
theorem ra_ks {K : PySem.W.Frag} {H : Hp} {P M : PA1} : ∀ {ks : List (Addr × List Int)}, (∀ p ∈ ks, SqT K H p.1 (p.2.map V.int)) → RpA K H P M (ks.map fun p => tI p.2) (ks.map fun p => V.ref p.1)
  | [], _ => .nil
  | p :: ks, h => .cons (by
      show Rp K H P M (.tup _) _
      rw [Rp]
      exact ⟨p.1, _, rfl, h p List.mem_cons_self, ra_ints _⟩) (ra_ks fun q hq => h q (List.mem_cons_of_mem _ hq))
def rSetQ (K : PySem.W.Frag) (Pr : Program) (w : World) : List V → Hp → VK → Prop := fun vs H Q => ∃ (l : Addr) (ks : List (Addr × List Int)), vs = [V.ref l] ∧ (SqL K H l (ks.map fun p => V.ref p.1) ∨ SqT K H l (ks.map fun p => V.ref p.1)) ∧ (∀ p ∈ ks, SqT K H p.1 (p.2.map V.int)) ∧ ks.length < 64 ∧
  ∀ a L, H a = none → (∀ p ∈ L, p ∈ ks) → (∀ p ∈ ks, p.2 ∈ L.map (·.2)) → Q (.ref a) (upd H a (SetTO Pr w a L))
theorem cr_setQ {X : Cx} (hc : X.calm = true) (hu : X.A.units + 64 < cLine) : CallR X (.type "set") (rSetQ X.K X.prog X.w) := by
  intro pins s σ H vs us Q I r h
  obtain ⟨l, ks, rfl, hl, hk, few, q⟩ := h
  rcases hl with hl | hl
  · exact cr_setOfT hc hu pins s σ H _ us Q I r ⟨l, ks, rfl, hl, hk, few, q⟩
  · rw [Vals.ref1 r]
    obtain ⟨its, rv, pl, hz⟩ := I.tuple hl
    refine setOf_tuple (P := X.prog) (w := X.w) ks (I.ok.hd hc) pl (by simpa using refs_of_vals rv) (fun p hp => I.isT (hk p hp)) few (by omega) ?_
    intro h' tk L es ep t R g k
    exact ⟨.ref s.heap.objs.size, _, I.laid (t' := tk) k (Nat.le_refl _) (setTO_new R.t0), rfl, q _ L (I.hok.fresh (Nat.le_refl _)) (fun p hp => List.mem_of_mem_take (g.sub p hp)) fun p hp => g.all p (by rw [List.take_length]; exact hp)⟩
@[simp] def sortSetW (a : WO) : W := fun ρ t Q E => a ρ t (fun x ρ1 t1 => ∃ (dd : D) (kss : List (List Int)) (d : Nat) (B : Int), rsv ρ1 x = some dd ∧ (dd = .tup (kss.map tI) ∨ dd.ls = some (kss.map tI)) ∧ kss.length < 64 ∧ 1 ≤ d ∧ (∀ ks ∈ kss, ks.length = d ∧ TS.Bd B ks) ∧
  ∀ es : List (List Int), (∀ e, e ∈ es ↔ e ∈ kss) → es.Nodup → es.Pairwise (fun a b => TS.code B a ≤ TS.code B b) → Q (.nw (es.map tI)) ρ1 t1) E
section
variable {X : Cx} {EX : XK} {e : Expr} {wa : WO} {p p1 pos pos1 : Pos}
theorem de_sortSet (hc : X.calm = true) (hu : X.A.units + 64 < cLine) (hg : Gl X "sorted") (hm : X.mg "sorted" = none) (hg1 : Gl X "set") (hm1 : X.mg "set" = none) (ha : DO X EX e wa) (he : starEach [e] X.env = (false, eval e X.env) :: starEach [] X.env := by rfl)
    (he1 : starEach [.Call (.Name "set" p1) [e] [] pos1] X.env = (false, eval (.Call (.Name "set" p1) [e] [] pos1) X.env) :: starEach [] X.env := by rfl) (hpl : ∀ q, (backTo q (starEach [] X.env)).any (·.1) = false := by intro; rfl) :
    DE X EX (.Call (.Name "sorted" p) [.Call (.Name "set" p1) [e] [] pos1] [] pos) (sortSetW wa) :=
  PE.imp (pe_callB (cr_sortedT hc) hg hm PyProof.Rows.boot_sorted (pa_cons (pe_callTy (cr_setQ hc hu) hg1 hm1 PyProof.Rows.boot_set (pa_cons ha pa_nil he) (by decide) (by decide) he (hpl _)) pa_nil he1) (by decide) (by decide) he1 (hpl _)) fun σ H Q h => by
    obtain ⟨G, P, ρ, t, Q', E, S, hw, lk, hq⟩ := h
    refine ⟨G, P, ρ, t, _, E, S, hw, lk, fun o ρ1 t1 x H1 P1 h1 r1 => ?_⟩
    obtain ⟨dd, kss, d, B, e1, e2, few, hd, hB, q⟩ := h1
    have S1 := r1.sat
    have rd := rsv_ok S1 r1 e1
    have main : ∀ (l : Addr) (xs : List V), x = .ref l → (SqL X.K H1 l xs ∨ SqT X.K H1 l xs) → RpA X.K H1 P1 (Mx G.F P1 ρ1 σ) (kss.map tI) xs → rSetQ X.K X.prog X.w [x] H1 fun z H2 => rSortedT X.K X.prog X.w [z] H2 Q := by
      intro l xs ex sq ra
      obtain ⟨ks, rfl, rfl, hk⟩ := ks_of ra
      refine ⟨l, ks, by rw [ex], sq, hk, by simpa using few, fun a L na s1 s2 => ?_⟩
      have k1 : Kp X.K (fun _ => False) H1 (upd H1 a (SetTO X.prog X.w a L)) := kp_upd na
      refine ⟨a, L, d, B, rfl, upd_same, fun p hp => SqT.kp (hk p (s1 p hp)) k1, hd, fun p hp => hB p.2 (List.mem_map.mpr ⟨p, s1 p hp, rfl⟩), fun L' b pm nd _ pw nb => ?_⟩
      have k2 := k1.trans (kp_upd (o := .lst (L'.map fun q => V.ref q.1)) nb) fun _ _ _ z => z.elim
      have nb1 : H1 b = none := by
        by_cases hb : b = a
        · rw [hb]; exact na
        · rw [upd_ne hb] at nb; exact nb
      have q1 := q (L'.map (·.2)) (fun e => ⟨fun he => ?_, fun he => ?_⟩) nd (List.pairwise_map.mpr pw)
      · refine hq _ ρ1 t1 _ _ P1 q1 (rz_rs S1 k2 ⟨b, _, rfl, nb1, upd_same, ?_⟩)
        rw [List.map_map]
        exact ra_ks fun p hp => SqT.kp (hk p (s1 p (pm.mem_iff.mp hp))) k2
      · obtain ⟨p, hp, rfl⟩ := List.mem_map.mp he
        exact List.mem_map.mpr ⟨p, s1 p (pm.mem_iff.mp hp), rfl⟩
      · obtain ⟨p, hp, rfl⟩ := List.mem_map.mp he
        obtain ⟨p', hp', ep⟩ := List.mem_map.mp (s2 p hp)
        exact List.mem_map.mpr ⟨p', pm.mem_iff.mpr hp', ep⟩
    have fin : ∃ (l : Addr) (xs : List V), x = .ref l ∧ (SqL X.K H1 l xs ∨ SqT X.K H1 l xs) ∧ RpA X.K H1 P1 (Mx G.F P1 ρ1 σ) (kss.map tI) xs := by
      rcases e2 with e2 | e2
      · subst e2
        obtain ⟨l, xs, ex, ta, ra⟩ := rd.tp
        exact ⟨l, xs, ex, .inr ta, ra⟩
      · obtain ⟨l, xs, ex, ta, ra⟩ := rd.ls e2
        exact ⟨l, xs, ex, .inl ta, ra⟩
    obtain ⟨l, xs, ex, sq, ra⟩ := fin
    exact main l xs ex sq ra
end
end NB
set_option Elab.async false
set_option linter.all false
set_option maxRecDepth 100000
set_option maxHeartbeats 4000000
set_option autoImplicit false
/-! Defs by the text; the law's draws. -/
namespace NB
open PySem PySem.Spec PyProof.Rows L2

section
variable {Pr : Program} {w : World} {K : PySem.W.Frag} {mg : Str → Option Value} {base : Heap}
/-- a def that stands in the text, unshadowed -/
structure Df (K : PySem.W.Frag) (mg : Str → Option Value) (x : Str) (st : Stmt) (ps : List Str) : Prop where
  ex : ∃ (f : Addr) (fd : FuncData), Fun K x x st f fd ∧ mg x = some (.ref f) ∧ Binds K fd ps []
/-- what a def lets out: an exception -/
abbrev CXE (Pr : Program) (w : World) : CXT := L2.CX Pr w
theorem FnG.up0 {k : Nat} {f : Addr} {fd : FuncData} {ps : List Str} {Fw : WF} (F : FnG Pr w K mg base CX0 k f fd ps Fw) : FnG Pr w K mg base (CXE Pr w) k f fd ps Fw := ⟨fun A outer s H args us vs Q E hr hg e0 hb r h => codeAny_mono (F.go A outer s H args us vs Q E hr hg e0 hb r h) fun res s' q => by
  cases res with
  | error e => exact q.elim
  | ok fl => cases fl <;> exact q⟩
/-- a def that may be called, by its data -/
structure Cl (Pr : Program) (w : World) (K : PySem.W.Frag) (mg : Str → Option Value) (base : Heap) (k : Nat) (x : Str) (n : Nat) (Fw : WF) : Prop where
  ex : ∃ (f : Addr) (fd : FuncData) (ps : List Str), ps.length = n ∧ FnG Pr w K mg base (CXE Pr w) k f fd ps Fw ∧ mg x = some (.ref f) ∧ PySem.W.keepIn K (.ref f) = true ∧ Binds K fd ps []
theorem Cl.up {j k n : Nat} {x : Str} {Fw : WF} (C : Cl Pr w K mg base j x n Fw) (h : j ≤ k) : Cl Pr w K mg base k x n Fw := by
  obtain ⟨f, fd, ps, hn, F, r⟩ := C.ex
  exact ⟨f, fd, ps, hn, F.up h, r⟩
def Ar (n : Nat) (Fw : WF) : Prop := ∀ ds t Q E, Fw ds t Q E → ds.length = n
theorem ar_def {k n : Nat} {ws : WS} : Ar k (defW k n ws) := fun _ _ _ _ h => h.1
/-- exceptions may leave a context: as EX wants it -/
structure Lv (X : Cx) (EX : XK) : Prop where
  tk : Takes X fun cls d _ H => EX cls d H
  hp : PassesOwn (model X.prog X.w) X.A X.env X.xe
theorem Lv.px {X : Cx} {EX : XK} (h : Lv X EX) : Passes (CXE X.prog X.w) X EX := passes_call h.tk fun _ _ _ _ h => h
theorem passE0 {X : Cx} : Passes (CXE X.prog X.w) X E0 := fun _ _ _ _ _ _ _ h => by
  obtain ⟨_, _, _, _, _, _, _, _, _, _, _, _, z⟩ := h
  exact z.elim
theorem lv_cx {N : List Str} {x : Str} {scope : Scope} {f : Addr} {cdv : Value} {A : Around} {outer : List Env} {s : Shared} {H : Hp} {E : XK} : Lv (cxOf (CXE Pr w) Pr w K mg base N x scope f cdv A outer s H E) E := ⟨takes_of rfl rfl rfl rfl, passes_of rfl⟩
/-- a def by its body -/
theorem cl_of {x : Str} {st : Stmt} {ps N : List Str} {k : Nat} {ws : WS} (D : Df K mg x st ps) (S : FnScope N ps (defScope st))
    (hbody : ∀ (f : Addr) (cdv : Value) (A : Around) (outer : List Env) (s : Shared) (H : Hp) (E : XK), Room k (A.deeper (envOfC x (defScope st) s.heap.objs.size f cdv)) → A.guards = some [] →
      Lv (cxOf (CXE Pr w) Pr w K mg base N x (defScope st) f cdv A outer s H E) E → Passes (CXE Pr w) (cxOf (CXE Pr w) Pr w K mg base N x (defScope st) f cdv A outer s H E) E →
      DSs (cxOf (CXE Pr w) Pr w K mg base N x (defScope st) f cdv A outer s H E) E (defBody st) ws) : Cl Pr w K mg base (k + 1) x ps.length (defW ps.length N.length ws) := by
  obtain ⟨f, fd, F, hm, hb⟩ := D.ex
  obtain ⟨oc, od, kV, doc, pm, an, cdv, ct, osl, rfl, lk, hcd⟩ := F.ex
  exact ⟨f, _, ps, rfl, fnG_of (EX := fun E => E) lk hcd S (fun _ _ _ h => h) fun A outer s H E hr hg => hbody f cdv A outer s H E hr hg lv_cx lv_cx.px, hm, F.kp, hb⟩
/-- .. that is shown by values -/
theorem cl_raw {x : Str} {st : Stmt} {ps N : List Str} {k : Nat} {Fw : WF} (D : Df K mg x st ps) (S : FnScope N ps (defScope st))
    (hbody : ∀ (f : Addr) (cdv : Value) (A : Around) (outer : List Env) (s : Shared) (H : Hp) (vs : List V) (Q : VK) (E : XK), Room k (A.deeper (envOfC x (defScope st) s.heap.objs.size f cdv)) → spW K ps.length Fw vs H Q E →
      ∃ t, PSs (cxOf CX0 Pr w K mg base N x (defScope st) f cdv A outer s H E).nox (defBody st) t ∧ t { nx := fun _ H' => Q .non H', rt := Q } (L2.start N vs) H) : Cl Pr w K mg base (k + 1) x ps.length Fw := by
  obtain ⟨f, fd, F, hm, hb⟩ := D.ex
  have FO : FnOk Pr w K mg base CX0 (k + 1) f fd ps (spW K ps.length Fw) := F.ok S (fun vs H Q E h => h.1) fun cdv A outer s H vs Q E hr h => hbody f cdv A outer s H vs Q E hr h
  exact ⟨f, fd, ps, rfl, FnG.up0 ⟨fun A outer s H args us vs Q E hr _ e0 hb r h => FO.run A outer s H args us vs Q E hr e0 hb r h⟩, hm, F.kp, hb⟩
end
section
variable {X : Cx} {EX : XK} {k n : Nat} {x : Str} {Fw : WF} {p pos : Pos} {e : Expr} {es : List Expr} {w : Wg (List D)}
theorem de_cl (C : Cl X.prog X.w X.K X.mg X.base k x n Fw) (hn : Ar n Fw) (hr : Room k X.A) (hgd : X.A.guards = some []) (hg : Gl X x) (ha : DA X EX (e :: es) w) (hx : Passes (CXE X.prog X.w) X EX := by first | exact passE0 | assumption) (hdb : (x == ("__debug__" : Str)) = false := by decide)
    (he : starEach (e :: es) X.env = (false, eval e X.env) :: starEach es X.env := by rfl) (hpl : (backTo pos (starEach es X.env)).any (·.1) = false := by rfl) : DE X EX (.Call (.Name x p) (e :: es) [] pos) (callW Fw w) := by
  obtain ⟨f, fd, ps, rfl, F, hm, hk, hb⟩ := C.ex
  exact de_call F hn hr hgd hg hm hk hb hx ha hdb he hpl
theorem de_cl0 (C : Cl X.prog X.w X.K X.mg X.base k x n Fw) (hn : Ar n Fw) (hr : Room k X.A) (hgd : X.A.guards = some []) (hg : Gl X x) (hx : Passes (CXE X.prog X.w) X EX := by first | exact passE0 | assumption) (hdb : (x == ("__debug__" : Str)) = false := by decide) : DE X EX (.Call (.Name x p) [] [] pos) (callW Fw nilW) := by
  obtain ⟨f, fd, ps, rfl, F, hm, hk, hb⟩ := C.ex
  exact de_call0 F hn hr hgd hg hm hk hb hx hdb
end

/-! ### powers of wider numbers -/
@[simp] def pwrD : D → D → Option R
  | .int i, .int j => if 0 ≤ j ∧ (Builtin.Int.intBits i : Int) * j ≤ 2 ^ 27 then some (.im (.int (i ^ j.toNat))) else none
  | _, _ => none
theorem op_powW {X : Cx} : OpR X (binaryOp .Pow) (rI (fun i j => 0 ≤ j ∧ (Builtin.Int.intBits i : Int) * j ≤ 2 ^ 27) fun i j => .int (i ^ j.toNat)) := opI fun _ _ _ _ _ _ _ hc q => pow_int hc.1 hc.2 q
theorem op_pwrD {X : Cx} : Op2 X (binaryOp .Pow) pwrD := by
  intro pins s σ H x y v u Q I rx ry ⟨P, M, d, e, h1, h2, _, f⟩
  unfold pwrD at f
  split at f
  · split at f
    · exact op_powW pins s σ H x y v u Q I rx ry ⟨_, _, h1.int, h2.int, by assumption, f.im rp_int⟩
    · exact f.no.elim
  · exact f.no.elim

/-! ### draws -/
def takeW : WF := fun ds t Q _ => ∃ n : Int, ds = [.pot, .int n] ∧ 0 < n ∧ n < 2 ^ 30 ∧ t < 2000000 ∧ ∀ k : Int, 0 ≤ k → k < n → Q (.im (.int k)) (t + 1)
def potW : WF := fun ds t Q _ => ∃ (ns : List Int) (i : Nat), ds = [.scr ns, .int (i : Nat)] ∧ i < 2 ^ 20 ∧ ns.length < 2 ^ 20 ∧ Q (.im .pot) t
theorem ar_take : Ar 2 takeW := fun _ _ _ _ ⟨_, h, _⟩ => by rw [h]; rfl
theorem ar_pot : Ar 2 potW := fun _ _ _ _ ⟨_, _, h, _⟩ => by rw [h]; rfl
def tInt (te : TE) : TE := tCB (fun xs H Q => (∃ i, xs = [.int i] ∧ Q (.int i) H) ∨ ∃ k, xs = [.bl k] ∧ Q (.int (if k then 1 else 0)) H) (tCons te tNil)
def tAbs (te : TE) : TE := tCB (fun xs H Q => ∃ i, xs = [.int i] ∧ Q (.int (if i < 0 then -i else i)) H) (tCons te tNil)
def tIx (K : PySem.W.Frag) (c : Int) : TE := tOp (rIxL K) (tVar 0) (tC (.int c))
def rAdd : R2 := rI0 fun i j => .int (i + j)
def rMod : R2 := rI (fun _ j => 0 < j) fun i j => .int (i % j)
def rMul : R2 := rI CMul fun i j => .int (i * j)
def rDiv : R2 := rI CDiv fun i j => .int (i / j)
/-- the body of the drawing -/
def tTake (K : PySem.W.Frag) (c1 c2 c3 c4 c5 : Int) : TS :=
  tSeq (tIfS (tTest (tOp (rI0 fun i j => .bl (decide (i > j))) (tIx K 0) (tC (.int 0))))
    (tSeq (tAsg (tOp rMod (tInt (tIx K 0)) (tVar 1)) (gName 2)) (tSeq (tAsg (tOp rDiv (tIx K 0) (tVar 1)) (gSub (tVar 0) (tC (.int 0)) rSetL)) (tRet (tVar 2)))) tNext)
  (tSeq (tAsg (tOp rAdd (tIx K 2) (tC (.int 1))) (gSub (tVar 0) (tC (.int 2)) rSetL))
  (tSeq (tAsg (tOp (rIxL K) (tLst (tCons (tC (.int 2147483647)) (tCons (tC (.int 2147483629)) (tCons (tC (.int 2147483587)) (tCons (tC (.int 2147483579)) (tCons (tC (.int 2147483563)) tNil)))))) (tOp rMod (tInt (tIx K 2)) (tC (.int 5)))) (gName 3))
  (tSeq (tAsg (tOp rMod (tInt (tOp (rI CPow fun i j => .int (i ^ j.toNat)) (tInt (tOp rAdd (tOp rAdd (tIx K 1) (tOp rMul (tOp rMul (tC (.int c1)) (tIx K 2)) (tIx K 2))) (tC (.int c2)))) (tC (.int 3)))) (tVar 3)) (gName 4))
  (tSeq (tAsg (tOp rMod (tInt (tOp rMul (tVar 4) (tOp rAdd (tOp rMod (tInt (tVar 4)) (tC (.int c3))) (tOp rMul (tC (.int c4)) (tIx K 2))))) (tC (.int 2305843009213693907))) (gName 4))
  (tRet (tOp rMod (tInt (tOp rDiv (tVar 4) (tC (.int c5)))) (tVar 1)))))))
theorem fin_take {K : PySem.W.Frag} {F P : PA1} {t : Nat} {H H' : Hp} {a : Addr} {k i j l : Int} (tb : Tb K H) (hP : P a) (hpt : ∀ b, P b → PotAt H t b) (hk : ∀ b, b ≠ a → ∀ o, H b = some o → H' b = some o) (ha : H' a = some (.lst [.int i, .int j, .int l])) (h1 : 0 ≤ i) (h2 : i < 10 ^ 300) (h3 : 0 ≤ j) (h4 : j < 2 ^ 61) (h5 : 0 ≤ l) (h6 : l ≤ t + 1) :
    EndR K (g0 F P H) P (t + 1) H' (.im (.int k)) (.int k) := by
  have kp : Kp K P H H' := .but (fun b hb => let ⟨i, j, l, e, _⟩ := hpt b hb; ⟨_, e⟩) fun b o n e => hk b (fun z => n (z ▸ hP)) o e
  refine ⟨⟨fun b hb => ?_, fun b hb => hb, fun b hb => .inl hb, kp, kp.tb tb⟩, (by show Rp K H' P _ (.int k) (.int k); rw [Rp])⟩
  by_cases hba : b = a
  · subst hba
    exact ⟨i, j, l, ha, h1, h2, h3, h4, h5, by omega⟩
  · obtain ⟨i', j', l', e, r⟩ := (hpt b hb).mono (Nat.le_succ t)
    exact ⟨i', j', l', hk b hba _ e, r⟩
theorem take_read {K : PySem.W.Frag} {c1 c2 c3 c4 c5 : Int} (b1 : 0 ≤ c1 ∧ c1 < 1000000) (b2 : 0 ≤ c2 ∧ c2 < 1000000) (b3 : 0 < c3) (b4 : 0 ≤ c4 ∧ c4 < 1000000) (b5 : 0 < c5 ∧ c5 < 1000000) {N : List Str} (hN : N.length = 5) {vs : List V} {H : Hp} {Q : VK} {E : XK} (h : spW K 2 takeW vs H Q E) :
    tTake K c1 c2 c3 c4 c5 { nx := fun _ H' => Q .non H', rt := Q } (L2.start N vs) H := by
  obtain ⟨hl, F, P, t, ds, Q', E', hF, hpt, hFP, ra, tb, hw, _, hq⟩ := h
  obtain ⟨n, rfl, n0, n1, ht, hk⟩ := hw
  obtain ⟨v0, v1, rfl, r0, r1⟩ := ra_two ra
  have r0 : ∃ a, v0 = V.ref a ∧ P a := by rw [Rp] at r0; exact r0
  have r1 : v1 = V.int n := by rw [Rp] at r1; exact r1
  obtain ⟨a, rfl, hPa⟩ := r0
  subst r1
  obtain ⟨i, j, l, ea, i0, i1, j0, j1, l0, l1⟩ := hpt a hPa
  have est : L2.start N [V.ref a, V.int n] = [some (V.ref a), some (V.int n), none, none, none] := by
    unfold L2.start
    rw [hN]
    rfl
  rw [est]
  have ix0 : ∀ {x y z : V} {H : Hp} {Q : VK} {rest : List (Option V)}, H a = some (.lst [x, y, z]) → Q x H → tIx K 0 (some (V.ref a) :: rest) H Q := fun e q => ⟨_, rfl, _, _, _, _, rfl, rfl, .of e, rfl, q⟩
  have ix1 : ∀ {x y z : V} {H : Hp} {Q : VK} {rest : List (Option V)}, H a = some (.lst [x, y, z]) → Q y H → tIx K 1 (some (V.ref a) :: rest) H Q := fun e q => ⟨_, rfl, _, _, _, _, rfl, rfl, .of e, rfl, q⟩
  have ix2 : ∀ {x y z : V} {H : Hp} {Q : VK} {rest : List (Option V)}, H a = some (.lst [x, y, z]) → Q z H → tIx K 2 (some (V.ref a) :: rest) H Q := fun e q => ⟨_, rfl, _, _, _, _, rfl, rfl, .of e, rfl, q⟩
  have off : ∀ {H1 : Hp} {ys : List V}, ∀ b, b ≠ a → ∀ o, H1 b = some o → (upd H1 a (.lst ys)) b = some o := fun b hb o e => by rw [upd_ne hb]; exact e
  refine ix0 ea ⟨i, 0, rfl, rfl, _, rfl, ?_⟩
  refine ite2 (fun hd => ?_) (fun hd => ?_)
  · have hi : i > 0 := of_decide_eq_true hd
    refine ix0 ea (.inl ⟨i, rfl, _, rfl, i, n, rfl, rfl, n0, ?_⟩)
    refine ix0 ea ⟨_, rfl, i, n, rfl, rfl, ⟨n0, by omega⟩, _, rfl, a, _, 0, 0, rfl, rfl, ea, rfl, ?_⟩
    refine ⟨_, rfl, hq _ (t + 1) _ _ P (hk (i % n) (Int.emod_nonneg _ (by omega)) (Int.emod_lt_of_pos _ n0)) ?_⟩
    refine fin_take tb hPa hpt (off) (i := i / n) (j := j) (l := l) upd_same (Int.ediv_nonneg i0 (by omega)) ?_ j0 j1 l0 (by omega)
    exact Int.lt_of_le_of_lt (Int.ediv_le_self _ i0) i1
  · refine ix2 ea ⟨l, 1, rfl, rfl, _, rfl, a, _, 2, 2, rfl, rfl, ea, rfl, ?_⟩
    have e1 : (upd H a (.lst [V.int i, V.int j, V.int (l + 1)])) a = some (.lst [V.int i, V.int j, V.int (l + 1)]) := upd_same
    show tSeq _ _ _ _ (upd H a (.lst [V.int i, V.int j, V.int (l + 1)]))
    generalize hH1 : upd H a (.lst [V.int i, V.int j, V.int (l + 1)]) = H1 at e1 ⊢
    have off1 : ∀ b, b ≠ a → ∀ o, H b = some o → H1 b = some o := by rw [← hH1]; exact off
    refine ⟨by decide, fun q nq => ?_⟩
    have naq : a ≠ q := ne_of_none e1 nq
    have e2 : (upd H1 q (.lst [.int 2147483647, .int 2147483629, .int 2147483587, .int 2147483579, .int 2147483563])) a = some (.lst [V.int i, V.int j, V.int (l + 1)]) := by rw [upd_ne naq]; exact e1
    have e3 : (upd H1 q (.lst [.int 2147483647, .int 2147483629, .int 2147483587, .int 2147483579, .int 2147483563])) q = some (.lst [.int 2147483647, .int 2147483629, .int 2147483587, .int 2147483579, .int 2147483563]) := upd_same
    generalize hH2 : upd H1 q (.lst [.int 2147483647, .int 2147483629, .int 2147483587, .int 2147483579, .int 2147483563]) = H2 at e2 e3 ⊢
    have off2 : ∀ b, b ≠ a → ∀ o, H b = some o → H2 b = some o := fun b hb o e => by
      have e' := off1 b hb o e
      rw [← hH2, upd_ne (ne_of_none e' nq)]
      exact e'
    have m0 : 0 ≤ (l + 1) % 5 := Int.emod_nonneg _ (by omega)
    have m5 : (l + 1) % 5 < 5 := Int.emod_lt_of_pos _ (by omega)
    have pr : ∃ p : Int, atI [V.int 2147483647, V.int 2147483629, V.int 2147483587, V.int 2147483579, V.int 2147483563] ((l + 1) % 5) = some (.int p) ∧ 0 < p ∧ p < 2147483648 := by
      generalize (l + 1) % 5 = m at m0 m5
      have : m = 0 ∨ m = 1 ∨ m = 2 ∨ m = 3 ∨ m = 4 := by omega
      rcases this with rfl | rfl | rfl | rfl | rfl
      · exact ⟨_, rfl, by decide, by decide⟩
      · exact ⟨_, rfl, by decide, by decide⟩
      · exact ⟨_, rfl, by decide, by decide⟩
      · exact ⟨_, rfl, by decide, by decide⟩
      · exact ⟨_, rfl, by decide, by decide⟩
    obtain ⟨p, ep, p0, p1⟩ := pr
    refine ix2 e2 (.inl ⟨_, rfl, l + 1, 5, rfl, rfl, (by show (0 : Int) < 5; decide), q, _, _, _, rfl, rfl, .of e3, ep, ?_⟩)
    have l2 : l + 1 ≤ 2000000 := by omega
    refine ix1 e2 (ix2 e2 ⟨c1, l + 1, rfl, rfl, .inl ⟨by omega, by omega⟩, ix2 e2 ⟨_, l + 1, rfl, rfl, .inr ⟨by omega, by omega⟩, _, _, rfl, rfl, _, c2, rfl, rfl, .inl ⟨_, rfl, _, 3, rfl, rfl, ⟨by decide, by decide, ?_⟩, .inl ⟨_, rfl, _, rfl, _, p, rfl, rfl, p0, ?_⟩⟩⟩⟩)
    · have a1 : 0 ≤ c1 * (l + 1) := Int.mul_nonneg b1.1 (by omega)
      have a2 : c1 * (l + 1) ≤ 1000000 * 2000000 := Int.mul_le_mul (by omega) l2 (by omega) (by omega)
      have a3 : 0 ≤ c1 * (l + 1) * (l + 1) := Int.mul_nonneg a1 (by omega)
      have a4 : c1 * (l + 1) * (l + 1) ≤ 1000000 * 2000000 * 2000000 := Int.mul_le_mul a2 l2 (by omega) (by omega)
      omega
    · have z0 : ∀ x : Int, 0 ≤ x % p := fun x => Int.emod_nonneg _ (by omega)
      have z1 : ∀ x : Int, x % p < p := fun x => Int.emod_lt_of_pos _ p0
      have y0 := z0 ((j + c1 * (l + 1) * (l + 1) + c2) ^ (3 : Int).toNat)
      have y1 := z1 ((j + c1 * (l + 1) * (l + 1) + c2) ^ (3 : Int).toNat)
      refine ⟨_, rfl, _, rfl, .inl ⟨_, rfl, _, c3, rfl, rfl, b3, ix2 e2 ⟨c4, l + 1, rfl, rfl, .inl ⟨by omega, by omega⟩, _, _, rfl, rfl, _, _, rfl, rfl, .inl ⟨Int.lt_of_lt_of_le (by decide) y0, Int.lt_trans y1 (Int.lt_trans p1 (by decide))⟩, .inl ⟨_, rfl, _, _, rfl, rfl, (by show (0 : Int) < 2305843009213693907; decide), ?_⟩⟩⟩⟩
      have done : ∀ m : Int, Q (.int (m % n)) H2 := fun m => hq _ (t + 1) _ _ P (hk (m % n) (Int.emod_nonneg _ (by omega)) (Int.emod_lt_of_pos _ n0)) (fin_take tb hPa hpt off2 (i := i) (j := j) (l := l + 1) e2 i0 i1 j0 j1 (by omega) (by omega))
      exact ⟨_, rfl, _, c5, rfl, rfl, ⟨b5.1, by omega⟩, .inl ⟨_, rfl, _, rfl, _, n, rfl, rfl, n0, done _⟩⟩
end NB
set_option Elab.async false
set_option linter.all false
set_option maxRecDepth 100000
set_option maxHeartbeats 4000000
set_option autoImplicit false
set_option exponentiation.threshold 2000
/-! The law's draws: how they begin. -/
namespace NB
open PySem PySem.Spec PyProof.Rows L2

def rPow : R2 := rI CPow fun i j => .int (i ^ j.toNat)
def rPowW : R2 := rI (fun i j => 0 ≤ j ∧ (Builtin.Int.intBits i : Int) * j ≤ 2 ^ 27) fun i j => .int (i ^ j.toNat)
def tLenS (K : PySem.W.Frag) (te : TE) : TE := tCB (fun xs H Q => ∃ p ys, xs = [.ref p] ∧ (SqL K H p ys ∨ SqT K H p ys) ∧ Q (.int ys.length) H) (tCons te tNil)
def tPot (K : PySem.W.Frag) (c1 c2 c3 c4 c5 : Int) : TS :=
  tSeq (tAsg (tIf (tTest (tOp (rI0 fun i j => .bl (decide (i < j))) (tVar 1) (tLenS K (tVar 0)))) (tOp (rIxL K) (tVar 0) (tVar 1))
    (tOp rAdd (tOp rAdd (tOp rMod (tCB (rSum K) (tCons (tSl (rSlL K) (tVar 0) tNoPart (tPart (tC (.int 1)))) tNil)) (tC (.int 1000003))) (tOp rMul (tC (.int c1)) (tVar 1))) (tC (.int c2)))) (gName 2))
  (tSeq (tAsg (tOp rMul (tOp rMod (tInt (tAbs (tVar 2))) (tOp rPowW (tOp rPow (tC (.int 10)) (tC (.int 60))) (tC (.int 5)))) (tInt (tOp (rI0 fun i j => .bl (decide (i ≥ j))) (tAbs (tVar 2)) (tOp rPow (tC (.int 10)) (tC (.int 18)))))) (gName 3))
  (tSeq (tAsg (tOp rMod (tInt (tVar 2)) (tC (.int 2305843009213693951))) (gName 4))
  (tRet (tLst (tCons (tVar 3) (tCons (tOp rMod (tInt (tOp rAdd (tOp rAdd (tOp rMul (tVar 4) (tC (.int c3))) (tOp rMul (tOp rMul (tC (.int c4)) (tVar 1)) (tVar 1))) (tC (.int c5)))) (tC (.int 2305843009213693921))) (tCons (tC (.int 0)) tNil)))))))
theorem pot_end {K : PySem.W.Frag} {F P : PA1} {t : Nat} {H H1 : Hp} {p : Addr} {i j : Int} (tb : Tb K H) (hpt : ∀ b, P b → PotAt H t b) (hk : ∀ b o, H b = some o → H1 b = some o) (hp : H1 p = none) (h1 : 0 ≤ i) (h2 : i < 10 ^ 300) (h3 : 0 ≤ j) (h4 : j < 2 ^ 61) :
    EndR K (g0 F P H) (fun b => P b ∨ b = p) t (upd H1 p (.lst [.int i, .int j, .int 0])) (.im .pot) (.ref p) := by
  have hk2 : ∀ b o, H b = some o → (upd H1 p (.lst [V.int i, V.int j, V.int 0])) b = some o := fun b o e => by
    have e' := hk b o e
    rw [upd_ne (ne_of_none e' hp)]
    exact e'
  have hn : H p = none := by
    cases e : H p with
    | none => rfl
    | some o => rw [hk p o e] at hp; cases hp
  refine ⟨⟨fun b hb => ?_, fun b hb => .inl hb, fun b hb => ?_, .of hk2, LamX.Tabs.ext tb hk2⟩, ?_⟩
  · rcases hb with hb | rfl
    · obtain ⟨i', j', l', e, r⟩ := hpt b hb
      exact ⟨i', j', l', hk2 b _ e, r⟩
    · exact ⟨i, j, 0, upd_same, h1, h2, h3, h4, Int.le_refl _, by omega⟩
  · rcases hb with hb | rfl
    · exact .inl hb
    · exact .inr (nw_of hn)
  · show Rp K _ _ _ .pot _
    rw [Rp]
    exact ⟨p, rfl, .inr rfl⟩
theorem b01 (b : Bool) : -(2 ^ 64) < (if b then (1 : Int) else 0) ∧ (if b then (1 : Int) else 0) < 2 ^ 64 := by cases b <;> decide
theorem pot_read {K : PySem.W.Frag} {c1 c2 c3 c4 c5 : Int} (b1 : 0 ≤ c1 ∧ c1 < 1000000) (b3 : 0 ≤ c3 ∧ c3 < 1000000) (b4 : 0 ≤ c4 ∧ c4 < 1000000) {N : List Str} (hN : N.length = 5) {vs : List V} {H : Hp} {Q : VK} {E : XK} (h : spW K 2 potW vs H Q E) :
    tPot K c1 c2 c3 c4 c5 { nx := fun _ H' => Q .non H', rt := Q } (L2.start N vs) H := by
  obtain ⟨hl, F, P, t, ds, Q', E', hF, hpt, hFP, ra, tb, hw, _, hq⟩ := h
  obtain ⟨ns, i, rfl, i0, n0, hk⟩ := hw
  obtain ⟨v0, v1, rfl, r0, r1⟩ := ra_two ra
  obtain ⟨a, xs, rfl, sq, rx⟩ := r0.rs.ls (ds := ns.map .int) rfl
  rw [ra_ints_inv rx] at sq
  have r1 : v1 = V.int (i : Nat) := by rw [Rp] at r1; exact r1
  subst r1
  have est : L2.start N [V.ref a, V.int (i : Nat)] = [some (V.ref a), some (V.int (i : Nat)), none, none, none] := by
    unfold L2.start
    rw [hN]
    rfl
  rw [est]
  have tail : ∀ (c : Int) (H1 : Hp), (∀ b o, H b = some o → H1 b = some o) → tSeq (tAsg (tOp rMul (tOp rMod (tInt (tAbs (tVar 2))) (tOp rPowW (tOp rPow (tC (.int 10)) (tC (.int 60))) (tC (.int 5)))) (tInt (tOp (rI0 fun i j => .bl (decide (i ≥ j))) (tAbs (tVar 2)) (tOp rPow (tC (.int 10)) (tC (.int 18)))))) (gName 3))
      (tSeq (tAsg (tOp rMod (tInt (tVar 2)) (tC (.int 2305843009213693951))) (gName 4))
      (tRet (tLst (tCons (tVar 3) (tCons (tOp rMod (tInt (tOp rAdd (tOp rAdd (tOp rMul (tVar 4) (tC (.int c3))) (tOp rMul (tOp rMul (tC (.int c4)) (tVar 1)) (tVar 1))) (tC (.int c5)))) (tC (.int 2305843009213693921))) (tCons (tC (.int 0)) tNil))))))
      { nx := fun _ H' => Q .non H', rt := Q } [some (V.ref a), some (V.int (i : Nat)), some (V.int c), none, none] H1 := by
    intro c H1 k1
    generalize hy : (if c < 0 then -c else c) = y
    have y0 : 0 ≤ y := by
      rw [← hy]
      by_cases hc : c < 0
      · rw [if_pos hc]; omega
      · rw [if_neg hc]; omega
    have big : (0 : Int) < (10 ^ (60 : Int).toNat) ^ (5 : Int).toNat := by decide
    have e300 : ((10 : Int) ^ (60 : Int).toNat) ^ (5 : Int).toNat = 10 ^ 300 := by decide
    have fin : ∀ (own z : Int), 0 ≤ own → own < 10 ^ 300 → 0 ≤ z → z < 2305843009213693951 → tRet (tLst (tCons (tVar 3) (tCons (tOp rMod (tInt (tOp rAdd (tOp rAdd (tOp rMul (tVar 4) (tC (.int c3))) (tOp rMul (tOp rMul (tC (.int c4)) (tVar 1)) (tVar 1))) (tC (.int c5)))) (tC (.int 2305843009213693921))) (tCons (tC (.int 0)) tNil))))
        { nx := fun _ H' => Q .non H', rt := Q } [some (V.ref a), some (V.int (i : Nat)), some (V.int c), some (V.int own), some (V.int z)] H1 := by
      intro own z o0 o1 z0 z1
      have ret : ∀ (m : Int) (p : Addr), H1 p = none → Q (.ref p) (upd H1 p (.lst [.int own, .int (m % 2305843009213693921), .int 0])) := fun m p hp =>
        hq _ t _ _ _ hk (pot_end tb hpt k1 hp o0 o1 (Int.emod_nonneg _ (by decide)) (Int.lt_trans (Int.emod_lt_of_pos _ (by decide)) (by decide)))
      exact ⟨_, rfl, _, rfl, _, c3, rfl, rfl, .inr ⟨by omega, by omega⟩, _, rfl, c4, _, rfl, rfl, .inl ⟨by omega, by omega⟩, _, rfl, _, _, rfl, rfl, .inr ⟨by omega, by omega⟩, _, _, rfl, rfl, _, c5, rfl, rfl, .inl ⟨_, rfl, _, _, rfl, rfl, (by show (0 : Int) < 2305843009213693921; decide), (by show 3 ≤ sizeLine; decide), ret _⟩⟩
    have mid : ∀ (own : Int), 0 ≤ own → own < 10 ^ 300 → tSeq (tAsg (tOp rMod (tInt (tVar 2)) (tC (.int 2305843009213693951))) (gName 4)) (tRet (tLst (tCons (tVar 3) (tCons (tOp rMod (tInt (tOp rAdd (tOp rAdd (tOp rMul (tVar 4) (tC (.int c3))) (tOp rMul (tOp rMul (tC (.int c4)) (tVar 1)) (tVar 1))) (tC (.int c5)))) (tC (.int 2305843009213693921))) (tCons (tC (.int 0)) tNil)))))
        { nx := fun _ H' => Q .non H', rt := Q } [some (V.ref a), some (V.int (i : Nat)), some (V.int c), some (V.int own), none] H1 := fun own o0 o1 =>
      ⟨_, rfl, .inl ⟨_, rfl, _, _, rfl, rfl, (by show (0 : Int) < 2305843009213693951; decide), fin own (c % 2305843009213693951) o0 o1 (Int.emod_nonneg _ (by decide)) (Int.emod_lt_of_pos _ (by decide))⟩⟩
    have own : ∀ b : Bool, 0 ≤ (y % ((10 ^ (60 : Int).toNat) ^ (5 : Int).toNat)) * (if b then 1 else 0) ∧ (y % ((10 ^ (60 : Int).toNat) ^ (5 : Int).toNat)) * (if b then 1 else 0) < 10 ^ 300 := fun b => by
      have q1 := Int.emod_nonneg y (Int.ne_of_gt big)
      have q2 := Int.emod_lt_of_pos y big
      rw [e300] at q1 q2 ⊢
      cases b with
      | true => rw [if_pos rfl, Int.mul_one]; exact ⟨q1, q2⟩
      | false => rw [if_neg Bool.false_ne_true, Int.mul_zero]; exact ⟨Int.le_refl _, by decide⟩
    refine ⟨_, rfl, c, rfl, .inl ⟨_, rfl, 10, 60, rfl, rfl, ⟨by decide, by decide, by decide⟩, _, 5, rfl, rfl, ⟨by decide, by decide⟩, _, _, rfl, rfl, big, ?_⟩⟩
    refine ⟨_, rfl, c, rfl, 10, 18, rfl, rfl, ⟨by decide, by decide, by decide⟩, _, _, rfl, rfl, .inr ⟨_, rfl, _, _, rfl, rfl, .inr ?_, ?_⟩⟩
    · exact b01 _
    · rw [hy]
      exact mid _ (own _).1 (own _).2
  have hlen : (ns.map V.int).length = ns.length := List.length_map _
  refine ⟨_, rfl, _, rfl, a, _, rfl, .inl sq, (i : Nat), ((ns.map V.int).length : Nat), rfl, rfl, _, rfl, ite2 (fun hd => ?_) (fun hd => ?_)⟩
  · have hi : i < ns.length := by
      have := of_decide_eq_true hd
      rw [hlen] at this
      omega
    refine ⟨_, rfl, _, rfl, a, _, (i : Nat), .int ns[i], rfl, rfl, sq, atI_nat (by rw [List.getElem?_map, List.getElem?_eq_getElem hi]; rfl), ?_⟩
    exact tail _ H fun _ _ e => e
  · refine ⟨_, rfl, 1, rfl, a, _, rfl, sq, fun q hqn => ?_⟩
    have k1 : ∀ b o, H b = some o → (upd H q (.lst (cutV (ns.map V.int) none (some 1)))) b = some o := fun b o e => by
      rw [upd_ne (ne_of_none e hqn)]
      exact e
    have ec : cutV (ns.map V.int) none (some 1) = (ns.take 1).map V.int := by
      cases ns with
      | nil => rfl
      | cons n ns =>
        unfold cutV
        rw [HT.sIx_none, show HT.sIx ((n :: ns).map V.int).length ((n :: ns).map V.int).length (some 1) = min 1 ((n :: ns).map V.int).length from HT.sIx_nat _ _ 1, List.length_map, List.length_cons, show min 1 (ns.length + 1) - 0 = 1 by omega]
        rfl
    refine ⟨q, ns.take 1, rfl, .of (by rw [← ec]; exact upd_same), _, _, rfl, rfl, (by show (0 : Int) < 1000003; decide), _, rfl, c1, _, rfl, rfl, .inl ⟨by omega, by omega⟩, _, _, rfl, rfl, _, c2, rfl, rfl, ?_⟩
    exact tail _ _ k1
end NB
set_option Elab.async false
set_option linter.all false
set_option maxRecDepth 100000
set_option maxHeartbeats 4000000
set_option autoImplicit false
/-! The law itself is called. -/
namespace NB
open PySem PySem.Spec PyProof.Rows L2

/-- what the law's call is to end in -/
abbrev Told (s : Shared) : Result → Shared → Prop := fun r s' => r = .ok (.ret (.bool true)) ∧ OldK s.heap s'.heap ∧ s'.os = s.os ∧ AllBare s'.gens
section
variable {Pr : Program} {w : World} {K : PySem.W.Frag} {mg mb : Str → Option Value} {k : Nat} {fa a : Addr} {fd : FuncData} {x : Str} {Fw : WF} {s : Shared} {vs : List Value} {ns : List Int}
/-- a law, by its data -/
def LawW (Fw : WF) (n : Nat) : Prop := ∀ ns : List Int, ns.length ≤ n → Fw [.scr ns] 0 (fun r _ => r = .im (.bl true)) fun _ _ _ => False
/-- what a def that makes lambdas asks of the text -/
def TabsB (K : PySem.W.Frag) (mg : Str → Option Value) (base : Heap) : Prop := ∀ x ∈ lamNames, ∀ c P, PySem.W.tabIn K x = some (c, P) → LamX.TabB base mg c P
theorem tab_mem {K : PySem.W.Frag} {P : Addr} : P ∈ (tabsOf K).map (·.1) ↔ ∃ x ∈ lamNames, ∃ c, PySem.W.tabIn K x = some (c, P) := by
  unfold tabsOf
  constructor
  · intro h
    obtain ⟨p, hp, rfl⟩ := List.mem_map.mp h
    obtain ⟨x, hx, e⟩ := List.mem_filterMap.mp hp
    obtain ⟨cP, h1, h2⟩ := Option.map_eq_some_iff.mp e
    subst h2
    exact ⟨x, hx, cP.1, h1⟩
  · rintro ⟨x, hx, c, e⟩
    exact List.mem_map.mpr ⟨(P, lamQ x), List.mem_filterMap.mpr ⟨x, hx, by rw [e]; rfl⟩, rfl⟩
theorem law_from {H : Hp} (F : FnG Pr w K mg (hidT s.heap H) (CXE Pr w) k fa fd [x] Fw) (hr : Room k callerA) (hbind : ∀ (s : Shared) (u : Value), BindsTo s fd ⟨[u], []⟩ [(x, u)]) (hM : Mod K mg (hidT s.heap H)) (hok : HOk Pr w H s.heap) (hg : s.gens = #[])
    (hS : Rp K H (fun _ => False) (fun _ => False) (.scr ns) (.ref a)) (tb : Tb K H) (hl : ns.length ≤ 63) (law : LawW Fw 63) :
    codeAny (model Pr w) callerA (.call (.ref fa) ⟨[.ref a], []⟩) (fun r s' => r = .ok (.ret (.bool true)) ∧ s'.os = s.os ∧ AllBare s'.gens ∧ ∃ H', Un [] [] H H' s.heap s'.heap ∧ HOk Pr w H' s'.heap) s := by
  have e0 : Env0 Pr w K mg (hidT s.heap H) callerA [] s H := ⟨rfl, hM, fun _ _ e => of_hidT e, Nat.le_of_eq (hidT_size _ _), trivial, (fun _ hb => nomatch hb), hok, .of_eq hg⟩
  have sp : spW K 1 Fw [.ref a] H (fun v _ => v = .bl true) fun _ _ _ => False := by
    refine ⟨rfl, fun _ => False, fun _ => False, 0, [.scr ns], fun r _ => r = .im (.bl true), fun _ _ _ => False, fun _ z => z.elim, fun _ z => z.elim, fun _ z => z.elim, .cons (hS.mo (.less fun _ z => z.elim id id)) .nil, tb, law ns hl, .no fun _ _ _ z => z, fun r t' v H' P' e er => ?_⟩
    subst e
    have q : Rp K H' P' _ (.bl true) v := er.2
    rw [Rp] at q
    exact q
  refine codeAny_mono (F.go callerA [] s H ⟨[.ref a], []⟩ [.ref a] [.ref a] _ _ hr rfl e0 (hbind s (.ref a)) (.cons rfl .nil) sp) ?_
  intro r s' h
  match r, h with
  | .error _, h =>
    obtain ⟨_, _, _, _, _, _, _, _, _, _, _, _, z⟩ := h
    exact z.elim
  | .ok .next, h => exact h.elim
  | .ok .brk, h => exact h.elim
  | .ok .cont, h => exact h.elim
  | .ok (.ret u), ⟨v, H', os, bare, un, hok', rv, ev⟩ =>
    have ev : v = .bl true := ev
    subst ev
    obtain rfl : u = .bool true := rv
    exact ⟨rfl, os, bare, H', un, hok'⟩
/-- from the heap behind the top -/
theorem law_run (KX : K.In s.heap) (hns : s.heap.Ns mainGlobals mg) (hb : s.heap.Ns builtinsNs mb) (hbb : ∀ x : Str, x ≠ "__name__" → mb x = bootBuiltins x) (hlim : s.heap.NoLimit) (hg : s.gens = #[])
    (hbm : ∃ (bm : Addr) (ob : Obj), mg "__builtins__" = some (.ref bm) ∧ bm ≠ builtinsNs ∧ s.heap.get? bm = some ob ∧ ob.cls = .type "module" ∧ ob.dict = some builtinsNs ∧ ob.data = .plain)
    (hT : ∀ x ∈ lamNames, ∀ c P, PySem.W.tabIn K x = some (c, P) → (PySem.W.CodeHd s.heap c P ∧ s.heap.get? P = some { cls := .none, data := .fields #[] }) ∧ K.lookup P = none)
    (ha : s.heap.get? a = some { cls := .type "list", data := .seq vs.toArray }) (hi : IntsAre vs ns) (hl : ns.length ≤ 63) (hr : Room k callerA)
    (F : ∀ base : Heap, K.In base → base.Ns mainGlobals mg → TabsB K mg base → FnG Pr w K mg base (CXE Pr w) k fa fd [x] Fw) (hbind : ∀ (s : Shared) (u : Value), BindsTo s fd ⟨[u], []⟩ [(x, u)]) (law : LawW Fw 63) :
    codeAny (model Pr w) callerA (.call (.ref fa) ⟨[.ref a], []⟩) (Told s) s := by
  have rv : Vals (ns.map V.int) vs := vals_ints hi
  have hz : ns.length ≤ sizeLine := Nat.le_trans hl (by decide)
  let Ps : List Addr := (tabsOf K).map (·.1)
  have pT : ∀ b, b ∈ Ps → s.heap.get? b = some { cls := .none, data := .fields #[] } ∧ K.lookup b = none := fun b hb => by
    obtain ⟨x, hx, c, e⟩ := tab_mem.mp hb
    exact ⟨(hT x hx c b e).1.2, (hT x hx c b e).2⟩
  have aP : a ∉ Ps := fun z => by
    have q := (pT a z).1
    rw [ha] at q
    have q : Data.seq vs.toArray _ = Data.fields #[] := congrArg Obj.data (Option.some.inj q)
    cases q
  /- the script, perhaps, and the tables are tracked -/
  have go : ∀ H : Hp, (∀ b, H b ≠ none → (b = a ∧ K.lookup a = none) ∨ b ∈ Ps) → (∀ b, b ∈ Ps → H b = some (.tbl #[])) → (∀ b, b ∉ Ps → H b = none ∨ ∃ o xs, H b = some (.frz o (.lst xs))) → HOk Pr w H s.heap → Rp K H (fun _ => False) (fun _ => False) (.scr ns) (.ref a) →
      codeAny (model Pr w) callerA (.call (.ref fa) ⟨[.ref a], []⟩) (Told s) s := by
    intro H only tabs hO hok hS
    have free : ∀ {b : Addr} {o : Obj}, s.heap.get? b = some o → (b = a → K.lookup a ≠ none) → o.data ≠ .fields #[] → H b = none := fun {b o} e h1 h2 => Classical.byContradiction fun z => by
      rcases only b z with q | q
      · exact h1 q.1 q.2
      · rw [(pT b q).1] at e
        cases e
        exact h2 rfl
    have keep : ∀ {b : Addr} {o : Obj}, s.heap.get? b = some o → H b = none → (hidT s.heap H).get? b = some o := fun e n => hidT_get e n
    have dicts : ∀ {b : Addr} {o : Obj} {es : Array DictEntry} {ep : Nat}, s.heap.get? b = some o → o.data = .dict es ep → H b = none := fun {b o es ep} e d => by
      refine free e (fun z => ?_) fun z => ?_
      · rw [z, ha] at e
        cases e
        cases (show Data.seq vs.toArray _ = Data.dict es ep from d)
      · rw [d] at z
        cases z
    have ns' : ∀ {b : Addr} {m : Str → Option Value}, s.heap.Ns b m → (hidT s.heap H).Ns b m := fun ⟨o, es, ep, e, d, r⟩ => ⟨o, es, ep, keep e (dicts e d), d, r⟩
    have kb : K.In (hidT s.heap H) := fun b o e => keep (KX b o e) (Classical.byContradiction fun z => by
      rcases only b z with q | q
      · rw [q.1, q.2] at e
        cases e
      · rw [(pT b q).2] at e
        cases e)
    have TB : TabsB K mg (hidT s.heap H) := fun x hx c P e => by
      obtain ⟨⟨C, tP⟩, _⟩ := hT x hx c P e
      refine ⟨?_, ?_, fun z => ?_⟩
      · obtain ⟨o, us, f1, f2, f3, f4, f5, f6, f7, e1, r1, r2, r3, r⟩ := C
        refine ⟨o, us, f1, f2, f3, f4, f5, f6, f7, keep e1 (free e1 (fun z => ?_) fun z => ?_), r1, r2, r3, r⟩
        · rw [z, ha] at e1
          cases e1
          exact absurd (Value.type.inj r1) (by decide)
        · rw [r2] at z
          cases z
          simp at r3
      · obtain ⟨bm, ob, b1, b2, b3, b4, b5, b6⟩ := hbm
        have n1 : bm ≠ mainGlobals := fun q => by
          obtain ⟨o, es, ep, e, hd, _⟩ := hns
          rw [q, e] at b3
          cases b3
          rw [hd] at b6
          cases b6
        have n2 : bm ≠ P := fun q => by
          rw [q, tP] at b3
          cases b3
          cases b6
        refine ⟨bm, ob, b1, b2, n1, n2, keep b3 (free b3 (fun z => ?_) fun z => ?_), b4, b5, b6⟩
        · rw [z, ha] at b3
          cases b3
          cases b6
        · rw [b6] at z
          cases z
      · obtain ⟨o, es, ep, e, hd, _⟩ := hns
        rw [z, tP] at e
        cases e
        cases hd
    have tb : Tb K H := fun p hp => LamX.TabS.nil (tabs p.1 (List.mem_map.mpr ⟨p, hp, rfl⟩))
    obtain ⟨mc, l1, l2⟩ := hlim
    refine codeAny_mono (law_from (F _ kb (ns' hns) TB) hr hbind ⟨kb, ns' hns, ⟨mb, ns' hb, hbb⟩, mc, ns' l1, l2⟩ hok hg hS tb hl law) fun r s' h => ?_
    obtain ⟨rfl, os, bare, H', un, hok'⟩ := h
    have old : ∀ b o, b ∉ Ps → s.heap.get? b = some o → s'.heap.get? b = some o := fun b o nb e => by
      rcases hO b nb with z | ⟨ob, xs, z⟩
      · exact un.keep b o e z (fun y => nomatch y) (fun y => nomatch y)
      · obtain ⟨g1, _⟩ := hok b _ z
        obtain ⟨g2, _⟩ := hok' b _ (un.frzs b ob _ z)
        rw [g1] at e
        cases e
        exact g2
    have new : ∀ b, b ∈ Ps → ∃ more : Array Value, s'.heap.get? b = some { cls := .none, data := .fields more } := fun b hb => by
      obtain ⟨more, z⟩ := un.tbls b #[] (tabs b hb)
      exact ⟨_, hok' b _ z⟩
    refine ⟨rfl, ⟨fun b o e => ?_, fun b o e => ?_⟩, os, bare⟩
    · by_cases hb : b ∈ Ps
      · obtain ⟨more, hm⟩ := new b hb
        obtain ⟨x, hx, c, ec⟩ := tab_mem.mp hb
        obtain ⟨⟨C, tP⟩, _⟩ := hT x hx c b ec
        rw [tP] at e
        cases e
        exact .inr (.inl ⟨(C.tab tP).isCodeTable, rfl, #[], more, rfl, by rw [Array.empty_append]; exact hm⟩)
      · exact .inl (old b o hb e)
    · by_cases hb : b ∈ Ps
      · obtain ⟨more, hm⟩ := new b hb
        exact ⟨_, hm⟩
      · exact ⟨o, old b o hb e⟩
  let o0 : Obj := { cls := .type "list", data := .seq vs.toArray }
  cases hk : K.lookup a with
  | some o =>
    have e := KX a o hk
    rw [ha] at e
    cases e
    refine go (fun b => if b ∈ Ps then some (.tbl #[]) else none) (fun b z => .inr (Classical.byContradiction fun q => z (if_neg q))) (fun b hb => if_pos hb) (fun b hb => .inl (if_neg hb)) (fun b u z => ?_) ?_
    · by_cases hb : b ∈ Ps
      · have z := (if_pos hb).symm.trans z
        cases z
        exact (pT b hb).1
      · have z := (if_neg hb).symm.trans z
        cases z
    · rw [Rp]
      refine ⟨a, rfl, .inr ⟨_, vs.toArray, _, hk, rfl, rfl, rfl, ?_, by simpa using rv⟩⟩
      rw [List.size_toArray, hi.length]
      exact hz
  | none =>
    let H0 : Hp := fun b => if b = a then some (.frz o0 (.lst (ns.map V.int))) else if b ∈ Ps then some (.tbl #[]) else none
    have at0 : H0 a = some (.frz o0 (.lst (ns.map V.int))) := if_pos rfl
    have off : ∀ b, b ≠ a → H0 b = if b ∈ Ps then some (.tbl #[]) else none := fun b hb => if_neg hb
    have atP : ∀ b, b ∈ Ps → H0 b = some (.tbl #[]) := fun b hb => by
      rw [off b fun z => aP (z ▸ hb), if_pos hb]
    refine go H0 (fun b z => ?_) atP (fun b hb => ?_) (fun b u z => ?_) ?_
    · by_cases hb : b = a
      · exact .inl ⟨hb, hk⟩
      · refine .inr (Classical.byContradiction fun q => z ?_)
        rw [off b hb, if_neg q]
    · by_cases hb2 : b = a
      · exact .inr ⟨o0, _, by rw [hb2]; exact at0⟩
      · exact .inl (by rw [off b hb2, if_neg hb])
    · by_cases hb : b = a
      · subst hb
        rw [at0] at z
        cases z
        exact ⟨ha, by rw [List.length_map]; exact hz, vs, _, rv, ha⟩
      · by_cases hb2 : b ∈ Ps
        · rw [atP b hb2] at z
          cases z
          exact (pT b hb2).1
        · rw [off b hb, if_neg hb2] at z
          cases z
    · rw [Rp]
      exact ⟨a, rfl, .inl ⟨o0, at0⟩⟩
end
/-- what the head leaves -/
theorem walk_ofG {l : PySem.W.OpenLaw} {k : Nat} {q : Program} {loose : List Str} {XP : (Str → Option Value) → Heap → Prop} {YP : World → Heap → Prop} {d : DefRec} {K : Params → PySem.W.Frag} {Fw : WF} {x : Str}
    (hn : l.most = some 63) (hdf : d.params.defaults = []) (hr : Room k callerA) (hY : ∀ (w : World) (h : Heap), YP w h → (K w.params).In h)
    (hR : ∀ x ∈ lamNames, ∃ d, (recsOf q).find? (fun e => e.name == x) = some d)
    (F : ∀ (w : World) (mg : Str → Option Value) (fa : Addr) (h : Heap), (K w.params).In h → h.Ns mainGlobals mg → mg d.name = some (.ref fa) →
      (∀ x ∈ lamNames, ∀ c P, PySem.W.tabIn (K w.params) x = some (c, P) → (K w.params).lookup P = none) ∧
      ∃ fd : FuncData, (∀ (s : Shared) (u : Value), BindsTo s fd ⟨[u], []⟩ [(x, u)]) ∧ ∀ base : Heap, (K w.params).In base → base.Ns mainGlobals mg → TabsB (K w.params) mg base → FnG l.prog w (K w.params) mg base (CXE l.prog w) k fa fd [x] Fw)
    (law : LawW Fw 63) : PySem.W.WalkO q loose XP YP l.row.toRowW d [] (fun f vs => PySem.call f vs) := by
  refine Att.attach_call hn hdf fun w s0 s1 mg mb fa o pm cd doc a vs ns G Y ho hd hcd hmg hobj hints hlen hg => ?_
  obtain ⟨nT, fd, hb, hF⟩ := F w mg fa _ (hY w _ Y) G.T.g hmg
  refine law_run (hY w _ Y) G.T.g G.T.b G.T.builtins G.T.nolimit hg G.T.bmain (fun x hx c P e => ?_) hobj hints hlen hr hF hb law
  obtain ⟨d', hd'⟩ := hR x hx
  exact ⟨PySem.W.tab_of G.T (hY w _ Y) hd' e, nT x hx c P e⟩
end NB
set_option Elab.async false
set_option linter.all false
set_option maxRecDepth 100000
set_option maxHeartbeats 4000000
set_option autoImplicit false
/-! Small words for printed walks. -/
namespace NB
open PySem PySem.Spec PyProof.Rows L2

theorem bt_len : bootBuiltins "len" = some (.builtin "len") := by decide +kernel
theorem bt_abs : bootBuiltins "abs" = some (.builtin "abs") := by decide +kernel
theorem bt_int : bootBuiltins "int" = some (.type "int") := by decide +kernel
theorem bt_str : bootBuiltins "str" = some (.type "str") := by decide +kernel
theorem bt_tuple : bootBuiltins "tuple" = some (.type "tuple") := by decide +kernel
theorem bt_list : bootBuiltins "list" = some (.type "list") := by decide +kernel
theorem bt_max : bootBuiltins "max" = some (.builtin "max") := by decide +kernel
theorem bt_min : bootBuiltins "min" = some (.builtin "min") := by decide +kernel
theorem bt_all : bootBuiltins "all" = some (.builtin "all") := by decide +kernel
theorem bt_any : bootBuiltins "any" = some (.builtin "any") := by decide +kernel
theorem bt_sum : bootBuiltins "sum" = some (.builtin "sum") := by decide +kernel
theorem bt_repr : bootBuiltins "repr" = some (.builtin "repr") := by decide +kernel
theorem u65 {k : Nat} {A : Around} (r : Room k A) : A.units + 65 < cLine := by have := r.un; omega
theorem u66 {k : Nat} {A : Around} (r : Room k A) : A.units + 66 < cLine := by have := r.un; omega
section
variable {X : Cx} {EX : XK} {x : Str} {i : Int} {pos : Pos} {j : Nat}
theorem de_gint (hg : Gl X x) (h : ∃ t, X.mg x = some (.int i t)) (hd : (x == ("__debug__" : Str)) = false := by decide) : DE X EX (.Name x pos) (pureW (.im (.int i))) := by
  obtain ⟨t, h⟩ := h
  exact de_const (pe_glob (v := .int i) hg h ⟨t, rfl⟩ hd) fun _ _ _ => rp_int
theorem de_i : DE X EX (.Constant (.int i) j pos) (pureW (.im (.int i))) := de_const pe_int fun _ _ _ => rp_int
theorem de_s {z : Str} : DE X EX (.Constant (.str z) j pos) (pureW (.im (.str z))) := de_const pe_str fun _ _ _ => rp_str
theorem de_b {b : Bool} : DE X EX (.Constant (.bool b) j pos) (pureW (.im (.bl b))) := de_const pe_bl fun _ _ _ => rp_bl'
theorem de_n : DE X EX (.Constant .none j pos) (pureW (.im .non)) := de_const pe_non fun _ _ _ => rp_non
/-- a def without a promise -/
theorem cl_none {Pr : Program} {w : World} {K : PySem.W.Frag} {mg : Str → Option Value} {base : Heap} {k : Nat} {st : Stmt} {ps : List Str} (D : Df K mg x st ps) : Cl Pr w K mg base k x ps.length (fun _ _ _ _ => False) := by
  obtain ⟨f, fd, F, hm, hb⟩ := D.ex
  refine ⟨f, fd, ps, rfl, ⟨fun A outer s H args us vs Q E hr _ e0 hb r h => ?_⟩, hm, F.kp, hb⟩
  obtain ⟨_, _, _, _, _, _, _, _, _, _, _, _, z, _⟩ := h
  exact z.elim
theorem dt_v {e : Expr} {w : W} (h : DE X EX e w) (he : ∀ whole, isTrue e X.env whole = (do let v ← whole; standAt e.pos; holding [v] (truthy v)) := by intro _; rfl) : DT X EX e (testW w) := dt_val h he
end
end NB
set_option Elab.async false
set_option linter.all false
set_option maxRecDepth 100000
set_option maxHeartbeats 4000000
set_option autoImplicit false
/-! Plain laws about what is printed: loops, comprehensions. -/
namespace NB
open PySem PySem.Spec PyProof.Rows L2

@[simp] theorem R_im (d : D) : (R.im d).d = d := rfl
@[simp] theorem R_nw (ds : List D) : (R.nw ds).d = .lst ds := rfl
/-- a def gives r -/
def Gives (F : WF) (ds : List D) (r : R) : Prop := ∀ t Q E, Q r t → F ds t Q E
/-- a def gives, behind at most n draws, what post says -/
def GivesT (F : WF) (ds : List D) (n : Nat) (post : R → Prop) : Prop := ∀ t Q E, t + n ≤ 2000000 → (∀ r t', t' ≤ t + n → post r → Q r t') → F ds t Q E
theorem compL_iff {p : Pt} {c : Wg Bool} {e : W} {ρw : List Sl} {cf : D → Bool} {f : D → D} {t : Nat} {Q : List D → Nat → Prop} : ∀ {ds acc : List D},
    (∀ d ∈ ds, ∃ ρ', bindP p d ρw = some ρ' ∧ (∀ Q' E, c ρ' t Q' E ↔ Q' (cf d) ρ' t) ∧ (cf d = true → ∃ r : R, r.d = f d ∧ ∀ Q' E, e ρ' t Q' E ↔ Q' r ρ' t)) → acc.length + ds.length ≤ sizeLine →
    (compL p c e ρw ds acc t Q ↔ Q (acc ++ (ds.filter cf).map f) t)
  | [], acc, _, _ => by simp [compL]
  | d :: ds, acc, h, hl => by
    obtain ⟨ρ', h1, h2, h3⟩ := h d List.mem_cons_self
    rw [compL]
    simp only [h1, Option.some.injEq, exists_eq_left', h2, true_and]
    rw [List.length_cons] at hl
    cases hc : cf d with
    | false =>
      rw [if_neg Bool.false_ne_true, compL_iff (fun d hd => h d (List.mem_cons_of_mem _ hd)) (by omega), List.filter_cons_of_neg (by rw [hc]; exact Bool.false_ne_true)]
    | true =>
      obtain ⟨r, e1, e2⟩ := h3 hc
      rw [if_pos rfl, e2, compL_iff (fun d hd => h d (List.mem_cons_of_mem _ hd)) (by rw [List.length_append, List.length_singleton]; omega), List.filter_cons_of_pos hc, e1, List.map_cons, List.append_assoc]
      simp only [true_and, List.singleton_append, and_iff_right_iff_imp]
      intro _
      omega
/-- elements that are drawn -/
theorem compL_draw {p : Pt} {e : W} {ρw : List Sl} {post : D → Prop} {n : Nat} {Q : List D → Nat → Prop} : ∀ {ds acc : List D} {t : Nat},
    (∀ d ∈ ds, ∃ ρ', bindP p d ρw = some ρ' ∧ ∀ t Q' E, t + n ≤ 2000000 → (∀ r t', t' ≤ t + n → post r.d → Q' r ρ' t') → e ρ' t Q' E) → acc.length + ds.length ≤ sizeLine → t + n * ds.length ≤ 2000000 →
    (∀ xs t', t' ≤ t + n * ds.length → (∀ x ∈ xs, post x) → xs.length = ds.length → Q (acc ++ xs) t') → compL p yesT e ρw ds acc t Q
  | [], acc, t, _, _, _, q => by
    rw [compL]
    have := q [] t (by simp) (fun _ h => nomatch h) rfl
    simpa using this
  | d :: ds, acc, t, h, hl, ht, q => by
    obtain ⟨ρ', h1, h2⟩ := h d List.mem_cons_self
    rw [compL]
    refine ⟨ρ', h1, rfl, ?_⟩
    rw [if_pos rfl]
    rw [List.length_cons, Nat.mul_succ] at ht
    rw [List.length_cons] at hl
    refine h2 t _ _ (by omega) fun r t1 l1 pr => ⟨rfl, by omega, ?_⟩
    refine compL_draw (fun d hd => h d (List.mem_cons_of_mem _ hd)) (by rw [List.length_append, List.length_singleton]; omega) (by omega) fun xs t' l2 px le => ?_
    rw [List.append_assoc]
    refine q (r.d :: xs) t' ?_ (fun x hx => ?_) (by rw [List.length_cons, List.length_cons, le])
    · rw [List.length_cons, Nat.mul_succ]; omega
    · rcases List.mem_cons.mp hx with e | e
      · rw [e]; exact pr
      · exact px x e
theorem forL_inv {b : D → WS} {k : KS} (I : Nat → List Sl → Nat → Prop) : ∀ {ds : List D} {j : Nat} {ρ : List Sl} {t : Nat}, I j ρ t →
    (∀ i d ρ t nx, ds[i]? = some d → I (j + i) ρ t → (∀ ρ' t', I (j + i + 1) ρ' t' → nx ρ' t') → b d ρ t { k with nx := nx, ct := nx, bk := k.nx }) → (∀ ρ t, I (j + ds.length) ρ t → k.nx ρ t) → forL b ds ρ t k
  | [], j, ρ, t, h0, _, hend => hend ρ t h0
  | d :: ds, j, ρ, t, h0, step, hend => by
    rw [forL]
    refine step 0 d ρ t _ rfl h0 fun ρ' t' h1 => ?_
    refine forL_inv I (j := j + 1) h1 (fun i d ρ t nx hd hi hn => ?_) fun ρ t h => hend ρ t ?_
    · refine step (i + 1) d ρ t nx hd ?_ ?_
      · rw [show j + (i + 1) = j + 1 + i by omega]; exact hi
      · rw [show j + (i + 1) + 1 = j + 1 + i + 1 by omega]; exact hn
    · rw [List.length_cons, show j + (ds.length + 1) = j + 1 + ds.length by omega] at *
      exact h
theorem rangeD_mem {n : Nat} {d : D} (h : d ∈ rangeD 0 n) : ∃ i : Nat, i < n ∧ d = .int (i : Nat) := by
  unfold rangeD at h
  obtain ⟨i, hi, rfl⟩ := List.mem_map.mp h
  exact ⟨i, List.mem_range.mp hi, by rw [Int.zero_add]⟩
theorem rangeD_len (lo : Int) (n : Nat) : (rangeD lo n).length = n := by unfold rangeD; rw [List.length_map, List.length_range]
theorem rangeD_get {n i : Nat} {d : D} (h : (rangeD 0 n)[i]? = some d) : i < n ∧ d = .int (i : Nat) := by
  have hi : i < n := by
    have := (List.getElem?_eq_some_iff.mp h).1
    rwa [rangeD_len] at this
  refine ⟨hi, ?_⟩
  unfold rangeD at h
  rw [List.getElem?_map, List.getElem?_range hi] at h
  have h : D.int (0 + (i : Nat)) = d := Option.some.inj h
  rw [← h, Int.zero_add]
theorem ok_pot {d : D} (h : okD d = true) : d ≠ .pot := fun e => by rw [e] at h; simp [okD] at h
end NB
namespace NB
open PySem PySem.Spec PyProof.Rows L2
@[simp] theorem bindP_nm {i : Nat} {d : D} {ρ : List Sl} : bindP (.nm i) d ρ = some (ρ.set i (.im d)) := by rw [bindP]
@[simp] theorem bindP_tp {ps : List Pt} {ds : List D} {ρ : List Sl} : bindP (.tp ps) (.tup ds) ρ = bindPs ps ds ρ := by rw [bindP]
@[simp] theorem bindPs_nil {ρ : List Sl} : bindPs [] [] ρ = some ρ := by rw [bindPs]
@[simp] theorem bindPs_cons {p : Pt} {ps : List Pt} {d : D} {ds : List D} {ρ ρ' : List Sl} (h : bindP p d ρ = some ρ') : bindPs (p :: ps) (d :: ds) ρ = bindPs ps ds ρ' := by rw [bindPs, h]
@[simp] theorem bindPs_nm {i : Nat} {ps : List Pt} {d : D} {ds : List D} {ρ : List Sl} : bindPs (.nm i :: ps) (d :: ds) ρ = bindPs ps ds (ρ.set i (.im d)) := bindPs_cons bindP_nm
section
variable {α : Type} {a b c d : α} {l : List α}
@[simp] theorem atI_c0 : atI (a :: l) 0 = some a := atI_nat (j := 0) rfl
@[simp] theorem atI_c1 : atI (a :: b :: l) 1 = some b := atI_nat (j := 1) rfl
@[simp] theorem atI_c2 : atI (a :: b :: c :: l) 2 = some c := atI_nat (j := 2) rfl
@[simp] theorem atI_c3 : atI (a :: b :: c :: d :: l) 3 = some d := atI_nat (j := 3) rfl
end
end NB
set_option Elab.async false
set_option linter.all false
set_option maxRecDepth 100000
set_option maxHeartbeats 4000000
set_option autoImplicit false
/-! Methods with one argument (split, count), tuples of the module, tuple * int. -/
namespace NB
open PySem PySem.Spec PyProof.Rows L2

/-! ### tuples that stand in the written part -/
/-- texts -/
theorem ra_strs {K : PySem.W.Frag} {H : Hp} {P M : PA1} : ∀ zs : List Str, RpA K H P M (zs.map .str) (zs.map V.str)
  | [] => .nil
  | z :: zs => .cons rp_str (ra_strs zs)
def TupK (K : PySem.W.Frag) (u : Value) (xs : List V) : Prop := ∃ (a : Addr) (o : Obj) (its : Array Value) (n : Nat), u = .ref a ∧ K.lookup a = some o ∧ o.cls = .type "tuple" ∧ o.data = .seq its n ∧ its.size ≤ sizeLine ∧ Vals xs its.toList
section
variable {X : Cx} {EX : XK} {x : Str} {pos : Pos}
theorem de_gtup {zs : List Str} (hg : Gl X x) (h : ∃ u, X.mg x = some u ∧ TupK X.K u (zs.map V.str)) (hd : (x == ("__debug__" : Str)) = false := by decide) : DE X EX (.Name x pos) (pureW (.im (.tup (zs.map .str)))) := by
  obtain ⟨u, h, a, o, its, n, rfl, l, c, d, z, v⟩ := h
  refine de_const (pe_glob (v := .ref a) hg h rfl hd) fun H P M => ?_
  rw [Rp]
  exact ⟨a, _, rfl, .inr ⟨o, its, n, l, c, d, z, v⟩, ra_strs zs⟩
end

/-! ### products: of numbers, of a tuple and a number -/
@[simp] def mulAD : D → D → Option R
  | .tup xs, .int k => if (xs ≠ [] ∧ xs.length ≤ 1000) ∧ 2 ≤ k ∧ k ≤ 1000 then some (.im (.tup (List.replicate k.toNat xs).flatten)) else none
  | d, e => mulD d e
theorem ra_rep {K : PySem.W.Frag} {H : Hp} {P M : PA1} {ds : List D} {xs : List V} (h : RpA K H P M ds xs) : ∀ n : Nat, RpA K H P M (List.replicate n ds).flatten (List.replicate n xs).flatten
  | 0 => .nil
  | n + 1 => by
    rw [List.replicate_succ, List.replicate_succ, List.flatten_cons, List.flatten_cons]
    exact h.append (ra_rep h n)
theorem op_mulAD {X : Cx} : Op2 X (binaryOp .Mult) mulAD := by
  intro pins s σ H x y v u Q I rx ry ⟨P, M, d, e, h1, h2, m, f⟩
  unfold mulAD at f
  split at f
  · split at f
    · rename_i xs k hk
      obtain ⟨a, ys, rfl, ta, ra⟩ := h1.tp
      refine op_repT pins s σ H _ _ v u Q I rx ry ⟨a, k, ys, rfl, h2.int, ta, fun z => hk.1.1 ?_, hk.2.1, hk.2.2, by rw [← ra.length]; exact hk.1.2, f.tup (ra_rep ra _)⟩
      subst z
      exact List.eq_nil_of_length_eq_zero ra.length
    · exact f.no.elim
  · exact op_mulD pins s σ H x y v u Q I rx ry ⟨P, M, d, e, h1, h2, m, f⟩

/-! ### methods with one argument -/
def kindV : String → D → Prop
  | "str", .str _ => True
  | "list", .lst _ => True
  | _, _ => False
/-- a.m(b) -/
def m1W (T : String) (g : R2D) (a b : WO) : W := fun ρ t Q E => a ρ t (fun x ρ1 t1 => (∃ d, rsv ρ1 x = some d ∧ kindV T d) ∧ b ρ1 t1 (fun y ρ2 t2 => ∃ d e r, rsv ρ2 x = some d ∧ rsv ρ2 y = some e ∧ g d e = some r ∧ Q r ρ2 t2) E) E
def Mt1 (X : Cx) (id : String) (g : R2D) : Prop := MtR X id fun x xs H Q => ∃ (P M : PA1) (d e : D) (y : V), xs = [y] ∧ Rs X.K H P M d x ∧ Rs X.K H P M e y ∧ Ml H M ∧ Fit X.K H P M (g d e) Q
theorem tyV_kind {K : PySem.W.Frag} {H : Hp} {P M : PA1} {T : String} {d : D} {x : V} (h : Rs K H P M d x) (k : kindV T d) : tyV K T x H := by
  unfold kindV at k
  split at k
  · rw [h.str]; rfl
  · obtain ⟨a, xs, rfl, ta, _⟩ := h.ls rfl
    exact .inl ⟨rfl, xs, ta⟩
  · exact k.elim
section
variable {X : Cx} {EX : XK} {o e : Expr} {wa wb : WO} {name : Str} {apos cpos : Pos} {T id : String} {g : R2D}
theorem de_m1 (pa : PlainAttrs T) (slot : Slot T name id) (hty : typeOf (.builtin id) = pure (.type "method_descriptor")) (hm : Mt1 X id g) (ho : DO X EX o wa) (he : DO X EX e wb)
    (hbase : attributeBase o name X.env (eval o X.env) = eval o X.env := by rfl)
    (hfew : ((backTo cpos (starEach [e] X.env)).all (fun x => !x.1) && (backToKw cpos (keywordEach [] X.env)).all (fun x => x.1.isSome) && decide ([e].length + ([] : List Keyword).length + (if ([] : List Keyword).isEmpty then 0 else 1) < 30)) = true := by rfl)
    (hline : (apos.endLine == cpos.line) = true := by rfl) (hs : starEach [e] X.env = (false, eval e X.env) :: starEach [] X.env := by rfl) (hplain : (backTo cpos (starEach [] X.env)).any (·.1) = false := by rfl) :
    DE X EX (.Call (.Attribute o name apos) [e] [] cpos) (m1W T g wa wb) := PE.imp (pe_bm pa slot hty hm ho (pa_cons he pa_nil hs) hbase hfew hline hs hplain) fun σ H Q h => by
  obtain ⟨G, P, ρ, t, Q', E, S, hw, lk, hq⟩ := h
  refine ⟨G, P, ρ, t, _, E, S, hw, lk, fun o ρ1 t1 x H1 P1 h1 r1 => ?_⟩
  obtain ⟨⟨d0, e0, k0⟩, h1⟩ := h1
  refine ⟨tyV_kind (rsv_ok r1.sat r1 e0) k0, holdO G o x, P1, ρ1, t1, _, E, r1.hold, h1, lk.holdO, fun o2 ρ2 t2 y H2 P2 h2 r2 => ?_⟩
  obtain ⟨d, e, r, e1, e2, e3, q⟩ := h2
  obtain ⟨S2, q1, q2⟩ := r1.back2 r2
  exact ⟨P2, Mx G.F P2 ρ2 σ, d, e, y, rfl, rsv_ok S2 q1 e1, rsv_ok S2 q2 e2, S2.mlist, r, e3, fun z H' k rz => hq r ρ2 t2 z H' P2 q (rz_rs S2 k rz)⟩
@[simp] def splitD : D → D → Option R
  | .str a, .str b => if ((b.length == 0) = false) ∧ a.length + 2 ≤ sizeLine then some (.nw ((Txt.split a b).map .str)) else none
  | _, _ => none
theorem mt_splitD : Mt1 X "str.split" splitD := by
  intro pins s σ H x xs v us Q I rx rxs ⟨P, M, d, e, y, exs, h1, h2, _, f⟩
  unfold splitD at f
  split at f
  · split at f
    · rename_i hk
      rw [h2.str] at exs
      exact mt_split pins s σ H x xs v us Q I rx rxs ⟨_, _, h1.str, exs, hk.1, hk.2, f.lst (ra_strs _)⟩
    · exact f.no.elim
  · exact f.no.elim
@[simp] def countD : D → D → Option R
  | .lst ys, e => if eqOk e (.lst ys) = true then some (.im (.int ((ys.countP fun y => D.eqv y e : Nat) : Int))) else none
  | _, _ => none
theorem count_py (e : D) : ∀ ys : List D, (pyL ys).countP (fun y => PyData.eqv y e.py) = ys.countP fun y => D.eqv y e
  | [] => rfl
  | y :: ys => by
    rw [pyL, List.countP_cons, List.countP_cons, count_py e ys]
    rfl
theorem mt_countD (hu : X.A.units + 65 < cLine) : Mt1 X "list.count" countD := by
  intro pins s σ H x xs v us Q I rx rxs ⟨P, M, d, e, y, exs, h1, h2, _, f⟩
  unfold countD at f
  split at f
  · rename_i ys
    split at f
    · rename_i hk
      subst exs
      obtain ⟨o1, o2, o3, o4⟩ := eqOk_iff hk
      obtain ⟨u, rfl, ru⟩ := rxs.one
      obtain ⟨as, r1⟩ := Dp.reads I _ x v (h1.dp o2) rx
      obtain ⟨bs, r2⟩ := Dp.reads I _ y u (h2.dp o1) ru
      rw [D.py] at r1
      rw [okD] at o2
      rw [dpD] at o4
      cases r1 with
      | @list a o vs n _ _ g1 g2 g3 g4 =>
        obtain ⟨cls, dd, data, sl⟩ := o
        simp only at g2 g3
        subst g2 g3
        have hd : X.A.units + 1 + min (PyData.depthAll (pyL ys)) e.py.depth < cLine := by
          rw [depth_py]
          omega
        refine call_meets PySem.F.slot_list_count ⟨_, g1, rfl⟩ PySem.F.entry_list_count (PySem.F.args_list_count_2 _ _)
          (SeqAt.list_countAt a vs n dd sl u _) ⟨g1, SeqAt.items_eqAt g4 r2 (canLay_pyL o2) (canLay_py o1) hd, ?_⟩
        have ec : vs.toList.countP (fun z => PyData.eqv (SeqAt.readOf s.heap z) e.py) = ys.countP fun z => D.eqv z e := by
          rw [← count_py, ← SeqAt.readsAll_map _ _ _ (canLay_pyL o2) g4, List.countP_map]
          rfl
        refine ⟨.int ((ys.countP fun z => D.eqv z e : Nat) : Int), H, I.tok _, ⟨s.toks, ?_⟩, f.im rp_int⟩
        rw [ec]
    · exact f.no.elim
  · exact f.no.elim
end
end NB
set_option Elab.async false
set_option linter.all false
set_option maxRecDepth 100000
set_option maxHeartbeats 4000000
set_option autoImplicit false
/-! Two items of an own list exchanged. -/
namespace NB
open PySem PySem.Spec PyProof.Rows L2

/-- xs[a], xs[b] = (xs[b], xs[a]), slots -/
def swapS (i a b : Nat) : WS := fun ρ t k => ∃ (ds : List D) (x y : Int) (j l : Nat) (u v : D), ρ[i]? = some (.ow ds) ∧ ρ[a]? = some (.im (.int x)) ∧ ρ[b]? = some (.im (.int y)) ∧ ixN ds.length x = some j ∧ ixN ds.length y = some l ∧ ds[j]? = some u ∧ ds[l]? = some v ∧ k.nx (ρ.set i (.ow ((ds.set j v).set l u))) t
theorem set_len {α : Type} (xs : List α) (j : Nat) (v : α) : (xs.set j v).length = xs.length := List.length_set
section
variable {X : Cx} {EX : XK} {i a b : Nat} {stm : Stmt}
theorem ds_swap (hia : i ≠ a) (hib : i ≠ b) (core : PS X stm (tAsg (tTup (tCons (tOp (rIxL X.K) (tVar i) (tVar b)) (tCons (tOp (rIxL X.K) (tVar i) (tVar a)) tNil))) (gTup X.K 2 (gCons (gSub (tVar i) (tVar a) rSetL) (gCons (gSub (tVar i) (tVar b) rSetL) gNil))))) :
    DS X EX stm (swapS i a b) := PS.imp core fun D σ H h => by
  obtain ⟨G, P, ρ, t, k, S, hw, lk, hn, _⟩ := h
  obtain ⟨ds, x, y, j, l, u, v, e1, e2, e3, e4, e5, e6, e7, q⟩ := hw
  obtain ⟨p, xs, f1, f2, ra, _⟩ := S.ow i ds e1
  obtain ⟨vx, g1, g2⟩ := S.im a _ e2
  obtain ⟨vy, g3, g4⟩ := S.im b _ e3
  rw [Rp] at g2 g4
  subst g2 g4
  rw [ra.length] at e4 e5
  obtain ⟨u', r1, r2⟩ := ra.get e6
  obtain ⟨v', r3, r4⟩ := ra.get e7
  have a1 : atI xs x = some u' := by unfold atI; rw [e4]; exact r1
  have a2 : atI xs y = some v' := by unfold atI; rw [e5]; exact r3
  refine ⟨_, f1, _, g3, p, xs, y, v', rfl, rfl, .of f2, a2, _, f1, _, g1, p, xs, x, u', rfl, rfl, .of f2, a1, (by show 2 ≤ sizeLine; decide), fun T nT => ?_⟩
  have S1 := S.grow (kp_upd (o := .tup [v', u']) nT)
  have pT : p ≠ T := ne_of_none f2 nT
  have f3 : (upd H T (.tup [v', u'])) p = some (.lst xs) := by rw [upd_ne pT]; exact f2
  have ra1 : RpA X.K (upd H T (.tup [v', u'])) P (Mx G.F P ρ σ) ds xs := ra.mo (.grow (kp_upd nT))
  have w1 := r2.mo (.grow (kp_upd (o := .tup [v', u']) nT))
  have w2 := r4.mo (.grow (kp_upd (o := .tup [v', u']) nT))
  obtain ⟨S2, m2⟩ := S1.own (ds' := ds.set j v) e1 f1 (ra1.set j w2)
  have hi : i < ρ.length := (List.getElem?_eq_some_iff.mp e1).1
  have s2 : (ρ.set i (.ow (ds.set j v)))[i]? = some (.ow (ds.set j v)) := List.getElem?_set_self hi
  have ra2 : RpA X.K _ P (Mx G.F P (ρ.set i (.ow (ds.set j v))) σ) (ds.set j v) (xs.set j v') := (ra1.set j w2).mo m2
  obtain ⟨S3, _⟩ := S2.own (ds' := (ds.set j v).set l u) s2 f1 (ra2.set l (w1.mo m2))
  rw [List.set_set] at S3
  have ub : upd (upd (upd H T (.tup [v', u'])) p (.lst (xs.set j v'))) p (.lst ((xs.set j v').set l u')) = upd (upd (upd H T (.tup [v', u'])) p (.lst (xs.set j v'))) p (.lst ((xs.set j v').set l u')) := rfl
  exact ⟨T, [v', u'], rfl, .of upd_same, rfl, v', [u'], rfl, _, f1, _, g1, p, xs, x, j, rfl, rfl, f3, e4, u', [], rfl, _, f1, _, g3, p, xs.set j v', y, l, rfl, rfl, upd_same, by rw [set_len]; exact e5, rfl, hn _ _ _ _ P q S3⟩
end
end NB
set_option Elab.async false
set_option linter.all false
set_option maxRecDepth 100000
set_option maxHeartbeats 4000000
set_option autoImplicit false
/-! len(set(xs)) of texts. -/
namespace NB
open PySem PySem.Spec PyProof.Rows L2

/-- how many different ones among the first -/
def dn (zs : List Str) : Nat → Nat
  | 0 => 0
  | i + 1 => if (zs.getD i Str.empty) ∈ zs.take i then dn zs i else dn zs i + 1
theorem dn_le (zs : List Str) : ∀ i, dn zs i ≤ i
  | 0 => Nat.le_refl _
  | i + 1 => by
    have := dn_le zs i
    rw [dn]
    split <;> omega
section
variable {P : Program} {w : World} {A : Around} {E : Value → Shared → Prop} {s : Shared}
theorem strs_loop {I : Addr} {fp wr : List Addr} {G : Array GenState → Array GenState → Prop} {n : Nat} {Pv : Nat → Value → Prop} {St : Nat → Shared → Prop} {R : Result → Shared → Prop}
    (W : WalksS P w A.in1 I fp wr G n Pv St) (T : Addr) (hT : T ∉ fp) (zs : List Str) (hn : n = zs.length) (few : n + 1 < scanBound) (hval : ∀ i v, Pv i v → ∃ t, v = .str (zs.getD i Str.empty) t) :
    ∀ (k i : Nat) (s : Shared), n - i = k → i ≤ n → St i s → s.heap.SetOf (PySem.strKind P w) T (fun z => decide (z ∈ zs.take i)) (dn zs i) →
      (∀ s', Moved (T :: wr) G s s' → s'.heap.SetOf (PySem.strKind P w) T (fun z => decide (z ∈ zs.take n)) (dn zs n) → R (.ok (.ret .none)) s') →
      codeAny (model P w) A (.builtin "set.update.loop" ⟨[.ref T, .ref I], []⟩) R s := by
  have tw : T ∉ wr := fun h => hT (W.sub _ h)
  have more : ∀ b ∈ wr, b ∈ T :: wr := fun b hb => List.mem_cons_of_mem _ hb
  intro k
  induction k with
  | zero =>
    intro i s e1 e2 st hS hR
    obtain rfl : i = n := by omega
    refine codeAny_builtin PyProof.Rows.F.entry_set_update_loop ?_
    rw [Around.under_plainId PyProof.Rows.F.plain_set_update_loop _]
    show wpAny _ A.in1 (pyNext (.ref I) >>= _) _ _ s
    refine wpAny_bind (W.done s _ _ st fun s' hm => ?_)
    show wpAny _ A.in1 (ret Value.none) _ _ s'
    obtain ⟨o, es, ep, t, ho, rest⟩ := hS
    exact wpAny_pure (hR s' (hm.mono more) ⟨o, es, ep, t, hm.heap T _ tw ho, rest⟩)
  | succ k ih =>
    intro i s e1 e2 st hS hR
    have lt : i < n := by omega
    refine codeAny_builtin PyProof.Rows.F.entry_set_update_loop ?_
    rw [Around.under_plainId PyProof.Rows.F.plain_set_update_loop _]
    show wpAny _ A.in1 (pyNext (.ref I) >>= _) _ _ s
    refine wpAny_bind (W.item i s _ _ lt st fun v s' hP st' hm => ?_)
    obtain ⟨t, rfl⟩ := hval i v hP
    obtain ⟨o, es, ep, tb, ho, rest⟩ := hS
    have hS' : s'.heap.SetOf (PySem.strKind P w) T (fun z => decide (z ∈ zs.take i)) (dn zs i) := ⟨o, es, ep, tb, hm.heap T _ tw ho, rest⟩
    show wpAny _ A.in1 (holding [Value.str (zs.getD i Str.empty) t] (setAdd T (.str (zs.getD i Str.empty) t)) >>= _) _ _ s'
    refine wpAny_bind (wpAny_holding ?_)
    unfold setAdd
    refine wpAny_holding ?_
    refine wpAny_bind ((PySem.strKind P w).pyHash (k := zs.getD i Str.empty) (strKind_is _ _ _ _) ?_)
    have room : dn zs i + 1 < scanBound := by have := dn_le zs i; omega
    refine wpAny_setAddHashed_of (knd := PySem.strKind P w) (s := { s' with toks := s'.toks + 1 }) (strKind_is _ _ _ _) rfl hS' room fun h' sb hS2 => ?_
    have iz : i < zs.length := by omega
    have tk : zs.take (i + 1) = zs.take i ++ [zs.getD i Str.empty] := by
      rw [List.take_add_one, List.getD_eq_getElem?_getD, List.getElem?_eq_getElem iz]
      rfl
    have hS3 : h'.SetOf (PySem.strKind P w) T (fun z => decide (z ∈ zs.take (i + 1))) (dn zs (i + 1)) := by
      refine PyProof.Rows.SetOf_congr hS2 (fun z => ?_) ?_
      · rw [tk]
        by_cases h1 : z ∈ zs.take i <;> by_cases h2 : z = zs.getD i Str.empty <;> simp [h1, h2]
      · rw [dn]
        by_cases h1 : zs.getD i Str.empty ∈ zs.take i <;> simp [h1]
    refine wpAny_pure ⟨plainId_quiet PyProof.Rows.F.plain_set_update_loop _, ih (i + 1) _ (by omega) lt (W.frame _ s' _ _ st' (Nat.le_add_right _ _) fun b hb o e => ?_) hS3 fun s'' hm2 hS4 => hR s'' (Moved.trans W.gtrans ((hm.mono more).then_heap (Nat.le_add_right _ _) fun b o hb e => ?_) hm2) hS4⟩
    · rw [sb.2 b (fun h : b = T => hT (h ▸ hb))]; exact e
    · rw [sb.2 b (fun h : b = T => hb (h ▸ List.mem_cons_self))]; exact e
end
end NB
set_option Elab.async false
set_option linter.all false
set_option maxRecDepth 100000
set_option maxHeartbeats 4000000
set_option autoImplicit false
/-! len(set(xs)) of a list of texts. -/
namespace NB
open PySem PySem.Spec PyProof.Rows L2

section
variable {P : Program} {w : World} {A : Around} {E : Value → Shared → Prop} {s : Shared}
/-- a set of the texts of a list -/
theorem setOf_texts {l : Addr} {its : Array Value} (zs : List Str) {Q : Value → Shared → Prop} (hh : A.handled = none) (hl : s.heap.IsList l its) (hit : StrsAre its.toList zs) (few : zs.length ≤ 1000)
    (h : ∀ (h' : Heap) (tk : Nat), h'.SetOf (PySem.strKind P w) s.heap.objs.size (fun z => decide (z ∈ zs.take zs.length)) (dn zs zs.length) → (∀ b o, s.heap.get? b = some o → h'.get? b = some o) → Q (.ref s.heap.objs.size) { s with heap := h', toks := tk }) :
    wpAny (model P w) A (call (.type "set") [.ref l]) Q E s := by
  have len : its.size = zs.length := by
    rw [← PyProof.Rows.strs_len_eq hit, Array.length_toList]
  obtain ⟨c, tl, mro⟩ := F.called_set.mro
  have made := F.called_set.made
  have sub := F.called_set.sub
  have f1 := F.called_set.notType
  have f2 := F.called_set.canCreate
  have f3 := F.typeCall_set_1 (.ref l)
  refine wpAny_call (codeAny_of_tree ?_)
  show wpAny _ _ (callAny (.type "set") _) _ _ _
  refine wpAny_pure ⟨Code.quiet_builtin _ (by decide +kernel), codeAny_builtin F.entry_type_call ?_⟩
  rw [Around.under_plain (weight_type_call_type "set" [.ref l] []) rfl]
  repeat (any_goals (first | assumption | wp_step))
  refine codeAny_mono (code_set_led1 (.ref l) (E := E) (Q₁ := fun z s1 => z = .ref s.heap.objs.size ∧ s1 = { s with heap := s.heap.push (set0 w) }) ⟨rfl, rfl⟩) ?_
  intro r s1 hr
  match r, hr with
  | .error _, hr => exact hr
  | .ok .next, hr => exact hr.elim
  | .ok .brk, hr => exact hr.elim
  | .ok .cont, hr => exact hr.elim
  | .ok (.ret z), hr =>
    obtain ⟨rfl, rfl⟩ := hr
    have gS : (s.heap.push (set0 w)).get? s.heap.objs.size = some (set0 w) := Heap.get?_push_size _ rfl
    have tS : Shared.TypeIs { s with heap := s.heap.push (set0 w) } (.ref s.heap.objs.size) "set" := ⟨_, gS, rfl⟩
    have i1 := F.called_set.init.lookup
    have i2 := F.called_set.init.bind (.ref s.heap.objs.size)
    repeat (any_goals (first | assumption | wp_step))
    refine codeAny_mono (codeAny_call_builtin (R := wants (fun z s2 => z = .none ∧ ∃ h' tk, s2 = { s with heap := h', toks := tk } ∧ h'.SetOf (PySem.strKind P w) s.heap.objs.size (fun z => decide (z ∈ zs.take zs.length)) (dn zs zs.length) ∧ (∀ b o, s.heap.get? b = some o → h'.get? b = some o)) E)
      F.called_set.init.plain F.entry_set_init (check_set_init_1 tS ?_)) ?_
    · obtain ⟨⟨oc, od, odt, os⟩, gl, hc, n, hd⟩ := hl
      simp only at hc hd
      subst hc
      subst hd
      have gl' : (s.heap.push (set0 w)).get? l = some { cls := .type "list", dict := od, data := .seq its n, slots := os } := Heap.get?_push_of_some _ gl
      have n1 := F.sub_list_set
      have n2 := F.sub_list_frozenset
      have n3 : (Value.type "list" == Value.type "dict") = false := by decide
      have tl1 : (s.heap.push (set0 w)).IsList l its := ⟨_, gl', rfl, n, rfl⟩
      unfold Builtin.«set.__init__» noKeywords Builtin.Frozenset.updateFrom
      generalize hPI : pyIter = PI
      wp_walk
      subst hPI
      refine wpAny_pyIter_list tl1 (wpAny_bind (wpAny_runValue ?_))
      have lt : l < s.heap.objs.size := Heap.lt_size gl
      have h3 : A.in1.in1.in1.handled = none := by simp [hh]
      have ne1 : l ≠ (s.heap.push (set0 w)).objs.size := by
        rw [Heap.size_push]
        exact Nat.ne_of_lt (Nat.lt_succ_of_lt lt)
      have ne2 : s.heap.objs.size ∉ [(s.heap.push (set0 w)).objs.size, l] := by
        rw [Heap.size_push]
        intro q
        rcases List.mem_cons.mp q with q | q
        · exact absurd q (Nat.ne_of_lt (Nat.lt_succ_self _))
        · exact absurd (List.mem_singleton.mp q) (Nat.ne_of_gt lt)
      have at_ : ∀ (i : Nat) (v : Value), its[i]? = some v → ∃ t, v = .str (zs.getD i Str.empty) t := fun i v hv => SS.strs_at hit i v (by rw [Array.getElem?_toList]; exact hv)
      have lim : its.size + 1 < scanBound := by
        rw [len]
        unfold scanBound
        omega
      refine strs_loop ((Walks.list h3 _ l ne1 its).toS) s.heap.objs.size ne2 zs len lim at_ (its.size - 0) 0 _ (by omega) (Nat.zero_le _) ⟨⟨_, Heap.get?_push_size _ rfl, rfl, rfl⟩, tl1.push _⟩ ?w1 ?w2
      case w1 => exact PyProof.Rows.SetOf_congr ((PyProof.Rows.setObjOf_fresh (knd := PySem.strKind P w) (!w.params.followText "set-order")).setOf (Heap.get?_push_of_some _ gS) (by unfold scanBound; omega)) (fun _ => rfl) rfl
      case w2 =>
        intro s' hm hS'
        obtain ⟨h', gens', d', tk', os'⟩ := s'
        obtain rfl : gens' = s.gens := hm.gens
        obtain rfl : d' = s.drawn := hm.drawn
        obtain rfl : os' = s.os := hm.os
        rw [len] at hS'
        show wpAny _ _ _ _ _ _
        refine wpAny_pure ?_
        show wpAny _ _ (ret Value.none) _ _ _
        refine wpAny_pure ⟨rfl, h', tk', rfl, hS', fun b o e => ?_⟩
        have b0 := Heap.lt_size e
        refine hm.heap b o (fun q => ?_) (Heap.get?_push_of_some _ (Heap.get?_push_of_some _ e))
        rcases List.mem_cons.mp q with q | q
        · exact absurd q (Nat.ne_of_lt b0)
        · have q := List.mem_singleton.mp q
          rw [Heap.size_push] at q
          exact absurd q (Nat.ne_of_lt (Nat.lt_succ_of_lt b0))
    · intro r2 s2 hr2
      match r2, hr2 with
      | .error _, hr2 => exact hr2
      | .ok .next, hr2 => exact hr2.elim
      | .ok .brk, hr2 => exact hr2.elim
      | .ok .cont, hr2 => exact hr2.elim
      | .ok (.ret z), hr2 =>
        obtain ⟨rfl, h', tk, rfl, hS', hk'⟩ := hr2
        repeat (any_goals (first | assumption | wp_step))
        exact h _ _ hS' hk'
end
/-- texts alone -/
def strsD : List D → Option (List Str)
  | [] => some []
  | .str z :: ds => (strsD ds).map fun zs => z :: zs
  | _ :: _ => none
theorem strsD_some : ∀ {ds : List D} {zs : List Str}, strsD ds = some zs → ds = zs.map .str
  | [], zs, h => by rw [strsD] at h; cases h; rfl
  | .str z :: ds, zs, h => by
    rw [strsD] at h
    obtain ⟨l, h1, h2⟩ := Option.map_eq_some_iff.mp h
    subst h2
    rw [List.map_cons, ← strsD_some h1]
  | .non :: _, _, h => by simp [strsD] at h
  | .bl _ :: _, _, h => by simp [strsD] at h
  | .int _ :: _, _, h => by simp [strsD] at h
  | .tup _ :: _, _, h => by simp [strsD] at h
  | .lst _ :: _, _, h => by simp [strsD] at h
  | .pot :: _, _, h => by simp [strsD] at h
  | .scr _ :: _, _, h => by simp [strsD] at h
  | .exc _ _ :: _, _, h => by simp [strsD] at h
theorem ra_strs_inv {K : PySem.W.Frag} {H : Hp} {P M : PA1} : ∀ {zs : List Str} {xs : List V}, RpA K H P M (zs.map .str) xs → xs = zs.map V.str
  | [], xs, h => by rw [List.map_nil, RpA] at h; exact h
  | z :: zs, xs, h => by
    rw [List.map_cons] at h
    obtain ⟨x, r, rfl, h1, h2⟩ := h.cons_inv
    rw [Rp] at h1
    rw [h1, ra_strs_inv h2]
    rfl
def lenSetW (a : WO) : W := fun ρ t Q E => a ρ t (fun x ρ1 t1 => ∃ d ds zs, rsv ρ1 x = some d ∧ d.ls = some ds ∧ strsD ds = some zs ∧ zs.length ≤ 1000 ∧ Q (.im (.int (dn zs zs.length : Nat))) ρ1 t1) E
def tLenSetS (K : PySem.W.Frag) (ta : TE) : TE := fun σ H Q => ta σ H fun x H1 => ∃ (l : Addr) (zs : List Str), x = .ref l ∧ SqL K H1 l (zs.map V.str) ∧ zs.length ≤ 1000 ∧ Q (.int (dn zs zs.length : Nat)) H1
section
variable {X : Cx} {EX : XK} {e : Expr} {ta : TE} {wa : WO} {p p1 pos pos1 : Pos}
theorem pe_lenSetS (hc : X.calm = true) (hg : Gl X "len") (hm : X.mg "len" = none) (hg1 : Gl X "set") (hm1 : X.mg "set" = none) (ha : PE X e ta) (he : starEach [e] X.env = (false, eval e X.env) :: starEach [] X.env := by rfl) :
    PE X (.Call (.Name "len" p) [.Call (.Name "set" p1) [e] [] pos1] [] pos) (tLenSetS X.K ta) := by
  constructor
  intro pins s σ H Q I h
  refine Call_ (ld_blt I hg hm PySem.boot_len ?_)
  refine PyProof.Rows.callWith_builtin1 (PyProof.Rows.args_cons ?_ rfl) rfl rfl
  refine Call_ (ld_blt I hg1 hm1 PyProof.Rows.boot_set ?_)
  refine PyProof.Rows.callWith_type1 (PyProof.Rows.args_cons (thn (ha.run pins s σ H _ I h) ?_) he) he rfl
  rintro v s1 ⟨x, H1, I1, r1, l, zs, rfl, sq, few, q⟩
  obtain rfl : v = .ref l := r1
  refine PyProof.Rows.args_nil ?_
  obtain ⟨its, rv, pl, hz⟩ := I1.list sq
  refine setOf_texts (P := X.prog) (w := X.w) zs (I1.ok.hd hc) pl.isList (by simpa using strsAre_of rv) few fun h' tk hS hk => PyProof.Rows.args_nil ?_
  obtain ⟨o, es, ep, t, ho, hex, hd, _, _, _, hf, hn⟩ := hS
  have I2 : Inv X pins σ H1 { s1 with heap := h', toks := tk } := I1.kept hk
  have dl := dn_le zs zs.length
  exact call_len_set ho hex hd hf (by rw [hn]; omega) ⟨.int (dn zs zs.length : Nat), H1, I2.tok _, ⟨_, by rw [hn]⟩, q⟩
theorem de_lenSet (hc : X.calm = true) (hg : Gl X "len") (hm : X.mg "len" = none) (hg1 : Gl X "set") (hm1 : X.mg "set" = none) (ha : DO X EX e wa) (he : starEach [e] X.env = (false, eval e X.env) :: starEach [] X.env := by rfl) :
    DE X EX (.Call (.Name "len" p) [.Call (.Name "set" p1) [e] [] pos1] [] pos) (lenSetW wa) := PE.imp (pe_lenSetS hc hg hm hg1 hm1 ha he) fun σ H Q h => by
  obtain ⟨G, P, ρ, t, Q', E, S, hw, lk, hq⟩ := h
  refine ⟨G, P, ρ, t, _, E, S, hw, lk, fun o ρ1 t1 x H1 P1 h1 r1 => ?_⟩
  obtain ⟨d, ds, zs, e1, e2, e3, few, q⟩ := h1
  have S1 := r1.sat
  obtain ⟨l, xs, rfl, sq, ra⟩ := (rsv_ok S1 r1 e1).ls e2
  rw [strsD_some e3] at ra
  rw [ra_strs_inv ra] at sq
  exact ⟨l, zs, rfl, sq, few, hq _ _ _ _ _ P1 q ⟨S1, rp_int⟩⟩
end
end NB
set_option Elab.async false
set_option linter.all false
set_option maxRecDepth 100000
set_option maxHeartbeats 4000000
set_option autoImplicit false
/-! Exceptions of the package: an exception that is kept behind its except clause. -/
namespace NB
open PySem PySem.Spec PyProof.Rows L2

section
variable {X : Cx} {pins : List (Addr × Obj)} {σ : St} {H : Hp} {s : Shared}
/-- an object that is held is tracked from now on -/
theorem inv_track {a : Addr} {oe : Obj} {o : HO} (I : Inv X ((a, oe) :: pins) σ H s) (h0 : X.s_0.heap.get? a = none) (hp : ∀ p ∈ X.pn ++ pins, p.1 ≠ a) (new : ObjOk X.prog X.w (upd H a o) s.heap a o) : Inv X pins σ (upd H a o) s := by
  obtain ⟨ga, na, nl, nf, nc⟩ := I.pin (a, oe) (List.mem_append_right _ List.mem_cons_self)
  have off : ∀ {b : Addr} {u : HO}, H b = some u → b ≠ a := fun {b u} e z => by
    rw [z, show H a = none from na] at e
    cases e
  refine ⟨I.ok, I.os, I.bare, ⟨I.base.keep, I.base.slot, fun b u e n hx => ?_, I.base.there, fun b xs e => ?_, fun b u v e => ?_, fun b ps e => ?_⟩, I.loc, I.cell, ?_, fun y c e => ?_, fun p h => ?_, fun b u e => ?_, I.len⟩
  · rw [upd_ne fun z => by rw [z, h0] at e; cases e]
    exact I.base.free b u e n hx
  · have q := I.base.tups b xs e
    rw [upd_ne (off q)]
    exact q
  · have q := I.base.frzs b u v e
    rw [upd_ne (off q)]
    exact q
  · obtain ⟨m, q⟩ := I.base.tbls b ps e
    exact ⟨m, by rw [upd_ne (off q)]; exact q⟩
  · rw [upd_ne (Ne.symm nl)]
    exact I.free
  · rw [upd_ne fun z => ?_]
    · exact I.freeC y c e
    · obtain ⟨v, oc, g, d⟩ := I.cell y c e
      rw [z, show s.heap.get? a = some oe from ga] at g
      cases g
      exact nc v d
  · have hm : p ∈ X.pn ++ (a, oe) :: pins := by
      rcases List.mem_append.mp h with q | q
      · exact List.mem_append_left _ q
      · exact List.mem_append_right _ (List.mem_cons_of_mem _ q)
    obtain ⟨q1, q2, q3⟩ := I.pin p hm
    exact ⟨q1, by rw [upd_ne (hp p h)]; exact q2, q3⟩
  · by_cases hb : b = a
    · subst hb
      rw [upd_same] at e
      cases e
      exact new
    · rw [upd_ne hb] at e
      exact (I.hok b u e).stay (fun _ _ _ q => q) (fun c q => by rw [upd_ne (off q)]; exact q) fun c xs q => by rw [upd_ne (off q)]; exact q
/-- behind the suite the exception is still held -/
theorem inv_unsuite {a : Addr} {q : Addr × Obj} (I : Inv (X.suite a (q :: (X.pn ++ pins))) [] σ H s) (ok : X.Ok) : Inv X (q :: pins) σ H s :=
  ⟨ok, I.os, I.bare, I.base, I.loc, I.cell, I.free, I.freeC, fun p hp => by
    refine I.pin p (List.mem_append_left _ ?_)
    rcases List.mem_append.mp hp with h | h
    · exact List.mem_cons_of_mem _ (List.mem_append_left _ h)
    · rcases List.mem_cons.mp h with e | h
      · rw [e]; exact List.mem_cons_self
      · exact List.mem_cons_of_mem _ (List.mem_append_right _ h), I.hok, I.len⟩
end
theorem exV_ok {P : Program} {w : World} {H : Hp} {h : Heap} {a C x : Addr} {oe : Obj} {vs : Array Value} (e : h.get? a = some oe) (z : Zc (.ref C) (some x) oe) (d : oe.data = .fields vs) : ObjOk P w H h a (ExV C x a) :=
  ⟨⟨oe, vs, e, z, d⟩, ⟨oe, e⟩, fun _ _ ⟨o, v, q, r⟩ k => ⟨o, v, k o q, r⟩⟩
/-- what «except x as n: suite» wishes, the exception kept by the suite -/
def wKeep (K : PySem.W.Frag) (c : Value) (i : Nat) (ts : Addr → Value → Option Addr → TS) (D : Ends) : WX := fun cls d σ H =>
  PySem.W.exmOne K cls c = some true ∧ ∃ C x : Addr, cls = .ref C ∧ d = some x ∧ ∀ a, H a = none →
    ts a cls d { nx := fun σ' H' => H' a = none ∧ D.nx (σ'.set i none) (upd H' a (ExV C x a)), rt := fun _ _ => False, bk := fun _ _ => False, ct := fun _ _ => False } (σ.set i (some (.ref a))) H
section
variable {X : Cx} {x n : Str} {c : Value} {i : Nat} {body suite : List Stmt} {b0 : Stmt} {np pos pos' : Pos} {tb : WX → TS} {ts : Addr → Value → Option Addr → TS}
theorem ps_try_keep (hs : X.stack = X.env :: X.outer) (hf : X.env.frame = some X.env.locals) (hN : X.N.Nodup) (hi : X.N[i]? = some n) (hln : X.env.kindOf n = some .local) (hc : Names X x c) (hex : X.ex = [])
    (hb : ∀ (W : WX) (pn : List (Addr × Obj)) (xe : Value → Shared → Prop), Takes (X.tr pn xe) W → PassesOwn (model X.prog X.w) X.A X.env xe → PSs (X.tr pn xe) body (tb W))
    (hsu : ∀ (a : Addr) (oe : Obj) (cls : Value) (d : Option Addr) (pn : List (Addr × Obj)), Zc cls d oe → (∃ vs, oe.data = .fields vs) → PSs (X.suite a ((a, oe) :: pn)) (b0 :: suite) (ts a cls d)) :
    PS X (.Try body [.ExceptHandler (some (.Name x np)) (some n) (b0 :: suite) pos'] [] [] pos) (fun D σ H => tb (wKeep X.K c i ts D) D σ H) := by
  constructor
  intro pins s0 σ0 H0 D I0 want
  have ok := I0.ok
  have frames : X.A.frames = some (X.env :: X.outer) := ok.frames.trans (congrArg some hs)
  let landing : Value → Shared → Prop := fun e s1 => wpAny (model X.prog X.w) X.A (noteFrame e X.env) (fun _ s2 => wpAny (model X.prog X.w) X.A (setFlight e none) (fun _ s3 =>
    wpAny (model X.prog X.w) X.A (handleBy e X.env [.ExceptHandler (some (.Name x np)) (some n) (b0 :: suite) pos']) (SP X pins D) X.xe s3) X.xe s2) X.xe s1
  have caught : Takes (X.tr (X.pn ++ pins) landing) (wKeep X.K c i ts D) := by
    rintro u s1 ⟨a, B, sI, pins1, σ1, H1, cls, d, rfl, J0, inB, up, sky, na, os1, ag1, hm, C, dx, rfl, rfl, go⟩
    have J : Inv X pins σ1 H1 sI := J0.ofTry ok
    have sky' : Sky B (X.env :: X.outer) a (Zc (.ref C) (some dx)) X.env.locals s1.heap := hs ▸ sky
    show wpAny (model X.prog X.w) X.A (noteFrame (.ref a) X.env) _ _ _
    refine Sky.land Zc.steady frames hf sky' fun hA flA upA => ?_
    have JA : Inv X pins σ1 H1 { s1 with heap := hA } := J.landed inB flA.1 (up.trans upA) os1 ag1
    obtain ⟨oA, vA, gA, zA, dA⟩ := flA.there
    have away : ∀ {h : Heap} {o : Obj} {vs : Array Value}, h.FunFrames B (X.env :: X.outer) → h.get? a = some o → o.data = .fields vs → a ∉ frs (X.env :: X.outer) := fun {h o vs} ff g dd hm => by
      obtain ⟨_, o2, g2, no⟩ := ff.mem hm
      rw [g] at g2
      cases g2
      exact no _ dd
    have naFr := away flA.2.2.1 gA dA
    have nL : a ≠ X.env.locals := fun z => naFr (List.mem_filterMap.mpr ⟨X.env, List.mem_cons_self, hf.trans (congrArg some z.symm)⟩)
    have nF : a ∉ X.fs := fun hm => by
      obtain ⟨e, he, q⟩ := List.mem_filterMap.mp hm
      exact naFr (List.mem_filterMap.mpr ⟨e, List.mem_cons_of_mem _ he, q⟩)
    have nB : B.get? a = none := flA.2.1
    /- what stood at the entry, and what is held, is no exception of now -/
    have n0 : X.s_0.heap.get? a = none := by
      cases e : X.s_0.heap.get? a with
      | none => rfl
      | some o =>
        obtain ⟨o2, e2⟩ := J.base.there a o e (by rw [hex]; exact fun z => nomatch z)
        have := inB a o2 e2 (by rw [hs]; exact naFr)
        rw [nB] at this
        cases this
    have nP : ∀ p ∈ X.pn ++ pins, p.1 ≠ a := fun p hp z => by
      obtain ⟨q1, _⟩ := J.pin p hp
      have := inB p.1 p.2 q1 (by rw [hs, z]; exact naFr)
      rw [z, nB] at this
      cases this
    have SA := JA.suite gA dA na nL nF
    refine wpAny_handleBy_cons (codeAny_handlers_test ?_) (by intro q; cases q)
    have LT : PySem.W.Looks (model X.prog X.w) hA (typeOf (.ref a)) (.ref C) := fun A' Q' E' s' k q => wpAny_typeOf_ref (k _ _ gA) (by rw [zA.1]; exact q)
    have LM := PySem.W.exm_one (M := model X.prog X.w) JA.kIn LT hm
    have test : ∀ {Q' : Value → Shared → Prop} {E' : Value → Shared → Prop}, Q' c { s1 with heap := hA } → wpAny (model X.prog X.w) (X.A.mark (some (.ref a))) (eval (.Name x np) X.env) Q' E' { s1 with heap := hA } := fun {Q' E'} q => by
      obtain ⟨g1, g2, g3 | ⟨g3, g4, g5⟩⟩ := hc
      · exact ld_glob (X := X.suite a ((a, oA) :: (X.pn ++ pins))) SA g1 g3 q g2
      · exact ld_blt (X := X.suite a ((a, oA) :: (X.pn ++ pins))) SA g1 g3 g4 q g5 g2
    refine test (LM.here (codeAny_handlers_suite_as (HandSPX.lands_againZ flA fun hB flB upB => ?_)))
    have JB : Inv X pins σ1 H1 { s1 with heap := hB } := J.landed inB flB.1 ((up.trans upA).trans upB) os1 ag1
    obtain ⟨oB, vB, gB, zB, dB⟩ := flB.there
    have SB := JB.suite gB dB na nL nF
    refine store_ok (X := X.suite a ((a, oB) :: (X.pn ++ pins))) (v := .ref a) SB hN hi (.inl hln) rfl (fun s5 S5 => ?_) (.inr hln)
    refine wpAny_mono ((hsu a oB (.ref C) (some dx) (X.pn ++ pins) zB ⟨_, dB⟩).run [] s5 _ H1 _ S5 (go a na)) (fun f s6 hsp => ?_) (fun _ _ z => False.elim z)
    cases f with
    | next =>
      obtain ⟨σ6, H6, S6, n6, q6⟩ := hsp
      refine gone_ok (inv_unsuite S6 ok) hN hi hln fun s7 J7 => ⟨_, _, inv_track J7 n0 nP ?_, q6⟩
      obtain ⟨g7, _⟩ := J7.pin (a, oB) (List.mem_append_right _ List.mem_cons_self)
      exact exV_ok g7 zB dB
    | brk =>
      obtain ⟨_, _, _, z⟩ := hsp
      exact z.elim
    | cont =>
      obtain ⟨_, _, _, z⟩ := hsp
      exact z.elim
    | ret u =>
      obtain ⟨_, _, _, _, _, z⟩ := hsp
      exact z.elim
  refine wpAny_Try_except (wpAny_mono ((hb (wKeep X.K c i ts D) (X.pn ++ pins) landing caught PassesOwn.looking).run [] s0 σ0 H0 D (I0.toTry _) want) (fun f s1 hsp => ?_) fun e s1 he => he)
  cases f with
  | next =>
    obtain ⟨σ1, H1, J1, q⟩ := hsp
    exact wpAny_execs_nil ⟨σ1, H1, J1.ofTry ok, q⟩
  | brk =>
    obtain ⟨σ1, H1, J1, q⟩ := hsp
    exact ⟨σ1, H1, J1.ofTry ok, q⟩
  | cont =>
    obtain ⟨σ1, H1, J1, q⟩ := hsp
    exact ⟨σ1, H1, J1.ofTry ok, q⟩
  | ret u =>
    obtain ⟨v, σ1, H1, J1, r, q⟩ := hsp
    exact ⟨v, σ1, H1, J1.ofTry ok, r, q⟩
end
end NB
set_option Elab.async false
set_option linter.all false
set_option maxRecDepth 100000
set_option maxHeartbeats 4000000
set_option autoImplicit false
/-! A lambda without parameters that is heard: what it raises is kept. -/
namespace NB
open PySem PySem.Spec PyProof.Rows L2

/-- the context of the def that got the lambda -/
abbrev hCx (X : Cx) (Ng : List Str) (x : Str) (sg : Scope) (g : Addr) (cdg : Value) (s : Shared) (H : Hp) : Cx := cxOf CX0 X.prog X.w X.K X.mg X.base Ng x sg g cdg X.A X.stack s H E0
section
variable {X : Cx} {pins : List (Addr × Obj)} {σ : St} {H : Hp} {s : Shared}
/-- the call of the lambda in that def; its exceptions are wished at the very slots -/
theorem pe_actK {Ng : List Str} {xg : Str} {sg : Scope} {g f c' : Addr} {cdg pm ctv : Value} {params : Arguments} {body : Expr} {scope : Scope} {k i : Nat} {a : Str} {pn : List (Addr × Obj)} {xe : Value → Shared → Prop} {W : WX} {t : XK → TE} {p1 p2 : Pos}
    (I : Inv X pins σ H s) (L : LamX.LamS X.env.scope scope) (hf : s.heap.get? f = some (PySem.W.kla_obj "<lambda>" (X.env.qual ++ "<lambda>") params body scope (cloFrom X.env.cells scope.names []) pm c' ctv)) (hfn : H f = none) (hfr : f ∉ frs X.stack)
    (hbind : bindArgs (PySem.W.kla_fn "<lambda>" (X.env.qual ++ "<lambda>") params body scope (cloFrom X.env.cells scope.names []) pm (.ref c') ctv) ⟨[], []⟩ = pure [])
    (tk : Takes ((hCx X Ng xg sg g cdg s H).tr pn xe) W) (hr : Room (k + 1) (X.A.deeper (envOfC xg sg s.heap.objs.size g cdg)))
    (hbody : ∀ (A : Around) (outer : List Env) (s : Shared) (H : Hp) (E : XK), Room k (A.deeper (LamX.lamEnv X scope s.heap.objs.size f c')) → A.guards = X.A.guards → PE (LamX.lamCx X A outer s H E scope f c') body (t E))
    (hN : Ng[i]? = some a) (hv : Vis sg a) (hd : (a == ("__debug__" : Str)) = false) (hcd : (a == ("__classdict__" : Str)) = false) :
    PE ((hCx X Ng xg sg g cdg s H).tr pn xe) (.Call (.Name a p1) [] [] p2)
      (fun σZ HZ Q => σZ[i]? = some (some (.ref f)) ∧ HZ c' = some (LamX.CodeO c' (X.env.qual ++ "<lambda>")) ∧ ∃ (E : XK) (Q' : VK), (∀ v H', Q' v H' → Q v H') ∧ (∀ cls d H', E cls d H' → W cls d σZ H') ∧ t E σ HZ Q') := by
  constructor
  rintro pz sz σZ HZ Q0 IZ ⟨at_, co, E, Q, hQ, hW, ht⟩
  refine wpAny_mono (Q := EP ((hCx X Ng xg sg g cdg s H).tr pn xe) pz σZ Q) ?_ (fun u s1 ⟨v, H1, I1, r1, q⟩ => ⟨v, H1, I1, r1, hQ _ _ q⟩) fun _ _ z => z
  refine wpAny_Call_Name_kw (thn ((pe_var (pos := p1) (i := i) hN hv hd hcd).run pz sz σZ HZ (fun v H1 => v = .ref f ∧ H1 = HZ) IZ ⟨.ref f, at_, rfl, rfl⟩) fun u s1 got => ?_)
  obtain ⟨v, H1, I1, r1, ev, eH⟩ := got
  subst ev eH
  cases (show u = Value.ref f from r1)
  have fun_ : s1.heap.get? f = some (PySem.W.kla_obj "<lambda>" (X.env.qual ++ "<lambda>") params body scope (cloFrom X.env.cells scope.names []) pm c' ctv) := I1.base.keep f _ hf hfn hfr fun z => nomatch (show f ∈ ([] : List Addr) from z)
  obtain ⟨⟨oc, us, tt, g1, g2, g3⟩, _, _⟩ := I1.hok c' _ co
  have un : Un (frs X.stack) [] H H1 s.heap s1.heap := I1.base
  have run : codeAny (model X.prog X.w) (X.A.deeper (envOfC xg sg s.heap.objs.size g cdg)) (.call (.ref f) ⟨[], []⟩) (CR (L2.CX X.prog X.w) (envOfC xg sg s.heap.objs.size g cdg :: X.stack) X.prog X.w H1 s1 Q E) s1 := by
    refine PySem.W.kla_callFunE hr.depth fun_ rfl L.co L.gen rfl ⟨c', oc, us, tt, rfl, g1, g2, g3⟩ ?_
    rw [hbind]
    refine wpAny_pure (wpAny_newFunctionEnv (fun y hy => (L.own y hy).2) (fun y hy => absurd hy (by simp)) (fun h1 ns1 same => ⟨I1.nolimit.fresh _ same, ?_⟩) L.kind)
    have stays : ∀ b o, s1.heap.get? b = some o → h1.get? b = some o := fun b o e => same.extBut b o (Nat.ne_of_lt (Heap.lt_size e)) (Heap.get?_push_of_some _ e)
    have J : Inv (LamX.lamCx X (X.A.deeper (envOfC xg sg s.heap.objs.size g cdg)) (envOfC xg sg s.heap.objs.size g cdg :: X.stack) s1 H1 E scope f c') [] σ H1 { s1 with heap := h1, toks := s1.toks + ([] : List (Str × Value)).length } :=
      LamX.lam_start2 I L I1.env0 hr.hd un ns1 stays
    refine PySem.W.kla_codeExpr (wpAny_mono ((hbody _ _ s1 H1 E (hr.deeper _) rfl).run [] _ _ H1 Q J ht) (fun v s2 got => ?_) fun e s2 z => z)
    obtain ⟨y, H2, J2, rv, q⟩ := got
    exact ⟨y, H2, J2.os, J2.bare, J2.base, J2.hok, rv, q⟩
  refine PySem.W.callWith_F0 ⟨_, _, _, _, fun_⟩ (wpAny_call (codeAny_mono run fun r s2 got => ?_))
  cases r with
  | error e => exact tk e s2 (XE.of_call I1 hW got)
  | ok fl =>
    cases fl with
    | ret u => exact I1.after got
    | next => exact got.elim
    | brk => exact got.elim
    | cont => exact got.elim
end
/-- the def that hears: what it makes of the lambda's reading -/
def HearsK (X : Cx) (Ng : List Str) (x : Str) (sg : Scope) (g : Addr) (cdg : Value) (bg : List Stmt) (a q : Str) (TT : (XK → Hp → VK → Prop) → Hp → VK → Prop) : Prop :=
  ∀ (f c' : Addr) (s : Shared) (H : Hp) (Q : VK) (tl : XK → Hp → VK → Prop),
    (∀ (W : WX) (pn : List (Addr × Obj)) (xe : Value → Shared → Prop) (p1 p2 : Pos), Takes ((hCx X Ng x sg g cdg s H).tr pn xe) W →
      PE ((hCx X Ng x sg g cdg s H).tr pn xe) (.Call (.Name a p1) [] [] p2) (fun σZ HZ Q => σZ[0]? = some (some (.ref f)) ∧ HZ c' = some (LamX.CodeO c' q) ∧ ∃ (E : XK) (Q' : VK), (∀ v H', Q' v H' → Q v H') ∧ (∀ cls d H', E cls d H' → W cls d σZ H') ∧ tl E HZ Q')) →
    H c' = some (LamX.CodeO c' q) → TT tl H Q →
    ∃ t, PSs (hCx X Ng x sg g cdg s H).nox bg t ∧ t { nx := fun _ H' => Q .non H', rt := Q } (L2.start Ng [.ref f]) H
section
variable {X : Cx}
theorem pe_lamK {T : List (Addr × Str)} {TT : (XK → Hp → VK → Prop) → Hp → VK → Prop} {x a : Str} {g c P : Addr} {k : Nat} {pg : Arguments} {bg : List Stmt} {sg : Scope} {dV kV doc pm cdv ct oc : Value} {an od : Option Addr} {osl : Array (Option Value)} {Ng : List Str}
    {params : Arguments} {body : Expr} {scope : Scope} {t : XK → TE} {p lpos pos : Pos} (hg : Gl X x) (hm : X.mg x = some (.ref g)) (hk : PySem.W.keepIn X.K (.ref g) = true)
    (lk : X.K.lookup g = some ⟨oc, od, .func (PySem.W.fnOf x x pg bg sg dV kV doc pm an cdv ct), osl⟩) (hcg : PySem.W.codeIn X.K cdv x = true) (hb : L2.Binds X.K (PySem.W.fnOf x x pg bg sg dV kV doc pm an cdv ct) [a] []) (Sg : FnScope Ng [a] sg) (hNg : Ng[0]? = some a) (hva : Vis sg a)
    (hG : HearsK X Ng x sg g cdv bg a (X.env.qual ++ "<lambda>") TT) (TB : LamX.TabB X.base X.mg c P) (hcode : X.env.code = .ref c) (hmT : (P, X.env.qual ++ "<lambda>") ∈ T) (hu : ∀ p ∈ T, p.1 = P → p.2 = X.env.qual ++ "<lambda>") (hr : Room (k + 2) X.A) (L : LamX.LamS X.env.scope scope)
    (hdef : defaultsOf params X.env = ([], [])) (hbind : ∀ (q : Str) (cl : List (Str × Addr)) (pm cv ctv : Value), bindArgs (PySem.W.kla_fn "<lambda>" q params body scope cl pm cv ctv) ⟨[], []⟩ = pure [])
    (hbody : ∀ (A : Around) (outer : List Env) (s : Shared) (H : Hp) (E : XK) (f c' : Addr), Room k (A.deeper (LamX.lamEnv X scope s.heap.objs.size f c')) → A.guards = X.A.guards → PE (LamX.lamCx X A outer s H E scope f c') body (t E))
    (hdb : (x == ("__debug__" : Str)) = false := by decide) (hd : (a == ("__debug__" : Str)) = false := by decide) (hcd : (a == ("__classdict__" : Str)) = false := by decide) :
    PE X (.Call (.Name x p) [.Lambda params body scope lpos] [] pos) (LamX.tLam T TT t) := by
  constructor
  rintro pins s σ H Q I ⟨hT, want⟩
  refine wpAny_Call_Name_kw (ld_glob I hg hm (PySem.W.callWith_K (h₀ := X.base) I.ok.mod.kin hk ?_ (by rfl) (by rfl)) hdb)
  show wpAny _ _ (spliced ((false, eval (.Lambda params body scope lpos) X.env) :: backTo pos (starEach [] X.env))) _ _ s
  refine Calls.spliced_cons (LamX.lam_make2 I TB hcode hmT hu hT hdef (L.has I.ok) fun f c' pm' ctv H1 s1 I1 eN T1 hf hfn hfr co => Calls.spliced_nil ⟨I1.kIn, ?_⟩)
  have told : codeAny (model X.prog X.w) X.A (.call (.ref g) ⟨[.ref f], []⟩) (CR CX0 X.stack X.prog X.w H1 s1 Q E0) s1 := by
    refine LamX.run_ofS (N := Ng) (ps := [a]) (us := [.ref f]) (vs := [.ref f]) lk hcg Sg hr I1.env0 (hb s1 [.ref f] I1.kIn rfl) (.cons rfl .nil) rfl fun hr2 => ?_
    obtain ⟨t2, p2, q2⟩ := hG f c' s1 H1 Q (fun E H' Q' => t E σ H' Q') (fun W pn xe p1 p2 tk => pe_actK (i := 0) I1 L hf hfn hfr (hbind _ _ _ _ _) tk hr2 (fun A outer s H E hr3 gd => hbody A outer s H E f c' hr3 gd) hNg hva hd hcd) co (want H1 eN T1)
    exact ⟨t2, p2.nox, q2⟩
  refine wpAny_call (codeAny_mono told fun r s2 got => ?_)
  cases r with
  | error e => exact (show False from got).elim
  | ok fl =>
    cases fl with
    | ret u => exact I1.after got
    | next => exact got.elim
    | brk => exact got.elim
    | cont => exact got.elim
end
/-- try: back = call() / except LiftError as error: caught = error; (caught, back) -/
def TTheard (K : PySem.W.Frag) (CS : Addr) : (XK → Hp → VK → Prop) → Hp → VK → Prop := fun tl H Q =>
  ∀ T, H T = none → tl (fun cls d H' => PySem.W.exmOne K cls (.ref CS) = some true ∧ ∃ C x : Addr, cls = .ref C ∧ d = some x ∧ ∀ a, H' a = none → ∀ p, (upd H' a (ExV C x a)) p = none → Q (.ref p) (upd (upd H' a (ExV C x a)) p (.tup [.ref a, .non]))) (upd H T (.tup [.non, .non]))
    fun v H' => ∀ p, H' p = none → Q (.ref p) (upd H' p (.tup [.non, v]))
theorem heard_read {K : PySem.W.Frag} {CS f c' : Addr} {q : Str} {tl : XK → Hp → VK → Prop} {H : Hp} {Q : VK} (hc : H c' = some (LamX.CodeO c' q)) (h : TTheard K CS tl H Q) :
    tSeq (tAsg (tTup (tCons (tC .non) (tCons (tC .non) tNil))) (gTup K 2 (gCons (gName 1) (gCons (gName 2) gNil))))
      (tSeq (fun D σ H => tAsg (fun σZ HZ Q => σZ[0]? = some (some (.ref f)) ∧ HZ c' = some (LamX.CodeO c' q) ∧ ∃ (E : XK) (Q' : VK), (∀ v H', Q' v H' → Q v H') ∧ (∀ cls d H', E cls d H' → wKeep K (.ref CS) 3 (fun _ _ _ => tAsg (tVar 3) (gName 1)) D cls d σZ H') ∧ tl E HZ Q') (gName 2) D σ H)
        (tRet (tTup (tCons (tVar 1) (tCons (tVar 2) tNil))))) { nx := fun _ H' => Q .non H', rt := Q } [some (.ref f), none, none, none] H := by
  refine ⟨by show 2 ≤ sizeLine; decide, fun T nT => ⟨T, _, rfl, .of upd_same, rfl, .non, _, rfl, .non, _, rfl, rfl, rfl, ?_, _, _, fun v H' h2 => ?_, ?_, h T nT⟩⟩
  · rw [upd_ne (ne_of_none hc nT)]
    exact hc
  · exact ⟨_, rfl, _, rfl, by show 2 ≤ sizeLine; decide, h2⟩
  · rintro cls d H' ⟨e1, C, x, rfl, rfl, go⟩
    refine ⟨e1, C, x, rfl, rfl, fun a na => ⟨_, rfl, na, _, rfl, _, rfl, by show 2 ≤ sizeLine; decide, go a na⟩⟩
end NB
set_option Elab.async false
set_option linter.all false
set_option maxRecDepth 100000
set_option maxHeartbeats 4000000
set_option autoImplicit false
/-! Exceptions by data: raise, heard, value, isinstance. -/
namespace NB
open PySem PySem.Spec PyProof.Rows L2

/-! ### slots without own lists -/
def frzS : Sl → Sl
  | .ow ds => .im (.lst ds)
  | s => s
@[simp] theorem frzS_im (d : D) : frzS (.im d) = .im d := rfl
@[simp] theorem frzS_ow (ds : List D) : frzS (.ow ds) = .im (.lst ds) := rfl
@[simp] theorem frzS_non : frzS .non = .non := rfl
@[simp] def frzR (ρ : List Sl) : List Sl := ρ.map frzS
theorem set_same {α : Type} {l : List α} {n : Nat} {x : α} (h : l[n]? = some x) : l.set n x = l := by
  apply List.ext_getElem?
  intro j
  by_cases hj : n = j
  · subst hj
    rw [List.getElem?_set_self (List.getElem?_eq_some_iff.mp h).1, h]
  · rw [List.getElem?_set_ne hj]
section
variable {K : PySem.W.Frag} {G : Gh} {P : PA1} {ρ : List Sl} {t : Nat} {σ : St} {H : Hp}
theorem Sat.frzTo (S : Sat K G P ρ t σ H) : ∀ n, Sat K G P (frzR (ρ.take n) ++ ρ.drop n) t σ H
  | 0 => by simpa using S
  | n + 1 => by
    have ih := Sat.frzTo S n
    by_cases hn : n < ρ.length
    · have e1 : ρ.drop n = ρ[n] :: ρ.drop (n + 1) := List.drop_eq_getElem_cons hn
      have e2 : ρ.take (n + 1) = ρ.take n ++ [ρ[n]] := by rw [List.take_add_one, List.getElem?_eq_getElem hn]; rfl
      rw [e1] at ih
      have l : (frzR (ρ.take n)).length = n := by simp; omega
      have e3 : frzR (ρ.take (n + 1)) ++ ρ.drop (n + 1) = (frzR (ρ.take n) ++ ρ[n] :: ρ.drop (n + 1)).set n (frzS ρ[n]) := by
        rw [e2, frzR, List.map_append, List.append_assoc, List.set_append_right _ _ (by rw [l]; exact Nat.le_refl _), l, Nat.sub_self]
        rfl
      rw [e3]
      have at_ : (frzR (ρ.take n) ++ ρ[n] :: ρ.drop (n + 1))[n]? = some ρ[n] := by
        rw [List.getElem?_append_right (by rw [l]; exact Nat.le_refl _), l, Nat.sub_self]
        rfl
      cases hs : ρ[n] with
      | ow ds =>
        rw [hs] at ih at_
        exact (ih.freeze at_).1
      | im d =>
        rw [hs] at ih at_
        rw [frzS_im, set_same at_]
        exact ih
      | non =>
        rw [hs] at ih at_
        rw [frzS_non, set_same at_]
        exact ih
    · rw [List.take_of_length_le (by omega), List.drop_eq_nil_of_le (by omega)] at ih ⊢
      exact ih
theorem Sat.frz (S : Sat K G P ρ t σ H) : Sat K G P (frzR ρ) t σ H := by
  have := S.frzTo ρ.length
  simpa using this
theorem frz_no {i : Nat} {ds : List D} : (frzR ρ)[i]? ≠ some (.ow ds) := fun e => by
  rw [frzR, List.getElem?_map] at e
  obtain ⟨s, _, h⟩ := Option.map_eq_some_iff.mp e
  cases s <;> cases h
/-- a part that is run like a call: the frame's state is its entry -/
theorem Sat.enter (S : Sat K G P ρ t σ H) (no : ∀ (i : Nat) (ds : List D), ρ[i]? ≠ some (.ow ds)) : Sat K (g0 (fun a => G.F a ∨ Own ρ σ a) P H) P ρ t σ H := by
  have none_ : ∀ a, ¬ Own ρ σ a := fun a ⟨i, ds, e, _⟩ => no i ds e
  have mo : Mo K H H P P (Mx G.F P ρ σ) (Mx (g0 (fun a => G.F a ∨ Own ρ σ a) P H).F P ρ σ) := .less fun a z => by
    rcases z with (z | z) | z | z
    · exact .inl z
    · exact absurd z (none_ a)
    · exact .inr (.inl z)
    · exact absurd z (none_ a)
  refine ⟨S.len, fun i d e => ?_, fun i ds e => absurd e (no i ds), fun i j ds es a e => absurd e (no i ds), fun a z => ?_, fun q hq => absurd (show q ∈ ([] : List (D × V)) from hq) (by simp), S.pt, fun a z => z, fun a z => .inl z, .refl, fun a z => ?_, S.tb⟩
  · obtain ⟨v, h1, h2⟩ := S.im i d e
    exact ⟨v, h1, h2.mo mo⟩
  · obtain ⟨xs, e⟩ := S.mlist a (z.elim .inl fun z => .inr (.inr z))
    exact ⟨xs, e, e⟩
  · rcases z with z | z
    · exact S.fp a z
    · exact absurd z (none_ a)
end
/-- what a lambda that is heard gives: (None, what it returns), or (the exception, None) -/
@[simp] def heardW (cs : List Str) (w : W) : W := fun ρ t Q E => w (frzR ρ) t (fun r _ t1 => Q (.im (.tup [.non, r.d])) (frzR ρ) t1) (fun c v t1 => c ∈ cs ∧ Q (.im (.tup [.exc c v, .non])) (frzR ρ) t1)
theorem kp_ext {K : PySem.W.Frag} {H H1 : Hp} (e : LamX.ExtN H H1) (t : Tb K H1) : Kp K (fun _ => False) H H1 := ⟨fun a o h _ => by
  cases ht : isT o with
  | true => exact .inr rfl
  | false => exact .inl (e a o h fun ps z => by rw [z] at ht; cases ht), fun _ => t⟩
theorem heard_tell {K : PySem.W.Frag} {EX : XK} {CS : Addr} {cs : List Str} {w : W} {σ : St} {H : Hp} {Q : VK} (hE : ∀ c ∈ cs, ∀ C, ClsAt K c C → PySem.W.exmOne K (.ref C) (.ref CS) = some true) (h : Go K EX (RS K) (heardW cs w) σ H Q) :
    LamX.tLam (tabsOf K) (TTheard K CS) (fun E => Go K E (RS K) w) σ H Q := by
  obtain ⟨G, P, ρ, t, Q', E, S, hw, lk, hq⟩ := h
  refine ⟨S.tb, fun H1 eN t1 T nT => ?_⟩
  have S2 := (S.frz.grow (kp_ext eN t1)).grow (kp_upd (o := .tup [V.non, V.non]) nT)
  generalize upd H1 T (.tup [V.non, V.non]) = H2 at S2
  refine ⟨_, P, frzR ρ, t, _, _, S2.enter fun _ _ => frz_no, hw, ?_, fun r ρ1 t2 v H' P' q rs p np => ?_⟩
  · rintro c v t2 P' H' C x y ⟨hc, q⟩ at_ ok hx rp
    have er : EndR K (g0 (fun a => G.F a ∨ Own (frzR ρ) σ a) P H2) P' t2 H' (.im v) y := ⟨ok, rp⟩
    obtain ⟨S3, r3⟩ := S2.call er
    refine ⟨hE c hc C at_, C, x, rfl, rfl, fun a na p np => ?_⟩
    have k4 : Kp K (fun _ => False) H' (upd H' a (ExV C x a)) := kp_upd na
    have r4 : Rp K (upd H' a (ExV C x a)) P' (Mx G.F P' (frzR ρ) σ) (.exc c v) (.ref a) := by
      rw [Rp]
      exact ⟨a, C, x, y, rfl, at_, upd_same, by rw [upd_ne (ne_of_none hx na)]; exact hx, r3.mo (.grow k4)⟩
    have k5 : Kp K (fun _ => False) (upd H' a (ExV C x a)) (upd (upd H' a (ExV C x a)) p (.tup [.ref a, .non])) := kp_upd np
    refine hq _ _ _ _ _ P' q ⟨(S3.grow k4).grow k5, ?_⟩
    rw [Rp]
    exact ⟨p, _, rfl, .inl (.inl upd_same), .cons (r4.mo (.grow k5)) (.cons (by rw [Rp]) .nil)⟩
  · obtain ⟨S3, r3⟩ := (S2.call rs.endR).im
    have k5 : Kp K (fun _ => False) H' (upd H' p (.tup [.non, v])) := kp_upd np
    refine hq _ _ _ _ _ P' q ⟨S3.grow k5, ?_⟩
    rw [Rp]
    exact ⟨p, _, rfl, .inl (.inl upd_same), .cons (by rw [Rp]) (.cons (r3.mo (.grow k5)) .nil)⟩
end NB
set_option Elab.async false
set_option linter.all false
set_option maxRecDepth 100000
set_option maxHeartbeats 4000000
set_option autoImplicit false
/-! Defs that make lambdas; the rules for raise, heard, value, isinstance. -/
namespace NB
open PySem PySem.Spec PyProof.Rows L2

section
variable {Pr : Program} {w : World} {K : PySem.W.Frag} {mg : Str → Option Value} {base : Heap}
/-- a def that makes lambdas: its code object and its table are known -/
structure DfL (K : PySem.W.Frag) (mg : Str → Option Value) (x : Str) (st : Stmt) (ps : List Str) : Prop where
  ex : ∃ (f : Addr) (oc : Value) (od : Option Addr) (kV doc pm : Value) (an : Option Addr) (cdv ct : Value) (osl : Array (Option Value)) (c P : Addr),
    K.lookup f = some ⟨oc, od, .func (PySem.W.fnOf x x (defArgs st) (defBody st) (defScope st) .none kV doc pm an cdv ct), osl⟩ ∧ PySem.W.codeIn K cdv x = true ∧ PySem.W.keepIn K (.ref f) = true ∧ mg x = some (.ref f) ∧
      Binds K (PySem.W.fnOf x x (defArgs st) (defBody st) (defScope st) .none kV doc pm an cdv ct) ps [] ∧ cdv = .ref c ∧ PySem.W.tabIn K x = some (c, P)
theorem cl_ofL {x : Str} {st : Stmt} {ps N : List Str} {k : Nat} {ws : WS} (D : DfL K mg x st ps) (S : FnScope N ps (defScope st))
    (hbody : ∀ (c P : Addr), PySem.W.tabIn K x = some (c, P) → ∀ (f : Addr) (A : Around) (outer : List Env) (s : Shared) (H : Hp) (E : XK), Room k (A.deeper (envOfC x (defScope st) s.heap.objs.size f (.ref c))) → A.guards = some [] →
      Lv (cxOf (CXE Pr w) Pr w K mg base N x (defScope st) f (.ref c) A outer s H E) E → Passes (CXE Pr w) (cxOf (CXE Pr w) Pr w K mg base N x (defScope st) f (.ref c) A outer s H E) E →
      DSs (cxOf (CXE Pr w) Pr w K mg base N x (defScope st) f (.ref c) A outer s H E) E (defBody st) ws) : Cl Pr w K mg base (k + 1) x ps.length (defW ps.length N.length ws) := by
  obtain ⟨f, oc, od, kV, doc, pm, an, cdv, ct, osl, c, P, lk, hcd, hk, hm, hb, rfl, tp⟩ := D.ex
  exact ⟨f, _, ps, rfl, fnG_of (EX := fun E => E) lk hcd S (fun _ _ _ h => h) fun A outer s H E hr hg => hbody c P tp f A outer s H E hr hg lv_cx lv_cx.px, hm, hk, hb⟩
theorem tab_in {x : Str} {c P : Addr} (hx : x ∈ lamNames) (tp : PySem.W.tabIn K x = some (c, P)) : (P, lamQ x) ∈ tabsOf K := List.mem_filterMap.mpr ⟨x, hx, by rw [tp]; rfl⟩
/-- each table is one def's -/
def TabU (K : PySem.W.Frag) : Prop := ∀ x ∈ lamNames, ∀ y ∈ lamNames, ∀ (c c' P : Addr), PySem.W.tabIn K x = some (c, P) → PySem.W.tabIn K y = some (c', P) → x = y
theorem tab_one {x : Str} {c P : Addr} (U : TabU K) (hx : x ∈ lamNames) (tp : PySem.W.tabIn K x = some (c, P)) : ∀ p ∈ tabsOf K, p.1 = P → p.2 = lamQ x := fun p hp e => by
  obtain ⟨y, hy, h⟩ := List.mem_filterMap.mp hp
  obtain ⟨cP, h1, h2⟩ := Option.map_eq_some_iff.mp h
  subst h2
  have e : cP.2 = P := e
  subst e
  rw [U x hx y hy c cP.1 cP.2 tp h1]
/-- the lambda's own context lets exceptions out, too -/
theorem lv_lam {X : Cx} {A : Around} {outer : List Env} {s : Shared} {H : Hp} {E : XK} {scope : Scope} {f c' : Addr} : Lv (LamX.lamCx X A outer s H E scope f c') E := ⟨takes_of rfl rfl rfl rfl, passes_of rfl⟩
end
section
variable {X : Cx} {EX : XK} {k : Nat} {x : Str} {c P : Addr} {cs : List Str} {CS : Addr} {w : W} {st : Stmt} {params : Arguments} {body : Expr} {scope : Scope} {p lpos pos : Pos} {Ng : List Str}
theorem de_heard (D : Df X.K X.mg "_law_heard" st ["call"]) (Sg : FnScope Ng ["call"] (defScope st)) (hNg : Ng[0]? = some ("call" : Str)) (hva : Vis (defScope st) "call")
    (hG : ∀ (g : Addr) (cdg : Value) (q : Str), HearsK X Ng "_law_heard" (defScope st) g cdg (defBody st) "call" q (TTheard X.K CS)) (hE : ∀ c ∈ cs, ∀ C, ClsAt X.K c C → PySem.W.exmOne X.K (.ref C) (.ref CS) = some true)
    (U : TabU X.K) (TB : TabsB X.K X.mg X.base) (hx : x ∈ lamNames) (tp : PySem.W.tabIn X.K x = some (c, P)) (hcode : X.env.code = .ref c) (hq : X.env.qual ++ "<lambda>" = lamQ x) (hr : Room (k + 2) X.A) (hgd : X.A.guards = some []) (hg : Gl X "_law_heard") (L : LamX.LamS X.env.scope scope)
    (hdef : defaultsOf params X.env = ([], [])) (hbind : ∀ (q : Str) (cl : List (Str × Addr)) (pm cv ctv : Value), bindArgs (PySem.W.kla_fn "<lambda>" q params body scope cl pm cv ctv) ⟨[], []⟩ = pure [])
    (hbody : ∀ (A : Around) (outer : List Env) (s : Shared) (H : Hp) (E : XK) (f c' : Addr), Room k (A.deeper (LamX.lamEnv X scope s.heap.objs.size f c')) → A.guards = some [] →
      Lv (LamX.lamCx X A outer s H E scope f c') E → Passes (CXE X.prog X.w) (LamX.lamCx X A outer s H E scope f c') E → DE (LamX.lamCx X A outer s H E scope f c') E body w) :
    DE X EX (.Call (.Name "_law_heard" p) [.Lambda params body scope lpos] [] pos) (heardW cs w) := by
  obtain ⟨g, fd, F, hm, hb⟩ := D.ex
  obtain ⟨oc, od, kV, doc, pm, an, cdv, ct, osl, rfl, lk, hcd⟩ := F.ex
  refine PE.imp (pe_lamK (T := tabsOf X.K) hg hm F.kp lk hcd hb Sg hNg hva (hG g cdv _) (TB x hx c P tp) hcode ?_ ?_ hr L hdef hbind fun A outer s H E f c' hr2 gd => hbody A outer s H E f c' hr2 (gd.trans hgd) lv_lam lv_lam.px) fun _ _ _ h => heard_tell hE h
  · rw [hq]; exact tab_in hx tp
  · rw [hq]; exact tab_one U hx tp
end

/-! ### raise -/
/-- what the text says of an exception class, at C -/
structure ExcT (K : PySem.W.Frag) (C : Addr) : Prop where
  oex : OexC K C
  xf : XfC K C
  nov : PySem.W.findIn K (.ref C) "value" = some none
  hcl : (PySem.W.clsIn K C).isSome = true
  hcc : PySem.W.findIn K (.ref C) "__class__" = some (some (.builtin "object.__class__"))
  hsp : PySem.W.specialIn K (.builtin "object.__class__") "__get__" = some (some (.builtin "getset_descriptor.__get__"))
  htk : PySem.W.takesIn K (.builtin "object.__class__") = some true
  hmo : PySem.W.mroIn K C (.type "object") = some true
/-- the class's __init__ -/
def spInit (K : PySem.W.Frag) : Sp := fun vs H Q _ => ∃ (a C : Addr) (y : V), vs = [.ref a, y] ∧ OexC K C ∧ PySem.W.findIn K (.ref C) "value" = some none ∧ H a = some (exo a C none) ∧
  ∀ d, H d = none → d ≠ a → Q .non (upd (upd H d (exd d [("value", y)])) a (exo a C (some d)))
theorem init_read {K : PySem.W.Frag} {vs : List V} {H : Hp} {Q : VK} {E : XK} (h : spInit K vs H Q E) :
    tSeq (tDrop (tVeI K (tCons (tVar 0) (tCons (tVar 1) tNil)))) (tOst K "value" (tVar 0) (tVar 1)) { nx := fun _ H' => Q .non H', rt := Q } (L2.start ["self", "value"] vs) H := by
  obtain ⟨a, C, y, rfl, T, nv, e, q⟩ := h
  exact ⟨_, rfl, _, rfl, a, C, [y], rfl, (by show 1 ≤ 1000; decide), T, e, _, rfl, _, rfl, a, C, rfl, T, nv, .inl ⟨e, fun dx n ne => q dx n ne⟩⟩
/-- raise c(e) -/
@[simp] def raiseS (c : Str) (w : W) : WS := fun ρ t k => w ρ t (fun r _ t' => k.ex c r.d t') k.ex
/-- the classes of exceptions of the text, at ad; their __init__ at fI -/
structure ExcS (K : PySem.W.Frag) (mg : Str → Option Value) (cs : List Str) (fI CS : Addr) (ad : Str → Addr) : Prop where
  lift : mg "LiftError" = some (.ref CS)
  cat : ∀ c ∈ cs, ClsAt K c (ad c)
  g : ∀ c ∈ cs, mg c = some (.ref (ad c))
  txt : ∀ c ∈ cs, ExcT K (ad c)
  ini : ∀ c ∈ cs, PySem.W.findIn K (.ref (ad c)) "__init__" = some (some (.ref fI)) ∧ PySem.W.typeIn K (.ref fI) = some (.type "function")
  exm : ∀ c ∈ cs, PySem.W.exmOne K (.ref (ad c)) (.ref CS) = some true
  kit : ∀ c ∈ cs, ∀ d ∈ cs, PySem.W.kitOne K (.ref (ad c)) (.ref (ad d)) = some (decide (c = d))
theorem ExcS.exm' {K : PySem.W.Frag} {mg : Str → Option Value} {cs : List Str} {fI CS : Addr} {ad : Str → Addr} (h : ExcS K mg cs fI CS ad) : ∀ c ∈ cs, ∀ C, ClsAt K c C → PySem.W.exmOne K (.ref C) (.ref CS) = some true := fun c hc C at_ => by
  have e := h.cat c hc
  unfold ClsAt at e at_
  rw [e] at at_
  cases at_
  exact h.exm c hc
section
variable {X : Cx} {EX : XK} {c : Str} {cs : List Str} {fI CS : Addr} {ad : Str → Addr} {fd : FuncData} {k : Nat} {e : Expr} {w : W} {p pos pos' : Pos}
theorem ds_raise (V : ExcS X.K X.mg cs fI CS ad) (hc : c ∈ cs) (F : FnOk X.prog X.w X.K X.mg X.base CX0 1 fI fd ["self", "value"] (spInit X.K)) (hb : Binds X.K fd ["self", "value"] []) (lv : Lv X EX) (hcalm : X.calm = true) (hr : Room 2 X.A) (hg : Gl X c) (he : DE X EX e w)
    (hdb : (c == ("__debug__" : Str)) = false := by decide) (hs : starEach [e] X.env = (false, eval e X.env) :: starEach [] X.env := by rfl) (hpl : (backTo pos (starEach [] X.env)).any (·.1) = false := by rfl) :
    DS X EX (.Raise (some (.Call (.Name c p) [e] [] pos)) none pos') (raiseS c w) := by
  refine PS.imp (ps_raise hcalm lv.tk (pmk_oex (V.txt c hc).oex (V.ini c hc).1 (V.ini c hc).2 F hr hb .nil pass0 hg (V.g c hc) (da_cons he da_nil hs) hdb hs hpl)) fun D σ H h => ?_
  obtain ⟨G, P, ρ, t, kk, S, hw, lk, _⟩ := h
  refine ⟨G, P, ρ, t, fun ds _ t' => match ds with | [d] => kk.ex c d t' | _ => False, kk.ex, S, hw, lk, fun ds ρ1 t1 vs H1 P1 z rs => ?_⟩
  obtain ⟨S1, ra⟩ := rs
  match ds, z, ra with
  | [d], z, ra =>
    obtain ⟨v, rfl, rp⟩ := ra_one ra
    refine ⟨by show 1 ≤ 1000; decide, fun a na => ⟨a, ad c, v, rfl, (V.txt c hc).oex, (V.txt c hc).nov, upd_same, fun dx nd ne => ⟨rfl, dx, [("value", v)], upd_same, ?_, ?_, ?_⟩⟩⟩
    · rw [upd_ne ne, upd_same]
    · rw [upd_ne ne] at nd
      exact nd
    · have nd1 : H1 dx = none := by rw [upd_ne ne] at nd; exact nd
      have keep : ∀ b o, H1 b = some o → (upd (del (upd (upd (upd H1 a (exo a (ad c) none)) dx (exd dx [("value", v)])) a (exo a (ad c) (some dx))) a) dx (.xd [("value", v)])) b = some o := fun b o eb => by
        have ba := ne_of_none eb na
        have bd := ne_of_none eb nd1
        rw [upd_ne bd, del_ne ba, upd_ne ba, upd_ne bd, upd_ne ba]
        exact eb
      have k1 : Kp X.K (fun _ => False) H1 _ := Kp.of keep
      exact lk c d t1 P1 _ (ad c) dx v z (V.cat c hc) (S1.grow k1).endOk upd_same ((rp.mo (.grow k1)).mo (.less fun b z => z.elim .inl fun z => .inr (.inl z)))
end

/-! ### the exception's value -/
@[simp] def excVD (cs : List Str) : D → Option R
  | .exc c v => if c ∈ cs then some (.im v) else none
  | _ => none
section
variable {X : Cx} {EX : XK} {c : Str} {cs : List Str} {fI CS : Addr} {ad : Str → Addr} {e : Expr} {wa : WO} {pos : Pos}
theorem de_value (V : ExcS X.K X.mg cs fI CS ad) (ha : DO X EX e wa) (hb : attributeBase e "value" X.env (eval e X.env) = eval e X.env := by rfl) :
    DE X EX (.Attribute e "value" pos) (op1W (excVD cs) wa) := by
  refine ⟨fun pins s σ H Q I h => attr_of hb (thn (ha.run pins s σ H _ I (op1_read h)) fun u s1 got => ?_)⟩
  obtain ⟨x, H1, I1, rx, P, M, d, rd, _, f⟩ := got
  obtain ⟨r, hr, f⟩ := f
  cases d with
  | exc c v =>
    by_cases hc : c ∈ cs
    · have hr : (if c ∈ cs then some (R.im v) else none) = some r := hr
      rw [if_pos hc] at hr
      cases hr
      have rd : Rp X.K H1 P M (.exc c v) x := rd
      rw [Rp] at rd
      obtain ⟨a, C, dx, y, rfl, at_, ea, ed, ry⟩ := rd
      obtain rfl : u = Value.ref a := rx
      have e1 := V.cat c hc
      unfold ClsAt at e1 at_
      rw [e1] at at_
      cases at_
      obtain ⟨⟨oe, vs, ga, z, dd⟩, _, _⟩ := I1.hok a _ ea
      have hx : ObjOk X.prog X.w H1 s1.heap dx (.xd [("value", y)]) := I1.hok dx _ ed
      obtain ⟨mA, hns, rel⟩ := hx
      obtain ⟨od, ho, hl⟩ := lookIn_ns hns
      have lk : List.lookup ("value" : Str) [(("value" : Str), y)] = some y := by simp [List.lookup]
      obtain ⟨u2, hu, ru⟩ := RelO.some_of (v := y) (o := mA "value") (by rw [← lk]; exact rel "value")
      have T := (V.txt c hc).xf
      have J : PySem.W.InstAt s1.heap a oe (ad c) (some od) := ⟨ga, z.1, by unfold PySem.W.notCls; rw [dd] <;> rfl, by rw [z.2]; exact ho⟩
      exact HandSPX.exc_get I1.kIn J T.ga T.gg T.exC (PySem.W.findObj_own T.hdC (V.txt c hc).nov rfl (by rw [hl, hu])) (handed_of ru) ⟨y, H1, I1.tok _, ru, f y H1 .refl ry⟩
    · have hr : (if c ∈ cs then some (R.im v) else none) = some r := hr
      rw [if_neg hc] at hr
      cases hr
  | _ => cases hr
end

/-! ### isinstance of an exception class -/
/-- is it of the class c? -/
@[simp] def isE (cs : List Str) (c : Str) : D → Option Bool
  | .exc c' _ => if c' ∈ cs then some (decide (c' = c)) else none
  | .non => some false
  | _ => none
@[simp] def isEW (cs : List Str) (c : Str) (a : WO) : W := fun ρ t Q E => a ρ t (fun x ρ1 t1 => ∃ d b, rsv ρ1 x = some d ∧ isE cs c d = some b ∧ Q (.im (.bl b)) ρ1 t1) E
def rIsE (K : PySem.W.Frag) (cs : List Str) (c : Str) (C : Addr) : List V → Hp → VK → Prop := fun xs H Q => ∃ (x : V) (P M : PA1) (d : D) (b : Bool), xs = [x, .ref C] ∧ Rs K H P M d x ∧ isE cs c d = some b ∧ Q (.bl b) H
theorem call_isE {X : Cx} {c : Str} {cs : List Str} {fI CS : Addr} {ad : Str → Addr} (V : ExcS X.K X.mg cs fI CS ad) (hc : c ∈ cs) (hn : PySem.W.kitOne X.K (.type "NoneType") (.ref (ad c)) = some false) : CallR X (.builtin "isinstance") (rIsE X.K cs c (ad c)) := by
  intro pins s σ H xs us Q I r h
  obtain ⟨x, P, M, d, b, rfl, rd, e, q⟩ := h
  obtain ⟨u1, u2, rfl, r1, r2⟩ := vals2 r
  obtain rfl : u2 = Value.ref (ad c) := r2
  cases d with
  | non =>
    cases e
    have r1 := (rd.non) ▸ r1
    cases (show u1 = Value.none from r1)
    exact PySem.W.kia_one PySem.W.kitx_none I.kIn True.intro hn (fun z => nomatch z) fun tk => ⟨.bl false, H, I.tok tk, rfl, q⟩
  | exc c' v =>
    by_cases hc' : c' ∈ cs
    · have e : (if c' ∈ cs then some (decide (c' = c)) else none) = some b := e
      rw [if_pos hc'] at e
      cases e
      have rd : Rp X.K H P M (.exc c' v) x := rd
      rw [Rp] at rd
      obtain ⟨a, C, dx, y, rfl, at_, ea, ed, ry⟩ := rd
      cases (show u1 = Value.ref a from r1)
      have e1 := V.cat c' hc'
      unfold ClsAt at e1 at_
      rw [e1] at at_
      cases at_
      obtain ⟨⟨oe, vs, ga, z, dd⟩, _, _⟩ := I.hok a _ ea
      have hx : ObjOk X.prog X.w H s.heap dx (.xd [("value", y)]) := I.hok dx _ ed
      obtain ⟨mA, hns, rel⟩ := hx
      obtain ⟨od, ho, hl⟩ := lookIn_ns hns
      have T := V.txt c' hc'
      have J : PySem.W.InstAt s.heap a oe (ad c') (some od) := ⟨ga, z.1, by unfold PySem.W.notCls; rw [dd] <;> rfl, by rw [z.2]; exact ho⟩
      exact PySem.W.kia_one (PySem.W.kitx_exc T.hcl T.xf.ga T.xf.gg T.xf.exC T.hcc T.hsp T.htk T.hmo) I.kIn J (V.kit c' hc' c hc) (fun z => nomatch z) fun tk => ⟨.bl _, H, I.tok tk, rfl, q⟩
    · have e : (if c' ∈ cs then some (decide (c' = c)) else none) = some b := e
      rw [if_neg hc'] at e
      cases e
  | _ => cases e
section
variable {X : Cx} {EX : XK} {c : Str} {cs : List Str} {fI CS : Addr} {ad : Str → Addr} {e : Expr} {wa : WO} {p p2 pos : Pos}
theorem de_isE (V : ExcS X.K X.mg cs fI CS ad) (hc : c ∈ cs) (hn : PySem.W.kitOne X.K (.type "NoneType") (.ref (ad c)) = some false) (hgi : Gl X "isinstance") (hm : X.mg "isinstance" = none) (hg : Gl X c) (ha : DO X EX e wa) (hd : (c == ("__debug__" : Str)) = false := by decide)
    (he : starEach [e, .Name c p2] X.env = (false, eval e X.env) :: starEach [.Name c p2] X.env := by rfl) (he2 : starEach [.Name c p2] X.env = (false, eval (.Name c p2) X.env) :: starEach [] X.env := by rfl) (hpl : (backTo pos (starEach [.Name c p2] X.env)).any (·.1) = false := by rfl) :
    DE X EX (.Call (.Name "isinstance" p) [e, .Name c p2] [] pos) (isEW cs c wa) :=
  PE.imp (pe_callB (call_isE V hc hn) hgi hm PyProof.Rows.boot_isinstance (pa_cons ha (pa_cons (pe_glob (v := .ref (ad c)) hg (V.g c hc) rfl hd) pa_nil he2) he) (by decide) (by decide) he hpl) fun σ H Q h => by
    obtain ⟨G, P, ρ, t, Q', E, S, hw, lk, hq⟩ := h
    refine ⟨G, P, ρ, t, _, E, S, hw, lk, fun o ρ1 t1 x H1 P1 h1 r1 => ?_⟩
    obtain ⟨d, b, e1, e2, q⟩ := h1
    have S1 := r1.sat
    exact ⟨x, P1, Mx G.F P1 ρ1 σ, d, b, rfl, rsv_ok S1 r1 e1, e2, hq _ _ _ _ _ P1 q ⟨S1, rp_bl'⟩⟩
end
/-- what the walks of a law with exceptions ask of the text -/
structure Ec (Pr : Program) (w : World) (K : PySem.W.Frag) (mg : Str → Option Value) (base : Heap) (cs : List Str) (fI CS : Addr) (ad : Str → Addr) (fd : FuncData) : Prop where
  es : ExcS K mg cs fI CS ad
  io : FnOk Pr w K mg base CX0 1 fI fd ["self", "value"] (spInit K)
  bi : Binds K fd ["self", "value"] []
  kn : ∀ d ∈ cs, PySem.W.kitOne K (.type "NoneType") (.ref (ad d)) = some false
  tb : TabsB K mg base
  tu : TabU K
/-- a method of a class statement -/
def methS (st : Stmt) (j : Nat) : Stmt := match st with
  | .ClassDef (body := b) .. => b.getD j (.Pass ⟨0, 0, 0, 0⟩)
  | s => s
section
variable {X : Cx} {EX : XK} {x : Str} {pos : Pos} {z : Str}
theorem de_gstr (hg : Gl X x) (h : ∃ t, X.mg x = some (.str z t)) (hd : (x == ("__debug__" : Str)) = false := by decide) : DE X EX (.Name x pos) (pureW (.im (.str z))) := by
  obtain ⟨t, h⟩ := h
  exact de_const (pe_glob (v := .str z) hg h ⟨t, rfl⟩ hd) fun _ _ _ => rp_str
end
end NB
set_option Elab.async false
set_option linter.all false
set_option maxRecDepth 100000
set_option maxHeartbeats 4000000
set_option autoImplicit false
/-! sorted(set(t)) of a tuple of plain ints. -/
namespace NB
open PySem PySem.Spec PyProof.Rows L2

theorem nodup_le : ∀ {xs ys : List Int}, xs.Nodup → (∀ x ∈ xs, x ∈ ys) → xs.length ≤ ys.length
  | [], ys, _, _ => Nat.zero_le _
  | x :: xs, ys, h, g => by
    obtain ⟨h1, h2⟩ := List.nodup_cons.mp h
    have hx := g x List.mem_cons_self
    have := nodup_le (ys := ys.erase x) h2 fun y hy => (List.mem_erase_of_ne (fun e => h1 (by rw [← e]; exact hy))).mpr (g y (List.mem_cons_of_mem _ hy))
    rw [List.length_erase_of_mem hx] at this
    have := List.length_pos_of_mem hx
    rw [List.length_cons]
    omega
theorem setR_few {w : World} {h : Heap} {a : Addr} {ks M : List Int} {c : Nat} (R : SetR w h a (fun j => decide (j ∈ ks)) c) (hM : ∀ k ∈ ks, k ∈ M) : c ≤ M.length := by
  obtain ⟨o, es, ep, t, _, _, _, _, nd, hm, _, _, hn, _⟩ := R
  have := nodup_le nd fun x hx => hM x (of_decide_eq_true ((hm x).mpr hx))
  rw [List.length_map, Array.length_toList] at this
  omega
def rSetI (K : PySem.W.Frag) (w : World) : List V → Hp → VK → Prop := fun vs H Q => ∃ (l : Addr) (ks M : List Int), vs = [V.ref l] ∧ SqT K H l (ks.map V.int) ∧ ks.length ≤ 4000 ∧ (∀ k ∈ ks, k ∈ M) ∧
  ∀ a c, H a = none → c ≤ M.length → Q (.ref a) (upd H a (SetO w a (fun j => decide (j ∈ ks)) c))
theorem cr_setI {X : Cx} (hc : X.calm = true) : CallR X (.type "set") (rSetI X.K X.w) := by
  intro pins s σ H vs us Q I r h
  obtain ⟨l, ks, M, rfl, hl, few, hM, q⟩ := h
  rw [Vals.ref1 r]
  obtain ⟨its, rv, pl, hz⟩ := I.tuple hl
  refine call_set_tupI ks (I.ok.hd hc) (show s.heap.IsTuple l its.toArray from pl) (by simpa using intsAre_of rv) (by unfold scanBound; omega) ?_
  intro h' tk c R hcn k
  exact ⟨.ref s.heap.objs.size, _, I.laid (t' := tk) k (Nat.le_refl _) (setO_new R), rfl, q _ c (I.hok.fresh (Nat.le_refl _)) (setR_few R hM)⟩
/-- sorted(set(t)): rising, the same members -/
@[simp] def sortSetIW (a : WO) : W := fun ρ t Q E => a ρ t (fun x ρ1 t1 => ∃ (ds : List D) (ks M : List Int), rsv ρ1 x = some (.tup ds) ∧ intsD ds = some ks ∧ ks.length ≤ 4000 ∧ (∀ k ∈ ks, k ∈ M) ∧ M.length < 64 ∧
  ∀ es : List Int, (∀ e, e ∈ es ↔ e ∈ ks) → es.Pairwise (· < ·) → Q (.nw (es.map .int)) ρ1 t1) E
section
variable {X : Cx} {EX : XK} {e : Expr} {wa : WO} {p p1 pos pos1 : Pos}
theorem de_sortSetI (hc : X.calm = true) (hg : Gl X "sorted") (hm : X.mg "sorted" = none) (hg1 : Gl X "set") (hm1 : X.mg "set" = none) (ha : DO X EX e wa) (he : starEach [e] X.env = (false, eval e X.env) :: starEach [] X.env := by rfl)
    (he1 : starEach [.Call (.Name "set" p1) [e] [] pos1] X.env = (false, eval (.Call (.Name "set" p1) [e] [] pos1) X.env) :: starEach [] X.env := by rfl) (hpl : ∀ q, (backTo q (starEach [] X.env)).any (·.1) = false := by intro; rfl) :
    DE X EX (.Call (.Name "sorted" p) [.Call (.Name "set" p1) [e] [] pos1] [] pos) (sortSetIW wa) :=
  PE.imp (pe_callB (cr_sortedSet hc) hg hm PyProof.Rows.boot_sorted (pa_cons (pe_callTy (cr_setI hc) hg1 hm1 PyProof.Rows.boot_set (pa_cons ha pa_nil he) (by decide) (by decide) he (hpl _)) pa_nil he1) (by decide) (by decide) he1 (hpl _)) fun σ H Q h => by
    obtain ⟨G, P, ρ, t, Q', E, S, hw, lk, hq⟩ := h
    refine ⟨G, P, ρ, t, _, E, S, hw, lk, fun o ρ1 t1 x H1 P1 h1 r1 => ?_⟩
    obtain ⟨ds, ks, M, e1, e2, few, hM, h64, q⟩ := h1
    have S1 := r1.sat
    obtain ⟨l, xs, rfl, ta, ra⟩ := (rsv_ok S1 r1 e1).tp
    rw [intsD_some e2] at ra
    rw [ra_ints_inv ra] at ta
    refine ⟨l, ks, M, rfl, ta, few, hM, fun a c na hcn => ?_⟩
    have k1 : Kp X.K (fun _ => False) H1 (upd H1 a (SetO X.w a (fun j => decide (j ∈ ks)) c)) := kp_upd na
    refine ⟨a, _, c, rfl, upd_same, by omega, fun es b pw mem _ nb => ?_⟩
    have k2 := k1.trans (kp_upd (o := .lst (es.map V.int)) nb) fun _ _ _ z => z.elim
    have nb1 : H1 b = none := by
      by_cases hb : b = a
      · rw [hb]; exact na
      · rw [upd_ne hb] at nb; exact nb
    refine hq _ ρ1 t1 _ _ P1 (q es (fun e => by rw [mem e]; simp) pw) (rz_rs S1 k2 ⟨b, _, rfl, nb1, upd_same, ra_ints es⟩)
end
/-! ### sorted(xs) of a tuple -/
section
variable {prog : Program} {w : World} {A : Around} {E : Value → Shared → Prop} {s : Shared}
theorem collect_tup {l : Addr} {vs : List Value} {Q : List Value → Shared → Prop} (hl : s.heap.IsTuple l vs.toArray)
    (h : Q vs { s with heap := (s.heap.push (seqObj "list" #[] 0)).update s.heap.objs.size (Obj.mapSeq (· ++ vs.toArray)) }) (hsz : vs.length ≤ sizeLine) :
    wpAny (model prog w) A (collect (.ref l)) Q E s := by
  obtain ⟨o, ho, hc, n, hd⟩ := id hl
  unfold collect
  refine wpAny_bind (wpAny_runValue (codeAny_builtin entry_proto_collect' ?_))
  show wpAny _ _ (do again (.builtin "list.__iadd__" ⟨[← newList [], .ref l], []⟩)) _ _ s
  refine wpAny_bind (wpAny_newList (wpAny_pure ⟨Code.quiet_builtin _ (by decide +kernel), codeAny_builtin entry_list_iadd' ?_⟩))
  show wpAny _ _ (Builtin.List.listExtendWith (.ref s.heap.objs.size) (.ref l) (.ref s.heap.objs.size)) _ _ { s with heap := s.heap.push (seqObj "list" #[] 0) }
  unfold Builtin.List.listExtendWith
  have ho' : (s.heap.push (seqObj "list" #[] 0)).get? l = some o := Heap.get?_push_of_some _ ho
  refine wpAny_bind (wpAny_typeOf (T := "tuple") ⟨o, ho', hc⟩ ?_)
  have ht : (Value.type "tuple" == Value.type "tuple") = true := by rfl
  rw [if_pos (by rw [ht]; simp)]
  refine wpAny_bind (listItems_at ho' hd ?_)
  refine wpAny_bind (listItems_at (xs := #[]) (n := 0) (Heap.get?_push_size _ rfl) rfl ?_)
  rw [if_neg (by simp)]
  refine wpAny_bind (listUpdate_at (xs := #[]) (n := 0) (Heap.get?_push_size _ rfl) rfl ?_ (Nat.zero_le _) (by show (#[] ++ vs.toArray).size ≤ sizeLine + 1; simp only [Array.size_append, List.size_toArray, List.length_nil]; omega))
  refine wpAny_pure ?_
  show wpAny (model prog w) A (do
      let o ← load s.heap.objs.size
      match o.data with
      | .seq xs _ => pure xs.toList
      | _ => unsupported "internal:collect") Q E { s with heap := (s.heap.push (seqObj "list" #[] 0)).update s.heap.objs.size (Obj.mapSeq (· ++ vs.toArray)) }
  refine wpAny_bind (wpAny_load (get?_update_seq (Heap.get?_push_size _ rfl) _) ?_)
  show wpAny _ _ (pure ((#[] : Array Value) ++ vs.toArray).toList) Q E _
  rw [show ((#[] : Array Value) ++ vs.toArray).toList = vs by simp]
  exact wpAny_pure h
theorem sorted_of_tup {l : Addr} {vs : List Value} {Q : Value → Shared → Prop} (hl : s.heap.IsTuple l vs.toArray) (hL : vs.length ≤ sizeLine)
    (body : ∀ E' : Value → Shared → Prop, wpAny (model prog w) A.in1.in1 (Builtin.«list.sort» ⟨[.ref (s.heap.objs.size + 1)], []⟩) (fun f s' => f = .done (.ret .none) ∧ Q (.ref (s.heap.objs.size + 1)) s') E' { s with heap := PySem.W.copyHeap s.heap vs }) :
    wpAny (model prog w) A (call (.builtin "sorted") [.ref l] []) Q E s := by
  refine call_function_entry_kw kind_sorted plain_sorted entry_sorted (args_sorted1 _) ?_
  unfold Builtin.«sorted»
  refine wpAny_bind (m := checkCount "sorted" 1 1 _) (wpAny_pure ?_)
  refine wpAny_bind (collect_tup hl ?_ hL)
  refine wpAny_bind (wpAny_newList ?_ hL)
  have hsz : ((s.heap.push (seqObj "list" #[] 0)).update s.heap.objs.size (Obj.mapSeq (· ++ vs.toArray))).objs.size = s.heap.objs.size + 1 := by
    rw [Heap.size_update, size_push']
  show wpAny _ _ _ _ _ { s with heap := PySem.W.copyHeap s.heap vs }
  rw [hsz]
  refine wpAny_bind (wpAny_holding (wpAny_call_entry_kw slot_list_sort ⟨_, PySem.W.copyHeap_at s.heap vs, rfl⟩ entry_list_sort ?body (args_list_sort _)))
  case body =>
    show wpAny (model prog w) A.in1.in1 (Builtin.«list.sort» ⟨[.ref (s.heap.objs.size + 1)], []⟩) _ _ _
    refine wpAny_mono (body _) (fun f s' hf => ?_) fun _ _ e => e
    obtain ⟨rfl, hq⟩ := hf
    exact ⟨_, rfl, wpAny_pure ⟨_, rfl, hq⟩⟩
open PySem.W in
theorem sorted_dataT {β : Type} {vs : List Value} {bs : List β} {enc : β → PyData} {R : Value → β → Prop} {l : Addr} {Q : Value → Shared → Prop} (hl : s.heap.IsTuple l vs.toArray) (e : EachIs R vs bs) (er : EachIs (fun v b => ∃ as, Reads s.heap v (enc b) as) vs bs) (hal : AllAlike (bs.map enc)) (hk : Sortable (bs.map enc)) (hL : bs.length ≤ sizeLine)
    (hu : ∀ b, b ∈ bs → A.units + 2 + (enc b).depth < cLine) (h : ∀ out, out.length = bs.length → EachIs R out (bs.mergeSort (dataLe false enc)) → Q (.ref (s.heap.objs.size + 1)) { s with heap := sortedAll s.heap vs (List.toArray out) }) :
    wpAny (model prog w) A (call (.builtin "sorted") [.ref l]) Q E s := by
  have er' : EachIs (fun v b => ∃ as, Reads (sortingHeap (copyHeap s.heap vs) (s.heap.objs.size + 1) vs) v (enc b) as) vs bs := er.mono fun _ _ ⟨as, r⟩ => ⟨as, PyProof.Rows.Reads.keeps (fun _ _ => sorting_copy_old) r⟩
  exact sorted_of_tup hl (by rw [e.length]; exact hL) fun _ => list_sort_vals (s := { s with heap := copyHeap s.heap vs }) (copyHeap_at s.heap vs) (SortsAt.data (s := { s with heap := sortingHeap (copyHeap s.heap vs) (s.heap.objs.size + 1) vs }) (each_map (R := fun v d => ∃ as, Reads (sortingHeap (copyHeap s.heap vs) (s.heap.objs.size + 1) vs) v d as) enc er') hal hk (bound_map hu)) (by rw [e.length]; exact hL)
    ⟨rfl, h _ (by rw [sortVals_length false rfl]; exact e.length) (sortVals_data false e er' hal)⟩
end
section
variable {X : Cx}
theorem cr_sortDT (hu : X.A.units + 64 < cLine) : CallR X (.builtin "sorted") (fun vs H Q => ∃ (P M : PA1) (v : V) (ds : List D), vs = [v] ∧ Rs X.K H P M (.tup ds) v ∧ SortOk ds ∧ Fit X.K H P M (some (.nw (srt ds))) Q) := by
  intro pins s σ H vs us Q I r h
  obtain ⟨P, M, v, ds, rfl, rd, ok, f⟩ := h
  obtain ⟨a, xs, rfl, ta, ra⟩ := rd.tp
  obtain ⟨its, rv, pl, hz⟩ := I.tuple ta
  rw [Vals.ref1 r]
  have e := each_of ra rv
  refine sorted_dataT (R := fun v d => ∃ x, RelV x v ∧ Rp X.K H P M d x) (enc := D.py) (show s.heap.IsTuple a its.toArray from pl) e ?_ ok.al ok.so ok.ln (fun b hb => ?_) fun out ho eo => ?_
  · exact each_and e fun v d hd ⟨x, r1, h1⟩ => Dp.reads I _ x v (h1.dp (okL_mem ok.ok d hd)) r1
  · rw [depth_py]
    have := ok.dp b hb
    omega
  · obtain ⟨ys, r1, ra2⟩ := each_back eo
    obtain ⟨c, hc⟩ := sortedAll_at s.heap its out.toArray
    have hlen : ys.length ≤ sizeLine := by rw [r1.length, ho]; exact ok.ln
    have J : Inv X pins σ (upd H (s.heap.objs.size + 1) (.lst ys)) { s with heap := sortedAll s.heap its (List.toArray out) } :=
      I.laid (t' := s.toks) (fun b o q => sortedAll_old q) (Nat.le_succ _) (show ObjOk X.prog X.w _ _ _ (.lst ys) from ⟨hlen, out, c, r1, hc⟩)
    exact ⟨.ref _, _, J, rfl, f.lst ra2 _ (I.hok.fresh (Nat.le_succ _))⟩
end
@[simp] def sortTW (a : WO) : W := fun ρ t Q E => a ρ t (fun x ρ1 t1 => ∃ ds, rsv ρ1 x = some (.tup ds) ∧ SortOk ds ∧ Q (.nw (srt ds)) ρ1 t1) E
section
variable {X : Cx} {EX : XK} {e : Expr} {wa : WO} {p pos : Pos}
theorem de_sortedT (hu : X.A.units + 64 < cLine) (hg : Gl X "sorted") (hm : X.mg "sorted" = none) (ha : DO X EX e wa) (he : starEach [e] X.env = (false, eval e X.env) :: starEach [] X.env := by rfl) (hpl : (backTo pos (starEach [] X.env)).any (·.1) = false := by rfl) :
    DE X EX (.Call (.Name "sorted" p) [e] [] pos) (sortTW wa) :=
  PE.imp (pe_callB (cr_sortDT hu) hg hm PyProof.Rows.boot_sorted (pa_cons ha pa_nil he) (by decide) (by decide) he hpl) fun σ H Q h => by
    obtain ⟨G, P, ρ, t, Q', E, S, hw, lk, hq⟩ := h
    refine ⟨G, P, ρ, t, _, E, S, hw, lk, fun o ρ1 t1 x H1 P1 h1 r1 => ?_⟩
    obtain ⟨ds, e1, ok, q⟩ := h1
    have S1 := r1.sat
    exact ⟨P1, Mx G.F P1 ρ1 σ, x, ds, rfl, rsv_ok S1 r1 e1, ok, _, rfl, fun z H' k rz => hq _ ρ1 t1 z H' P1 q (rz_rs S1 k rz)⟩
end
/-! ### a list that is kept as data from the time it is set -/
@[simp] def frzI (i : Nat) (ρ : List Sl) : List Sl := match ρ[i]? with
  | some (.ow ds) => ρ.set i (.im (.lst ds))
  | _ => ρ
@[simp] def thenF (i : Nat) (a : WS) : WS := fun ρ t k => a ρ t { k with nx := fun ρ' t' => k.nx (frzI i ρ') t' }
theorem ds_thenF {X : Cx} {EX : XK} {st : Stmt} {i : Nat} {a : WS} (h : DS X EX st a) : DS X EX st (thenF i a) := PS.imp h fun D σ H h => by
  obtain ⟨G, P, ρ, t, k, S, hw, lk, hn, hb, hc, hr⟩ := h
  refine ⟨G, P, ρ, t, _, S, hw, lk, fun ρ' t' σ' H' P' z S' => ?_, hb, hc, hr⟩
  have z : k.nx (frzI i ρ') t' := z
  unfold frzI at z
  split at z
  · rename_i ds e
    exact hn _ _ _ _ P' z (S'.freeze e).1
  · exact hn _ _ _ _ P' z S'
end NB
set_option Elab.async false
set_option linter.all false
set_option maxRecDepth 100000
set_option maxHeartbeats 4000000
set_option autoImplicit false
/-! What the text behind the top says, gathered. -/
namespace NB
open PySem PySem.Spec PyProof.Rows L2

section
variable {K : PySem.W.Frag} {h : Heap} {mg : Str → Option Value}
/-- where a def stands -/
def At (K : PySem.W.Frag) (x : Str) (st : Stmt) : Prop := ∃ (f : Addr) (oc : Value) (od : Option Addr) (kV doc pm : Value) (an : Option Addr) (cd ct : Value) (sl : Array (Option Value)), PySem.W.nsIn K mainGlobals x = some (some (.ref f)) ∧ K.lookup f = some ⟨oc, od, .func (PySem.W.fnOf x x (defArgs st) (defBody st) (defScope st) .none kV doc pm an cd ct), sl⟩ ∧ PySem.W.codeIn K cd x = true ∧ PySem.W.keepIn K (.ref f) = true
theorem at_mk {x : Str} {st : Stmt} {f : Addr} {oc : Value} {od : Option Addr} {kV doc pm : Value} {an : Option Addr} {cd ct : Value} {sl : Array (Option Value)} (a : PySem.W.nsIn K mainGlobals x = some (some (.ref f)))
    (l : K.lookup f = some ⟨oc, od, .func (PySem.W.fnOf x x (defArgs st) (defBody st) (defScope st) .none kV doc pm an cd ct), sl⟩) (c : PySem.W.codeIn K cd x = true) (k : PySem.W.keepIn K (.ref f) = true) : At K x st := ⟨_, _, _, _, _, _, _, _, _, _, a, l, c, k⟩
theorem df_of (X : K.In h) (G : h.Ns mainGlobals mg) {x : Str} {st : Stmt} {ps : List Str} (a : At K x st)
    (hb : ∀ (kV doc pm : Value) (an : Option Addr) (cdv ct : Value) (us : List Value), us.length = ps.length → bindArgs (PySem.W.fnOf x x (defArgs st) (defBody st) (defScope st) .none kV doc pm an cdv ct) ⟨us, []⟩ = pure (ps.zip us)) : Df K mg x st ps := by
  obtain ⟨f, oc, od, kV, doc, pm, an, cd, ct, sl, a1, l1, c1, k1⟩ := a
  exact ⟨f, _, fun_mk l1 c1 k1, PySem.W.mg_of X G a1, (fun_mk l1 c1 k1).binds hb⟩
/-- where a def that makes lambdas stands -/
def AtL (K : PySem.W.Frag) (x : Str) (st : Stmt) : Prop := ∃ (f : Addr) (oc : Value) (od : Option Addr) (kV doc pm : Value) (an : Option Addr) (c : Addr) (ct : Value) (sl : Array (Option Value)), PySem.W.nsIn K mainGlobals x = some (some (.ref f)) ∧ K.lookup f = some ⟨oc, od, .func (PySem.W.fnOf x x (defArgs st) (defBody st) (defScope st) .none kV doc pm an (.ref c) ct), sl⟩ ∧ PySem.W.codeIn K (.ref c) x = true ∧ PySem.W.keepIn K (.ref f) = true ∧
  (PySem.W.tabIn K x).map (·.1) = some c
theorem at_mkL {x : Str} {st : Stmt} {f : Addr} {oc : Value} {od : Option Addr} {kV doc pm : Value} {an : Option Addr} {c : Addr} {ct : Value} {sl : Array (Option Value)} (a : PySem.W.nsIn K mainGlobals x = some (some (.ref f)))
    (l : K.lookup f = some ⟨oc, od, .func (PySem.W.fnOf x x (defArgs st) (defBody st) (defScope st) .none kV doc pm an (.ref c) ct), sl⟩) (d : PySem.W.codeIn K (.ref c) x = true) (k : PySem.W.keepIn K (.ref f) = true) (t : (PySem.W.tabIn K x).map (·.1) = some c) : AtL K x st := ⟨_, _, _, _, _, _, _, _, _, _, a, l, d, k, t⟩
theorem dfl_of (X : K.In h) (G : h.Ns mainGlobals mg) {x : Str} {st : Stmt} {ps : List Str} (a : AtL K x st)
    (hb : ∀ (kV doc pm : Value) (an : Option Addr) (cdv ct : Value) (us : List Value), us.length = ps.length → bindArgs (PySem.W.fnOf x x (defArgs st) (defBody st) (defScope st) .none kV doc pm an cdv ct) ⟨us, []⟩ = pure (ps.zip us)) : DfL K mg x st ps := by
  obtain ⟨f, oc, od, kV, doc, pm, an, c, ct, sl, a1, l1, c1, k1, t1⟩ := a
  obtain ⟨⟨c', P⟩, t2, t3⟩ := Option.map_eq_some_iff.mp t1
  have t3 : c' = c := t3
  subst t3
  exact ⟨f, oc, od, kV, doc, pm, an, _, ct, sl, c', P, l1, c1, k1, PySem.W.mg_of X G a1, (fun_mk l1 c1 k1).binds hb, rfl, t2⟩
/-- where a tuple of texts stands -/
def AtT (K : PySem.W.Frag) (x : Str) (xs : List Str) : Prop := ∃ (a : Addr) (od : Option Addr) (its : Array Value) (n : Nat) (sl : Array (Option Value)), PySem.W.nsIn K mainGlobals x = some (some (.ref a)) ∧ K.lookup a = some ⟨.type "tuple", od, .seq its n, sl⟩ ∧ its.size ≤ sizeLine ∧ Vals (xs.map V.str) its.toList
theorem at_mkT {x : Str} {xs : List Str} {a : Addr} {od : Option Addr} {its : Array Value} {n : Nat} {sl : Array (Option Value)} (h : PySem.W.nsIn K mainGlobals x = some (some (.ref a))) (l : K.lookup a = some ⟨.type "tuple", od, .seq its n, sl⟩)
    (s : its.size ≤ sizeLine) (v : Vals (xs.map V.str) its.toList) : AtT K x xs := ⟨_, _, _, _, _, h, l, s, v⟩
theorem gt_of (X : K.In h) (G : h.Ns mainGlobals mg) {x : Str} {xs : List Str} (t : AtT K x xs) : ∃ u, mg x = some u ∧ TupK K u (xs.map V.str) := by
  obtain ⟨a, od, its, n, sl, h1, h2, h3, h4⟩ := t
  exact ⟨_, PySem.W.mg_of X G h1, a, _, its, n, rfl, h2, rfl, rfl, h3, h4⟩
theorem gi_of (X : K.In h) (G : h.Ns mainGlobals mg) {x : Str} {i : Int} {t : Nat} (a : PySem.W.nsIn K mainGlobals x = some (some (.int i t))) : ∃ t, mg x = some (.int i t) := ⟨_, PySem.W.mg_of X G a⟩
theorem gs_of (X : K.In h) (G : h.Ns mainGlobals mg) {x : Str} {z : Str} {t : Nat} (a : PySem.W.nsIn K mainGlobals x = some (some (.str z t))) : ∃ t, mg x = some (.str z t) := ⟨_, PySem.W.mg_of X G a⟩

/-! ### exceptions -/
/-- a class of exceptions -/
structure ExcN (K : PySem.W.Frag) (c : Str) (C fI CS : Addr) : Prop where
  at_ : PySem.W.nsIn K mainGlobals c = some (some (.ref C))
  txt : ExcT K C
  ini : PySem.W.findIn K (.ref C) "__init__" = some (some (.ref fI))
  exm : PySem.W.exmOne K (.ref C) (.ref CS) = some true
  kn : PySem.W.kitOne K (.type "NoneType") (.ref C) = some false
theorem exc_mk {c : Str} {C fI CS : Addr} {nm q N bs bm sn sub ab col dd k0 k1 k2 k3 k5} (a : PySem.W.nsIn K mainGlobals c = some (some (.ref C))) (l : K.lookup C = some (excClassObj nm q C N bs bm true sn sub ab col dd k0 k1 k2 k3 k5 "ValueError.__new__")) (rv : PySem.HandSPX.refsVE bm = true)
    (sa : PySem.W.findIn K (.ref C) "__setattr__" = some (some (.builtin "object.__setattr__"))) (exC : PySem.W.subIn K (.ref C) (.type "BaseException") = some true) (tyC : PySem.W.typeIn K (.ref C) = some (.type "type")) (kC : PySem.W.keepIn K (.ref C) = true)
    (ga : PySem.W.findIn K (.ref C) "__getattribute__" = some (some (.builtin "BaseException.__getattribute__"))) (gg : PySem.W.findIn K (.ref C) "__getattr__" = some none) (hd : PySem.W.hasDictIn K C = true) (nov : PySem.W.findIn K (.ref C) "value" = some none) (hcl : (PySem.W.clsIn K C).isSome = true)
    (hcc : PySem.W.findIn K (.ref C) "__class__" = some (some (.builtin "object.__class__"))) (hsp : PySem.W.specialIn K (.builtin "object.__class__") "__get__" = some (some (.builtin "getset_descriptor.__get__"))) (htk : PySem.W.takesIn K (.builtin "object.__class__") = some true) (hmo : PySem.W.mroIn K C (.type "object") = some true)
    (ini : PySem.W.findIn K (.ref C) "__init__" = some (some (.ref fI))) (exm : PySem.W.exmOne K (.ref C) (.ref CS) = some true) (kn : PySem.W.kitOne K (.type "NoneType") (.ref C) = some false) : ExcN K c C fI CS :=
  ⟨a, ⟨⟨⟨nm, q, N, bs, bm, sn, sub, ab, col, dd, k0, k1, k2, k3, k5, l, rv⟩, sa, exC, tyC, kC⟩, ⟨ga, gg, exC, hd⟩, nov, hcl, hcc, hsp, htk, hmo⟩, ini, exm, kn⟩
theorem excS_of (X : K.In h) (G : h.Ns mainGlobals mg) {cs : List Str} {fI CS : Addr} {ad : Str → Addr} (l : PySem.W.nsIn K mainGlobals "LiftError" = some (some (.ref CS))) (tf : PySem.W.typeIn K (.ref fI) = some (.type "function")) (E : ∀ c ∈ cs, ExcN K c (ad c) fI CS)
    (kit : ∀ c ∈ cs, ∀ d ∈ cs, PySem.W.kitOne K (.ref (ad c)) (.ref (ad d)) = some (decide (c = d))) : ExcS K mg cs fI CS ad :=
  ⟨PySem.W.mg_of X G l, fun c hc => (E c hc).at_, fun c hc => PySem.W.mg_of X G (E c hc).at_, fun c hc => (E c hc).txt, fun c hc => ⟨(E c hc).ini, tf⟩, fun c hc => (E c hc).exm, kit⟩
/-- where LiftError.__init__ stands, and what it needs -/
structure AtI (K : PySem.W.Frag) (st : Stmt) (fI : Addr) : Prop where
  ex : ∃ (oc : Value) (od : Option Addr) (kV doc pm : Value) (an : Option Addr) (cd ct : Value) (sl : Array (Option Value)), K.lookup fI = some ⟨oc, od, .func (PySem.W.fnOf "__init__" "LiftError.__init__" (defArgs st) (defBody st) (defScope st) .none kV doc pm an cd ct), sl⟩ ∧ PySem.W.codeIn K cd "LiftError.__init__" = true ∧ PySem.W.keepIn K (.ref fI) = true
  ve : PySem.W.findCls K (.type "ValueError") (.type "type") "__init__" = some (.val (.builtin "ValueError.__init__"))
theorem at_mkI {st : Stmt} {f : Addr} {oc : Value} {od : Option Addr} {kV doc pm : Value} {an : Option Addr} {cd ct : Value} {sl : Array (Option Value)}
    (l : K.lookup f = some ⟨oc, od, .func (PySem.W.fnOf "__init__" "LiftError.__init__" (defArgs st) (defBody st) (defScope st) .none kV doc pm an cd ct), sl⟩) (c : PySem.W.codeIn K cd "LiftError.__init__" = true) (k : PySem.W.keepIn K (.ref f) = true)
    (ve : PySem.W.findCls K (.type "ValueError") (.type "type") "__init__" = some (.val (.builtin "ValueError.__init__"))) : AtI K st f := ⟨⟨_, _, _, _, _, _, _, _, _, l, c, k⟩, ve⟩
/-- the same def for all bases -/
structure InitS (Pr : Program) (w : World) (K : PySem.W.Frag) (mg : Str → Option Value) (fI : Addr) (fd : FuncData) : Prop where
  io : ∀ base : Heap, FnOk Pr w K mg base CX0 1 fI fd ["self", "value"] (spInit K)
  bi : Binds K fd ["self", "value"] []

/-! ### tables -/
def tabUB (K : PySem.W.Frag) : Bool := lamNames.all fun x => lamNames.all fun y => (x == y) || !((PySem.W.tabIn K x).map (·.2) == (PySem.W.tabIn K y).map (·.2)) || (PySem.W.tabIn K x).isNone
theorem tabU_of (h : tabUB K = true) : TabU K := fun x hx y hy c c' P e e' => by
  have h := List.all_eq_true.mp (List.all_eq_true.mp h x hx) y hy
  rw [e, e'] at h
  simpa using h
def tabNB (K : PySem.W.Frag) : Bool := lamNames.all fun x => ((PySem.W.tabIn K x).bind fun p => K.lookup p.2).isNone
theorem tabN_of (h : tabNB K = true) : ∀ x ∈ lamNames, ∀ c P, PySem.W.tabIn K x = some (c, P) → K.lookup P = none := fun x hx c P e => by
  have h := List.all_eq_true.mp h x hx
  rw [e] at h
  simpa using h
theorem recs_of {q : Program} (h : (lamNames.all fun x => ((recsOf q).find? (fun e => e.name == x)).isSome) = true) : ∀ x ∈ lamNames, ∃ d, (recsOf q).find? (fun e => e.name == x) = some d := fun x hx => Option.isSome_iff_exists.mp (List.all_eq_true.mp h x hx)
end
end NB
set_option Elab.async false
set_option linter.all false
set_option maxRecDepth 100000
set_option maxHeartbeats 4000000
set_option autoImplicit false
/-! str.join, starred displays, int of a text, `is True`, three names at once. -/
namespace NB
open PySem PySem.Spec PyProof.Rows L2

section
variable {X : Cx} {EX : XK} {e a b c : Expr} {es : List Expr} {p pos : Pos} {w wa wb wc : W} {r : Wg (List D)}
/-- the items of a list or a tuple -/
@[simp] def itsD : D → Option (List D)
  | .tup ds => some ds
  | d => d.ls
theorem its_ok {K : PySem.W.Frag} {H : Hp} {P M : PA1} {d : D} {v : V} {ds : List D} (h : Rs K H P M d v) (e : itsD d = some ds) : ∃ q xs, v = V.ref q ∧ (SqT K H q xs ∨ SqL K H q xs) ∧ RpA K H P M ds xs := by
  cases d with
  | tup es =>
    cases e
    obtain ⟨q, xs, rfl, ta, ra⟩ := h.tp
    exact ⟨q, xs, rfl, .inl ta, ra⟩
  | lst es =>
    obtain ⟨q, xs, rfl, ta, ra⟩ := h.ls (show (D.lst es).ls = some ds from e)
    exact ⟨q, xs, rfl, .inr ta, ra⟩
  | scr ns =>
    obtain ⟨q, xs, rfl, ta, ra⟩ := h.ls (show (D.scr ns).ls = some ds from e)
    exact ⟨q, xs, rfl, .inr ta, ra⟩
  | _ => cases e
@[simp] def starD (w : W) (r : Wg (List D)) : Wg (List D) := fun ρ t Q E => w ρ t (fun x ρ1 t1 => ∃ ds, itsD x.d = some ds ∧ r ρ1 t1 (fun xs ρ2 t2 => Q (ds ++ xs) ρ2 t2) E) E
theorem da_star (he : DE X EX e w) (hr : DA X EX es r) (hs : starEach (.Starred e p :: es) X.env = (true, eval e X.env) :: starEach es X.env := by rfl) : DA X EX (.Starred e p :: es) (starD w r) := PA.imp (StX.pa_star he hr hs) fun σ H Q h => by
  obtain ⟨G, P, ρ, t, Q', E, S, hw, lk, hq⟩ := h
  refine ⟨G, P, ρ, t, _, E, S, hw, lk, fun o ρ1 t1 x H1 P1 h1 r1 => ?_⟩
  obtain ⟨ds, e1, h1⟩ := h1
  obtain ⟨S1, p1⟩ := r1.im
  obtain ⟨q, xs, rfl, tq, ra⟩ := its_ok p1.rs e1
  refine ⟨q, xs, rfl, tq, G.holds (ds.zip xs), P1, ρ1, t1, _, E, S1.holds fun p hp => ?_, h1, lk.holds, fun os ρ2 t2 ys H2 P2 h2 r2 => ?_⟩
  · obtain ⟨i, hi⟩ := List.getElem?_of_mem hp
    rw [List.getElem?_zip_eq_some] at hi
    obtain ⟨y, g1, g2⟩ := ra.get hi.1
    rw [hi.2] at g1; cases g1
    exact g2
  · obtain ⟨S2, p2⟩ := r2
    obtain ⟨S3, hh⟩ := S2.unholds
    exact hq _ _ _ _ _ P2 h2 ⟨S3, (zip_ra ra.length hh).append p2⟩

/-! ### join -/
@[simp] def joinD : D → D → Option R
  | .str a, d => (itsD d).bind fun ds => (strsD ds).bind fun zs => if (zs.map (·.length)).sum + zs.length * a.length ≤ 16777216 then some (.im (.str (Txt.join a zs))) else none
  | _, _ => none
theorem mt_joinD : Mt1 X "str.join" joinD := by
  intro pins s σ H x xs v us Q I rx rxs ⟨P, M, d, e, y, exs, h1, h2, _, f⟩
  unfold joinD at f
  split at f
  · rename_i a
    cases e1 : itsD e with
    | none => rw [e1] at f; exact f.no.elim
    | some ds =>
      cases e2 : strsD ds with
      | none => rw [e1] at f; simp only [Option.bind_some, e2, Option.bind_none] at f; exact f.no.elim
      | some zs =>
        rw [e1] at f
        simp only [Option.bind_some, e2] at f
        split at f
        · rename_i hk
          obtain ⟨q, ys, rfl, tq, ra⟩ := its_ok h2 e1
          rw [strsD_some e2] at ra
          rw [ra_strs_inv ra] at tq
          exact mt_join pins s σ H x xs v us Q I rx rxs ⟨a, q, zs, h1.str, exs, tq.symm, hk, f.im rp_str⟩
        · exact f.no.elim
  · exact f.no.elim

/-! ### is True, is False -/
@[simp] def isBlD : D → D → Option R
  | .bl a, .bl b => some (.im (.bl (decide (a = b))))
  | _, _ => none
theorem op_isBl : Op2 X (compareOp .Is) isBlD := by
  intro pins s σ H x y v u Q I rx ry ⟨P, M, d, e, h1, h2, _, f⟩
  unfold isBlD at f
  split at f
  · rename_i a b
    have e1 := h1.bl
    have e2 := h2.bl
    subst e1 e2
    cases (show v = Value.bool a from rx)
    cases (show u = Value.bool b from ry)
    refine wpAny_is_plain rfl (fin_bl (k := decide (a = b)) I (f.im rp_bl') ?_)
    cases a <;> cases b <;> rfl
  · exact f.no.elim

/-! ### three names at once -/
@[simp] def par3S (i j l : Nat) (a b c : W) : WS := fun ρ t k => a ρ t (fun r ρ1 t1 => b ρ1 t1 (fun q ρ2 t2 => c ρ2 t2 (fun s ρ3 t3 => k.nx (((ρ3.set l (.im s.d)).set j (.im q.d)).set i (.im r.d)) t3) k.ex) k.ex) k.ex
theorem ds_par3 {i j l : Nat} {x y z : Str} {px py pz pt : Pos} {kt k2 : Nat} {pt2 : Pos} (hc : X.calm = true) (hN : X.N.Nodup) (hi : X.N[i]? = some x) (hj : X.N[j]? = some y) (hl : X.N[l]? = some z) (hij : i ≠ j) (hil : i ≠ l) (hjl : j ≠ l)
    (hx : X.env.scope.names.lookup x = some .local) (hy : X.env.scope.names.lookup y = some .local) (hz : X.env.scope.names.lookup z = some .local) (ha : DE X EX a wa) (hb : DE X EX b wb) (hcc : DE X EX c wc)
    (hs1 : starEach [a, b, c] X.env = (false, eval a X.env) :: starEach [b, c] X.env) (hs2 : starEach [b, c] X.env = (false, eval b X.env) :: starEach [c] X.env) (hs3 : starEach [c] X.env = (false, eval c X.env) :: starEach [] X.env)
    (hw : swappedStores [.Tuple [.Name x px, .Name y py, .Name z pz] kt pt] (.Tuple [a, b, c] k2 pt2) X.env = pure (some [x, y, z]))
    (hs : swapsWithSole [.Tuple [.Name x px, .Name y py, .Name z pz] kt pt] (.Tuple [a, b, c] k2 pt2) pos.line X.env = pure false := by rfl) :
    DS X EX (.Assign [.Tuple [.Name x px, .Name y py, .Name z pz] kt pt] (.Tuple [a, b, c] k2 pt2) pos) (par3S i j l wa wb wc) := PS.imp (ps_par3 hc hN hi hj hl hij hil hjl hx hy hz (pa_cons ha (pa_cons hb (pa_cons hcc pa_nil hs3) hs2) hs1) hw hs) fun D σ H h => by
  obtain ⟨G, P, ρ, t, k, S, hw, lk, hn, hb, hc, hr⟩ := h
  refine ⟨G, P, ρ, t, _, k.ex, S, hw, lk, fun r ρ1 t1 v H1 P1 h1 r1 => ?_⟩
  obtain ⟨S1, p1⟩ := r1.im
  refine ⟨G.hold r.d v, P1, ρ1, t1, _, k.ex, S1.hold p1, h1, lk.hold, fun q ρ2 t2 u H2 P2 h2 r2 => ?_⟩
  obtain ⟨S2, p2⟩ := r2.im
  refine ⟨(G.hold r.d v).hold q.d u, P2, ρ2, t2, _, k.ex, S2.hold p2, h2, lk.hold.hold, fun s ρ3 t3 y H3 P3 h3 r3 => ?_⟩
  obtain ⟨S3, p3⟩ := r3.im
  obtain ⟨S4, q2⟩ := (S3.setIm (i := l) p3).unhold
  obtain ⟨S5, q1⟩ := (S4.setIm (i := j) q2).unhold
  refine ⟨v, u, y, rfl, ?_⟩
  rw [List.set_comm _ _ hij, List.set_comm _ _ hil, List.set_comm _ _ hjl]
  exact hn _ _ _ _ P3 h3 (S5.setIm q1)
end

/-! ### int of a text -/
@[simp] def intTD : D → Option R
  | .str z => match PySem.intText? z with
    | some n => if z.length ≤ 640 then some (.im (.int n)) else none
    | none => none
  | d => intD d
theorem oc_intT {X : Cx} : OpC X (.type "int") (g1 intTD) := opC1 fun pins s σ H v us Q P M d I r rd f => by
  unfold intTD at f
  split at f
  · rename_i z
    split at f
    · split at f
      · exact call_int_str pins s σ H _ us Q I r ⟨_, _, by rw [rd.str], by assumption, by assumption, f.im rp_int⟩
      · exact f.no.elim
    · exact f.no.elim
  · unfold intD at f
    split at f
    · exact call_int1 pins s σ H _ us Q I r (.inl ⟨_, by rw [rd.int], f.im rp_int⟩)
    · exact call_int1 pins s σ H _ us Q I r (.inr ⟨_, by rw [rd.bl], f.im rp_int⟩)
    · exact f.no.elim
/-! ### a list turned about -/
@[simp] def backLD (d : D) : Option R := d.ls.map fun ds => .nw ds.reverse
theorem de_backL {X : Cx} {EX : XK} {e : Expr} {wa : WO} {k : Nat} {p1 p2 p3 pos : Pos} (ha : DO X EX e wa) : DE X EX (.Subscript e (.Slice none none (some (.UnaryOp .USub (.Constant (.int 1) k p1) p2)) p3) pos) (op1W backLD wa) := PE.imp (pe_revL ha) fun σ H Q h => by
  obtain ⟨G, P, ρ, t, Q', E, S, hw, lk, hq⟩ := op1_read h
  refine ⟨G, P, ρ, t, Q', E, S, hw, lk, fun o ρ1 t1 x H1 P1 h1 r1 => ?_⟩
  obtain ⟨P2, M, d, rd, _, f⟩ := hq o ρ1 t1 x H1 P1 h1 r1
  unfold backLD at f
  cases e1 : d.ls with
  | none => rw [e1] at f; exact f.no.elim
  | some ds =>
    rw [e1] at f
    obtain ⟨a, xs, rfl, ta, ra⟩ := rd.ls e1
    exact ⟨a, xs, rfl, ta, fun q nq => f.lst ra.reverse q nq⟩
end NB
set_option Elab.async false
set_option linter.all false
set_option maxRecDepth 100000
set_option maxHeartbeats 4000000
set_option autoImplicit false
/-! str.find, a list times a number, dicts of texts of the module. -/
namespace NB
open PySem PySem.Spec PyProof.Rows L2

/-! ### find -/
@[simp] def findD : D → D → Option R
  | .str a, .str b => some (.im (.int (Txt.find a b)))
  | _, _ => none
theorem mt_findD {X : Cx} : Mt1 X "str.find" findD := by
  intro pins s σ H x xs v us Q I rx rxs ⟨P, M, d, e, y, exs, h1, h2, _, f⟩
  unfold findD at f
  split at f
  · rw [h2.str] at exs
    exact mt_find pins s σ H x xs v us Q I rx rxs ⟨_, _, h1.str, exs, f.im rp_int⟩
  · exact f.no.elim

/-! ### list * int -/
@[simp] def mulLD : D → D → Option R
  | .lst xs, .int k => if xs.length ≤ 1000 ∧ 0 ≤ k ∧ k ≤ 1000 then some (.nw (List.replicate k.toNat xs).flatten) else none
  | d, e => mulAD d e
theorem op_mulLD {X : Cx} : Op2 X (binaryOp .Mult) mulLD := by
  intro pins s σ H x y v u Q I rx ry ⟨P, M, d, e, h1, h2, m, f⟩
  unfold mulLD at f
  split at f
  · split at f
    · rename_i xs k hk
      obtain ⟨a, ys, rfl, ta, ra⟩ := h1
      have hz : sizeLine = 16777216 := sizeLine_eq
      have hm : ys.length * k.toNat ≤ 1000 * 1000 := Nat.mul_le_mul (by rw [← ra.length]; exact hk.1) (by omega)
      exact op_rep pins s σ H _ _ v u Q I rx ry ⟨a, k, ys, rfl, h2.int, ta, by omega, by omega, by omega, f.lst (ra_rep ra _)⟩
    · exact f.no.elim
  · exact op_mulAD pins s σ H x y v u Q I rx ry ⟨P, M, d, e, h1, h2, m, f⟩

/-! ### dicts of texts of the module -/
/-- the entries of such a dict -/
def DicS (P : Params) : List DictEntry → List (Str × Str) → Prop
  | [], [] => True
  | e :: es, kv :: tab => (∃ t u, e.key = .str kv.1 t ∧ e.hash = PyData.keyHash P kv.1 ∧ e.val = .str kv.2 u) ∧ DicS P es tab
  | _, _ => False
theorem DicS.lit {P : Params} : ∀ {es : List DictEntry} {tab : List (Str × Str)}, DicS P es tab → PySem.W.KeysLit P es
  | [], _, _ => True.intro
  | e :: es, kv :: tab, ⟨⟨t, u, h1, h2, _⟩, r⟩ => ⟨⟨kv.1, t, h1, h2⟩, r.lit⟩
theorem DicS.find {P : Params} (z : Str) : ∀ {es : List DictEntry} {tab : List (Str × Str)}, DicS P es tab →
    match tab.lookup z with
    | some v => ∃ e u, es.find? (·.key.isStr z) = some e ∧ e.val = .str v u
    | none => es.find? (·.key.isStr z) = none ∧ es.any (·.refKey) = false
  | [], [], _ => ⟨rfl, rfl⟩
  | e :: es, (k, v) :: tab, ⟨⟨t, u, h1, _, h3⟩, r⟩ => by
    have ih := r.find z
    have e1 : e.key.isStr z = (k == z) := by rw [h1]; rfl
    have e2 : e.refKey = false := by unfold DictEntry.refKey; rw [h1]
    rw [List.lookup_cons]
    by_cases hz : z = k
    · subst hz
      simp only [beq_self_eq_true]
      exact ⟨e, u, by rw [List.find?_cons, e1, beq_self_eq_true], h3⟩
    · have h4 : (z == k) = false := by simpa using hz
      have h5 : (k == z) = false := by simpa using fun q => hz q.symm
      rw [h4]
      simp only
      cases hl : tab.lookup z with
      | some v' =>
        rw [hl] at ih
        obtain ⟨e', u', f1, f2⟩ := ih
        exact ⟨e', u', by rw [List.find?_cons, e1, h5]; exact f1, f2⟩
      | none =>
        rw [hl] at ih
        exact ⟨by rw [List.find?_cons, e1, h5]; exact ih.1, by rw [List.any_cons, e2, ih.2]; rfl⟩
/-- the dict at the module's name x -/
def KTab (K : PySem.W.Frag) (w : World) (mg : Str → Option Value) (x : Str) (tab : List (Str × Str)) : Prop :=
  ∃ (d : Addr) (es : Array DictEntry) (n : Nat), mg x = some (.ref d) ∧ K.lookup d = some ⟨.type "dict", none, .dict es n, #[]⟩ ∧ DicS w.params es.toList tab ∧ (d == sysModules) = false
theorem KTab.ns {K : PySem.W.Frag} {w : World} {d : Addr} {es : Array DictEntry} {n : Nat} {tab : List (Str × Str)} (hl : K.lookup d = some ⟨.type "dict", none, .dict es n, #[]⟩) (h : DicS w.params es.toList tab) (z : Str) :
    ∃ r, PySem.W.nsIn K d z = some r ∧ match tab.lookup z with | some v => ∃ u, r = some (.str v u) | none => r = none := by
  have f := h.find z
  unfold PySem.W.nsIn
  rw [hl]
  cases e : tab.lookup z with
  | some v =>
    rw [e] at f
    obtain ⟨e', u, f1, f2⟩ := f
    exact ⟨some e'.val, by simp only [f1], u, by rw [f2]⟩
  | none =>
    rw [e] at f
    exact ⟨none, by simp only [f.1, f.2]; rfl, rfl⟩
@[simp] def inTab (tab : List (Str × Str)) : D → Option R
  | .str z => some (.im (.bl (tab.lookup z).isSome))
  | _ => none
@[simp] def notInTab (tab : List (Str × Str)) : D → Option R
  | .str z => some (.im (.bl (!(tab.lookup z).isSome)))
  | _ => none
@[simp] def ofTab (tab : List (Str × Str)) : D → Option R
  | .str z => (tab.lookup z).map fun v => .im (.str v)
  | _ => none
section
variable {X : Cx} {EX : XK} {e : Expr} {wa : WO} {x : Str} {p pos : Pos} {tab : List (Str × Str)}
theorem tab_some {K : PySem.W.Frag} {w : World} {d : Addr} {es : Array DictEntry} {n : Nat} {tab : List (Str × Str)} (hl : K.lookup d = some ⟨.type "dict", none, .dict es n, #[]⟩) (h : DicS w.params es.toList tab) (z : Str) :
    ∃ r, PySem.W.nsIn K d z = some r ∧ r.isSome = (tab.lookup z).isSome := by
  obtain ⟨r, h1, h2⟩ := KTab.ns hl h z
  refine ⟨r, h1, ?_⟩
  cases e : tab.lookup z with
  | some v => rw [e] at h2; obtain ⟨u, rfl⟩ := h2; rfl
  | none => rw [e] at h2; rw [h2]; rfl
theorem notIn_tell {σ : St} {H : Hp} {Q : VK} {d : Addr} {es : Array DictEntry} {n : Nat} (hl : X.K.lookup d = some ⟨.type "dict", none, .dict es n, #[]⟩) (hs : DicS X.w.params es.toList tab) (h : Go X.K EX (RS X.K) (op1W (notInTab tab) wa) σ H Q) :
    Go X.K EX (RO X.K) wa σ H fun x H1 => ∃ (z : Str) (r : Option Value), x = .str z ∧ V.ref d = .ref d ∧ PySem.W.nsIn X.K d z = some r ∧ Q (.bl (!r.isSome)) H1 := by
  obtain ⟨G, P, ρ, t, Q', E, S, hw, lk, hq⟩ := op1_read h
  refine ⟨G, P, ρ, t, Q', E, S, hw, lk, fun o ρ1 t1 x H1 P1 h1 r1 => ?_⟩
  obtain ⟨P2, M, dd, rd, _, f⟩ := hq o ρ1 t1 x H1 P1 h1 r1
  unfold notInTab at f
  split at f
  · rename_i z
    obtain ⟨r, e1, e2⟩ := tab_some hl hs z
    exact ⟨z, r, rd.str, rfl, e1, by rw [e2]; exact f.im rp_bl'⟩
  · exact f.no.elim
theorem de_notInTab (hg : Gl X x) (h : KTab X.K X.w X.mg x tab) (ha : DO X EX e wa) (hd : (x == ("__debug__" : Str)) = false := by decide) (hm : behindInMarks .NotIn (.Name x p) = false := by rfl) :
    DE X EX (.Compare e [.NotIn] [.Name x p] pos) (op1W (notInTab tab) wa) := by
  obtain ⟨d, es, n, h1, hl, hs, hy⟩ := h
  exact PE.imp (pe_cmpR (op_notIn_kd ⟨hl, hs.lit, hy⟩) ha (pe_glob (v := .ref d) hg h1 rfl hd) hm) fun σ H Q h => notIn_tell hl hs h
theorem dt_notInTab (hg : Gl X x) (h : KTab X.K X.w X.mg x tab) (ha : DO X EX e wa) (hd : (x == ("__debug__" : Str)) = false := by decide) (hm : behindInMarks .NotIn (.Name x p) = false := by rfl) :
    DT X EX (.Compare e [.NotIn] [.Name x p] pos) (testW (op1W (notInTab tab) wa)) := by
  obtain ⟨d, es, n, h1, hl, hs, hy⟩ := h
  exact PT.imp (pt_cmpR (op_notIn_kd ⟨hl, hs.lit, hy⟩) ha (pe_glob (v := .ref d) hg h1 rfl hd) hm) fun σ H Q h => notIn_tell hl hs (test_read h)
theorem de_ofTab (hg : Gl X x) (h : KTab X.K X.w X.mg x tab) (ha : DO X EX e wa) (hd : (x == ("__debug__" : Str)) = false := by decide) (hs' : PlainIx e := by exact fun _ _ => rfl) :
    DE X EX (.Subscript (.Name x p) e pos) (op1W (ofTab tab) wa) := by
  obtain ⟨d, es, n, h1, hl, hs, hy⟩ := h
  refine PE.imp (pe_ix ix_kdict (pe_glob (v := .ref d) hg h1 rfl hd) ha hs') fun σ H Q h => ?_
  obtain ⟨G, P, ρ, t, Q', E, S, hw, lk, hq⟩ := op1_read h
  refine ⟨G, P, ρ, t, Q', E, S, hw, lk, fun o ρ1 t1 x H1 P1 h1 r1 => ?_⟩
  obtain ⟨P2, M, dd, rd, _, f⟩ := hq o ρ1 t1 x H1 P1 h1 r1
  unfold ofTab at f
  split at f
  · rename_i z
    obtain ⟨r, e1, e2⟩ := KTab.ns hl hs z
    cases el : tab.lookup z with
    | none => rw [el] at f; exact f.no.elim
    | some v =>
      rw [el] at f e2
      obtain ⟨u, rfl⟩ := e2
      exact ⟨d, z, .str v, rfl, rd.str, ⟨es, n, _, hl, hs.lit, e1, u, rfl⟩, f.im rp_str⟩
  · exact f.no.elim
theorem ktab_of {K : PySem.W.Frag} {h : Heap} {mg : Str → Option Value} {w : World} (X : K.In h) (G : h.Ns mainGlobals mg) {x : Str} {d : Addr} {es : Array DictEntry} {n : Nat} {tab : List (Str × Str)} (a : PySem.W.nsIn K mainGlobals x = some (some (.ref d))) (hl : K.lookup d = some ⟨.type "dict", none, .dict es n, #[]⟩)
    (hs : DicS w.params es.toList tab) (hy : (d == sysModules) = false) : KTab K w mg x tab := ⟨d, es, n, PySem.W.mg_of X G a, hl, hs, hy⟩
end
end NB
set_option Elab.async false
set_option linter.all false
set_option maxRecDepth 100000
set_option maxHeartbeats 1000000
set_option autoImplicit false
/-! Plain lemmas: rising lists, equal data. -/
namespace NB
open PySem PySem.Spec PyProof.Rows L2
/-- two rising lists with the same members are one -/
theorem uniq_rise {α : Type} (f : α → Int) : ∀ {xs ys : List α}, xs.Pairwise (fun x y => f x < f y) → ys.Pairwise (fun x y => f x < f y) → (∀ e, e ∈ xs ↔ e ∈ ys) → xs = ys
  | [], [], _, _, _ => rfl
  | [], y :: ys, _, _, h => absurd ((h y).mpr List.mem_cons_self) (fun z => nomatch z)
  | x :: xs, [], _, _, h => absurd ((h x).mp List.mem_cons_self) (fun z => nomatch z)
  | x :: xs, y :: ys, p, q, h => by
    obtain ⟨p1, p2⟩ := List.pairwise_cons.mp p
    obtain ⟨q1, q2⟩ := List.pairwise_cons.mp q
    have e : x = y := by
      rcases List.mem_cons.mp ((h x).mp List.mem_cons_self) with e | e
      · exact e
      · rcases List.mem_cons.mp ((h y).mpr List.mem_cons_self) with e' | e'
        · exact e'.symm
        · exact absurd (Int.lt_trans (q1 x e) (p1 y e')) (Int.lt_irrefl _)
    subst e
    have nx : x ∉ xs := fun z => absurd (p1 x z) (Int.lt_irrefl _)
    have ny : x ∉ ys := fun z => absurd (q1 x z) (Int.lt_irrefl _)
    rw [uniq_rise f p2 q2 fun e => ?_]
    have he := h e
    rw [List.mem_cons, List.mem_cons] at he
    constructor
    · intro z
      rcases he.mp (.inr z) with e1 | e1
      · subst e1; exact absurd z nx
      · exact e1
    · intro z
      rcases he.mpr (.inr z) with e1 | e1
      · subst e1; exact absurd z ny
      · exact e1
theorem rise_len {α : Type} (f : α → Int) (m : Int) : ∀ {xs : List α} (lo : Int), xs.Pairwise (fun x y => f x < f y) → (∀ x ∈ xs, lo ≤ f x ∧ f x < m) → lo ≤ m → (xs.length : Int) ≤ m - lo
  | [], lo, _, _, h => by
    show (0 : Int) ≤ m - lo
    omega
  | x :: xs, lo, p, h, hm => by
    obtain ⟨p1, p2⟩ := List.pairwise_cons.mp p
    obtain ⟨a, b⟩ := h x List.mem_cons_self
    have := rise_len f m (f x + 1) p2 (fun y hy => ⟨p1 y hy, (h y (List.mem_cons_of_mem _ hy)).2⟩) b
    rw [List.length_cons]
    omega
/-- pairs of eights -/
def cd (p : Int × Int) : Int := p.1 * 8 + p.2
def In8 (p : Int × Int) : Prop := (0 ≤ p.1 ∧ p.1 < 8) ∧ (0 ≤ p.2 ∧ p.2 < 8)
theorem cd_inj {p q : Int × Int} (hp : In8 p) (hq : In8 q) (h : cd p = cd q) : p = q := by
  obtain ⟨a, b⟩ := p
  obtain ⟨c, d⟩ := q
  unfold cd In8 at *
  simp only at *
  have : a = c ∧ b = d := by omega
  rw [this.1, this.2]
theorem lex_cd {p q : Int × Int} (hp : In8 p) (hq : In8 q) : HT.lexLt [p.1, p.2] [q.1, q.2] = decide (cd p < cd q) := by
  obtain ⟨a, b⟩ := p
  obtain ⟨c, d⟩ := q
  unfold cd In8 at *
  simp only [HT.lexLt_cons, HT.lexLt_nil_nil] at *
  by_cases h1 : a = c
  · by_cases h2 : b = d
    · rw [if_pos h1, if_pos h2]
      exact (decide_eq_false (by omega)).symm
    · rw [if_pos h1, if_neg h2]
      exact decide_eq_decide.mpr (by omega)
  · rw [if_neg h1]
    exact decide_eq_decide.mpr (by omega)
theorem code_cd (p : Int × Int) : TS.code 8 [p.1, p.2] = cd p := by
  show p.1 * 8 ^ 1 + (p.2 * 8 ^ 0 + 0) = _
  unfold cd
  omega
/-- of different ones, at most 56 -/
theorem few56 {l : List (Int × Int)} (p : l.Pairwise fun x y => cd x < cd y) (h : ∀ x ∈ l, In8 x ∧ x.1 ≠ x.2) : l.length ≤ 56 := by
  let f : Int × Int → Int := fun x => x.1 * 7 + (if x.2 < x.1 then x.2 else x.2 - 1)
  have p' : l.Pairwise fun x y => f x < f y := by
    refine List.Pairwise.imp_of_mem (fun {x y} hx hy hxy => ?_) p
    obtain ⟨h1, h2⟩ := h x hx
    obtain ⟨h3, h4⟩ := h y hy
    obtain ⟨a, b⟩ := x
    obtain ⟨c, d⟩ := y
    show a * 7 + (if b < a then b else b - 1) < c * 7 + (if d < c then d else d - 1)
    unfold cd In8 at *
    simp only at *
    split <;> split <;> omega
  have := rise_len f 56 0 p' (fun x hx => ?_) (by decide)
  · omega
  · obtain ⟨h1, h2⟩ := h x hx
    obtain ⟨a, b⟩ := x
    show 0 ≤ a * 7 + (if b < a then b else b - 1) ∧ a * 7 + (if b < a then b else b - 1) < 56
    unfold In8 at h1
    simp only at *
    split <;> omega
/-! ### equal data -/
theorem eqv_ints : ∀ xs ys : List Int, PyData.eqvAll (pyL (xs.map .int)) (pyL (ys.map .int)) = decide (xs = ys)
  | [], [] => by simp [pyL, PyData.eqvAll]
  | [], y :: ys => by simp [pyL, PyData.eqvAll]
  | x :: xs, [] => by simp [pyL, PyData.eqvAll]
  | x :: xs, y :: ys => by
    rw [List.map_cons, List.map_cons, pyL, pyL, PyData.eqvAll, eqv_ints xs ys, D.py, D.py, PyData.eqv]
    by_cases h : x = y
    · simp [h]
    · have : (x == y) = false := by simpa using h
      simp [this, h]
theorem eqv_tups : ∀ xs ys : List (List Int), PyData.eqvAll (pyL (xs.map tI)) (pyL (ys.map tI)) = decide (xs = ys)
  | [], [] => by simp [pyL, PyData.eqvAll]
  | [], y :: ys => by simp [pyL, PyData.eqvAll]
  | x :: xs, [] => by simp [pyL, PyData.eqvAll]
  | x :: xs, y :: ys => by
    rw [List.map_cons, List.map_cons, pyL, pyL, PyData.eqvAll, eqv_tups xs ys, tI, tI, D.py, D.py, PyData.eqv, eqv_ints]
    by_cases h : x = y <;> simp [h]
theorem ok_ints : ∀ xs : List Int, okL (xs.map .int) = true
  | [] => rfl
  | x :: xs => by rw [List.map_cons, okL, ok_ints xs]; rfl
theorem ok_tups : ∀ xs : List (List Int), okL (xs.map tI) = true
  | [] => rfl
  | x :: xs => by rw [List.map_cons, okL, ok_tups xs, tI, okD, ok_ints]; rfl
theorem dp_ints : ∀ xs : List Int, dpL (xs.map .int) = 0
  | [] => rfl
  | x :: xs => by rw [List.map_cons, dpL, dp_ints xs]; rfl
theorem dp_tups : ∀ xs : List (List Int), dpL (xs.map tI) ≤ 1
  | [] => by decide
  | x :: xs => by
    have h1 := dp_tups xs
    have h2 : dpD (tI x) = 1 := by rw [tI, dpD, dp_ints]
    rw [List.map_cons, dpL, h2]
    omega
theorem eqOk_tups (xs ys : List (List Int)) : eqOk (.lst (xs.map tI)) (.lst (ys.map tI)) = true := by
  have h1 := dp_tups xs
  have h2 := dp_tups ys
  unfold eqOk
  rw [okD, okD, ok_tups, ok_tups, dpD, dpD]
  simp
  omega
theorem eqv_lst (xs ys : List (List Int)) : D.eqv (.lst (xs.map tI)) (.lst (ys.map tI)) = decide (xs = ys) := by
  unfold D.eqv
  rw [D.py, D.py, PyData.eqv, eqv_tups]
theorem eqv_nil {ds : List D} : D.eqv (.tup ds) (.tup []) = ds.isEmpty := by
  unfold D.eqv
  rw [D.py, D.py, PyData.eqv]
  cases ds with
  | nil => rfl
  | cons d ds => rw [pyL, pyL, PyData.eqvAll]; rfl
theorem eqOk_nil {ds : List D} (h : okL ds = true) (h2 : dpL ds ≤ 63) : eqOk (.tup ds) (.tup []) = true := by
  unfold eqOk
  rw [okD, okD, h, dpD, dpD]
  simp [okL, dpL]
  omega
end NB
set_option Elab.async false
set_option linter.all false
set_option maxRecDepth 100000
set_option maxHeartbeats 1000000
set_option autoImplicit false
/-! Plain lemmas: nice data (signs below c, numbers of at most b): it may be compared and shown; sizes. -/
namespace NB
open PySem PySem.Spec PyProof.Rows L2
def sgS (c : Nat) (z : Str) : Bool := z.cps.toList.all fun x => decide (x < c)
mutual
def niD (c b : Nat) : D → Bool
  | .non => true
  | .bl _ => true
  | .int i => decide (i.natAbs ≤ b)
  | .str z => sgS c z
  | .tup ds => niL c b ds
  | .lst ds => niL c b ds
  | .pot => false
  | .scr _ => false
  | .exc _ _ => false
def niL (c b : Nat) : List D → Bool
  | [] => true
  | d :: ds => niD c b d && niL c b ds
end
mutual
def wtD : D → Nat
  | .tup ds => wtL ds + 1
  | .lst ds => wtL ds + 1
  | .non => 1
  | .bl _ => 1
  | .int _ => 1
  | .str z => z.length + 1
  | .pot => 1
  | .scr _ => 1
  | .exc _ _ => 1
def wtL : List D → Nat
  | [] => 0
  | d :: ds => wtD d + wtL ds
end
theorem sgS_iff {c : Nat} {z : Str} : sgS c z = true ↔ ∀ x ∈ z.cps.toList, x < c := by
  unfold sgS
  rw [List.all_eq_true]
  exact ⟨fun h x hx => of_decide_eq_true (h x hx), fun h x hx => decide_eq_true (h x hx)⟩
theorem sgS_mono {c c' : Nat} {z : Str} (h : sgS c z = true) (l : c ≤ c') : sgS c' z = true := sgS_iff.mpr fun x hx => Nat.lt_of_lt_of_le (sgS_iff.mp h x hx) l
theorem sgS_ok {c : Nat} {z : Str} (h : sgS c z = true) (l : c ≤ 0x110000) : PyData.strOk z = true := by
  unfold PyData.strOk
  rw [Array.all_eq_true_iff_forall_mem]
  intro x hx
  have := sgS_iff.mp h x (Array.mem_toList_iff.mpr hx)
  exact decide_eq_true (by omega)
theorem sgS_append {c : Nat} {x y : Str} (hx : sgS c x = true) (hy : sgS c y = true) : sgS c (x ++ y) = true := sgS_iff.mpr fun a ha => by
  rw [show (x ++ y).cps = x.cps ++ y.cps from rfl, Array.toList_append] at ha
  rcases List.mem_append.mp ha with ha | ha
  · exact sgS_iff.mp hx a ha
  · exact sgS_iff.mp hy a ha
theorem sgS_ofString (s : String) : sgS 0x110000 (Str.ofString s) = true := sgS_iff.mpr fun x hx => by
  rw [Str.ofString_eq_toList] at hx
  obtain ⟨c, _, rfl⟩ := List.mem_map.mp (by simpa using hx)
  have := c.valid
  have e : c.toNat = c.val.toNat := rfl
  rcases this with h | h
  · have h : c.val.toNat < 0xd800 := h
    omega
  · have h : c.val.toNat < 0x110000 := h.2
    omega
theorem sgS_cut {c : Nat} {z : Str} {lo hi : Option Int} (h : sgS c z = true) : sgS c (cutS z lo hi) = true := sgS_iff.mpr fun x hx => by
  refine sgS_iff.mp h x ?_
  exact List.mem_of_mem_drop (List.mem_of_mem_take (show x ∈ (z.cps.toList.drop (HT.sIx z.length 0 lo)).take (HT.sIx z.length z.length hi - HT.sIx z.length 0 lo) from hx))
theorem sgS_upper {z : Str} (h : sgS 128 z = true) : sgS 128 (Txt.upper z) = true ∧ (Txt.upper z).length = z.length := by
  have h' := sgS_iff.mp h
  rw [upper_ascii h']
  refine ⟨sgS_iff.mpr fun x hx => ?_, by simp [Str.length]⟩
  rw [Array.toList_map] at hx
  obtain ⟨y, hy, rfl⟩ := List.mem_map.mp hx
  have := h' y hy
  unfold up1
  split <;> omega
theorem niL_iff {c b : Nat} : ∀ {ds : List D}, niL c b ds = true ↔ ∀ d ∈ ds, niD c b d = true
  | [] => by simp [niL]
  | d :: ds => by
    rw [niL, Bool.and_eq_true, niL_iff]
    simp
mutual
theorem ni_mono {c c' b b' : Nat} (hc : c ≤ c') (hb : b ≤ b') : ∀ {d : D}, niD c b d = true → niD c' b' d = true
  | .non, _ => by rw [niD]
  | .bl _, _ => by rw [niD]
  | .int i, h => by
    rw [niD, decide_eq_true_eq] at h ⊢
    omega
  | .str z, h => by rw [niD] at h ⊢; exact sgS_mono h hc
  | .tup ds, h => by rw [niD] at h ⊢; exact niL_mono hc hb h
  | .lst ds, h => by rw [niD] at h ⊢; exact niL_mono hc hb h
  | .pot, h => by simp [niD] at h
  | .scr _, h => by simp [niD] at h
  | .exc _ _, h => by simp [niD] at h
theorem niL_mono {c c' b b' : Nat} (hc : c ≤ c') (hb : b ≤ b') : ∀ {ds : List D}, niL c b ds = true → niL c' b' ds = true
  | [], _ => by rw [niL]
  | d :: ds, h => by
    rw [niL, Bool.and_eq_true] at h ⊢
    exact ⟨ni_mono hc hb h.1, niL_mono hc hb h.2⟩
end
mutual
theorem ni_ok {c b : Nat} (hc : c ≤ 0x110000) : ∀ {d : D}, niD c b d = true → okD d = true
  | .non, _ => by rw [okD]
  | .bl _, _ => by rw [okD]
  | .int _, _ => by rw [okD]
  | .str z, h => by rw [niD] at h; rw [okD]; exact sgS_ok h hc
  | .tup ds, h => by rw [niD] at h; rw [okD]; exact niL_ok hc h
  | .lst ds, h => by rw [niD] at h; rw [okD]; exact niL_ok hc h
  | .pot, h => by simp [niD] at h
  | .scr _, h => by simp [niD] at h
  | .exc _ _, h => by simp [niD] at h
theorem niL_ok {c b : Nat} (hc : c ≤ 0x110000) : ∀ {ds : List D}, niL c b ds = true → okL ds = true
  | [], _ => by rw [okL]
  | d :: ds, h => by
    rw [niL, Bool.and_eq_true] at h
    rw [okL, Bool.and_eq_true]
    exact ⟨ni_ok hc h.1, niL_ok hc h.2⟩
end
theorem log_small {n : Nat} (h : n < 10 ^ 30) : n.log2 < 1920 := by
  by_cases h0 : n = 0
  · subst h0; decide
  · refine (Nat.log2_lt h0).mpr (Nat.lt_trans h ?_)
    exact Nat.lt_of_lt_of_le (show 10 ^ 30 < 2 ^ 100 by decide) (Nat.pow_le_pow_right (by decide) (by decide))
mutual
theorem ni_show {c b : Nat} (hb : b < 10 ^ 30) : ∀ {d : D}, niD c b d = true → d.py.showable = true
  | .non, _ => by rw [D.py, PyData.showable]
  | .bl _, _ => by rw [D.py, PyData.showable]
  | .int i, h => by
    rw [niD, decide_eq_true_eq] at h
    rw [D.py, PyData.showable]
    exact decide_eq_true (log_small (by omega))
  | .str z, h => by rw [D.py, PyData.showable]
  | .tup ds, h => by rw [niD] at h; rw [D.py, PyData.showable]; exact niL_show hb h
  | .lst ds, h => by rw [niD] at h; rw [D.py, PyData.showable]; exact niL_show hb h
  | .pot, h => by simp [niD] at h
  | .scr _, h => by simp [niD] at h
  | .exc _ _, h => by simp [niD] at h
theorem niL_show {c b : Nat} (hb : b < 10 ^ 30) : ∀ {ds : List D}, niL c b ds = true → PyData.showableAll (pyL ds) = true
  | [], _ => by rw [pyL, PyData.showableAll]
  | d :: ds, h => by
    rw [niL, Bool.and_eq_true] at h
    rw [pyL, PyData.showableAll, Bool.and_eq_true]
    exact ⟨ni_show hb h.1, niL_show hb h.2⟩
end
mutual
theorem ni_len {c b : Nat} (hc : c ≤ 0x110000) (hb : b < 10 ^ 30) : ∀ {d : D}, niD c b d = true → d.py.shown.length + 5 ≤ 40 * wtD d
  | .non, _ => by rw [D.py, wtD]; decide +kernel
  | .bl b, _ => by rw [D.py, wtD]; cases b <;> decide +kernel
  | .int i, h => by
    rw [niD, decide_eq_true_eq] at h
    rw [D.py, wtD, PyData.shown]
    have e := int_text_length_le10 (a := i) (k := 30) (by decide) (by omega)
    rw [PySem.ofString_length]
    omega
  | .str z, h => by
    rw [niD] at h
    rw [D.py, wtD, PyData.shown]
    have := PySem.StrLaws.reprText_len z fun x hx => by
      have := sgS_iff.mp h x hx
      have e : (16 : Nat) ^ 8 = 4294967296 := by decide
      omega
    omega
  | .tup ds, h => by
    rw [niD] at h
    have h1 := niL_len hc hb h
    have h2 := tupleText_len_le (PyData.shownAll (pyL ds))
    rw [D.py, wtD, PyData.shown]
    omega
  | .lst ds, h => by
    rw [niD] at h
    have h1 := niL_len hc hb h
    have h2 := listText_len_le (PyData.shownAll (pyL ds))
    rw [D.py, wtD, PyData.shown]
    omega
  | .pot, h => by simp [niD] at h
  | .scr _, h => by simp [niD] at h
  | .exc _ _, h => by simp [niD] at h
theorem niL_len {c b : Nat} (hc : c ≤ 0x110000) (hb : b < 10 ^ 30) : ∀ {ds : List D}, niL c b ds = true → ((PyData.shownAll (pyL ds)).map (·.length)).sum + 2 * (PyData.shownAll (pyL ds)).length ≤ 40 * wtL ds
  | [], _ => by rw [pyL, PyData.shownAll, wtL]; decide
  | d :: ds, h => by
    rw [niL, Bool.and_eq_true] at h
    have h1 := ni_len hc hb h.1
    have h2 := niL_len hc hb h.2
    rw [pyL, PyData.shownAll, wtL, List.map_cons, List.sum_cons, List.length_cons]
    omega
end
/-- nice data of a small size -/
structure Fine (d : D) : Prop where
  ni : niD 0x110000 (10 ^ 29) d = true
  wt : wtD d ≤ 100000
  dp : dpD d ≤ 60
theorem Fine.ok {d : D} (h : Fine d) : okD d = true := ni_ok (Nat.le_refl _) h.ni
theorem Fine.show {d : D} (h : Fine d) : showOk d = true := by
  have h3 := ni_len (Nat.le_refl _) (by decide) h.ni
  have hz : sizeLine = 16777216 := sizeLine_eq
  have h1 := h.dp
  have h2 := h.wt
  unfold showOk
  rw [h.ok, ni_show (by decide) h.ni, decide_eq_true (by omega), decide_eq_true (by omega)]
  rfl
def fineB (d : D) : Bool := niD 0x110000 (10 ^ 29) d && (decide (wtD d ≤ 100000) && decide (dpD d ≤ 60))
theorem fine_iff {d : D} : fineB d = true ↔ Fine d := by
  unfold fineB
  rw [Bool.and_eq_true, Bool.and_eq_true, decide_eq_true_eq, decide_eq_true_eq]
  exact ⟨fun h => ⟨h.1, h.2.1, h.2.2⟩, fun h => ⟨h.ni, h.wt, h.dp⟩⟩
theorem fineB_cons {d : D} {ds : List D} (h : fineB d = true) (g : ∀ d ∈ ds, Fine d) : ∀ e ∈ d :: ds, Fine e := fun e he => by
  rcases List.mem_cons.mp he with he | he
  · rw [he]; exact fine_iff.mp h
  · exact g e he

/-! ### fine data, step by step -/
def Fn (w p : Nat) (d : D) : Prop := niD 128 (10 ^ 20) d = true ∧ wtD d ≤ w ∧ dpD d ≤ p
def FnL (w p : Nat) (ds : List D) : Prop := niL 128 (10 ^ 20) ds = true ∧ wtL ds ≤ w ∧ dpL ds ≤ p
theorem FnL_nil : FnL 0 0 [] := ⟨rfl, Nat.le_refl _, Nat.le_refl _⟩
theorem FnL_cons {w p w' p' : Nat} {d : D} {ds : List D} (h : Fn w p d) (g : FnL w' p' ds) : FnL (w + w') (max p p') (d :: ds) := by
  obtain ⟨h1, h2, h3⟩ := h
  obtain ⟨g1, g2, g3⟩ := g
  refine ⟨?_, ?_, ?_⟩
  · rw [niL, h1, g1]; rfl
  · rw [wtL]; omega
  · rw [dpL]; omega
theorem Fn_tup {w p : Nat} {ds : List D} (h : FnL w p ds) : Fn (w + 1) (p + 1) (.tup ds) := by
  obtain ⟨h1, h2, h3⟩ := h
  refine ⟨?_, ?_, ?_⟩
  · rw [niD]; exact h1
  · rw [wtD]; omega
  · rw [dpD]; omega
theorem Fn_lst {w p : Nat} {ds : List D} (h : FnL w p ds) : Fn (w + 1) (p + 1) (.lst ds) := by
  obtain ⟨h1, h2, h3⟩ := h
  refine ⟨?_, ?_, ?_⟩
  · rw [niD]; exact h1
  · rw [wtD]; omega
  · rw [dpD]; omega
theorem Fn_non : Fn 1 0 .non := ⟨rfl, Nat.le_refl _, Nat.le_refl _⟩
theorem Fn_bl {b : Bool} : Fn 1 0 (.bl b) := ⟨rfl, Nat.le_refl _, Nat.le_refl _⟩
theorem Fn_int {i : Int} (h : i.natAbs ≤ 10 ^ 20) : Fn 1 0 (.int i) := ⟨by rw [niD]; exact decide_eq_true h, Nat.le_refl _, Nat.le_refl _⟩
theorem Fn_str {z : Str} {n : Nat} (h : sgS 128 z = true) (hl : z.length = n) : Fn (n + 1) 0 (.str z) := ⟨by rw [niD]; exact h, by rw [wtD]; omega, Nat.le_refl _⟩
theorem Fn.fine {w p : Nat} {d : D} (h : Fn w p d) (g : (Nat.ble w 100000 && Nat.ble p 60) = true) : Fine d := by
  rw [Bool.and_eq_true] at g
  have g1 := Nat.le_of_ble_eq_true g.1
  have g2 := Nat.le_of_ble_eq_true g.2
  have h2 := h.2.1
  have h3 := h.2.2
  exact ⟨ni_mono (by decide) (by decide) h.1, by omega, by omega⟩
theorem le_sl {n : Nat} (h : Nat.ble n 1000 = true) : n ≤ sizeLine := Nat.le_trans (Nat.le_of_ble_eq_true h) (by rw [sizeLine_eq]; decide)
theorem add_lst {L M : List D} (h : L.length + M.length ≤ 1000) : addD (.lst L) (.lst M) = some (.nw (L ++ M)) := if_pos (Nat.le_trans h (by rw [sizeLine_eq]; decide))
theorem fine_app {L M : List D} (h : ∀ d ∈ L, Fine d) (g : ∀ d ∈ M, Fine d) : ∀ d ∈ L ++ M, Fine d := fun d hd => by
  rcases List.mem_append.mp hd with hd | hd
  · exact h d hd
  · exact g d hd
theorem fine_nil : ∀ d ∈ ([] : List D), Fine d := fun _ h => nomatch h
theorem fine_cons {d : D} {ds : List D} (h : Fine d) (g : ∀ d ∈ ds, Fine d) : ∀ e ∈ d :: ds, Fine e := fun e he => by
  rcases List.mem_cons.mp he with he | he
  · rw [he]; exact h
  · exact g e he

theorem exA {α : Type} {p : Prop} {a : α} {q : α → Prop} : (∃ x, (p ∧ a = x) ∧ q x) ↔ p ∧ q a :=
  ⟨fun ⟨_, ⟨h, e⟩, g⟩ => by subst e; exact ⟨h, g⟩, fun ⟨h, g⟩ => ⟨_, ⟨h, rfl⟩, g⟩⟩
theorem all_bl {xs : List D} (h : ∀ x ∈ xs, x = .bl true) : blsD xs = some (xs.map fun _ => true) := by
  induction xs with
  | nil => rfl
  | cons x xs ih =>
    rw [h x List.mem_cons_self, blsD, ih fun y hy => h y (List.mem_cons_of_mem _ hy)]
    rfl
theorem all_yes {α : Type} (xs : List α) : ((xs.map fun _ => true).all id) = true := by
  rw [List.all_map]
  exact List.all_eq_true.mpr fun _ _ => rfl
/-- all(..) over what is true -/
theorem allD_yes {xs : List D} (h : ∀ x ∈ xs, x = .bl true) : allD (.lst xs) = some (.im (.bl true)) := by
  have e : (D.lst xs).ls = some xs := rfl
  simp only [allD, e, Option.bind_some, all_bl h, Option.map_some, all_yes]

/-! ### written texts -/
theorem osL (s : String) : (Str.ofString s).length = s.length := PySem.ofString_length s
theorem osE {s t : String} : Str.ofString s = Str.ofString t ↔ s = t := by
  constructor
  · intro h
    rw [Str.ofString_eq_toList, Str.ofString_eq_toList] at h
    have h1 : s.toList.map Char.toNat = t.toList.map Char.toNat := by
      have := congrArg (fun z : Str => z.cps.toList) h
      simpa using this
    have inj : ∀ a b : Char, a.toNat = b.toNat → a = b := fun a b e => by
      apply Char.ext
      apply UInt32.toNat.inj
      exact e
    have h2 : s.toList = t.toList := by
      revert h1
      generalize s.toList = xs
      generalize t.toList = ys
      induction xs generalizing ys with
      | nil => intro h; cases ys with | nil => rfl | cons _ _ => cases h
      | cons x xs ih => intro h; cases ys with
        | nil => cases h
        | cons y ys =>
          rw [List.map_cons, List.map_cons] at h
          injection h with e1 e2
          rw [inj x y e1, ih ys e2]
    exact String.ext (by simpa using h2)
  · intro h; rw [h]
theorem osA (s t : String) : Str.ofString s ++ Str.ofString t = Str.ofString (s ++ t) := by
  have e : ∀ a b : Str, a ++ b = ⟨a.cps ++ b.cps⟩ := fun _ _ => rfl
  rw [e, Str.ofString_eq_toList, Str.ofString_eq_toList, Str.ofString_eq_toList]
  simp

/-! ### sizes -/
theorem dpL_le : ∀ {ds : List D} {k : Nat}, dpL ds ≤ k ↔ ∀ d ∈ ds, dpD d ≤ k
  | [], k => by simp [dpL]
  | d :: ds, k => by
    rw [dpL, Nat.max_le, dpL_le]
    simp
theorem wtL_append : ∀ (xs ys : List D), wtL (xs ++ ys) = wtL xs + wtL ys
  | [], ys => by simp [wtL]
  | x :: xs, ys => by rw [List.cons_append, wtL, wtL, wtL_append xs ys]; omega
theorem wtL_take (n : Nat) (xs : List D) : wtL (xs.take n) + wtL (xs.drop n) = wtL xs := by rw [← wtL_append, List.take_append_drop]
theorem wt_pos (d : D) : 1 ≤ wtD d := by cases d <;> simp [wtD]
theorem wtL_len : ∀ ds : List D, ds.length ≤ wtL ds
  | [] => by simp
  | d :: ds => by
    have := wtL_len ds
    have := wt_pos d
    rw [wtL, List.length_cons]
    omega
theorem wtL_mem : ∀ {ds : List D} {d : D}, d ∈ ds → wtD d ≤ wtL ds
  | e :: ds, d, h => by
    rw [wtL]
    rcases List.mem_cons.mp h with e' | e'
    · rw [e']; omega
    · have := wtL_mem e'
      omega
theorem wtL_reverse : ∀ xs : List D, wtL xs.reverse = wtL xs
  | [] => rfl
  | x :: xs => by rw [List.reverse_cons, wtL_append, wtL_reverse xs, wtL, wtL, wtL]; omega
theorem wtL_le {k : Nat} : ∀ {ds : List D}, (∀ d ∈ ds, wtD d ≤ k) → wtL ds ≤ k * ds.length
  | [], _ => by simp [wtL]
  | d :: ds, h => by
    have h1 := h d List.mem_cons_self
    have h2 := wtL_le fun e he => h e (List.mem_cons_of_mem _ he)
    rw [wtL, List.length_cons, Nat.mul_succ]
    omega
theorem cut_mem {ds : List D} {lo hi : Option Int} {x : D} (h : x ∈ NB.cutD ds lo hi) : x ∈ ds := List.mem_of_mem_drop (List.mem_of_mem_take h)
theorem cut_wt (ds : List D) (lo hi : Option Int) : wtL (NB.cutD ds lo hi) ≤ wtL ds := by
  have h1 := wtL_take (HT.sIx ds.length 0 lo) ds
  have h2 := wtL_take (HT.sIx ds.length ds.length hi - HT.sIx ds.length 0 lo) (ds.drop (HT.sIx ds.length 0 lo))
  unfold NB.cutD
  omega
theorem cut_len (ds : List D) (lo hi : Option Int) : (NB.cutD ds lo hi).length ≤ ds.length := by
  unfold NB.cutD
  rw [List.length_take, List.length_drop]
  omega
theorem cut_last (ds : List D) : (NB.cutD ds (some (-1)) none).length ≤ 1 := by
  unfold NB.cutD
  rw [List.length_take, List.length_drop, HT.sIx_none]
  have e : HT.sIx ds.length 0 (some (-1)) = ds.length - 1 := by
    show (if (-1 : Int) < 0 then ((-1 : Int) + (ds.length : Int)).toNat else min (-1 : Int).toNat ds.length) = _
    rw [if_pos (by decide)]
    omega
  rw [e]
  omega
theorem cut_take {ds : List D} {k : Nat} (h : k ≤ ds.length) : NB.cutD ds none (some (k : Int)) = ds.take k := by
  unfold NB.cutD
  rw [HT.sIx_none, HT.sIx_nat, Nat.min_eq_left h, List.drop_zero, Nat.sub_zero]
theorem cut_drop {ds : List D} {k : Nat} (h : k ≤ ds.length) : NB.cutD ds (some (k : Int)) none = ds.drop k := by
  unfold NB.cutD
  rw [HT.sIx_none, HT.sIx_nat, Nat.min_eq_left h, ← List.length_drop, List.take_length]

/-! ### comprehensions without a test -/
theorem bindP2 {i j : Nat} {a b : D} {ρ : List Sl} : bindP (.tp [.nm i, .nm j]) (.tup [a, b]) ρ = some ((ρ.set i (.im a)).set j (.im b)) := by rw [bindP_tp, bindPs_nm, bindPs_nm, bindPs_nil]
theorem bindP3 {i j k : Nat} {a b c : D} {ρ : List Sl} : bindP (.tp [.nm i, .nm j, .nm k]) (.tup [a, b, c]) ρ = some (((ρ.set i (.im a)).set j (.im b)).set k (.im c)) := by rw [bindP_tp, bindPs_nm, bindPs_nm, bindPs_nm, bindPs_nil]
theorem compL_maps {α : Type} {p : Pt} {e : W} {ρw : List Sl} {g f : α → D} {t : Nat} {Q : List D → Nat → Prop} : ∀ {xs : List α} {acc : List D},
    (∀ x ∈ xs, ∃ (ρ' : List Sl) (r : R), bindP p (g x) ρw = some ρ' ∧ r.d = f x ∧ ∀ Q' E, e ρ' t Q' E ↔ Q' r ρ' t) → acc.length + xs.length ≤ sizeLine →
    (compL p yesT e ρw (xs.map g) acc t Q ↔ Q (acc ++ xs.map f) t)
  | [], acc, _, _ => by simp [compL]
  | x :: xs, acc, h, hl => by
    obtain ⟨ρ', r, h1, h2, h3⟩ := h x List.mem_cons_self
    rw [List.length_cons] at hl
    rw [List.map_cons, compL]
    simp only [h1, Option.some.injEq, exists_eq_left', yesT, true_and, if_true, h3]
    rw [compL_maps (fun x hx => h x (List.mem_cons_of_mem _ hx)) (by rw [List.length_append, List.length_singleton]; omega), h2, List.map_cons, List.append_assoc, List.singleton_append]
    exact ⟨fun z => z.2, fun z => ⟨by omega, z⟩⟩
theorem compL_gives {α : Type} {p : Pt} {e : W} {ρw : List Sl} {g f : α → D} {t : Nat} {Q : List D → Nat → Prop} : ∀ {xs : List α} {acc : List D},
    (∀ x ∈ xs, ∃ (ρ' : List Sl) (r : R), bindP p (g x) ρw = some ρ' ∧ r.d = f x ∧ ∀ Q' E, Q' r ρ' t → e ρ' t Q' E) → acc.length + xs.length ≤ sizeLine →
    Q (acc ++ xs.map f) t → compL p yesT e ρw (xs.map g) acc t Q
  | [], acc, _, _, q => by
    rw [List.map_nil, compL]
    simpa using q
  | x :: xs, acc, h, hl, q => by
    obtain ⟨ρ', r, h1, h2, h3⟩ := h x List.mem_cons_self
    rw [List.length_cons] at hl
    rw [List.map_cons, compL]
    refine ⟨ρ', h1, rfl, ?_⟩
    rw [if_pos rfl]
    refine h3 _ _ ⟨rfl, by omega, ?_⟩
    refine compL_gives (fun x hx => h x (List.mem_cons_of_mem _ hx)) (by rw [List.length_append, List.length_singleton]; omega) ?_
    rw [h2, List.append_assoc, List.singleton_append, ← List.map_cons]
    exact q
theorem compL_map {p : Pt} {e : W} {ρw : List Sl} {f : D → D} {t : Nat} {Q : List D → Nat → Prop} {ds acc : List D}
    (h : ∀ d ∈ ds, ∃ (ρ' : List Sl) (r : R), bindP p d ρw = some ρ' ∧ r.d = f d ∧ ∀ Q' E, e ρ' t Q' E ↔ Q' r ρ' t) (hl : acc.length + ds.length ≤ sizeLine) :
    compL p yesT e ρw ds acc t Q ↔ Q (acc ++ ds.map f) t := by
  have := compL_maps (g := id) (f := f) (xs := ds) (acc := acc) (Q := Q) h hl
  rwa [List.map_id] at this

theorem popAtF_some {ds : List D} {i : Int} {k : Nat} {d : D} (h1 : ixFits i = true) (h2 : seqIndex? i ds.length = some k) (h3 : ds[k]? = some d) : popAtF ds [.int i] = some (ds.eraseIdx k, d) := by
  simp only [popAtF, h1, h2, h3, Option.map_some]
theorem popAt_ok {ds : List D} {k : Int} (h0 : 0 ≤ k) (h1 : k < ds.length) (h2 : ds.length < 1000000) : ∃ d, ds[k.toNat]? = some d ∧ popAtF ds [.int k] = some (ds.eraseIdx k.toNat, d) := by
  obtain ⟨j, rfl⟩ := Int.eq_ofNat_of_zero_le h0
  have hj : j < ds.length := by omega
  have e : ds[j]? = some ds[j] := List.getElem?_eq_getElem hj
  refine ⟨ds[j], e, ?_⟩
  have f1 : ixFits ((j : Nat) : Int) = true := ixFits_iff.mpr ⟨by omega, by omega⟩
  have f2 : seqIndex? ((j : Nat) : Int) ds.length = some j := (ixN_seq (n := ds.length) (i := (j : Nat)) (j := j) (by unfold ixN; rw [if_pos (by omega), if_pos (by omega)]; rfl)).1
  exact popAtF_some f1 f2 e
theorem pop_perm {ds found rests : List D} {k : Nat} {d : D} (hk : rests[k]? = some d) (p : (found ++ rests).Perm ds) : ((found ++ [d]) ++ rests.eraseIdx k).Perm ds := by
  have hl : k < rests.length := (List.getElem?_eq_some_iff.mp hk).1
  rw [List.getElem?_eq_getElem hl] at hk
  cases hk
  refine List.Perm.trans ?_ p
  rw [List.append_assoc]
  refine List.Perm.append_left _ ?_
  rw [List.eraseIdx_eq_take_drop_succ]
  have e : rests = rests.take k ++ rests[k] :: rests.drop (k + 1) := by
    rw [← List.drop_eq_getElem_cons hl, List.take_append_drop]
  refine List.Perm.trans (List.perm_middle.symm : (rests[k] :: (rests.take k ++ rests.drop (k + 1))).Perm _) ?_
  rw [← e]
theorem atI_mem {α : Type} {ds : List α} {k : Int} (h0 : 0 ≤ k) (h1 : k < ds.length) : ∃ d, atI ds k = some d ∧ ds[k.toNat]? = some d ∧ d ∈ ds := by
  obtain ⟨j, rfl⟩ := Int.eq_ofNat_of_zero_le h0
  have hj : j < ds.length := by omega
  have e : ds[j]? = some ds[j] := List.getElem?_eq_getElem hj
  refine ⟨ds[j], atI_nat e, ?_, List.getElem_mem hj⟩
  rw [show ((j : Nat) : Int).toNat = j from Int.toNat_natCast j]
  exact e
/-- elements that are drawn, each with a key of its source -/
theorem compL_drawK {γ : Type} {p : Pt} {e : W} {ρw : List Sl} {post : D → Prop} (κ κ' : D → γ) {n : Nat} {Q : List D → Nat → Prop} : ∀ {ds acc : List D} {t : Nat},
    (∀ d ∈ ds, ∃ ρ', bindP p d ρw = some ρ' ∧ ∀ t Q' E, t + n ≤ 2000000 → (∀ r t', t' ≤ t + n → post r.d → κ r.d = κ' d → Q' r ρ' t') → e ρ' t Q' E) → acc.length + ds.length ≤ sizeLine → t + n * ds.length ≤ 2000000 →
    (∀ xs t', t' ≤ t + n * ds.length → (∀ x ∈ xs, post x) → xs.map κ = ds.map κ' → Q (acc ++ xs) t') → compL p yesT e ρw ds acc t Q
  | [], acc, t, _, _, _, q => by
    rw [compL]
    have := q [] t (by simp) (fun _ h => nomatch h) rfl
    simpa using this
  | d :: ds, acc, t, h, hl, ht, q => by
    obtain ⟨ρ', h1, h2⟩ := h d List.mem_cons_self
    rw [compL]
    refine ⟨ρ', h1, rfl, ?_⟩
    rw [if_pos rfl]
    rw [List.length_cons, Nat.mul_succ] at ht
    rw [List.length_cons] at hl
    refine h2 t _ _ (by omega) fun r t1 l1 pr kr => ⟨rfl, by omega, ?_⟩
    refine compL_drawK κ κ' (fun d hd => h d (List.mem_cons_of_mem _ hd)) (by rw [List.length_append, List.length_singleton]; omega) (by omega) fun xs t' l2 px le => ?_
    rw [List.append_assoc]
    refine q (r.d :: xs) t' ?_ (fun x hx => ?_) (by rw [List.map_cons, List.map_cons, le, kr])
    · rw [List.length_cons, Nat.mul_succ]; omega
    · rcases List.mem_cons.mp hx with e | e
      · rw [e]; exact pr
      · exact px x e

/-- what bending may give -/
structure Bo (b : Nat) (d r : D) : Prop where
  ni : niD 0x110000 (b + 1) r = true
  wt : wtD r ≤ 2 * wtD d + 30
  dp : dpD r ≤ dpD d + 3
theorem Bo.fine {b : Nat} {d r : D} (h : Bo b d r) (hb : b + 1 ≤ 10 ^ 29) (hw : wtD d ≤ 40000) (hd : dpD d ≤ 50) : Fine r :=
  ⟨ni_mono (Nat.le_refl _) hb h.ni, by have := h.wt; omega, by have := h.dp; omega⟩
theorem bo_items {b : Nat} {ds es : List D} {r : D} (hr : r = .tup es ∨ r = .lst es) (hs : niL 128 b ds = true) (hm : ∀ e ∈ es, e ∈ ds) (hz : wtL es ≤ 2 * wtL ds) : Bo b (.tup ds) r := by
  have h1 : niL 0x110000 (b + 1) es = true := niL_iff.mpr fun d hd => ni_mono (by decide) (by omega) (niL_iff.mp hs d (hm d hd))
  have h2 : dpL es ≤ dpL ds := dpL_le.mpr fun d hd => dpL_le.mp (Nat.le_refl _) d (hm d hd)
  rcases hr with rfl | rfl
  · exact ⟨by rw [niD]; exact h1, by rw [wtD, wtD]; omega, by rw [dpD, dpD]; omega⟩
  · exact ⟨by rw [niD]; exact h1, by rw [wtD, wtD]; omega, by rw [dpD, dpD]; omega⟩
theorem bo_flat {b : Nat} {d r : D} (h : niD 0x110000 (b + 1) r = true) (h1 : wtD r ≤ 2 * wtD d + 30) (h2 : dpD r ≤ 1) : Bo b d r := ⟨h, h1, by omega⟩
theorem bo_one {b : Nat} {ds : List D} {k : Nat} {e r : D} (hs : niL 128 b ds = true) (he : ds[k]? = some e) (hr : Bo b e r) : Bo b (.tup ds) (.tup (ds.take k ++ [r] ++ ds.drop (k + 1))) := by
  have hk : k < ds.length := (List.getElem?_eq_some_iff.mp he).1
  have mem : e ∈ ds := List.mem_of_getElem? he
  have hsz : wtL ds = wtL (ds.take k) + (wtD e + wtL (ds.drop (k + 1))) := by
    have h1 := wtL_take k ds
    have h2 : ds.drop k = e :: ds.drop (k + 1) := by
      rw [List.drop_eq_getElem_cons hk]
      rw [List.getElem?_eq_getElem hk] at he
      rw [Option.some.inj he]
    rw [h2, wtL] at h1
    omega
  have m : ∀ x ∈ ds.take k ++ [r] ++ ds.drop (k + 1), x ∈ ds ∨ x = r := fun x hx => by
    rcases List.mem_append.mp hx with hx | hx
    · rcases List.mem_append.mp hx with hx | hx
      · exact .inl (List.mem_of_mem_take hx)
      · exact .inr (List.mem_singleton.mp hx)
    · exact .inl (List.mem_of_mem_drop hx)
  have e1 := hr.wt
  have e2 := hr.dp
  have d1 : dpD e ≤ dpL ds := dpL_le.mp (Nat.le_refl _) e mem
  have g1 : dpL (ds.take k ++ [r] ++ ds.drop (k + 1)) ≤ dpL ds + 3 := dpL_le.mpr fun x hx => by
    rcases m x hx with h | h
    · have := dpL_le.mp (Nat.le_refl (dpL ds)) x h
      omega
    · rw [h]; omega
  refine ⟨?_, ?_, by rw [dpD, dpD]; omega⟩
  · rw [niD]
    refine niL_iff.mpr fun x hx => ?_
    rcases m x hx with h | h
    · exact ni_mono (by decide) (by omega) (niL_iff.mp hs x h)
    · rw [h]; exact hr.ni
  · rw [wtD, wtD, wtL_append, wtL_append, wtL, wtL]
    omega
end NB
set_option Elab.async false
set_option linter.all false
set_option maxRecDepth 100000
set_option maxHeartbeats 1000000
set_option autoImplicit false
/-! Plain lemmas: lists of ints: equal, sorted, rising. -/
namespace NB
open PySem PySem.Spec PyProof.Rows L2
theorem eqOk_ints (xs ys : List Int) : eqOk (.lst (xs.map .int)) (.lst (ys.map .int)) = true := by
  unfold eqOk
  rw [okD, okD, ok_ints, ok_ints, dpD, dpD, dp_ints, dp_ints]
  rfl
theorem eqv_lstI (xs ys : List Int) : D.eqv (.lst (xs.map .int)) (.lst (ys.map .int)) = decide (xs = ys) := by
  unfold D.eqv
  rw [D.py, D.py, PyData.eqv, eqv_ints]
theorem srt_ints (l : List Int) : srt (l.map .int) = (l.mergeSort fun a b => decide (a ≤ b)).map .int := by
  unfold srt
  rw [← List.map_mergeSort]
  intro a _ b _
  show decide (a ≤ b) = PySem.W.dataLe false (fun p : Int => PyData.int p) a b
  rw [PySem.W.dataLe_int]
theorem sortOk_ints (l : List Int) (h : l.length ≤ 1000000) : SortOk (l.map .int) := by
  have e : (l.map D.int).map D.py = l.map fun p => PyData.int p := by
    rw [List.map_map]
    rfl
  refine ⟨ok_ints l, fun d hd => ?_, ?_, ?_, ?_⟩
  · obtain ⟨p, _, rfl⟩ := List.mem_map.mp hd
    simp [dpD]
  · rw [e]
    exact PySem.W.AllAlike.of fun b b' => by simp [PySem.W.alike]
  · rw [e]
    exact PySem.W.Sortable.others fun b => ⟨by simp, by simp⟩
  · have : sizeLine = 16777216 := sizeLine_eq
    rw [List.length_map]
    omega
/-- each one and the next -/
def chn (r : Int → Int → Bool) : List Int → Bool
  | a :: b :: l => r a b && chn r (b :: l)
  | [_] => true
  | [] => true
def gR (r : Int → Int → Bool) (d : D) : Bool := match d with
  | .tup [.int a, .int b] => r a b
  | _ => false
theorem zip_chn (r : Int → Int → Bool) : ∀ l : List Int, (zipD (l.map .int) (l.map .int).tail).all (gR r) = chn r l
  | [] => rfl
  | [a] => rfl
  | a :: b :: l => by
    have ih := zip_chn r (b :: l)
    rw [chn, ← ih]
    simp [zipD, gR]
theorem chn_iff {r : Int → Int → Bool} (tr : ∀ a b c, r a b = true → r b c = true → r a c = true) : ∀ {l : List Int}, chn r l = true ↔ l.Pairwise fun a b => r a b = true
  | [] => by simp [chn]
  | [a] => by simp [chn]
  | a :: b :: l => by
    rw [chn, Bool.and_eq_true, chn_iff tr (l := b :: l)]
    constructor
    · intro ⟨h1, h2⟩
      refine List.pairwise_cons.mpr ⟨fun y hy => ?_, h2⟩
      rcases List.mem_cons.mp hy with e | e
      · rw [e]; exact h1
      · exact tr _ _ _ h1 ((List.pairwise_cons.mp h2).1 y e)
    · intro h1
      obtain ⟨h2, h3⟩ := List.pairwise_cons.mp h1
      exact ⟨h2 b List.mem_cons_self, h3⟩
def ltI (a b : Int) : Bool := decide (a < b)
def leI (a b : Int) : Bool := decide (a ≤ b)
theorem chn_lt {l : List Int} : chn ltI l = true ↔ l.Pairwise (· < ·) := by
  rw [chn_iff fun a b c h g => by unfold ltI at *; rw [decide_eq_true_eq] at *; omega]
  unfold ltI
  simp
theorem chn_le {l : List Int} : chn leI l = true ↔ l.Pairwise (· ≤ ·) := by
  rw [chn_iff fun a b c h g => by unfold leI at *; rw [decide_eq_true_eq] at *; omega]
  unfold leI
  simp
theorem sort_le (l : List Int) : (l.mergeSort fun a b => decide (a ≤ b)).Pairwise (· ≤ ·) := by
  have := List.pairwise_mergeSort (le := fun a b : Int => decide (a ≤ b)) (fun a b c h1 h2 => by
    rw [decide_eq_true_eq] at *
    omega) (fun a b => by
    rw [Bool.or_eq_true, decide_eq_true_eq, decide_eq_true_eq]
    omega) l
  exact this.imp fun h => of_decide_eq_true h
theorem sort_same {l : List Int} : decide (l = l.mergeSort fun a b => decide (a ≤ b)) = chn leI l := by
  rw [Bool.eq_iff_iff, decide_eq_true_eq, chn_le]
  constructor
  · intro e
    rw [e]
    exact sort_le l
  · intro h
    exact (List.mergeSort_of_pairwise (h.imp fun z => decide_eq_true z)).symm
theorem setI_same {l es : List Int} (h1 : ∀ e, e ∈ es ↔ e ∈ l) (h2 : es.Pairwise (· < ·)) : decide (l = es) = chn ltI l := by
  rw [Bool.eq_iff_iff, decide_eq_true_eq, chn_lt]
  constructor
  · intro e
    rw [e]
    exact h2
  · intro h
    exact uniq_rise (fun x => x) h h2 fun e => (h1 e).symm
theorem rise_count {n : Int} {l : List Int} (h : l.Pairwise (· < ·)) (b : ∀ k ∈ l, 0 ≤ k ∧ k < n) (h0 : 0 ≤ n) : (l.length : Int) ≤ n := by
  have := rise_len (fun x : Int => x) n 0 h b h0
  omega
end NB
namespace NB
open PySem PySem.Spec PyProof.Rows L2
/-- a comprehension with a drawn test: some of the items -/
theorem compL_sub {p : Pt} {c : Wg Bool} {e : W} {ρw : List Sl} {n : Nat} {Q : List D → Nat → Prop} : ∀ {ds acc : List D} {t : Nat},
    (∀ d ∈ ds, ∃ ρ', bindP p d ρw = some ρ' ∧ (∀ t Q' E, t + n ≤ 2000000 → (∀ b t', t' ≤ t + n → Q' b ρ' t') → c ρ' t Q' E) ∧ ∀ t Q' E, Q' (.im d) ρ' t → e ρ' t Q' E) → acc.length + ds.length ≤ sizeLine → t + n * ds.length ≤ 2000000 →
    (∀ xs t', t' ≤ t + n * ds.length → xs.Sublist ds → Q (acc ++ xs) t') → compL p c e ρw ds acc t Q
  | [], acc, t, _, _, _, q => by
    rw [compL]
    have := q [] t (by simp) (List.Sublist.refl _)
    simpa using this
  | d :: ds, acc, t, h, hl, ht, q => by
    obtain ⟨ρ', h1, h2, h3⟩ := h d List.mem_cons_self
    rw [compL]
    rw [List.length_cons, Nat.mul_succ] at ht
    rw [List.length_cons] at hl
    refine ⟨ρ', h1, h2 t _ _ (by omega) fun b t1 l1 => ⟨rfl, ?_⟩⟩
    cases b with
    | true =>
      rw [if_pos rfl]
      refine h3 _ _ _ ⟨rfl, by omega, ?_⟩
      refine compL_sub (n := n) (fun d hd => h d (List.mem_cons_of_mem _ hd)) (by rw [List.length_append, List.length_singleton]; omega) (by omega) fun xs t' l2 sb => ?_
      rw [List.append_assoc]
      exact q (d :: xs) t' (by rw [List.length_cons, Nat.mul_succ]; omega) (sb.cons₂ d)
    | false =>
      rw [if_neg (by decide)]
      refine compL_sub (n := n) (fun d hd => h d (List.mem_cons_of_mem _ hd)) (by omega) (by omega) fun xs t' l2 sb => ?_
      exact q xs t' (by rw [List.length_cons, Nat.mul_succ]; omega) (sb.cons d)
theorem ints_all {P : Int → Prop} : ∀ {xs : List D}, (∀ x ∈ xs, ∃ i, x = .int i ∧ P i) → ∃ l : List Int, xs = l.map .int ∧ ∀ k ∈ l, P k
  | [], _ => ⟨[], rfl, fun _ h => nomatch h⟩
  | x :: xs, h => by
    obtain ⟨i, rfl, hi⟩ := h x List.mem_cons_self
    obtain ⟨l, rfl, hl⟩ := ints_all fun y hy => h y (List.mem_cons_of_mem _ hy)
    refine ⟨i :: l, rfl, fun k hk => ?_⟩
    rcases List.mem_cons.mp hk with e | e
    · rw [e]; exact hi
    · exact hl k e
/-- some of 0 .. n - 1, rising -/
theorem sub_range {n : Nat} {xs : List D} (h : xs.Sublist (rangeD 0 n)) : ∃ l : List Int, xs = l.map .int ∧ l.Pairwise (· < ·) ∧ (∀ k ∈ l, 0 ≤ k ∧ k < n) ∧ l.length ≤ n := by
  have e : rangeD 0 n = ((List.range n).map fun k : Nat => ((k : Nat) : Int)).map .int := by
    unfold rangeD
    rw [List.map_map]
    refine List.map_congr_left fun k _ => ?_
    simp
  rw [e] at h
  obtain ⟨l, hl, rfl⟩ := List.sublist_map_iff.mp h
  refine ⟨l, rfl, ?_, fun k hk => ?_, ?_⟩
  · refine List.Pairwise.sublist hl ?_
    rw [List.pairwise_map]
    exact List.pairwise_lt_range.imp fun h => by omega
  · obtain ⟨m, hm, rfl⟩ := List.mem_map.mp (hl.subset hk)
    have := List.mem_range.mp hm
    omega
  · have := hl.length_le
    rw [List.length_map, List.length_range] at this
    exact this
/-- all([e for x in xs]) where e says yes of each -/
theorem all_gives {e : W} {ρ ρ' : List Sl} {i j : Nat} {xs : List D} {t : Nat} {Q : R → List Sl → Nat → Prop} {E : KX} (hv : varW i ρ t = fun Q _ => Q (.im (.lst xs)) ρ' t)
    (he : ∀ x ∈ xs, ∀ Q' E, Q' (.im (.bl true)) ((wipeR ρ' [j]).set j (.im x)) t → e ((wipeR ρ' [j]).set j (.im x)) t Q' E) (hl : xs.length ≤ 1000000) (q : Q (.im (.bl true)) (wipeR ρ' [j]) t) :
    (opNW (g1 allD) (consO (valO (compW (seqI (varW i)) [j] (.nm j) yesT e)) nilW)) ρ t Q E := by
  simp only [opNW, consO, valO, compW, seqI, hv]
  refine ⟨xs, rfl, ?_⟩
  have hz : sizeLine = 16777216 := sizeLine_eq
  have h := compL_gives (p := .nm j) (e := e) (ρw := wipeR ρ' [j]) (g := id) (f := fun _ => D.bl true) (t := t) (xs := xs) (acc := []) (Q := fun acc t2 => nilW (wipeR ρ' [j]) t2 (fun os ρ2 t2 => ∃ ds r, rsvs ρ2 (.va (.lst acc) :: os) = some ds ∧ g1 allD ds = some r ∧ Q r ρ2 t2) E)
    (fun x hx => ⟨_, .im (.bl true), bindP_nm, rfl, fun Q' E' hq => ?_⟩) (by simp only [List.length_nil]; omega) ?_
  · rw [List.map_id] at h
    exact h
  · exact he x hx Q' E' hq
  · exact ⟨_, _, rfl, allD_yes fun x hx => by simp at hx; exact hx.2.symm, q⟩
/-! ### one step, whatever the def may be (the kernel is not to look into defs) -/
theorem call_of {F : WF} {a : Wg (List D)} {ds : List D} {ρ ρ' : List Sl} {t : Nat} {Q : R → List Sl → Nat → Prop} {E : KX} (ha : ∀ Q E, Q ds ρ' t → a ρ t Q E) (h : F ds t (fun r t' => Q r ρ' t') E) : callW F a ρ t Q E := ha _ _ h
theorem set_of {i : Nat} {w : W} {rest : WS} {ρ : List Sl} {t : Nat} {k : KS} (h : w ρ t (fun r ρ' t' => rest (ρ'.set i (slOf r)) t' k) k.ex) : seqS (setS i w) rest ρ t k := h
theorem setF_of {i : Nat} {w : W} {rest : WS} {ρ : List Sl} {t : Nat} {k : KS} (h : w ρ t (fun r ρ' t' => rest (frzI i (ρ'.set i (slOf r))) t' k) k.ex) : seqS (thenF i (setS i w)) rest ρ t k := h
theorem if_of {c : Wg Bool} {a rest : WS} {ρ : List Sl} {t : Nat} {k : KS} (h : c ρ t (fun x ρ1 t1 => if x = true then a ρ1 t1 { k with nx := fun ρ' t' => rest ρ' t' k } else rest ρ1 t1 k) k.ex) : seqS (ifS c a nextS) rest ρ t k := h
/-- the test says no: on -/
theorem guard_of {w : W} {a rest : WS} {ρ ρ1 : List Sl} {t t1 : Nat} {k : KS} (h : ∀ Q E, Q (.im (.bl true)) ρ1 t1 → w ρ t Q E) (g : rest ρ1 t1 k) : seqS (ifS (notT (testW w)) a nextS) rest ρ t k :=
  if_of (h _ _ ⟨true, rfl, g⟩)
theorem ret_of {w : W} {ρ : List Sl} {t : Nat} {k : KS} (h : w ρ t (fun r _ t' => k.rt r t') k.ex) : retS w ρ t k := h
theorem def_of {n m : Nat} {ws : WS} {ds : List D} {t : Nat} {Q : R → Nat → Prop} {E : KX} (hn : ds.length = n) (h : ws (slots0 m ds) t { nx := fun _ t' => Q (.im .non) t', rt := Q, ex := E, bk := fun _ _ => False, ct := fun _ _ => False }) : defW n m ws ds t Q E := ⟨hn, h⟩
end NB
set_option Elab.async false
set_option linter.all false
set_option maxRecDepth 100000
set_option maxHeartbeats 1000000
set_option autoImplicit false
/-! Plain lemmas: all trips, sorted ones. -/
namespace NB
open PySem PySem.Spec PyProof.Rows L2
def pD (p : Int × Int) : D := .tup [.int p.1, .int p.2]
def uP (d : D) : Int × Int := match d with
  | .tup [.int a, .int b] => (a, b)
  | _ => (0, 0)
theorem up_p (p : Int × Int) : uP (pD p) = p := rfl
def rowT (n i : Nat) : List (Int × Int) := ((List.range n).filter fun (k : Nat) => decide (i ≠ k)).map fun (k : Nat) => (((i : Nat) : Int), ((k : Nat) : Int))
def allT (n j : Nat) : List (Int × Int) := (List.range j).flatMap (rowT n)
theorem allT_succ (n j : Nat) : allT n (j + 1) = allT n j ++ rowT n j := by
  unfold allT
  rw [List.range_succ, List.flatMap_append, List.flatMap_singleton]
def goodT (n : Nat) : Bool := (decide ((allT n n).Nodup) && (allT n n).all fun p => (decide (0 ≤ p.1) && decide (p.1 ≤ (n : Int) - 1)) && (decide (0 ≤ p.2) && decide (p.2 ≤ (n : Int) - 1)) && decide (p.1 ≠ p.2)) && (decide (1 ≤ (allT n n).length) && decide ((allT n n).length ≤ 56))
theorem goodT_ok : ([2, 3, 4, 5, 6, 7, 8].all goodT) = true := by decide +kernel
structure GoodT (n : Nat) : Prop where
  nd : (allT n n).Nodup
  bd : ∀ p ∈ allT n n, (0 ≤ p.1 ∧ p.1 ≤ (n : Int) - 1) ∧ (0 ≤ p.2 ∧ p.2 ≤ (n : Int) - 1) ∧ p.1 ≠ p.2
  l0 : 1 ≤ (allT n n).length
  l1 : (allT n n).length ≤ 56
theorem good_of {n : Nat} (h0 : 2 ≤ n) (h1 : n ≤ 8) : GoodT n := by
  have hm : n ∈ [2, 3, 4, 5, 6, 7, 8] := by
    have : n = 2 ∨ n = 3 ∨ n = 4 ∨ n = 5 ∨ n = 6 ∨ n = 7 ∨ n = 8 := by omega
    simp
    omega
  have g := List.all_eq_true.mp goodT_ok n hm
  unfold goodT at g
  rw [Bool.and_eq_true, Bool.and_eq_true, Bool.and_eq_true, decide_eq_true_eq, decide_eq_true_eq, decide_eq_true_eq] at g
  obtain ⟨⟨g1, g2⟩, g3, g4⟩ := g
  refine ⟨g1, fun p hp => ?_, g3, g4⟩
  have := List.all_eq_true.mp g2 p hp
  rw [Bool.and_eq_true, Bool.and_eq_true, Bool.and_eq_true, Bool.and_eq_true, decide_eq_true_eq, decide_eq_true_eq, decide_eq_true_eq, decide_eq_true_eq, decide_eq_true_eq] at this
  exact ⟨this.1.1, this.1.2, this.2⟩
/-- some of a list of pairs -/
theorem some_of {T : List (Int × Int)} {xs rest : List D} (p : (xs ++ rest).Perm (T.map pD)) (nd : T.Nodup) : ∃ l : List (Int × Int), xs = l.map pD ∧ l.Nodup ∧ (∀ q ∈ l, q ∈ T) := by
  have mem : ∀ x ∈ xs, ∃ q ∈ T, x = pD q := fun x hx => by
    obtain ⟨q, h1, h2⟩ := List.mem_map.mp (p.mem_iff.mp (List.mem_append_left _ hx))
    exact ⟨q, h1, h2.symm⟩
  have back : ∀ x ∈ xs, pD (uP x) = x := fun x hx => by
    obtain ⟨q, _, rfl⟩ := mem x hx
    rw [up_p]
  have ndm : (T.map pD).Nodup := by
    unfold List.Nodup
    rw [List.pairwise_map]
    exact nd.imp fun {a b} h e => h (by rw [← up_p a, ← up_p b, e])
  have ndx : xs.Nodup := (List.nodup_append.mp (p.nodup_iff.mpr ndm)).1
  refine ⟨xs.map uP, ?_, ?_, fun q hq => ?_⟩
  · rw [List.map_map]
    have : xs.map (pD ∘ uP) = xs.map id := List.map_congr_left fun x hx => back x hx
    rw [this, List.map_id]
  · unfold List.Nodup
    rw [List.pairwise_map]
    exact List.Pairwise.imp_of_mem (fun {a b} ha hb h e => h (by rw [← back a ha, ← back b hb, e])) ndx
  · obtain ⟨x, hx, rfl⟩ := List.mem_map.mp hq
    obtain ⟨q, h1, rfl⟩ := mem x hx
    rw [up_p]
    exact h1
def leP (p q : Int × Int) : Bool := decide (p.1 < q.1 ∨ (p.1 = q.1 ∧ p.2 ≤ q.2))
theorem srt_pairs (l : List (Int × Int)) : srt (l.map pD) = (l.mergeSort leP).map pD := by
  unfold srt
  rw [← List.map_mergeSort]
  intro a _ b _
  show leP a b = PySem.W.dataLe false (fun p : Int × Int => PyData.tuple [.int p.1, .int p.2]) a b
  rw [PySem.W.dataLe_ii]
  rfl
theorem sort_rise {l : List (Int × Int)} (nd : l.Nodup) (h : ∀ p ∈ l, In8 p) : (l.mergeSort leP).Pairwise fun x y => cd x < cd y := by
  have pm := List.mergeSort_perm l leP
  have srt : (l.mergeSort leP).Pairwise fun a b => leP a b = true := List.pairwise_mergeSort (le := leP) (fun a b c h1 h2 => by
    unfold leP at *
    rw [decide_eq_true_eq] at *
    omega) (fun a b => by
    unfold leP
    rw [Bool.or_eq_true, decide_eq_true_eq, decide_eq_true_eq]
    omega) l
  refine List.Pairwise.imp_of_mem (fun {a b} ha hb hab => ?_) (srt.and (pm.nodup_iff.mpr nd))
  have h1 := h a (pm.mem_iff.mp ha)
  have h2 := h b (pm.mem_iff.mp hb)
  have h3 : leP a b = true := hab.1
  have h4 : cd a ≠ cd b := fun e => hab.2 (cd_inj h1 h2 e)
  unfold leP at h3
  rw [decide_eq_true_eq] at h3
  unfold cd at *
  unfold In8 at *
  omega
theorem sortOk_pairs (l : List (Int × Int)) (h : l.length ≤ 1000) : SortOk (l.map pD) := by
  have e : (l.map pD).map D.py = l.map fun p => PyData.tuple [.int p.1, .int p.2] := by
    rw [List.map_map]
    rfl
  refine ⟨?_, fun d hd => ?_, ?_, ?_, ?_⟩
  · induction l with
    | nil => rfl
    | cons p l ih => rw [List.map_cons, okL, ih (by rw [List.length_cons] at h; omega) (by rw [List.map_map]; rfl)]; rfl
  · obtain ⟨p, _, rfl⟩ := List.mem_map.mp hd
    simp [pD, dpD, dpL]
  · rw [e]
    exact PySem.W.AllAlike.of fun b b' => by simp [PySem.W.alike, PySem.W.alikeAll]
  · rw [e]
    exact PySem.W.Sortable.tuples fun b => ⟨_, _, rfl⟩
  · have : sizeLine = 16777216 := sizeLine_eq
    rw [List.length_map]
    omega
end NB
set_option Elab.async false
set_option linter.all false
set_option maxRecDepth 100000
set_option maxHeartbeats 4000000
set_option autoImplicit false
/-! Printed by pr.py: what the defs of the law do, by data. -/
namespace LW
open PySem PySem.Spec PyProof.Rows L2 NB

def excNames : List Str := ["BadRule", "NoText", "BadName"]
def k_WORDS : List Str := ["here", "out", "room", "up", "down", "top", "bottom", "calls above", "calls below", "wishes above", "wishes below", "near above", "near below", "own above", "own below", "company"]
def k_DEEDS : List Str := ["open", "up", "down", "rest"]
def k_KNOWN : List (Str × Str) := [("collect", "open if out\nopen if here and room\nup if up and calls above\nup if up and wishes above\ndown if down and calls below\ndown if down and wishes below\nup if calls above\nup if wishes above\ndown if calls below\ndown if wishes below"), ("group", "open if out\nopen if here and room\nup if up and own above\nup if up and wishes above\ndown if down and own below\ndown if down and wishes below\nup if own above\nup if wishes above\ndown if own below\ndown if wishes below"), ("highest", "open if out\nopen if here and room and no calls above\nup if calls above and room\ndown if calls below and room\nup if wishes above\ndown if wishes below"), ("loop", "open if out\nopen if here and room\nup if bottom\ndown if top\ndown if down\nup"), ("nearest", "open if out\nopen if here and room\nup if near above\ndown if near below\nup if calls above\nup if wishes above")]
def w_is_tuple : WS :=
    (retS (andV (isiW .tuple (slotO 0)) (chainW leD leD (slotO 1) (valO (opNW (g1 lenD) (consO (slotO 0) nilW))) (slotO 2))))
def F_is_tuple : WF := defW 3 3 w_is_tuple
theorem ar_is_tuple : Ar 3 F_is_tuple := ar_def
def w_is_word : WS :=
    (retS (andV (isiW .str (slotO 0)) (op2W inD (slotO 0) (slotO 1))))
def F_is_word : WF := defW 2 2 w_is_word
theorem ar_is_word : Ar 2 F_is_word := ar_def
def w_is_test : WS :=
    (retS (andV (callW F_is_tuple (consD (varW 0) (consD (pureW (.im (.int 2))) (consD (pureW (.im (.int 2))) nilW)))) (andV (callW F_is_word (consD (op2W itemD (slotO 0) (valO (pureW (.im (.int 0))))) (consD (pureW (.im (.tup (k_WORDS.map .str)))) nilW))) (isiW .bool (valO (op2W itemD (slotO 0) (valO (pureW (.im (.int 1))))))))))
def F_is_test : WF := defW 1 1 w_is_test
theorem ar_is_test : Ar 1 F_is_test := ar_def
def w_is_clause : WS :=
    (seqS (ifS (orT (notT (testW (callW F_is_tuple (consD (varW 0) (consD (pureW (.im (.int 2))) (consD (pureW (.im (.int 2))) nilW)))))) (orT (notT (testW (callW F_is_tuple (consD (op2W itemD (slotO 0) (valO (pureW (.im (.int 0))))) (consD (pureW (.im (.int 0))) (consD (pureW (.im (.int 4))) nilW)))))) (notT (testW (callW F_is_word (consD (op2W itemD (slotO 0) (valO (pureW (.im (.int 1))))) (consD (pureW (.im (.tup (k_DEEDS.map .str)))) nilW))))))) (retS (pureW (.im (.bl false)))) nextS)
    (seqS (ifS (notT (testW (opNW (g1 allD) (consO (valO (compW (seqI (op2W itemD (slotO 0) (valO (pureW (.im (.int 0)))))) [1] (.nm 1) yesT (callW F_is_test (consD (varW 1) nilW)))) nilW)))) (retS (pureW (.im (.bl false)))) nextS)
    (seqS (thenF 2 (setS 2 (compW (seqI (op2W itemD (slotO 0) (valO (pureW (.im (.int 0)))))) [3, 4] (.tp [(.nm 3), (.nm 4)]) yesT (varW 3))))
    (retS (opNW (g1 allD) (consO (valO (compW (seqI (varW 2)) [3] (.nm 3) yesT (op2W eqD (valO (m1W "list" countD (slotO 2) (slotO 3))) (valO (pureW (.im (.int 1))))))) nilW))))))
def F_is_clause : WF := defW 1 5 w_is_clause
theorem ar_is_clause : Ar 1 F_is_clause := ar_def
def w_is_rule : WS :=
    (retS (andV (callW F_is_tuple (consD (varW 0) (consD (pureW (.im (.int 1))) (consD (pureW (.im (.int 20))) nilW)))) (opNW (g1 allD) (consO (valO (compW (seqI (varW 0)) [1] (.nm 1) yesT (callW F_is_clause (consD (varW 1) nilW)))) nilW))))
def F_is_rule : WF := defW 1 2 w_is_rule
theorem ar_is_rule : Ar 1 F_is_rule := ar_def
def w_check_rule : WS :=
    (ifS (notT (testW (callW F_is_rule (consD (varW 0) nilW)))) (raiseS "BadRule" (varW 0)) nextS)
def F_check_rule : WF := defW 1 1 w_check_rule
theorem ar_check_rule : Ar 1 F_check_rule := ar_def
def w_test_text : WS :=
    (seqS (unpS (.tp [(.nm 1), (.nm 2)]) (varW 0))
    (retS (ifV (testW (varW 2)) (varW 1) (op2W addD (valO (pureW (.im (.str "no ")))) (slotO 1)))))
def F_test_text : WF := defW 1 3 w_test_text
theorem ar_test_text : Ar 1 F_test_text := ar_def
def w_clause_text : WS :=
    (seqS (unpS (.tp [(.nm 1), (.nm 2)]) (varW 0))
    (retS (ifV (testW (op2W eqD (slotO 1) (valO (tupW nilW)))) (varW 2) (op2W addD (valO (op2W addD (slotO 2) (valO (pureW (.im (.str " if ")))))) (valO (m1W "str" joinD (valO (pureW (.im (.str " and ")))) (valO (compW (seqI (varW 1)) [3] (.nm 3) yesT (callW F_test_text (consD (varW 3) nilW))))))))))
def F_clause_text : WF := defW 1 4 w_clause_text
theorem ar_clause_text : Ar 1 F_clause_text := ar_def
def w_rule_text_1 : WS :=
    (retS (m1W "str" joinD (valO (pureW (.im (.str "\n")))) (valO (compW (seqI (varW 0)) [1] (.nm 1) yesT (callW F_clause_text (consD (varW 1) nilW))))))
def w_rule_text : WS :=
    (seqS (dropS (callW F_check_rule (consD (varW 0) nilW))) w_rule_text_1)
def F_rule_text : WF := defW 1 2 w_rule_text
theorem ar_rule_text : Ar 1 F_rule_text := ar_def
def w_test_in : WS :=
    (retS (ifV (testW (op2W eqD (valO (sliceW (slotO 0) noneP (someP (opNW (g1 lenD) (consO (valO (pureW (.im (.str "no ")))) nilW))))) (valO (pureW (.im (.str "no ")))))) (tupW (consD (sliceW (slotO 0) (someP (opNW (g1 lenD) (consO (valO (pureW (.im (.str "no ")))) nilW))) noneP) (consD (pureW (.im (.bl false))) nilW))) (tupW (consD (varW 0) (consD (pureW (.im (.bl true))) nilW)))))
def F_test_in : WF := defW 1 1 w_test_in
theorem ar_test_in : Ar 1 F_test_in := ar_def
def w_clause_in : WS :=
    (seqS (setS 1 (m1W "str" findD (slotO 0) (valO (pureW (.im (.str " if "))))))
    (seqS (ifS (testW (op2W ltD (slotO 1) (valO (pureW (.im (.int 0)))))) (retS (tupW (consD (tupW nilW) (consD (varW 0) nilW)))) nextS)
    (retS (tupW (consD (opNW (g1 tupOfD) (consO (valO (compW (seqI (m1W "str" splitD (valO (sliceW (slotO 0) (someP (op2W addD (slotO 1) (valO (opNW (g1 lenD) (consO (valO (pureW (.im (.str " if ")))) nilW))))) noneP)) (valO (pureW (.im (.str " and ")))))) [2] (.nm 2) yesT (callW F_test_in (consD (varW 2) nilW)))) nilW)) (consD (sliceW (slotO 0) noneP (someP (varW 1))) nilW))))))
def F_clause_in : WF := defW 1 3 w_clause_in
theorem ar_clause_in : Ar 1 F_clause_in := ar_def
def w_read_rule_3 : WS :=
    (retV 1)
def w_read_rule_2 : WS :=
    (seqS (ifS (orT (notT (testW (callW F_is_rule (consD (varW 1) nilW)))) (testW (op2W neD (valO (callW F_rule_text (consD (varW 1) nilW))) (slotO 0)))) (raiseS "NoText" (varW 0)) nextS) w_read_rule_3)
def w_read_rule_1 : WS :=
    (seqS (setS 1 (opNW (g1 tupOfD) (consO (valO (compW (seqI (m1W "str" splitD (slotO 0) (valO (pureW (.im (.str "\n")))))) [2] (.nm 2) yesT (callW F_clause_in (consD (varW 2) nilW)))) nilW))) w_read_rule_2)
def w_read_rule : WS :=
    (seqS (ifS (notT (testW (isiW .str (slotO 0)))) (raiseS "NoText" (varW 0)) nextS) w_read_rule_1)
def F_read_rule : WF := defW 1 3 w_read_rule
theorem ar_read_rule : Ar 1 F_read_rule := ar_def
def w_known_rule_1 : WS :=
    (retS (callW F_read_rule (consD (op1W (ofTab k_KNOWN) (slotO 0)) nilW)))
def w_known_rule : WS :=
    (seqS (ifS (orT (notT (testW (isiW .str (slotO 0)))) (testW (op1W (notInTab k_KNOWN) (slotO 0)))) (raiseS "BadName" (varW 0)) nextS) w_known_rule_1)
def F_known_rule : WF := defW 1 1 w_known_rule
theorem ar_known_rule : Ar 1 F_known_rule := ar_def
def w__law_of : WS :=
    (retS (op2W itemD (slotO 1) (valO (callW takeW (consD (varW 0) (consD (opNW (g1 lenD) (consO (slotO 1) nilW)) nilW))))))
def F__law_of : WF := defW 2 2 w__law_of
theorem ar__law_of : Ar 2 F__law_of := ar_def
def w__law_cells : WS :=
    (retS (lstRgW (opNW (g2 max2D) (consO (valO (pureW (.im (.int 1)))) (consO (valO (opNW (g2 min2D) (consO (slotO 1) (consO (valO (opNW (g1 lenD) (consO (slotO 0) nilW))) nilW)))) nilW)))))
def F__law_cells : WF := defW 2 2 w__law_cells
theorem ar__law_cells : Ar 2 F__law_cells := ar_def
def w__law_some : WS :=
    (seqS (parS 3 4 (opNW (g1 lstOfD) (consO (slotO 1) nilW)) (lstW nilW))
    (seqS (forS (range1I (consD (varW 2) nilW)) (.nm 5) (dropS (ownW 4 (consD (ownW 3 (consD (callW takeW (consD (varW 0) (consD (opNW (g1 lenD) (consO (slotO 3) nilW)) nilW))) nilW) popAtF) nilW) appendF)))
    (retV 4)))
def F__law_some : WF := defW 3 6 w__law_some
theorem ar__law_some : Ar 3 F__law_some := ar_def
def w__law_words : WS :=
    (seqS (setS 0 (lstW (consD (pureW (.im (.str "here"))) (consD (pureW (.im (.str "out"))) (consD (pureW (.im (.str "room"))) (consD (pureW (.im (.str "up"))) (consD (pureW (.im (.str "down"))) (consD (pureW (.im (.str "top"))) (consD (pureW (.im (.str "bottom"))) (consD (pureW (.im (.str "calls above"))) (consD (pureW (.im (.str "calls below"))) (consD (pureW (.im (.str "wishes above"))) nilW))))))))))))
    (retS (op2W addD (slotO 0) (valO (lstW (consD (pureW (.im (.str "wishes below"))) (consD (pureW (.im (.str "near above"))) (consD (pureW (.im (.str "near below"))) (consD (pureW (.im (.str "own above"))) (consD (pureW (.im (.str "own below"))) (consD (pureW (.im (.str "company"))) nilW)))))))))))
def F__law_words : WF := defW 0 1 w__law_words
theorem ar__law_words : Ar 0 F__law_words := ar_def
def w__law_known : WS :=
    (seqS (parS 1 2 (pureW (.im (.str "calls"))) (lstW (consD (pureW (.im (.str "open if out"))) (consD (pureW (.im (.str "open if here and room"))) nilW))))
    (seqS (ifS (testW (op2W eqD (slotO 0) (valO (pureW (.im (.str "nearest")))))) (retS (op2W addD (slotO 2) (valO (lstW (consD (pureW (.im (.str "up if near above"))) (consD (pureW (.im (.str "down if near below"))) (consD (pureW (.im (.str "up if calls above"))) (consD (pureW (.im (.str "up if wishes above"))) nilW)))))))) nextS)
    (seqS (ifS (testW (op2W eqD (slotO 0) (valO (pureW (.im (.str "loop")))))) (retS (op2W addD (slotO 2) (valO (lstW (consD (pureW (.im (.str "up if bottom"))) (consD (pureW (.im (.str "down if top"))) (consD (pureW (.im (.str "down if down"))) (consD (pureW (.im (.str "up"))) nilW)))))))) nextS)
    (seqS (ifS (testW (op2W eqD (slotO 0) (valO (pureW (.im (.str "highest")))))) (seqS (setS 3 (lstW (consD (pureW (.im (.str "open if out"))) (consD (pureW (.im (.str "open if here and room and no calls above"))) (consD (pureW (.im (.str "up if calls above and room"))) nilW)))))
    (retS (op2W addD (slotO 3) (valO (lstW (consD (pureW (.im (.str "down if calls below and room"))) (consD (pureW (.im (.str "up if wishes above"))) (consD (pureW (.im (.str "down if wishes below"))) nilW)))))))) nextS)
    (seqS (ifS (testW (op2W eqD (slotO 0) (valO (pureW (.im (.str "group")))))) (setS 1 (pureW (.im (.str "own")))) nextS)
    (seqS (setS 3 (lstW (consD (op2W addD (valO (op2W addD (valO (pureW (.im (.str "up if up and ")))) (slotO 1))) (valO (pureW (.im (.str " above"))))) (consD (pureW (.im (.str "up if up and wishes above"))) (consD (op2W addD (valO (op2W addD (valO (pureW (.im (.str "down if down and ")))) (slotO 1))) (valO (pureW (.im (.str " below"))))) nilW)))))
    (seqS (setS 3 (op2W addD (slotO 3) (valO (lstW (consD (pureW (.im (.str "down if down and wishes below"))) (consD (op2W addD (valO (op2W addD (valO (pureW (.im (.str "up if ")))) (slotO 1))) (valO (pureW (.im (.str " above"))))) (consD (pureW (.im (.str "up if wishes above"))) nilW)))))))
    (retS (op2W addD (valO (op2W addD (slotO 2) (slotO 3))) (valO (lstW (consD (op2W addD (valO (op2W addD (valO (pureW (.im (.str "down if ")))) (slotO 1))) (valO (pureW (.im (.str " below"))))) (consD (pureW (.im (.str "down if wishes below"))) nilW)))))))))))))
def F__law_known : WF := defW 1 4 w__law_known
theorem ar__law_known : Ar 1 F__law_known := ar_def
def w__law_clause_in : WS :=
    (seqS (parS 1 2 (op2W itemD (valO (m1W "str" splitD (slotO 0) (valO (pureW (.im (.str " if ")))))) (valO (pureW (.im (.int 0))))) (sliceW (valO (m1W "str" splitD (slotO 0) (valO (pureW (.im (.str " if ")))))) (someP (pureW (.im (.int 1)))) noneP))
    (seqS (setS 3 (lstW nilW))
    (seqS (forS (seqI (ifV (testW (op2W neD (slotO 2) (valO (lstW nilW)))) (m1W "str" splitD (valO (op2W itemD (slotO 2) (valO (pureW (.im (.int 0)))))) (valO (pureW (.im (.str " and "))))) (lstW nilW))) (.nm 4) (dropS (ownW 3 (consD (ifV (testW (op2W eqD (valO (sliceW (slotO 4) noneP (someP (pureW (.im (.int 3)))))) (valO (pureW (.im (.str "no ")))))) (tupW (consD (sliceW (slotO 4) (someP (pureW (.im (.int 3)))) noneP) (consD (pureW (.im (.bl false))) nilW))) (tupW (consD (varW 4) (consD (pureW (.im (.bl true))) nilW)))) nilW) appendF)))
    (retS (tupW (consD (opNW (g1 tupOfD) (consO (slotO 3) nilW)) (consD (varW 1) nilW)))))))
def F__law_clause_in : WF := defW 1 5 w__law_clause_in
theorem ar__law_clause_in : Ar 1 F__law_clause_in := ar_def
def w__law_clause : WS :=
    (seqS (setS 1 (compW (seqI (callW F__law_some (consD (varW 0) (consD (callW F__law_words nilW) (consD (callW F__law_of (consD (varW 0) (consD (lstW (consD (pureW (.im (.int 0))) (consD (pureW (.im (.int 1))) (consD (pureW (.im (.int 1))) (consD (pureW (.im (.int 2))) (consD (pureW (.im (.int 2))) (consD (pureW (.im (.int 3))) (consD (pureW (.im (.int 4))) nilW)))))))) nilW))) nilW))))) [2] (.nm 2) yesT (tupW (consD (varW 2) (consD (op2W gtD (valO (callW takeW (consD (varW 0) (consD (pureW (.im (.int 3))) nilW)))) (valO (pureW (.im (.int 0))))) nilW)))))
    (retS (tupW (consD (opNW (g1 tupOfD) (consO (slotO 1) nilW)) (consD (callW F__law_of (consD (varW 0) (consD (lstW (consD (pureW (.im (.str "open"))) (consD (pureW (.im (.str "open"))) (consD (pureW (.im (.str "up"))) (consD (pureW (.im (.str "down"))) (consD (pureW (.im (.str "rest"))) nilW)))))) nilW))) nilW)))))
def F__law_clause : WF := defW 1 3 w__law_clause
theorem ar__law_clause : Ar 1 F__law_clause := ar_def
def w__law_rule_5 : WS :=
    (retS (opNW (g1 tupOfD) (consO (slotO 2) nilW)))
def w__law_rule_4 : WS :=
    (seqS (ifS (testW (op2W eqD (slotO 3) (valO (pureW (.im (.int 1)))))) (setS 2 (op2W addD (valO (sliceW (slotO 2) noneP (someP (varW 5)))) (valO (sliceW (slotO 2) (someP (op2W addD (slotO 5) (valO (pureW (.im (.int 1)))))) noneP)))) (ifS (testW (op2W eqD (slotO 3) (valO (pureW (.im (.int 2)))))) (setS 2 (op2W addD (valO (op2W addD (valO (sliceW (slotO 2) noneP (someP (varW 5)))) (valO (lstW (consD (callW F__law_clause (consD (varW 0) nilW)) nilW))))) (valO (sliceW (slotO 2) (someP (varW 5)) noneP)))) (ifS (testW (op2W eqD (slotO 3) (valO (pureW (.im (.int 3)))))) (swapS 2 5 6) nextS))) w__law_rule_5)
def w__law_rule_3 : WS :=
    (seqS (ifS (testW (op2W eqD (slotO 3) (valO (pureW (.im (.int 0)))))) (retS (opNW (g1 tupOfD) (consO (valO (compW (range1I (consD (op2W addD (valO (pureW (.im (.int 1)))) (valO (callW takeW (consD (varW 0) (consD (pureW (.im (.int 8))) nilW))))) nilW)) [7] (.nm 7) yesT (callW F__law_clause (consD (varW 0) nilW)))) nilW))) nextS) w__law_rule_4)
def w__law_rule_2 : WS :=
    (seqS (parS 5 6 (callW takeW (consD (varW 0) (consD (opNW (g1 lenD) (consO (slotO 2) nilW)) nilW))) (callW takeW (consD (varW 0) (consD (opNW (g1 lenD) (consO (slotO 2) nilW)) nilW)))) w__law_rule_3)
def w__law_rule_1 : WS :=
    (seqS (parS 2 3 (compW (seqI (callW F__law_known (consD (varW 1) nilW))) [4] (.nm 4) yesT (callW F__law_clause_in (consD (varW 4) nilW))) (callW takeW (consD (varW 0) (consD (pureW (.im (.int 6))) nilW)))) w__law_rule_2)
def w__law_rule : WS :=
    (seqS (setS 1 (callW F__law_of (consD (varW 0) (consD (lstW (consD (pureW (.im (.str "collect"))) (consD (pureW (.im (.str "collect"))) (consD (pureW (.im (.str "loop"))) (consD (pureW (.im (.str "nearest"))) (consD (pureW (.im (.str "highest"))) (consD (pureW (.im (.str "group"))) nilW))))))) nilW)))) w__law_rule_1)
def F__law_rule : WF := defW 1 8 w__law_rule
theorem ar__law_rule : Ar 1 F__law_rule := ar_def
def w__law_text_2 : WS :=
    (retS (m1W "str" joinD (valO (pureW (.im (.str "\n")))) (slotO 1)))
def w__law_text_1 : WS :=
    (seqS (forS (seqI (varW 0)) (.tp [(.nm 2), (.nm 3)]) (seqS (setS 4 (compW (seqI (varW 2)) [5, 6] (.tp [(.nm 5), (.nm 6)]) yesT (ifV (testW (varW 6)) (varW 5) (op2W addD (valO (pureW (.im (.str "no ")))) (slotO 5)))))
    (dropS (ownW 1 (consD (ifV (testW (op2W eqD (slotO 4) (valO (lstW nilW)))) (varW 3) (op2W addD (valO (op2W addD (slotO 3) (valO (pureW (.im (.str " if ")))))) (valO (m1W "str" joinD (valO (pureW (.im (.str " and ")))) (slotO 4))))) nilW) appendF)))) w__law_text_2)
def w__law_text : WS :=
    (seqS (setS 1 (lstW nilW)) w__law_text_1)
def F__law_text : WF := defW 1 7 w__law_text
theorem ar__law_text : Ar 1 F__law_text := ar_def
def w__law_is_read_2 : WS :=
    (retS (andV (op2W isBlD (valO (callW F_is_rule (consD (varW 2) nilW))) (valO (pureW (.im (.bl true))))) (op2W eqD (valO (callW F__law_text (consD (varW 2) nilW))) (slotO 0))))
def w__law_is_read_1 : WS :=
    (seqS (ifS (testW (op2W notNoneD (slotO 1) (valO (pureW (.im .non))))) (retS (andV (isEW excNames "NoText" (slotO 1)) (op2W eqD (valO (opNW (g1 reprD) (consO (valO (op1W (excVD excNames) (slotO 1))) nilW))) (valO (opNW (g1 reprD) (consO (slotO 0) nilW)))))) nextS) w__law_is_read_2)
def w__law_is_read : WS :=
    (seqS (unpS (.tp [(.nm 1), (.nm 2)]) (heardW excNames (callW F_read_rule (consD (varW 0) nilW)))) w__law_is_read_1)
def F__law_is_read : WF := defW 1 3 w__law_is_read
theorem ar__law_is_read : Ar 1 F__law_is_read := ar_def
def w__law_otherwise_8 : WS :=
    (retS (m1W "str" joinD (valO (pureW (.im (.str " ")))) (valO (op2W addD (valO (op2W addD (valO (sliceW (slotO 5) noneP (someP (varW 6)))) (valO (lstW (consD (varW 7) nilW))))) (valO (sliceW (slotO 5) (someP (op2W addD (slotO 6) (valO (op2W modD (slotO 4) (valO (pureW (.im (.int 2)))))))) noneP))))))
def w__law_otherwise_7 : WS :=
    (seqS (setS 7 (callW F__law_of (consD (varW 0) (consD (lstW (consD (pureW (.im (.str "no"))) (consD (pureW (.im (.str "if"))) (consD (pureW (.im (.str "and"))) (consD (pureW (.im (.str "here"))) (consD (pureW (.im (.str "up"))) (consD (pureW (.im (.str "calls above"))) (consD (pureW (.im (.str "above"))) (consD (pureW (.im (.str "rest"))) (consD (pureW (.im (.str "no no"))) (consD (pureW (.im (.str ""))) nilW))))))))))) nilW)))) w__law_otherwise_8)
def w__law_otherwise_6 : WS :=
    (seqS (ifS (testW (op2W eqD (slotO 4) (valO (pureW (.im (.int 3)))))) (retS (m1W "str" joinD (valO (pureW (.im (.str " ")))) (valO (op2W addD (valO (sliceW (slotO 5) noneP (someP (varW 6)))) (valO (sliceW (slotO 5) (someP (op2W addD (slotO 6) (valO (pureW (.im (.int 1)))))) noneP)))))) nextS) w__law_otherwise_7)
def w__law_otherwise_5 : WS :=
    (seqS (setS 6 (callW takeW (consD (varW 0) (consD (opNW (g1 lenD) (consO (slotO 5) nilW)) nilW)))) w__law_otherwise_6)
def w__law_otherwise_4 : WS :=
    (seqS (setS 5 (m1W "str" splitD (slotO 1) (valO (pureW (.im (.str " ")))))) w__law_otherwise_5)
def w__law_otherwise_3 : WS :=
    (seqS (ifS (testW (op2W eqD (slotO 4) (valO (pureW (.im (.int 2)))))) (retS (m1W "str" joinD (valO (pureW (.im (.str "\n")))) (valO (op1W backLD (valO (m1W "str" splitD (slotO 1) (valO (pureW (.im (.str "\n")))))))))) nextS) w__law_otherwise_4)
def w__law_otherwise_2 : WS :=
    (seqS (ifS (testW (op2W eqD (slotO 4) (valO (pureW (.im (.int 1)))))) (retS (op2W addD (valO (op2W addD (valO (sliceW (slotO 1) noneP (someP (varW 2)))) (slotO 3))) (valO (sliceW (slotO 1) (someP (varW 2)) noneP)))) nextS) w__law_otherwise_3)
def w__law_otherwise_1 : WS :=
    (seqS (ifS (testW (op2W eqD (slotO 4) (valO (pureW (.im (.int 0)))))) (retS (op2W addD (valO (sliceW (slotO 1) noneP (someP (varW 2)))) (valO (sliceW (slotO 1) (someP (op2W addD (slotO 2) (valO (pureW (.im (.int 1)))))) noneP)))) nextS) w__law_otherwise_2)
def w__law_otherwise : WS :=
    (seqS (par3S 2 3 4 (callW takeW (consD (varW 0) (consD (op2W addD (valO (opNW (g1 lenD) (consO (slotO 1) nilW))) (valO (pureW (.im (.int 1))))) nilW))) (callW F__law_of (consD (varW 0) (consD (pureW (.im (.str " \nopendwuifanhre"))) nilW))) (callW takeW (consD (varW 0) (consD (pureW (.im (.int 6))) nilW)))) w__law_otherwise_1)
def F__law_otherwise : WF := defW 2 8 w__law_otherwise
theorem ar__law_otherwise : Ar 2 F__law_otherwise := ar_def
def w__law_hand_2 : WS :=
    (retS (op2W addD (slotO 0) (valO (lstW (consD (pureW (.im (.str "open if above"))) (consD (pureW (.im (.str "if here"))) (consD (pureW (.im (.str "open if here and out and room and up and top"))) (consD (m1W "str" joinD (valO (pureW (.im (.str "\n")))) (valO (op2W mulLD (valO (lstW (consD (pureW (.im (.str "rest"))) nilW))) (valO (pureW (.im (.int 21))))))) (consD (pureW (.im (.str "no"))) nilW)))))))))
def w__law_hand_1 : WS :=
    (seqS (setS 0 (op2W addD (slotO 0) (valO (lstW (consD (pureW (.im (.str "open if no no here"))) (consD (pureW (.im (.str "open if here and here"))) (consD (pureW (.im (.str "open if here and no here"))) (consD (pureW (.im (.str "open\n"))) (consD (pureW (.im (.str "open if here if out"))) nilW))))))))) w__law_hand_2)
def w__law_hand : WS :=
    (seqS (setS 0 (lstW (consD (pureW (.im (.str ""))) (consD (pureW (.im (.str "open if"))) (consD (pureW (.im (.str "open if "))) (consD (pureW (.im (.str "close"))) (consD (pureW (.im (.str "open if here and"))) (consD (pureW (.im (.str "open if here or out"))) (consD (pureW (.im (.str "open  if here"))) (consD (pureW (.im (.str "Open"))) (consD (pureW (.im (.str " open"))) nilW))))))))))) w__law_hand_1)
def F__law_hand : WF := defW 0 1 w__law_hand
theorem ar__law_hand : Ar 0 F__law_hand := ar_def
def w__law_right_12 : WS :=
    (retS (andV (isEW excNames "BadName" (slotO 6)) (op2W eqD (valO (opNW (g1 reprD) (consO (valO (op1W (excVD excNames) (slotO 6))) nilW))) (valO (opNW (g1 reprD) (consO (slotO 5) nilW))))))
def w__law_right_11 : WS :=
    (seqS (setS 6 (op2W itemD (valO (heardW excNames (callW F_known_rule (consD (varW 5) nilW)))) (valO (pureW (.im (.int 0)))))) w__law_right_12)
def w__law_right_10 : WS :=
    (seqS (setS 5 (callW F__law_of (consD (varW 0) (consD (lstW (consD (pureW (.im .non)) (consD (pureW (.im (.int 7))) (consD (pureW (.im (.str "Loop"))) (consD (pureW (.im (.str ""))) (consD (pureW (.im (.str "loop "))) (consD (lstW (consD (pureW (.im (.str "loop"))) nilW)) (consD (tupW (consD (pureW (.im (.str "loop"))) nilW)) (consD (pureW (.im (.bl true))) nilW))))))))) nilW)))) w__law_right_11)
def w__law_right_9 : WS :=
    (seqS (ifS (orT (notT (testW (isEW excNames "BadRule" (slotO 6)))) (testW (op2W neD (valO (opNW (g1 reprD) (consO (valO (op1W (excVD excNames) (slotO 6))) nilW))) (valO (opNW (g1 reprD) (consO (slotO 5) nilW)))))) (retS (pureW (.im (.bl false)))) nextS) w__law_right_10)
def w__law_right_8 : WS :=
    (seqS (setS 6 (op2W itemD (valO (heardW excNames (callW F_rule_text (consD (varW 5) nilW)))) (valO (pureW (.im (.int 0)))))) w__law_right_9)
def w__law_right_7 : WS :=
    (seqS (setS 5 (callW F__law_of (consD (varW 0) (consD (lstW (consD (pureW (.im .non)) (consD (varW 2) (consD (opNW (g1 lstOfD) (consO (slotO 1) nilW)) (consD (tupW nilW) (consD (tupW (consD (tupW (consD (tupW (consD (pureW (.im (.str "here"))) (consD (pureW (.im (.bl true))) nilW))) nilW)) (consD (pureW (.im (.str "open"))) nilW))) (consD (op2W addD (slotO 1) (valO (tupW (consD (pureW (.im .non)) nilW)))) nilW))))))) nilW)))) w__law_right_8)
def w__law_right_6 : WS :=
    (seqS (ifS (orT (notT (testW (isEW excNames "NoText" (slotO 6)))) (testW (op2W neD (valO (opNW (g1 reprD) (consO (valO (op1W (excVD excNames) (slotO 6))) nilW))) (valO (opNW (g1 reprD) (consO (slotO 5) nilW)))))) (retS (pureW (.im (.bl false)))) nextS) w__law_right_7)
def w__law_right_5 : WS :=
    (seqS (setS 6 (op2W itemD (valO (heardW excNames (callW F_read_rule (consD (varW 5) nilW)))) (valO (pureW (.im (.int 0)))))) w__law_right_6)
def w__law_right_4 : WS :=
    (seqS (setS 5 (callW F__law_of (consD (varW 0) (consD (lstW (consD (pureW (.im .non)) (consD (pureW (.im (.int 7))) (consD (lstW (consD (pureW (.im (.str "open"))) nilW)) (consD (varW 1) (consD (pureW (.im (.bl true))) (consD (tupW (consD (pureW (.im (.str "a"))) (consD (pureW (.im (.int 1))) nilW))) nilW))))))) nilW)))) w__law_right_5)
def w__law_right_3 : WS :=
    (seqS (forS (range1I (consD (pureW (.im (.int 14))) nilW)) (.nm 3) (seqS (setS 4 (callW F__law_otherwise (consD (varW 0) (consD (varW 2) nilW))))
    (ifS (orT (notT (testW (callW F__law_is_read (consD (varW 4) nilW)))) (notT (testW (callW F__law_is_read (consD (callW F__law_otherwise (consD (varW 0) (consD (varW 4) nilW))) nilW))))) (retS (pureW (.im (.bl false)))) nextS))) w__law_right_4)
def w__law_right_2 : WS :=
    (seqS (ifS (orT (testW (op2W neD (valO (callW F_rule_text (consD (varW 1) nilW))) (slotO 2))) (testW (op2W neD (valO (opNW (g1 reprD) (consO (valO (callW F_read_rule (consD (varW 2) nilW))) nilW))) (valO (opNW (g1 reprD) (consO (slotO 1) nilW)))))) (retS (pureW (.im (.bl false)))) nextS) w__law_right_3)
def w__law_right_1 : WS :=
    (seqS (setS 2 (callW F__law_text (consD (varW 1) nilW))) w__law_right_2)
def w__law_right : WS :=
    (seqS (setS 1 (callW F__law_rule (consD (varW 0) nilW))) w__law_right_1)
def F__law_right : WF := defW 1 7 w__law_right
theorem ar__law_right : Ar 1 F__law_right := ar_def
def w_law_2 : WS :=
    (retS (opNW (g1 allD) (consO (valO (compW (seqI (callW F__law_cells (consD (varW 0) (consD (pureW (.im (.int 3))) nilW)))) [5] (.nm 5) yesT (callW F__law_right (consD (callW potW (consD (varW 0) (consD (varW 5) nilW))) nilW)))) nilW)))
def w_law_1 : WS :=
    (seqS (forS (seqI (callW F__law_hand nilW)) (.nm 3) (seqS (setS 4 (op2W itemD (valO (heardW excNames (callW F_read_rule (consD (varW 3) nilW)))) (valO (pureW (.im (.int 0))))))
    (ifS (notT (testW (isEW excNames "NoText" (slotO 4)))) (retS (pureW (.im (.bl false)))) nextS))) w_law_2)
def w_law : WS :=
    (seqS (forS (seqI (tupW (consD (pureW (.im (.str "collect"))) (consD (pureW (.im (.str "group"))) (consD (pureW (.im (.str "highest"))) (consD (pureW (.im (.str "loop"))) (consD (pureW (.im (.str "nearest"))) nilW))))))) (.nm 1) (ifS (testW (op2W neD (valO (opNW (g1 reprD) (consO (valO (callW F_known_rule (consD (varW 1) nilW))) nilW))) (valO (opNW (g1 reprD) (consO (valO (opNW (g1 tupOfD) (consO (valO (compW (seqI (callW F__law_known (consD (varW 1) nilW))) [2] (.nm 2) yesT (callW F__law_clause_in (consD (varW 2) nilW)))) nilW))) nilW))))) (retS (pureW (.im (.bl false)))) nextS)) w_law_1)
def F_law : WF := defW 1 6 w_law
theorem ar_law : Ar 1 F_law := ar_def
end LW
set_option Elab.async false
set_option linter.all false
set_option maxRecDepth 100000
set_option maxHeartbeats 4000000
set_option autoImplicit false
/-! Printed by pr.py: the walks of the law. -/
namespace LW
open PySem PySem.Spec PyProof.Rows L2 NB

def topS (i : Nat) : Stmt := PySem.Challenge.pw_nobodyleft_k04_rules_written_and_read_an.main.body.getD i (.Pass ⟨0, 0, 0, 0⟩)
abbrev st_is_tuple : Stmt := topS 1
theorem sc_is_tuple : FnScope ["value", "least", "most"] ["value", "least", "most"] (defScope st_is_tuple) := ⟨rfl, rfl, rfl, by decide +kernel, rfl, by decide +kernel, by decide +kernel⟩

abbrev st_is_word : Stmt := topS 2
theorem sc_is_word : FnScope ["value", "words"] ["value", "words"] (defScope st_is_word) := ⟨rfl, rfl, rfl, by decide +kernel, rfl, by decide +kernel, by decide +kernel⟩

abbrev st_is_test : Stmt := topS 18
theorem sc_is_test : FnScope ["value"] ["value"] (defScope st_is_test) := ⟨rfl, rfl, rfl, by decide +kernel, rfl, by decide +kernel, by decide +kernel⟩

abbrev st_is_clause : Stmt := topS 19
theorem sc_is_clause : FnScope ["value", "test", "words", "word", "due"] ["value"] (defScope st_is_clause) := ⟨rfl, rfl, rfl, by decide +kernel, rfl, by decide +kernel, by decide +kernel⟩

abbrev st_is_rule : Stmt := topS 20
theorem sc_is_rule : FnScope ["value", "clause"] ["value"] (defScope st_is_rule) := ⟨rfl, rfl, rfl, by decide +kernel, rfl, by decide +kernel, by decide +kernel⟩

abbrev st_check_rule : Stmt := topS 21
theorem sc_check_rule : FnScope ["value"] ["value"] (defScope st_check_rule) := ⟨rfl, rfl, rfl, by decide +kernel, rfl, by decide +kernel, by decide +kernel⟩

abbrev st_test_text : Stmt := topS 22
theorem sc_test_text : FnScope ["test", "word", "due"] ["test"] (defScope st_test_text) := ⟨rfl, rfl, rfl, by decide +kernel, rfl, by decide +kernel, by decide +kernel⟩

abbrev st_clause_text : Stmt := topS 23
theorem sc_clause_text : FnScope ["clause", "tests", "deed", "test"] ["clause"] (defScope st_clause_text) := ⟨rfl, rfl, rfl, by decide +kernel, rfl, by decide +kernel, by decide +kernel⟩

abbrev st_rule_text : Stmt := topS 24
theorem sc_rule_text : FnScope ["rule", "clause"] ["rule"] (defScope st_rule_text) := ⟨rfl, rfl, rfl, by decide +kernel, rfl, by decide +kernel, by decide +kernel⟩

abbrev st_test_in : Stmt := topS 25
theorem sc_test_in : FnScope ["text"] ["text"] (defScope st_test_in) := ⟨rfl, rfl, rfl, by decide +kernel, rfl, by decide +kernel, by decide +kernel⟩

abbrev st_clause_in : Stmt := topS 26
theorem sc_clause_in : FnScope ["row", "at", "text"] ["row"] (defScope st_clause_in) := ⟨rfl, rfl, rfl, by decide +kernel, rfl, by decide +kernel, by decide +kernel⟩

abbrev st_read_rule : Stmt := topS 27
theorem sc_read_rule : FnScope ["text", "found", "row"] ["text"] (defScope st_read_rule) := ⟨rfl, rfl, rfl, by decide +kernel, rfl, by decide +kernel, by decide +kernel⟩

abbrev st_known_rule : Stmt := topS 34
theorem sc_known_rule : FnScope ["name"] ["name"] (defScope st_known_rule) := ⟨rfl, rfl, rfl, by decide +kernel, rfl, by decide +kernel, by decide +kernel⟩

abbrev st__law_pot : Stmt := topS 36
theorem sc__law_pot : FnScope ["script", "place", "cell", "own", "small"] ["script", "place"] (defScope st__law_pot) := ⟨rfl, rfl, rfl, by decide +kernel, rfl, by decide +kernel, by decide +kernel⟩

abbrev st__law_take : Stmt := topS 37
theorem sc__law_take : FnScope ["pot", "upto", "digit", "prime", "blend"] ["pot", "upto"] (defScope st__law_take) := ⟨rfl, rfl, rfl, by decide +kernel, rfl, by decide +kernel, by decide +kernel⟩

abbrev st__law_of : Stmt := topS 38
theorem sc__law_of : FnScope ["pot", "some"] ["pot", "some"] (defScope st__law_of) := ⟨rfl, rfl, rfl, by decide +kernel, rfl, by decide +kernel, by decide +kernel⟩

abbrev st__law_cells : Stmt := topS 39
theorem sc__law_cells : FnScope ["script", "limit"] ["script", "limit"] (defScope st__law_cells) := ⟨rfl, rfl, rfl, by decide +kernel, rfl, by decide +kernel, by decide +kernel⟩

abbrev st__law_some : Stmt := topS 40
theorem sc__law_some : FnScope ["pot", "pool", "many", "rests", "found", "lap"] ["pot", "pool", "many"] (defScope st__law_some) := ⟨rfl, rfl, rfl, by decide +kernel, rfl, by decide +kernel, by decide +kernel⟩

abbrev st__law_heard : Stmt := topS 41
theorem sc__law_heard : FnScope ["call", "caught", "back", "error"] ["call"] (defScope st__law_heard) := ⟨rfl, rfl, rfl, by decide +kernel, rfl, by decide +kernel, by decide +kernel⟩

abbrev st__law_words : Stmt := topS 42
theorem sc__law_words : FnScope ["found"] [] (defScope st__law_words) := ⟨rfl, rfl, rfl, by decide +kernel, rfl, by decide +kernel, by decide +kernel⟩

abbrev st__law_known : Stmt := topS 43
theorem sc__law_known : FnScope ["name", "calls", "head", "rows"] ["name"] (defScope st__law_known) := ⟨rfl, rfl, rfl, by decide +kernel, rfl, by decide +kernel, by decide +kernel⟩

abbrev st__law_clause_in : Stmt := topS 44
theorem sc__law_clause_in : FnScope ["row", "deed", "tests", "found", "test"] ["row"] (defScope st__law_clause_in) := ⟨rfl, rfl, rfl, by decide +kernel, rfl, by decide +kernel, by decide +kernel⟩

abbrev st__law_clause : Stmt := topS 45
theorem sc__law_clause : FnScope ["pot", "tests", "word"] ["pot"] (defScope st__law_clause) := ⟨rfl, rfl, rfl, by decide +kernel, rfl, by decide +kernel, by decide +kernel⟩

abbrev st__law_rule : Stmt := topS 46
theorem sc__law_rule : FnScope ["pot", "name", "rows", "way", "row", "at", "to", "lap"] ["pot"] (defScope st__law_rule) := ⟨rfl, rfl, rfl, by decide +kernel, rfl, by decide +kernel, by decide +kernel⟩

abbrev st__law_text : Stmt := topS 47
theorem sc__law_text : FnScope ["rule", "rows", "tests", "deed", "words", "word", "due"] ["rule"] (defScope st__law_text) := ⟨rfl, rfl, rfl, by decide +kernel, rfl, by decide +kernel, by decide +kernel⟩

abbrev st__law_is_read : Stmt := topS 48
theorem sc__law_is_read : FnScope ["text", "caught", "back"] ["text"] (defScope st__law_is_read) := ⟨rfl, rfl, rfl, by decide +kernel, rfl, by decide +kernel, by decide +kernel⟩

abbrev st__law_otherwise : Stmt := topS 49
theorem sc__law_otherwise : FnScope ["pot", "text", "at", "sign", "way", "words", "spot", "word"] ["pot", "text"] (defScope st__law_otherwise) := ⟨rfl, rfl, rfl, by decide +kernel, rfl, by decide +kernel, by decide +kernel⟩

abbrev st__law_hand : Stmt := topS 50
theorem sc__law_hand : FnScope ["some"] [] (defScope st__law_hand) := ⟨rfl, rfl, rfl, by decide +kernel, rfl, by decide +kernel, by decide +kernel⟩

abbrev st__law_right : Stmt := topS 51
theorem sc__law_right : FnScope ["pot", "rule", "text", "lap", "other", "odd", "caught"] ["pot"] (defScope st__law_right) := ⟨rfl, rfl, rfl, by decide +kernel, rfl, by decide +kernel, by decide +kernel⟩

abbrev st_law : Stmt := topS 52
theorem sc_law : FnScope ["script", "name", "row", "text", "caught", "place"] ["script"] (defScope st_law) := ⟨rfl, rfl, rfl, by decide +kernel, rfl, by decide +kernel, by decide +kernel⟩

abbrev st_init : Stmt := methS (topS 4) 0
theorem sc_init : FnScope ["self", "value"] ["self", "value"] (defScope st_init) := ⟨rfl, rfl, rfl, by decide +kernel, rfl, by decide +kernel, by decide +kernel⟩
theorem h__law_heard {X : Cx} {CS : Addr} (hL : X.mg "LiftError" = some (.ref CS)) (g : Addr) (cdg : Value) (q : Str) : HearsK X ["call", "caught", "back", "error"] "_law_heard" (defScope st__law_heard) g cdg (defBody st__law_heard) "call" q (TTheard X.K CS) := fun f c' s H Q tl act hc h => ⟨_,
    pss_cons (ps_asg (pe_tup (pa_cons pe_non (pa_cons pe_non pa_nil))) (pg_tup rfl (pgs_cons (pg_name (i := 1) sc__law_heard.nd (by rfl) (.inl rfl)) (pgs_cons (pg_name (i := 2) sc__law_heard.nd (by rfl) (.inl rfl)) pgs_nil))))
      (pss_cons (ps_try_keep (X := (hCx X ["call", "caught", "back", "error"] "_law_heard" (defScope st__law_heard) g cdg s H).nox) (c := .ref CS) (i := 3) (tb := fun W => tAsg (fun σZ HZ Q => σZ[0]? = some (some (V.ref f)) ∧ HZ c' = some (LamX.CodeO c' q) ∧ ∃ (E : XK) (Q' : VK), (∀ v H', Q' v H' → Q v H') ∧ (∀ cls d H', E cls d H' → W cls d σZ H') ∧ tl E HZ Q') (gName 2)) (ts := fun _ _ _ => tAsg (tVar 3) (gName 1)) rfl rfl sc__law_heard.nd (by rfl) (by rfl) ⟨by rfl, by decide, .inl hL⟩ rfl
        (fun W pn xe tk _ => pss_one (ps_set (i := 2) sc__law_heard.nd (by rfl) (.inl rfl) (act W pn xe _ _ tk))) (fun a oe cls d pn _ _ => pss_one (ps_set (i := 1) sc__law_heard.nd (by rfl) (.inl rfl) (pv 3))))
      (pss_one (ps_ret (pe_tup (pa_cons (pv 1) (pa_cons (pv 2) pa_nil)))))), heard_read hc h⟩
/-- the text behind the top -/
structure Tx (K : PySem.W.Frag) (mg : Str → Option Value) : Prop where
  d_is_tuple : Df K mg "is_tuple" st_is_tuple ["value", "least", "most"]
  d_is_word : Df K mg "is_word" st_is_word ["value", "words"]
  d_is_test : Df K mg "is_test" st_is_test ["value"]
  d_is_clause : Df K mg "is_clause" st_is_clause ["value"]
  d_is_rule : Df K mg "is_rule" st_is_rule ["value"]
  d_check_rule : Df K mg "check_rule" st_check_rule ["value"]
  d_test_text : Df K mg "test_text" st_test_text ["test"]
  d_clause_text : Df K mg "clause_text" st_clause_text ["clause"]
  d_rule_text : Df K mg "rule_text" st_rule_text ["rule"]
  d_test_in : Df K mg "test_in" st_test_in ["text"]
  d_clause_in : Df K mg "clause_in" st_clause_in ["row"]
  d_read_rule : Df K mg "read_rule" st_read_rule ["text"]
  d_known_rule : Df K mg "known_rule" st_known_rule ["name"]
  d__law_pot : Df K mg "_law_pot" st__law_pot ["script", "place"]
  d__law_take : Df K mg "_law_take" st__law_take ["pot", "upto"]
  d__law_of : Df K mg "_law_of" st__law_of ["pot", "some"]
  d__law_cells : Df K mg "_law_cells" st__law_cells ["script", "limit"]
  d__law_some : Df K mg "_law_some" st__law_some ["pot", "pool", "many"]
  d__law_heard : Df K mg "_law_heard" st__law_heard ["call"]
  d__law_words : Df K mg "_law_words" st__law_words []
  d__law_known : Df K mg "_law_known" st__law_known ["name"]
  d__law_clause_in : Df K mg "_law_clause_in" st__law_clause_in ["row"]
  d__law_clause : Df K mg "_law_clause" st__law_clause ["pot"]
  d__law_rule : Df K mg "_law_rule" st__law_rule ["pot"]
  d__law_text : Df K mg "_law_text" st__law_text ["rule"]
  d__law_is_read : DfL K mg "_law_is_read" st__law_is_read ["text"]
  d__law_otherwise : Df K mg "_law_otherwise" st__law_otherwise ["pot", "text"]
  d__law_hand : Df K mg "_law_hand" st__law_hand []
  d__law_right : DfL K mg "_law_right" st__law_right ["pot"]
  s_FEED : ∃ t, mg "FEED" = some (.str "\n" t)
  s_IF : ∃ t, mg "IF" = some (.str " if " t)
  s_AND : ∃ t, mg "AND" = some (.str " and " t)
  s_NO : ∃ t, mg "NO" = some (.str "no " t)
  s_COLLECT : ∃ t, mg "COLLECT" = some (.str "open if out\nopen if here and room\nup if up and calls above\nup if up and wishes above\ndown if down and calls below\ndown if down and wishes below\nup if calls above\nup if wishes above\ndown if calls below\ndown if wishes below" t)
  s_NEAREST : ∃ t, mg "NEAREST" = some (.str "open if out\nopen if here and room\nup if near above\ndown if near below\nup if calls above\nup if wishes above" t)
  s_LOOP : ∃ t, mg "LOOP" = some (.str "open if out\nopen if here and room\nup if bottom\ndown if top\ndown if down\nup" t)
  s_HIGHEST : ∃ t, mg "HIGHEST" = some (.str "open if out\nopen if here and room and no calls above\nup if calls above and room\ndown if calls below and room\nup if wishes above\ndown if wishes below" t)
  s_GROUP : ∃ t, mg "GROUP" = some (.str "open if out\nopen if here and room\nup if up and own above\nup if up and wishes above\ndown if down and own below\ndown if down and wishes below\nup if own above\nup if wishes above\ndown if own below\ndown if wishes below" t)
  g_MOST_CLAUSES : ∃ t, mg "MOST_CLAUSES" = some (.int 20 t)
  g_MOST_TESTS : ∃ t, mg "MOST_TESTS" = some (.int 4 t)
  g_PAIR : ∃ t, mg "PAIR" = some (.int 2 t)
  g_WORDS : ∃ u, mg "WORDS" = some u ∧ TupK K u (k_WORDS.map V.str)
  g_DEEDS : ∃ u, mg "DEEDS" = some u ∧ TupK K u (k_DEEDS.map V.str)
  m_ValueError : mg "ValueError" = none
  m_abs : mg "abs" = none
  m_all : mg "all" = none
  m_bool : mg "bool" = none
  m_int : mg "int" = none
  m_isinstance : mg "isinstance" = none
  m_len : mg "len" = none
  m_list : mg "list" = none
  m_max : mg "max" = none
  m_min : mg "min" = none
  m_range : mg "range" = none
  m_repr : mg "repr" = none
  m_str : mg "str" = none
  m_sum : mg "sum" = none
  m_tuple : mg "tuple" = none
/-- the dicts behind the top -/
structure Dk (w : World) (K : PySem.W.Frag) (mg : Str → Option Value) : Prop where
  k_KNOWN : KTab K w mg "KNOWN" k_KNOWN
/-! ### they do it -/
section
variable {Pr : Program} {w : World} {K : PySem.W.Frag} {mg : Str → Option Value} {base : Heap} {fI CS : Addr} {ad : Str → Addr} {fdI : FuncData}
theorem c_is_tuple (V : Tx K mg) (B : Ec Pr w K mg base excNames fI CS ad fdI) (DK : Dk w K mg) : Cl Pr w K mg base 1 "is_tuple" 3 F_is_tuple := cl_of V.d_is_tuple sc_is_tuple fun f cdv A outer s H E hr hg lv hx =>
    (dss_one (ds_ret (de_and (de_isi (by rfl) V.m_isinstance (ty_tuple (by rfl) V.m_tuple) (do_var (pv 0))) (de_one (de_chain op_leDD op_leDD (do_var (pv 1)) (do_of (de_callB oc_len (by rfl) V.m_len bt_len (doa_cons (do_var (pv 0)) doa_nil (by rfl)))) (do_var (pv 2)) (by rfl))))))
theorem c_is_word (V : Tx K mg) (B : Ec Pr w K mg base excNames fI CS ad fdI) (DK : Dk w K mg) : Cl Pr w K mg base 1 "is_word" 2 F_is_word := cl_of V.d_is_word sc_is_word fun f cdv A outer s H E hr hg lv hx =>
    (dss_one (ds_ret (de_and (de_isi (by rfl) V.m_isinstance (ty_str (by rfl) V.m_str) (do_var (pv 0))) (de_one (de_cmp (op_inDD (u65 hr)) (do_var (pv 0)) (do_var (pv 1)) (by rfl))))))
theorem c_is_test (V : Tx K mg) (B : Ec Pr w K mg base excNames fI CS ad fdI) (DK : Dk w K mg) : Cl Pr w K mg base 2 "is_test" 1 F_is_test := cl_of V.d_is_test sc_is_test fun f cdv A outer s H E hr hg lv hx =>
    (dss_one (ds_ret (de_and (de_cl (c_is_tuple V B DK) ar_is_tuple (hr.mono (by omega)) hg (by rfl) (da_cons (de_var (pv 0)) (da_cons (de_gint (by rfl) V.g_PAIR) (da_cons (de_gint (by rfl) V.g_PAIR) da_nil (by rfl)) (by rfl)) (by rfl))) (de_and (de_cl (c_is_word V B DK) ar_is_word (hr.mono (by omega)) hg (by rfl) (da_cons (de_item (do_var (pv 0)) (do_of de_i) (fun _ _ => rfl)) (da_cons (de_gtup (by rfl) V.g_WORDS) da_nil (by rfl)) (by rfl))) (de_one (de_isi (by rfl) V.m_isinstance (ty_bool (by rfl) V.m_bool) (do_of (de_item (do_var (pv 0)) (do_of de_i) (fun _ _ => rfl)))))))))
theorem c_is_clause (V : Tx K mg) (B : Ec Pr w K mg base excNames fI CS ad fdI) (DK : Dk w K mg) : Cl Pr w K mg base 3 "is_clause" 1 F_is_clause := cl_of V.d_is_clause sc_is_clause fun f cdv A outer s H E hr hg lv hx =>
    (dss_cons (ds_if (PW.pt (dw_or (dt_not (dt_v (de_cl (c_is_tuple V B DK) ar_is_tuple (hr.mono (by omega)) hg (by rfl) (da_cons (de_var (pv 0)) (da_cons (de_gint (by rfl) V.g_PAIR) (da_cons (de_gint (by rfl) V.g_PAIR) da_nil (by rfl)) (by rfl)) (by rfl))))) (dw_or (dt_not (dt_v (de_cl (c_is_tuple V B DK) ar_is_tuple (hr.mono (by omega)) hg (by rfl) (da_cons (de_item (do_var (pv 0)) (do_of de_i) (fun _ _ => rfl)) (da_cons de_i (da_cons (de_gint (by rfl) V.g_MOST_TESTS) da_nil (by rfl)) (by rfl)) (by rfl))))) (dw_or1 (dt_not (dt_v (de_cl (c_is_word V B DK) ar_is_word (hr.mono (by omega)) hg (by rfl) (da_cons (de_item (do_var (pv 0)) (do_of de_i) (fun _ _ => rfl)) (da_cons (de_gtup (by rfl) V.g_DEEDS) da_nil (by rfl)) (by rfl))))))))) (dss_one (ds_ret de_b)) dss_nil)
    (dss_cons (ds_if (dt_not (dt_v (de_callB (oc_all (by rfl)) (by rfl) V.m_all bt_all (doa_cons (do_of (de_comp (own := [("test", 1)]) (by rfl) sc_is_clause.nd (di_seq (de_item (do_var (pv 0)) (do_of de_i) (fun _ _ => rfl))) (blkOk_by (own := [("test", 1)]) (N := ["value", "test", "words", "word", "due"]) (sc := defScope st_is_clause) (by decide +kernel)) (by decide) (fun _ _ _ _ _ => (dp_name sc_is_clause.nd (by rfl) (by first | exact .inl rfl | exact .inr rfl) (by first | exact .inl rfl | exact .inr rfl))) (fun _ _ _ _ _ => dts_nil) (fun _ _ _ _ _ => (de_cl (c_is_test V B DK) ar_is_test (hr.mono (by omega)) hg (by rfl) (da_cons (de_var (pv 1)) da_nil (by rfl)))) (fun _ => rfl))) doa_nil (by rfl))))) (dss_one (ds_ret de_b)) dss_nil)
    (dss_cons (ds_thenF (i := 2) (ds_set (i := 2) sc_is_clause.nd (by rfl) (by first | exact .inl rfl | exact .inr rfl) (de_comp (own := [("word", 3), ("due", 4)]) (by rfl) sc_is_clause.nd (di_seq (de_item (do_var (pv 0)) (do_of de_i) (fun _ _ => rfl))) (blkOk_by (own := [("word", 3), ("due", 4)]) (N := ["value", "test", "words", "word", "due"]) (sc := defScope st_is_clause) (by decide +kernel)) (by decide) (fun _ _ _ _ _ => (dp_tup rfl (dps_cons (dp_name sc_is_clause.nd (by rfl) (by first | exact .inl rfl | exact .inr rfl) (by first | exact .inl rfl | exact .inr rfl)) (dps_cons (dp_name sc_is_clause.nd (by rfl) (by first | exact .inl rfl | exact .inr rfl) (by first | exact .inl rfl | exact .inr rfl)) dps_nil (by rfl)) (by rfl)) (by rfl) (by rfl))) (fun _ _ _ _ _ => dts_nil) (fun _ _ _ _ _ => (de_var (pv 3))) (fun _ => rfl)) (by rfl) (.inl rfl)))
    (dss_one (ds_ret (de_callB (oc_all (by rfl)) (by rfl) V.m_all bt_all (doa_cons (do_of (de_comp (own := [("word", 3)]) (by rfl) sc_is_clause.nd (di_seq (de_var (pv 2))) (blkOk_by (own := [("word", 3)]) (N := ["value", "test", "words", "word", "due"]) (sc := defScope st_is_clause) (by decide +kernel)) (by decide) (fun _ _ _ _ _ => (dp_name sc_is_clause.nd (by rfl) (by first | exact .inl rfl | exact .inr rfl) (by first | exact .inl rfl | exact .inr rfl))) (fun _ _ _ _ _ => dts_nil) (fun _ _ _ _ _ => (de_cmp (op_eqDD hr.units) (do_of (de_m1 PySem.F.plainAttrs_list PySem.F.slot_list_count PySem.F.type_list_count (mt_countD (u65 hr)) (do_var (pv 2)) (do_var (pv 3)))) (do_of de_i) (nomark _))) (fun _ => rfl))) doa_nil (by rfl))))))))
theorem c_is_rule (V : Tx K mg) (B : Ec Pr w K mg base excNames fI CS ad fdI) (DK : Dk w K mg) : Cl Pr w K mg base 4 "is_rule" 1 F_is_rule := cl_of V.d_is_rule sc_is_rule fun f cdv A outer s H E hr hg lv hx =>
    (dss_one (ds_ret (de_and (de_cl (c_is_tuple V B DK) ar_is_tuple (hr.mono (by omega)) hg (by rfl) (da_cons (de_var (pv 0)) (da_cons de_i (da_cons (de_gint (by rfl) V.g_MOST_CLAUSES) da_nil (by rfl)) (by rfl)) (by rfl))) (de_one (de_callB (oc_all (by rfl)) (by rfl) V.m_all bt_all (doa_cons (do_of (de_comp (own := [("clause", 1)]) (by rfl) sc_is_rule.nd (di_seq (de_var (pv 0))) (blkOk_by (own := [("clause", 1)]) (N := ["value", "clause"]) (sc := defScope st_is_rule) (by decide +kernel)) (by decide) (fun _ _ _ _ _ => (dp_name sc_is_rule.nd (by rfl) (by first | exact .inl rfl | exact .inr rfl) (by first | exact .inl rfl | exact .inr rfl))) (fun _ _ _ _ _ => dts_nil) (fun _ _ _ _ _ => (de_cl (c_is_clause V B DK) ar_is_clause (hr.mono (by omega)) hg (by rfl) (da_cons (de_var (pv 1)) da_nil (by rfl)))) (fun _ => rfl))) doa_nil (by rfl)))))))
theorem c_check_rule (V : Tx K mg) (B : Ec Pr w K mg base excNames fI CS ad fdI) (DK : Dk w K mg) : Cl Pr w K mg base 5 "check_rule" 1 F_check_rule := cl_of V.d_check_rule sc_check_rule fun f cdv A outer s H E hr hg lv hx =>
    (dss_one (ds_if (dt_not (dt_v (de_cl (c_is_rule V B DK) ar_is_rule (hr.mono (by omega)) hg (by rfl) (da_cons (de_var (pv 0)) da_nil (by rfl))))) (dss_one (ds_raise B.es (by decide +kernel) B.io B.bi lv rfl (hr.mono (by omega)) (by rfl) (de_var (pv 0)))) dss_nil))
theorem c_test_text (V : Tx K mg) (B : Ec Pr w K mg base excNames fI CS ad fdI) (DK : Dk w K mg) : Cl Pr w K mg base 1 "test_text" 1 F_test_text := cl_of V.d_test_text sc_test_text fun f cdv A outer s H E hr hg lv hx =>
    (dss_cons (ds_unp (de_var (pv 0)) (dp_tup rfl (dps_cons (dp_name sc_test_text.nd (by rfl) (by first | exact .inl rfl | exact .inr rfl) (by first | exact .inl rfl | exact .inr rfl)) (dps_cons (dp_name sc_test_text.nd (by rfl) (by first | exact .inl rfl | exact .inr rfl) (by first | exact .inl rfl | exact .inr rfl)) dps_nil (by rfl)) (by rfl)) (by rfl) (by rfl)) (by rfl) (by rfl) (by rfl))
    (dss_one (ds_ret (de_if (dt_v (de_var (pv 2))) (de_var (pv 1)) (de_bin op_addD (do_of (de_gstr (by rfl) V.s_NO)) (do_var (pv 1)))))))
theorem c_clause_text (V : Tx K mg) (B : Ec Pr w K mg base excNames fI CS ad fdI) (DK : Dk w K mg) : Cl Pr w K mg base 2 "clause_text" 1 F_clause_text := cl_of V.d_clause_text sc_clause_text fun f cdv A outer s H E hr hg lv hx =>
    (dss_cons (ds_unp (de_var (pv 0)) (dp_tup rfl (dps_cons (dp_name sc_clause_text.nd (by rfl) (by first | exact .inl rfl | exact .inr rfl) (by first | exact .inl rfl | exact .inr rfl)) (dps_cons (dp_name sc_clause_text.nd (by rfl) (by first | exact .inl rfl | exact .inr rfl) (by first | exact .inl rfl | exact .inr rfl)) dps_nil (by rfl)) (by rfl)) (by rfl) (by rfl)) (by rfl) (by rfl) (by rfl))
    (dss_one (ds_ret (de_if (dt_cmp (op_eqDD hr.units) (do_var (pv 1)) (do_of (de_tup da_nil)) (nomark _)) (de_var (pv 2)) (de_bin op_addD (do_of (de_bin op_addD (do_var (pv 2)) (do_of (de_gstr (by rfl) V.s_IF)))) (do_of (de_m1 PySem.F.plainAttrs_str PySem.F.slot_str_join PySem.F.type_str_join mt_joinD (do_of (de_gstr (by rfl) V.s_AND)) (do_of (de_comp (own := [("test", 3)]) (by rfl) sc_clause_text.nd (di_seq (de_var (pv 1))) (blkOk_by (own := [("test", 3)]) (N := ["clause", "tests", "deed", "test"]) (sc := defScope st_clause_text) (by decide +kernel)) (by decide) (fun _ _ _ _ _ => (dp_name sc_clause_text.nd (by rfl) (by first | exact .inl rfl | exact .inr rfl) (by first | exact .inl rfl | exact .inr rfl))) (fun _ _ _ _ _ => dts_nil) (fun _ _ _ _ _ => (de_cl (c_test_text V B DK) ar_test_text (hr.mono (by omega)) hg (by rfl) (da_cons (de_var (pv 3)) da_nil (by rfl)))) (fun _ => rfl))))))))))
theorem c_rule_text (V : Tx K mg) (B : Ec Pr w K mg base excNames fI CS ad fdI) (DK : Dk w K mg) : Cl Pr w K mg base 6 "rule_text" 1 F_rule_text := cl_of V.d_rule_text sc_rule_text fun f cdv A outer s H E hr hg lv hx =>
    (dss_cons (ds_drop (de_cl (c_check_rule V B DK) ar_check_rule (hr.mono (by omega)) hg (by rfl) (da_cons (de_var (pv 0)) da_nil (by rfl))) (by rfl))
    (dss_one (ds_ret (de_m1 PySem.F.plainAttrs_str PySem.F.slot_str_join PySem.F.type_str_join mt_joinD (do_of (de_gstr (by rfl) V.s_FEED)) (do_of (de_comp (own := [("clause", 1)]) (by rfl) sc_rule_text.nd (di_seq (de_var (pv 0))) (blkOk_by (own := [("clause", 1)]) (N := ["rule", "clause"]) (sc := defScope st_rule_text) (by decide +kernel)) (by decide) (fun _ _ _ _ _ => (dp_name sc_rule_text.nd (by rfl) (by first | exact .inl rfl | exact .inr rfl) (by first | exact .inl rfl | exact .inr rfl))) (fun _ _ _ _ _ => dts_nil) (fun _ _ _ _ _ => (de_cl (c_clause_text V B DK) ar_clause_text (hr.mono (by omega)) hg (by rfl) (da_cons (de_var (pv 1)) da_nil (by rfl)))) (fun _ => rfl)))))))
theorem c_test_in (V : Tx K mg) (B : Ec Pr w K mg base excNames fI CS ad fdI) (DK : Dk w K mg) : Cl Pr w K mg base 1 "test_in" 1 F_test_in := cl_of V.d_test_in sc_test_in fun f cdv A outer s H E hr hg lv hx =>
    (dss_one (ds_ret (de_if (dt_cmp (op_eqDD hr.units) (do_of (de_slice (do_var (pv 0)) dpo_none (dpo_some (de_callB oc_len (by rfl) V.m_len bt_len (doa_cons (do_of (de_gstr (by rfl) V.s_NO)) doa_nil (by rfl)))))) (do_of (de_gstr (by rfl) V.s_NO)) (nomark _)) (de_tup (da_cons (de_slice (do_var (pv 0)) (dpo_some (de_callB oc_len (by rfl) V.m_len bt_len (doa_cons (do_of (de_gstr (by rfl) V.s_NO)) doa_nil (by rfl)))) dpo_none) (da_cons de_b da_nil (by rfl)) (by rfl))) (de_tup (da_cons (de_var (pv 0)) (da_cons de_b da_nil (by rfl)) (by rfl))))))
theorem c_clause_in (V : Tx K mg) (B : Ec Pr w K mg base excNames fI CS ad fdI) (DK : Dk w K mg) : Cl Pr w K mg base 2 "clause_in" 1 F_clause_in := cl_of V.d_clause_in sc_clause_in fun f cdv A outer s H E hr hg lv hx =>
    (dss_cons (ds_set (i := 1) sc_clause_in.nd (by rfl) (by first | exact .inl rfl | exact .inr rfl) (de_m1 PySem.F.plainAttrs_str PySem.F.slot_str_find PySem.F.type_str_find mt_findD (do_var (pv 0)) (do_of (de_gstr (by rfl) V.s_IF))) (by rfl) (.inl rfl))
    (dss_cons (ds_if (dt_cmp (op_ltDD hr.units0) (do_var (pv 1)) (do_of de_i) (nomark _)) (dss_one (ds_ret (de_tup (da_cons (de_tup da_nil) (da_cons (de_var (pv 0)) da_nil (by rfl)) (by rfl))))) dss_nil)
    (dss_one (ds_ret (de_tup (da_cons (de_callTy oc_tuple (by rfl) V.m_tuple bt_tuple (doa_cons (do_of (de_comp (own := [("text", 2)]) (by rfl) sc_clause_in.nd (di_seq (de_m1 PySem.F.plainAttrs_str PySem.F.slot_str_split PySem.F.type_str_split mt_splitD (do_of (de_slice (do_var (pv 0)) (dpo_some (de_bin op_addD (do_var (pv 1)) (do_of (de_callB oc_len (by rfl) V.m_len bt_len (doa_cons (do_of (de_gstr (by rfl) V.s_IF)) doa_nil (by rfl)))))) dpo_none)) (do_of (de_gstr (by rfl) V.s_AND)))) (blkOk_by (own := [("text", 2)]) (N := ["row", "at", "text"]) (sc := defScope st_clause_in) (by decide +kernel)) (by decide) (fun _ _ _ _ _ => (dp_name sc_clause_in.nd (by rfl) (by first | exact .inl rfl | exact .inr rfl) (by first | exact .inl rfl | exact .inr rfl))) (fun _ _ _ _ _ => dts_nil) (fun _ _ _ _ _ => (de_cl (c_test_in V B DK) ar_test_in (hr.mono (by omega)) hg (by rfl) (da_cons (de_var (pv 2)) da_nil (by rfl)))) (fun _ => rfl))) doa_nil (by rfl))) (da_cons (de_slice (do_var (pv 0)) dpo_none (dpo_some (de_var (pv 1)))) da_nil (by rfl)) (by rfl)))))))
theorem c_read_rule (V : Tx K mg) (B : Ec Pr w K mg base excNames fI CS ad fdI) (DK : Dk w K mg) : Cl Pr w K mg base 7 "read_rule" 1 F_read_rule := cl_of V.d_read_rule sc_read_rule fun f cdv A outer s H E hr hg lv hx =>
    (dss_cons (ds_if (dt_not (dt_v (de_isi (by rfl) V.m_isinstance (ty_str (by rfl) V.m_str) (do_var (pv 0))))) (dss_one (ds_raise B.es (by decide +kernel) B.io B.bi lv rfl (hr.mono (by omega)) (by rfl) (de_var (pv 0)))) dss_nil)
    (dss_cons (ds_set (i := 1) sc_read_rule.nd (by rfl) (by first | exact .inl rfl | exact .inr rfl) (de_callTy oc_tuple (by rfl) V.m_tuple bt_tuple (doa_cons (do_of (de_comp (own := [("row", 2)]) (by rfl) sc_read_rule.nd (di_seq (de_m1 PySem.F.plainAttrs_str PySem.F.slot_str_split PySem.F.type_str_split mt_splitD (do_var (pv 0)) (do_of (de_gstr (by rfl) V.s_FEED)))) (blkOk_by (own := [("row", 2)]) (N := ["text", "found", "row"]) (sc := defScope st_read_rule) (by decide +kernel)) (by decide) (fun _ _ _ _ _ => (dp_name sc_read_rule.nd (by rfl) (by first | exact .inl rfl | exact .inr rfl) (by first | exact .inl rfl | exact .inr rfl))) (fun _ _ _ _ _ => dts_nil) (fun _ _ _ _ _ => (de_cl (c_clause_in V B DK) ar_clause_in (hr.mono (by omega)) hg (by rfl) (da_cons (de_var (pv 2)) da_nil (by rfl)))) (fun _ => rfl))) doa_nil (by rfl))) (by rfl) (.inl rfl))
    (dss_cons (ds_if (PW.pt (dw_or (dt_not (dt_v (de_cl (c_is_rule V B DK) ar_is_rule (hr.mono (by omega)) hg (by rfl) (da_cons (de_var (pv 1)) da_nil (by rfl))))) (dw_or1 (dt_cmp (op_neDD hr.units) (do_of (de_cl (c_rule_text V B DK) ar_rule_text (hr.mono (by omega)) hg (by rfl) (da_cons (de_var (pv 1)) da_nil (by rfl)))) (do_var (pv 0)) (nomark _))))) (dss_one (ds_raise B.es (by decide +kernel) B.io B.bi lv rfl (hr.mono (by omega)) (by rfl) (de_var (pv 0)))) dss_nil)
    (dss_one (ds_retV (pv 1))))))
theorem c_known_rule (V : Tx K mg) (B : Ec Pr w K mg base excNames fI CS ad fdI) (DK : Dk w K mg) : Cl Pr w K mg base 8 "known_rule" 1 F_known_rule := cl_of V.d_known_rule sc_known_rule fun f cdv A outer s H E hr hg lv hx =>
    (dss_cons (ds_if (PW.pt (dw_or (dt_not (dt_v (de_isi (by rfl) V.m_isinstance (ty_str (by rfl) V.m_str) (do_var (pv 0))))) (dw_or1 (dt_notInTab (by rfl) DK.k_KNOWN (do_var (pv 0)))))) (dss_one (ds_raise B.es (by decide +kernel) B.io B.bi lv rfl (hr.mono (by omega)) (by rfl) (de_var (pv 0)))) dss_nil)
    (dss_one (ds_ret (de_cl (c_read_rule V B DK) ar_read_rule (hr.mono (by omega)) hg (by rfl) (da_cons (de_ofTab (by rfl) DK.k_KNOWN (do_var (pv 0))) da_nil (by rfl))))))
theorem c__law_pot (V : Tx K mg) (B : Ec Pr w K mg base excNames fI CS ad fdI) (DK : Dk w K mg) : Cl Pr w K mg base 1 "_law_pot" 2 potW := cl_raw V.d__law_pot sc__law_pot fun f cdv A outer s H vs Q E hr h => ⟨tPot K 7149 4200 98652 8685 129,
    (pss_cons (ps_set (i := 2) sc__law_pot.nd (by rfl) (.inl rfl) (pe_ifExp (pt_cmpR op_lt (pv 1) (pe_callB call_len_seq (by rfl) V.m_len bt_len (pa_cons (pv 0) pa_nil)) (nomark _)) (pe_ix ix_list (pv 0) (pv 1) (fun _ _ => rfl)) (pe_op op_add (pe_op op_add (pe_op op_mod (pe_callB (cr_sum (by rfl)) (by rfl) V.m_sum bt_sum (pa_cons (pe_slice sl_list (pv 0) po_none (po_some pe_int)) pa_nil)) pe_int) (pe_op op_mul pe_int (pv 1))) pe_int)))
    (pss_cons (ps_set (i := 3) sc__law_pot.nd (by rfl) (.inl rfl) (pe_op op_mul (pe_op op_mod (pe_callTy call_int1 (by rfl) V.m_int bt_int (pa_cons (pe_callB call_abs (by rfl) V.m_abs bt_abs (pa_cons (pv 2) pa_nil)) pa_nil)) (pe_op op_powW (pe_op op_pow pe_int pe_int) pe_int)) (pe_callTy call_int1 (by rfl) V.m_int bt_int (pa_cons (pe_cmpR op_ge (pe_callB call_abs (by rfl) V.m_abs bt_abs (pa_cons (pv 2) pa_nil)) (pe_op op_pow pe_int pe_int) (nomark _)) pa_nil))))
    (pss_cons (ps_set (i := 4) sc__law_pot.nd (by rfl) (.inl rfl) (pe_op op_mod (pe_callTy call_int1 (by rfl) V.m_int bt_int (pa_cons (pv 2) pa_nil)) pe_int))
    (pss_one (ps_ret (pe_lst (pa_cons (pv 3) (pa_cons (pe_op op_mod (pe_callTy call_int1 (by rfl) V.m_int bt_int (pa_cons (pe_op op_add (pe_op op_add (pe_op op_mul (pv 4) pe_int) (pe_op op_mul (pe_op op_mul pe_int (pv 1)) (pv 1))) pe_int) pa_nil)) pe_int) (pa_cons pe_int pa_nil))))))))),
    pot_read (by decide) (by decide) (by decide) rfl h⟩
theorem c__law_take (V : Tx K mg) (B : Ec Pr w K mg base excNames fI CS ad fdI) (DK : Dk w K mg) : Cl Pr w K mg base 1 "_law_take" 2 takeW := cl_raw V.d__law_take sc__law_take fun f cdv A outer s H vs Q E hr h => ⟨tTake K 98337 59 10015 107 135,
    (pss_cons (ps_if (pt_cmpR op_gt (pe_ix ix_list (pv 0) pe_int (fun _ _ => rfl)) pe_int (nomark _)) (pss_cons (ps_set (i := 2) sc__law_take.nd (by rfl) (.inl rfl) (pe_op op_mod (pe_callTy call_int1 (by rfl) V.m_int bt_int (pa_cons (pe_ix ix_list (pv 0) pe_int (fun _ _ => rfl)) pa_nil)) (pv 1))) (pss_cons (ps_asg (pe_op op_fdiv (pe_ix ix_list (pv 0) pe_int (fun _ _ => rfl)) (pv 1)) (pg_sub (pv 0) pe_int set_list)) (pss_one (ps_ret (pv 2))))) pss_nil)
    (pss_cons (ps_asg (pe_op op_add (pe_ix ix_list (pv 0) pe_int (fun _ _ => rfl)) pe_int) (pg_sub (pv 0) pe_int set_list))
    (pss_cons (ps_set (i := 3) sc__law_take.nd (by rfl) (.inl rfl) (pe_ix ix_list (pe_lst (pa_cons pe_int (pa_cons pe_int (pa_cons pe_int (pa_cons pe_int (pa_cons pe_int pa_nil)))))) (pe_op op_mod (pe_callTy call_int1 (by rfl) V.m_int bt_int (pa_cons (pe_ix ix_list (pv 0) pe_int (fun _ _ => rfl)) pa_nil)) pe_int) (fun _ _ => rfl)))
    (pss_cons (ps_set (i := 4) sc__law_take.nd (by rfl) (.inl rfl) (pe_op op_mod (pe_callTy call_int1 (by rfl) V.m_int bt_int (pa_cons (pe_op op_pow (pe_callTy call_int1 (by rfl) V.m_int bt_int (pa_cons (pe_op op_add (pe_op op_add (pe_ix ix_list (pv 0) pe_int (fun _ _ => rfl)) (pe_op op_mul (pe_op op_mul pe_int (pe_ix ix_list (pv 0) pe_int (fun _ _ => rfl))) (pe_ix ix_list (pv 0) pe_int (fun _ _ => rfl)))) pe_int) pa_nil)) pe_int) pa_nil)) (pv 3)))
    (pss_cons (ps_set (i := 4) sc__law_take.nd (by rfl) (.inl rfl) (pe_op op_mod (pe_callTy call_int1 (by rfl) V.m_int bt_int (pa_cons (pe_op op_mul (pv 4) (pe_op op_add (pe_op op_mod (pe_callTy call_int1 (by rfl) V.m_int bt_int (pa_cons (pv 4) pa_nil)) pe_int) (pe_op op_mul pe_int (pe_ix ix_list (pv 0) pe_int (fun _ _ => rfl))))) pa_nil)) pe_int))
    (pss_one (ps_ret (pe_op op_mod (pe_callTy call_int1 (by rfl) V.m_int bt_int (pa_cons (pe_op op_fdiv (pv 4) pe_int) pa_nil)) (pv 1))))))))),
    take_read (by decide) (by decide) (by decide) (by decide) (by decide) rfl h⟩
theorem c__law_of (V : Tx K mg) (B : Ec Pr w K mg base excNames fI CS ad fdI) (DK : Dk w K mg) : Cl Pr w K mg base 2 "_law_of" 2 F__law_of := cl_of V.d__law_of sc__law_of fun f cdv A outer s H E hr hg lv hx =>
    (dss_one (ds_ret (de_item (do_var (pv 1)) (do_of (de_cl (c__law_take V B DK) ar_take (hr.mono (by omega)) hg (by rfl) (da_cons (de_var (pv 0)) (da_cons (de_callB oc_len (by rfl) V.m_len bt_len (doa_cons (do_var (pv 1)) doa_nil (by rfl))) da_nil (by rfl)) (by rfl)))) (fun _ _ => rfl))))
theorem c__law_cells (V : Tx K mg) (B : Ec Pr w K mg base excNames fI CS ad fdI) (DK : Dk w K mg) : Cl Pr w K mg base 1 "_law_cells" 2 F__law_cells := cl_of V.d__law_cells sc__law_cells fun f cdv A outer s H E hr hg lv hx =>
    (dss_one (ds_ret (de_lstRg (by rfl) (by rfl) V.m_list (by rfl) V.m_range (de_callB (oc_max2 (by rfl)) (by rfl) V.m_max bt_max (doa_cons (do_of de_i) (doa_cons (do_of (de_callB (oc_min2 (by rfl)) (by rfl) V.m_min bt_min (doa_cons (do_var (pv 1)) (doa_cons (do_of (de_callB oc_len (by rfl) V.m_len bt_len (doa_cons (do_var (pv 0)) doa_nil (by rfl)))) doa_nil (by rfl)) (by rfl)))) doa_nil (by rfl)) (by rfl))))))
theorem c__law_some (V : Tx K mg) (B : Ec Pr w K mg base excNames fI CS ad fdI) (DK : Dk w K mg) : Cl Pr w K mg base 2 "_law_some" 3 F__law_some := cl_of V.d__law_some sc__law_some fun f cdv A outer s H E hr hg lv hx =>
    (dss_cons (ds_par (i := 3) (j := 4) (by rfl) sc__law_some.nd (by rfl) (by rfl) (by decide) (by rfl) (by rfl) (de_callTy oc_list (by rfl) V.m_list bt_list (doa_cons (do_var (pv 1)) doa_nil (by rfl))) (de_lst da_nil) (by rfl) (by rfl) (by rfl))
    (dss_cons (ds_for lv.hp (by rfl) (di_range1 (by rfl) V.m_range (da_cons (de_var (pv 2)) da_nil (by rfl)) (by rfl)) (dp_name sc__law_some.nd (by rfl) (by first | exact .inl rfl | exact .inr rfl) (by first | exact .inl rfl | exact .inr rfl)) (dss_one (ds_drop (de_own PySem.F.plainAttrs_list PySem.F.slot_list_append PySem.F.type_list_append own_append (pv 4) (da_cons (de_own PySem.F.plainAttrs_list PySem.F.slot_list_pop PySem.F.type_list_pop own_popAt (pv 3) (da_cons (de_cl (c__law_take V B DK) ar_take (hr.mono (by omega)) hg (by rfl) (da_cons (de_var (pv 0)) (da_cons (de_callB oc_len (by rfl) V.m_len bt_len (doa_cons (do_var (pv 3)) doa_nil (by rfl))) da_nil (by rfl)) (by rfl))) da_nil (by rfl)) (by rfl) (by rfl) (by rfl) (by rfl)) da_nil (by rfl)) (by rfl) (by rfl) (by rfl) (by rfl)) (by rfl))) (fun _ => rfl))
    (dss_one (ds_retV (pv 4)))))
theorem c__law_words (V : Tx K mg) (B : Ec Pr w K mg base excNames fI CS ad fdI) (DK : Dk w K mg) : Cl Pr w K mg base 1 "_law_words" 0 F__law_words := cl_of V.d__law_words sc__law_words fun f cdv A outer s H E hr hg lv hx =>
    (dss_cons (ds_set (i := 0) sc__law_words.nd (by rfl) (by first | exact .inl rfl | exact .inr rfl) (de_lst (da_cons de_s (da_cons de_s (da_cons de_s (da_cons de_s (da_cons de_s (da_cons de_s (da_cons de_s (da_cons de_s (da_cons de_s (da_cons de_s da_nil (by rfl)) (by rfl)) (by rfl)) (by rfl)) (by rfl)) (by rfl)) (by rfl)) (by rfl)) (by rfl)) (by rfl))) (by rfl) (.inl rfl))
    (dss_one (ds_ret (de_bin op_addD (do_var (pv 0)) (do_of (de_lst (da_cons de_s (da_cons de_s (da_cons de_s (da_cons de_s (da_cons de_s (da_cons de_s da_nil (by rfl)) (by rfl)) (by rfl)) (by rfl)) (by rfl)) (by rfl))))))))
theorem c__law_known (V : Tx K mg) (B : Ec Pr w K mg base excNames fI CS ad fdI) (DK : Dk w K mg) : Cl Pr w K mg base 1 "_law_known" 1 F__law_known := cl_of V.d__law_known sc__law_known fun f cdv A outer s H E hr hg lv hx =>
    (dss_cons (ds_par (i := 1) (j := 2) (by rfl) sc__law_known.nd (by rfl) (by rfl) (by decide) (by rfl) (by rfl) de_s (de_lst (da_cons de_s (da_cons de_s da_nil (by rfl)) (by rfl))) (by rfl) (by rfl) (by rfl))
    (dss_cons (ds_if (dt_cmp (op_eqDD hr.units) (do_var (pv 0)) (do_of de_s) (nomark _)) (dss_one (ds_ret (de_bin op_addD (do_var (pv 2)) (do_of (de_lst (da_cons de_s (da_cons de_s (da_cons de_s (da_cons de_s da_nil (by rfl)) (by rfl)) (by rfl)) (by rfl))))))) dss_nil)
    (dss_cons (ds_if (dt_cmp (op_eqDD hr.units) (do_var (pv 0)) (do_of de_s) (nomark _)) (dss_one (ds_ret (de_bin op_addD (do_var (pv 2)) (do_of (de_lst (da_cons de_s (da_cons de_s (da_cons de_s (da_cons de_s da_nil (by rfl)) (by rfl)) (by rfl)) (by rfl))))))) dss_nil)
    (dss_cons (ds_if (dt_cmp (op_eqDD hr.units) (do_var (pv 0)) (do_of de_s) (nomark _)) (dss_cons (ds_set (i := 3) sc__law_known.nd (by rfl) (by first | exact .inl rfl | exact .inr rfl) (de_lst (da_cons de_s (da_cons de_s (da_cons de_s da_nil (by rfl)) (by rfl)) (by rfl))) (by rfl) (.inl rfl))
    (dss_one (ds_ret (de_bin op_addD (do_var (pv 3)) (do_of (de_lst (da_cons de_s (da_cons de_s (da_cons de_s da_nil (by rfl)) (by rfl)) (by rfl)))))))) dss_nil)
    (dss_cons (ds_if (dt_cmp (op_eqDD hr.units) (do_var (pv 0)) (do_of de_s) (nomark _)) (dss_one (ds_set (i := 1) sc__law_known.nd (by rfl) (by first | exact .inl rfl | exact .inr rfl) de_s (by rfl) (.inl rfl))) dss_nil)
    (dss_cons (ds_set (i := 3) sc__law_known.nd (by rfl) (by first | exact .inl rfl | exact .inr rfl) (de_lst (da_cons (de_bin op_addD (do_of (de_bin op_addD (do_of de_s) (do_var (pv 1)))) (do_of de_s)) (da_cons de_s (da_cons (de_bin op_addD (do_of (de_bin op_addD (do_of de_s) (do_var (pv 1)))) (do_of de_s)) da_nil (by rfl)) (by rfl)) (by rfl))) (by rfl) (.inl rfl))
    (dss_cons (ds_set (i := 3) sc__law_known.nd (by rfl) (by first | exact .inl rfl | exact .inr rfl) (de_bin op_addD (do_var (pv 3)) (do_of (de_lst (da_cons de_s (da_cons (de_bin op_addD (do_of (de_bin op_addD (do_of de_s) (do_var (pv 1)))) (do_of de_s)) (da_cons de_s da_nil (by rfl)) (by rfl)) (by rfl))))) (by rfl) (.inl rfl))
    (dss_one (ds_ret (de_bin op_addD (do_of (de_bin op_addD (do_var (pv 2)) (do_var (pv 3)))) (do_of (de_lst (da_cons (de_bin op_addD (do_of (de_bin op_addD (do_of de_s) (do_var (pv 1)))) (do_of de_s)) (da_cons de_s da_nil (by rfl)) (by rfl))))))))))))))
theorem c__law_clause_in (V : Tx K mg) (B : Ec Pr w K mg base excNames fI CS ad fdI) (DK : Dk w K mg) : Cl Pr w K mg base 1 "_law_clause_in" 1 F__law_clause_in := cl_of V.d__law_clause_in sc__law_clause_in fun f cdv A outer s H E hr hg lv hx =>
    (dss_cons (ds_par (i := 1) (j := 2) (by rfl) sc__law_clause_in.nd (by rfl) (by rfl) (by decide) (by rfl) (by rfl) (de_item (do_of (de_m1 PySem.F.plainAttrs_str PySem.F.slot_str_split PySem.F.type_str_split mt_splitD (do_var (pv 0)) (do_of de_s))) (do_of de_i) (fun _ _ => rfl)) (de_slice (do_of (de_m1 PySem.F.plainAttrs_str PySem.F.slot_str_split PySem.F.type_str_split mt_splitD (do_var (pv 0)) (do_of de_s))) (dpo_some de_i) dpo_none) (by rfl) (by rfl) (by rfl))
    (dss_cons (ds_set (i := 3) sc__law_clause_in.nd (by rfl) (by first | exact .inl rfl | exact .inr rfl) (de_lst da_nil) (by rfl) (.inl rfl))
    (dss_cons (ds_for lv.hp (by rfl) (di_seq (de_if (dt_cmp (op_neDD hr.units) (do_var (pv 2)) (do_of (de_lst da_nil)) (nomark _)) (de_m1 PySem.F.plainAttrs_str PySem.F.slot_str_split PySem.F.type_str_split mt_splitD (do_of (de_item (do_var (pv 2)) (do_of de_i) (fun _ _ => rfl))) (do_of de_s)) (de_lst da_nil))) (dp_name sc__law_clause_in.nd (by rfl) (by first | exact .inl rfl | exact .inr rfl) (by first | exact .inl rfl | exact .inr rfl)) (dss_one (ds_drop (de_own PySem.F.plainAttrs_list PySem.F.slot_list_append PySem.F.type_list_append own_append (pv 3) (da_cons (de_if (dt_cmp (op_eqDD hr.units) (do_of (de_slice (do_var (pv 4)) dpo_none (dpo_some de_i))) (do_of de_s) (nomark _)) (de_tup (da_cons (de_slice (do_var (pv 4)) (dpo_some de_i) dpo_none) (da_cons de_b da_nil (by rfl)) (by rfl))) (de_tup (da_cons (de_var (pv 4)) (da_cons de_b da_nil (by rfl)) (by rfl)))) da_nil (by rfl)) (by rfl) (by rfl) (by rfl) (by rfl)) (by rfl))) (fun _ => rfl))
    (dss_one (ds_ret (de_tup (da_cons (de_callTy oc_tuple (by rfl) V.m_tuple bt_tuple (doa_cons (do_var (pv 3)) doa_nil (by rfl))) (da_cons (de_var (pv 1)) da_nil (by rfl)) (by rfl))))))))
theorem c__law_clause (V : Tx K mg) (B : Ec Pr w K mg base excNames fI CS ad fdI) (DK : Dk w K mg) : Cl Pr w K mg base 3 "_law_clause" 1 F__law_clause := cl_of V.d__law_clause sc__law_clause fun f cdv A outer s H E hr hg lv hx =>
    (dss_cons (ds_setComp (i := 1) (own := [("word", 2)]) (by rfl) sc__law_clause.nd (by rfl) (by rfl) (by rfl) (di_seq (de_cl (c__law_some V B DK) ar__law_some (hr.mono (by omega)) hg (by rfl) (da_cons (de_var (pv 0)) (da_cons (de_cl0 (c__law_words V B DK) ar__law_words (hr.mono (by omega)) hg (by rfl)) (da_cons (de_cl (c__law_of V B DK) ar__law_of (hr.mono (by omega)) hg (by rfl) (da_cons (de_var (pv 0)) (da_cons (de_lst (da_cons de_i (da_cons de_i (da_cons de_i (da_cons de_i (da_cons de_i (da_cons de_i (da_cons de_i da_nil (by rfl)) (by rfl)) (by rfl)) (by rfl)) (by rfl)) (by rfl)) (by rfl))) da_nil (by rfl)) (by rfl))) da_nil (by rfl)) (by rfl)) (by rfl)))) (blkOk_by (own := [("word", 2)]) (N := ["pot", "tests", "word"]) (sc := defScope st__law_clause) (by decide +kernel)) (by decide) (fun _ _ _ _ _ => (dp_name sc__law_clause.nd (by rfl) (by first | exact .inl rfl | exact .inr rfl) (by first | exact .inl rfl | exact .inr rfl))) (fun _ _ _ _ _ => dts_nil) (fun _ _ _ _ _ => (de_tup (da_cons (de_var (pv 2)) (da_cons (de_cmp op_gtDD (do_of (de_cl (c__law_take V B DK) ar_take (hr.mono (by omega)) hg (by rfl) (da_cons (de_var (pv 0)) (da_cons de_i da_nil (by rfl)) (by rfl)))) (do_of de_i) (nomark _)) da_nil (by rfl)) (by rfl)))) (fun _ => rfl))
    (dss_one (ds_ret (de_tup (da_cons (de_callTy oc_tuple (by rfl) V.m_tuple bt_tuple (doa_cons (do_var (pv 1)) doa_nil (by rfl))) (da_cons (de_cl (c__law_of V B DK) ar__law_of (hr.mono (by omega)) hg (by rfl) (da_cons (de_var (pv 0)) (da_cons (de_lst (da_cons de_s (da_cons de_s (da_cons de_s (da_cons de_s (da_cons de_s da_nil (by rfl)) (by rfl)) (by rfl)) (by rfl)) (by rfl))) da_nil (by rfl)) (by rfl))) da_nil (by rfl)) (by rfl))))))
theorem c__law_rule (V : Tx K mg) (B : Ec Pr w K mg base excNames fI CS ad fdI) (DK : Dk w K mg) : Cl Pr w K mg base 4 "_law_rule" 1 F__law_rule := cl_of V.d__law_rule sc__law_rule fun f cdv A outer s H E hr hg lv hx =>
    (dss_cons (ds_set (i := 1) sc__law_rule.nd (by rfl) (by first | exact .inl rfl | exact .inr rfl) (de_cl (c__law_of V B DK) ar__law_of (hr.mono (by omega)) hg (by rfl) (da_cons (de_var (pv 0)) (da_cons (de_lst (da_cons de_s (da_cons de_s (da_cons de_s (da_cons de_s (da_cons de_s (da_cons de_s da_nil (by rfl)) (by rfl)) (by rfl)) (by rfl)) (by rfl)) (by rfl))) da_nil (by rfl)) (by rfl))) (by rfl) (.inl rfl))
    (dss_cons (ds_par (i := 2) (j := 3) (by rfl) sc__law_rule.nd (by rfl) (by rfl) (by decide) (by rfl) (by rfl) (de_comp (own := [("row", 4)]) (by rfl) sc__law_rule.nd (di_seq (de_cl (c__law_known V B DK) ar__law_known (hr.mono (by omega)) hg (by rfl) (da_cons (de_var (pv 1)) da_nil (by rfl)))) (blkOk_by (own := [("row", 4)]) (N := ["pot", "name", "rows", "way", "row", "at", "to", "lap"]) (sc := defScope st__law_rule) (by decide +kernel)) (by decide) (fun _ _ _ _ _ => (dp_name sc__law_rule.nd (by rfl) (by first | exact .inl rfl | exact .inr rfl) (by first | exact .inl rfl | exact .inr rfl))) (fun _ _ _ _ _ => dts_nil) (fun _ _ _ _ _ => (de_cl (c__law_clause_in V B DK) ar__law_clause_in (hr.mono (by omega)) hg (by rfl) (da_cons (de_var (pv 4)) da_nil (by rfl)))) (fun _ => rfl)) (de_cl (c__law_take V B DK) ar_take (hr.mono (by omega)) hg (by rfl) (da_cons (de_var (pv 0)) (da_cons de_i da_nil (by rfl)) (by rfl))) (by rfl) (by rfl) (by rfl))
    (dss_cons (ds_par (i := 5) (j := 6) (by rfl) sc__law_rule.nd (by rfl) (by rfl) (by decide) (by rfl) (by rfl) (de_cl (c__law_take V B DK) ar_take (hr.mono (by omega)) hg (by rfl) (da_cons (de_var (pv 0)) (da_cons (de_callB oc_len (by rfl) V.m_len bt_len (doa_cons (do_var (pv 2)) doa_nil (by rfl))) da_nil (by rfl)) (by rfl))) (de_cl (c__law_take V B DK) ar_take (hr.mono (by omega)) hg (by rfl) (da_cons (de_var (pv 0)) (da_cons (de_callB oc_len (by rfl) V.m_len bt_len (doa_cons (do_var (pv 2)) doa_nil (by rfl))) da_nil (by rfl)) (by rfl))) (by rfl) (by rfl) (by rfl))
    (dss_cons (ds_if (dt_cmp (op_eqDD hr.units) (do_var (pv 3)) (do_of de_i) (nomark _)) (dss_one (ds_ret (de_callTy oc_tuple (by rfl) V.m_tuple bt_tuple (doa_cons (do_of (de_comp (own := [("lap", 7)]) (by rfl) sc__law_rule.nd (di_range1 (by rfl) V.m_range (da_cons (de_bin op_addD (do_of de_i) (do_of (de_cl (c__law_take V B DK) ar_take (hr.mono (by omega)) hg (by rfl) (da_cons (de_var (pv 0)) (da_cons de_i da_nil (by rfl)) (by rfl))))) da_nil (by rfl)) (by rfl)) (blkOk_by (own := [("lap", 7)]) (N := ["pot", "name", "rows", "way", "row", "at", "to", "lap"]) (sc := defScope st__law_rule) (by decide +kernel)) (by decide) (fun _ _ _ _ _ => (dp_name sc__law_rule.nd (by rfl) (by first | exact .inl rfl | exact .inr rfl) (by first | exact .inl rfl | exact .inr rfl))) (fun _ _ _ _ _ => dts_nil) (fun _ _ _ _ _ => (de_cl (c__law_clause V B DK) ar__law_clause (hr.mono (by omega)) hg (by rfl) (da_cons (de_var (pv 0)) da_nil (by rfl)))) (fun _ => rfl))) doa_nil (by rfl))))) dss_nil)
    (dss_cons (ds_if (dt_cmp (op_eqDD hr.units) (do_var (pv 3)) (do_of de_i) (nomark _)) (dss_one (ds_set (i := 2) sc__law_rule.nd (by rfl) (by first | exact .inl rfl | exact .inr rfl) (de_bin op_addD (do_of (de_slice (do_var (pv 2)) dpo_none (dpo_some (de_var (pv 5))))) (do_of (de_slice (do_var (pv 2)) (dpo_some (de_bin op_addD (do_var (pv 5)) (do_of de_i))) dpo_none))) (by rfl) (.inl rfl))) (dss_one (ds_if (dt_cmp (op_eqDD hr.units) (do_var (pv 3)) (do_of de_i) (nomark _)) (dss_one (ds_set (i := 2) sc__law_rule.nd (by rfl) (by first | exact .inl rfl | exact .inr rfl) (de_bin op_addD (do_of (de_bin op_addD (do_of (de_slice (do_var (pv 2)) dpo_none (dpo_some (de_var (pv 5))))) (do_of (de_lst (da_cons (de_cl (c__law_clause V B DK) ar__law_clause (hr.mono (by omega)) hg (by rfl) (da_cons (de_var (pv 0)) da_nil (by rfl))) da_nil (by rfl)))))) (do_of (de_slice (do_var (pv 2)) (dpo_some (de_var (pv 5))) dpo_none))) (by rfl) (.inl rfl))) (dss_one (ds_if (dt_cmp (op_eqDD hr.units) (do_var (pv 3)) (do_of de_i) (nomark _)) (dss_one (ds_swap (i := 2) (a := 5) (b := 6) (by decide) (by decide) (ps_asg (pe_tup (pa_cons (pe_ix ix_list (pv 2) (pv 6) (fun _ _ => rfl)) (pa_cons (pe_ix ix_list (pv 2) (pv 5) (fun _ _ => rfl)) pa_nil))) (pg_tup rfl (pgs_cons (pg_sub (pv 2) (pv 5) set_list) (pgs_cons (pg_sub (pv 2) (pv 6) set_list) pgs_nil)))))) dss_nil)))))
    (dss_one (ds_ret (de_callTy oc_tuple (by rfl) V.m_tuple bt_tuple (doa_cons (do_var (pv 2)) doa_nil (by rfl))))))))))
theorem c__law_text (V : Tx K mg) (B : Ec Pr w K mg base excNames fI CS ad fdI) (DK : Dk w K mg) : Cl Pr w K mg base 1 "_law_text" 1 F__law_text := cl_of V.d__law_text sc__law_text fun f cdv A outer s H E hr hg lv hx =>
    (dss_cons (ds_set (i := 1) sc__law_text.nd (by rfl) (by first | exact .inl rfl | exact .inr rfl) (de_lst da_nil) (by rfl) (.inl rfl))
    (dss_cons (ds_for lv.hp (by rfl) (di_seq (de_var (pv 0))) (dp_tup rfl (dps_cons (dp_name sc__law_text.nd (by rfl) (by first | exact .inl rfl | exact .inr rfl) (by first | exact .inl rfl | exact .inr rfl)) (dps_cons (dp_name sc__law_text.nd (by rfl) (by first | exact .inl rfl | exact .inr rfl) (by first | exact .inl rfl | exact .inr rfl)) dps_nil (by rfl)) (by rfl)) (by rfl) (by rfl)) (dss_cons (ds_setComp (i := 4) (own := [("word", 5), ("due", 6)]) (by rfl) sc__law_text.nd (by rfl) (by rfl) (by rfl) (di_seq (de_var (pv 2))) (blkOk_by (own := [("word", 5), ("due", 6)]) (N := ["rule", "rows", "tests", "deed", "words", "word", "due"]) (sc := defScope st__law_text) (by decide +kernel)) (by decide) (fun _ _ _ _ _ => (dp_tup rfl (dps_cons (dp_name sc__law_text.nd (by rfl) (by first | exact .inl rfl | exact .inr rfl) (by first | exact .inl rfl | exact .inr rfl)) (dps_cons (dp_name sc__law_text.nd (by rfl) (by first | exact .inl rfl | exact .inr rfl) (by first | exact .inl rfl | exact .inr rfl)) dps_nil (by rfl)) (by rfl)) (by rfl) (by rfl))) (fun _ _ _ _ _ => dts_nil) (fun _ _ _ _ _ => (de_if (dt_v (de_var (pv 6))) (de_var (pv 5)) (de_bin op_addD (do_of de_s) (do_var (pv 5))))) (fun _ => rfl))
    (dss_one (ds_drop (de_own PySem.F.plainAttrs_list PySem.F.slot_list_append PySem.F.type_list_append own_append (pv 1) (da_cons (de_if (dt_cmp (op_eqDD hr.units) (do_var (pv 4)) (do_of (de_lst da_nil)) (nomark _)) (de_var (pv 3)) (de_bin op_addD (do_of (de_bin op_addD (do_var (pv 3)) (do_of de_s))) (do_of (de_m1 PySem.F.plainAttrs_str PySem.F.slot_str_join PySem.F.type_str_join mt_joinD (do_of de_s) (do_var (pv 4)))))) da_nil (by rfl)) (by rfl) (by rfl) (by rfl) (by rfl)) (by rfl)))) (fun _ => rfl))
    (dss_one (ds_ret (de_m1 PySem.F.plainAttrs_str PySem.F.slot_str_join PySem.F.type_str_join mt_joinD (do_of de_s) (do_var (pv 1)))))))
theorem c__law_is_read (V : Tx K mg) (B : Ec Pr w K mg base excNames fI CS ad fdI) (DK : Dk w K mg) : Cl Pr w K mg base 10 "_law_is_read" 1 F__law_is_read := cl_ofL V.d__law_is_read sc__law_is_read fun c P tp f A outer s H E hr hg lv hx =>
    (dss_cons (ds_unp (de_heard (k := 7) V.d__law_heard sc__law_heard (by rfl) (.inl rfl) (h__law_heard B.es.lift) B.es.exm' B.tu B.tb (by decide +kernel) tp rfl (by rfl) (hr.mono (by omega)) hg (by rfl) (LamX.lamS_by (sc := defScope st__law_is_read) (by decide +kernel)) rfl (fun _ _ _ _ _ => rfl) (fun A outer s H E f c' hr hg lv hx => (de_cl (c_read_rule V B DK) ar_read_rule (hr.mono (by omega)) hg (by rfl) (da_cons (de_var (pv 0)) da_nil (by rfl))))) (dp_tup rfl (dps_cons (dp_name sc__law_is_read.nd (by rfl) (by first | exact .inl rfl | exact .inr rfl) (by first | exact .inl rfl | exact .inr rfl)) (dps_cons (dp_name sc__law_is_read.nd (by rfl) (by first | exact .inl rfl | exact .inr rfl) (by first | exact .inl rfl | exact .inr rfl)) dps_nil (by rfl)) (by rfl)) (by rfl) (by rfl)) (by rfl) (by rfl) (by rfl))
    (dss_cons (ds_if (dt_cmp op_notNone (do_var (pv 1)) (do_of de_n) (nomark _)) (dss_one (ds_ret (de_and (de_isE B.es (by decide +kernel) (B.kn _ (by decide +kernel)) (by rfl) V.m_isinstance (by rfl) (do_var (pv 1))) (de_one (de_cmp (op_eqDD hr.units) (do_of (de_callB (oc_repr hg (u66 hr)) (by rfl) V.m_repr bt_repr (doa_cons (do_of (de_value B.es (do_var (pv 1)))) doa_nil (by rfl)))) (do_of (de_callB (oc_repr hg (u66 hr)) (by rfl) V.m_repr bt_repr (doa_cons (do_var (pv 0)) doa_nil (by rfl)))) (nomark _)))))) dss_nil)
    (dss_one (ds_ret (de_and (de_cmp op_isBl (do_of (de_cl (c_is_rule V B DK) ar_is_rule (hr.mono (by omega)) hg (by rfl) (da_cons (de_var (pv 2)) da_nil (by rfl)))) (do_of de_b) (nomark _)) (de_one (de_cmp (op_eqDD hr.units) (do_of (de_cl (c__law_text V B DK) ar__law_text (hr.mono (by omega)) hg (by rfl) (da_cons (de_var (pv 2)) da_nil (by rfl)))) (do_var (pv 0)) (nomark _))))))))
theorem c__law_otherwise (V : Tx K mg) (B : Ec Pr w K mg base excNames fI CS ad fdI) (DK : Dk w K mg) : Cl Pr w K mg base 3 "_law_otherwise" 2 F__law_otherwise := cl_of V.d__law_otherwise sc__law_otherwise fun f cdv A outer s H E hr hg lv hx =>
    (dss_cons (ds_par3 (i := 2) (j := 3) (l := 4) (by rfl) sc__law_otherwise.nd (by rfl) (by rfl) (by rfl) (by decide) (by decide) (by decide) (by rfl) (by rfl) (by rfl) (de_cl (c__law_take V B DK) ar_take (hr.mono (by omega)) hg (by rfl) (da_cons (de_var (pv 0)) (da_cons (de_bin op_addD (do_of (de_callB oc_len (by rfl) V.m_len bt_len (doa_cons (do_var (pv 1)) doa_nil (by rfl)))) (do_of de_i)) da_nil (by rfl)) (by rfl))) (de_cl (c__law_of V B DK) ar__law_of (hr.mono (by omega)) hg (by rfl) (da_cons (de_var (pv 0)) (da_cons de_s da_nil (by rfl)) (by rfl))) (de_cl (c__law_take V B DK) ar_take (hr.mono (by omega)) hg (by rfl) (da_cons (de_var (pv 0)) (da_cons de_i da_nil (by rfl)) (by rfl))) (by rfl) (by rfl) (by rfl) (by rfl))
    (dss_cons (ds_if (dt_cmp (op_eqDD hr.units) (do_var (pv 4)) (do_of de_i) (nomark _)) (dss_one (ds_ret (de_bin op_addD (do_of (de_slice (do_var (pv 1)) dpo_none (dpo_some (de_var (pv 2))))) (do_of (de_slice (do_var (pv 1)) (dpo_some (de_bin op_addD (do_var (pv 2)) (do_of de_i))) dpo_none))))) dss_nil)
    (dss_cons (ds_if (dt_cmp (op_eqDD hr.units) (do_var (pv 4)) (do_of de_i) (nomark _)) (dss_one (ds_ret (de_bin op_addD (do_of (de_bin op_addD (do_of (de_slice (do_var (pv 1)) dpo_none (dpo_some (de_var (pv 2))))) (do_var (pv 3)))) (do_of (de_slice (do_var (pv 1)) (dpo_some (de_var (pv 2))) dpo_none))))) dss_nil)
    (dss_cons (ds_if (dt_cmp (op_eqDD hr.units) (do_var (pv 4)) (do_of de_i) (nomark _)) (dss_one (ds_ret (de_m1 PySem.F.plainAttrs_str PySem.F.slot_str_join PySem.F.type_str_join mt_joinD (do_of de_s) (do_of (de_backL (do_of (de_m1 PySem.F.plainAttrs_str PySem.F.slot_str_split PySem.F.type_str_split mt_splitD (do_var (pv 1)) (do_of de_s)))))))) dss_nil)
    (dss_cons (ds_set (i := 5) sc__law_otherwise.nd (by rfl) (by first | exact .inl rfl | exact .inr rfl) (de_m1 PySem.F.plainAttrs_str PySem.F.slot_str_split PySem.F.type_str_split mt_splitD (do_var (pv 1)) (do_of de_s)) (by rfl) (.inl rfl))
    (dss_cons (ds_set (i := 6) sc__law_otherwise.nd (by rfl) (by first | exact .inl rfl | exact .inr rfl) (de_cl (c__law_take V B DK) ar_take (hr.mono (by omega)) hg (by rfl) (da_cons (de_var (pv 0)) (da_cons (de_callB oc_len (by rfl) V.m_len bt_len (doa_cons (do_var (pv 5)) doa_nil (by rfl))) da_nil (by rfl)) (by rfl))) (by rfl) (.inl rfl))
    (dss_cons (ds_if (dt_cmp (op_eqDD hr.units) (do_var (pv 4)) (do_of de_i) (nomark _)) (dss_one (ds_ret (de_m1 PySem.F.plainAttrs_str PySem.F.slot_str_join PySem.F.type_str_join mt_joinD (do_of de_s) (do_of (de_bin op_addD (do_of (de_slice (do_var (pv 5)) dpo_none (dpo_some (de_var (pv 6))))) (do_of (de_slice (do_var (pv 5)) (dpo_some (de_bin op_addD (do_var (pv 6)) (do_of de_i))) dpo_none))))))) dss_nil)
    (dss_cons (ds_set (i := 7) sc__law_otherwise.nd (by rfl) (by first | exact .inl rfl | exact .inr rfl) (de_cl (c__law_of V B DK) ar__law_of (hr.mono (by omega)) hg (by rfl) (da_cons (de_var (pv 0)) (da_cons (de_lst (da_cons de_s (da_cons de_s (da_cons de_s (da_cons de_s (da_cons de_s (da_cons de_s (da_cons de_s (da_cons de_s (da_cons de_s (da_cons de_s da_nil (by rfl)) (by rfl)) (by rfl)) (by rfl)) (by rfl)) (by rfl)) (by rfl)) (by rfl)) (by rfl)) (by rfl))) da_nil (by rfl)) (by rfl))) (by rfl) (.inl rfl))
    (dss_one (ds_ret (de_m1 PySem.F.plainAttrs_str PySem.F.slot_str_join PySem.F.type_str_join mt_joinD (do_of de_s) (do_of (de_bin op_addD (do_of (de_bin op_addD (do_of (de_slice (do_var (pv 5)) dpo_none (dpo_some (de_var (pv 6))))) (do_of (de_lst (da_cons (de_var (pv 7)) da_nil (by rfl)))))) (do_of (de_slice (do_var (pv 5)) (dpo_some (de_bin op_addD (do_var (pv 6)) (do_of (de_bin op_modD (do_var (pv 4)) (do_of de_i))))) dpo_none)))))))))))))))
theorem c__law_hand (V : Tx K mg) (B : Ec Pr w K mg base excNames fI CS ad fdI) (DK : Dk w K mg) : Cl Pr w K mg base 1 "_law_hand" 0 F__law_hand := cl_of V.d__law_hand sc__law_hand fun f cdv A outer s H E hr hg lv hx =>
    (dss_cons (ds_set (i := 0) sc__law_hand.nd (by rfl) (by first | exact .inl rfl | exact .inr rfl) (de_lst (da_cons de_s (da_cons de_s (da_cons de_s (da_cons de_s (da_cons de_s (da_cons de_s (da_cons de_s (da_cons de_s (da_cons de_s da_nil (by rfl)) (by rfl)) (by rfl)) (by rfl)) (by rfl)) (by rfl)) (by rfl)) (by rfl)) (by rfl))) (by rfl) (.inl rfl))
    (dss_cons (ds_set (i := 0) sc__law_hand.nd (by rfl) (by first | exact .inl rfl | exact .inr rfl) (de_bin op_addD (do_var (pv 0)) (do_of (de_lst (da_cons de_s (da_cons de_s (da_cons de_s (da_cons de_s (da_cons de_s da_nil (by rfl)) (by rfl)) (by rfl)) (by rfl)) (by rfl))))) (by rfl) (.inl rfl))
    (dss_one (ds_ret (de_bin op_addD (do_var (pv 0)) (do_of (de_lst (da_cons de_s (da_cons de_s (da_cons de_s (da_cons (de_m1 PySem.F.plainAttrs_str PySem.F.slot_str_join PySem.F.type_str_join mt_joinD (do_of de_s) (do_of (de_bin op_mulLD (do_of (de_lst (da_cons de_s da_nil (by rfl)))) (do_of de_i)))) (da_cons de_s da_nil (by rfl)) (by rfl)) (by rfl)) (by rfl)) (by rfl)))))))))
theorem c__law_right (V : Tx K mg) (B : Ec Pr w K mg base excNames fI CS ad fdI) (DK : Dk w K mg) : Cl Pr w K mg base 11 "_law_right" 1 F__law_right := cl_ofL V.d__law_right sc__law_right fun c P tp f A outer s H E hr hg lv hx =>
    (dss_cons (ds_set (i := 1) sc__law_right.nd (by rfl) (by first | exact .inl rfl | exact .inr rfl) (de_cl (c__law_rule V B DK) ar__law_rule (hr.mono (by omega)) hg (by rfl) (da_cons (de_var (pv 0)) da_nil (by rfl))) (by rfl) (.inl rfl))
    (dss_cons (ds_set (i := 2) sc__law_right.nd (by rfl) (by first | exact .inl rfl | exact .inr rfl) (de_cl (c__law_text V B DK) ar__law_text (hr.mono (by omega)) hg (by rfl) (da_cons (de_var (pv 1)) da_nil (by rfl))) (by rfl) (.inl rfl))
    (dss_cons (ds_if (PW.pt (dw_or (dt_cmp (op_neDD hr.units) (do_of (de_cl (c_rule_text V B DK) ar_rule_text (hr.mono (by omega)) hg (by rfl) (da_cons (de_var (pv 1)) da_nil (by rfl)))) (do_var (pv 2)) (nomark _)) (dw_or1 (dt_cmp (op_neDD hr.units) (do_of (de_callB (oc_repr hg (u66 hr)) (by rfl) V.m_repr bt_repr (doa_cons (do_of (de_cl (c_read_rule V B DK) ar_read_rule (hr.mono (by omega)) hg (by rfl) (da_cons (de_var (pv 2)) da_nil (by rfl)))) doa_nil (by rfl)))) (do_of (de_callB (oc_repr hg (u66 hr)) (by rfl) V.m_repr bt_repr (doa_cons (do_var (pv 1)) doa_nil (by rfl)))) (nomark _))))) (dss_one (ds_ret de_b)) dss_nil)
    (dss_cons (ds_for lv.hp (by rfl) (di_range1 (by rfl) V.m_range (da_cons de_i da_nil (by rfl)) (by rfl)) (dp_name sc__law_right.nd (by rfl) (by first | exact .inl rfl | exact .inr rfl) (by first | exact .inl rfl | exact .inr rfl)) (dss_cons (ds_set (i := 4) sc__law_right.nd (by rfl) (by first | exact .inl rfl | exact .inr rfl) (de_cl (c__law_otherwise V B DK) ar__law_otherwise (hr.mono (by omega)) hg (by rfl) (da_cons (de_var (pv 0)) (da_cons (de_var (pv 2)) da_nil (by rfl)) (by rfl))) (by rfl) (.inl rfl))
    (dss_one (ds_if (PW.pt (dw_or (dt_not (dt_v (de_cl (c__law_is_read V B DK) ar__law_is_read (hr.mono (by omega)) hg (by rfl) (da_cons (de_var (pv 4)) da_nil (by rfl))))) (dw_or1 (dt_not (dt_v (de_cl (c__law_is_read V B DK) ar__law_is_read (hr.mono (by omega)) hg (by rfl) (da_cons (de_cl (c__law_otherwise V B DK) ar__law_otherwise (hr.mono (by omega)) hg (by rfl) (da_cons (de_var (pv 0)) (da_cons (de_var (pv 4)) da_nil (by rfl)) (by rfl))) da_nil (by rfl)))))))) (dss_one (ds_ret de_b)) dss_nil))) (fun _ => rfl))
    (dss_cons (ds_set (i := 5) sc__law_right.nd (by rfl) (by first | exact .inl rfl | exact .inr rfl) (de_cl (c__law_of V B DK) ar__law_of (hr.mono (by omega)) hg (by rfl) (da_cons (de_var (pv 0)) (da_cons (de_lst (da_cons de_n (da_cons de_i (da_cons (de_lst (da_cons de_s da_nil (by rfl))) (da_cons (de_var (pv 1)) (da_cons de_b (da_cons (de_tup (da_cons de_s (da_cons de_i da_nil (by rfl)) (by rfl))) da_nil (by rfl)) (by rfl)) (by rfl)) (by rfl)) (by rfl)) (by rfl))) da_nil (by rfl)) (by rfl))) (by rfl) (.inl rfl))
    (dss_cons (ds_set (i := 6) sc__law_right.nd (by rfl) (by first | exact .inl rfl | exact .inr rfl) (de_item (do_of (de_heard (k := 7) V.d__law_heard sc__law_heard (by rfl) (.inl rfl) (h__law_heard B.es.lift) B.es.exm' B.tu B.tb (by decide +kernel) tp rfl (by rfl) (hr.mono (by omega)) hg (by rfl) (LamX.lamS_by (sc := defScope st__law_right) (by decide +kernel)) rfl (fun _ _ _ _ _ => rfl) (fun A outer s H E f c' hr hg lv hx => (de_cl (c_read_rule V B DK) ar_read_rule (hr.mono (by omega)) hg (by rfl) (da_cons (de_var (pv 5)) da_nil (by rfl)))))) (do_of de_i) (fun _ _ => rfl)) (by rfl) (.inl rfl))
    (dss_cons (ds_if (PW.pt (dw_or (dt_not (dt_v (de_isE B.es (by decide +kernel) (B.kn _ (by decide +kernel)) (by rfl) V.m_isinstance (by rfl) (do_var (pv 6))))) (dw_or1 (dt_cmp (op_neDD hr.units) (do_of (de_callB (oc_repr hg (u66 hr)) (by rfl) V.m_repr bt_repr (doa_cons (do_of (de_value B.es (do_var (pv 6)))) doa_nil (by rfl)))) (do_of (de_callB (oc_repr hg (u66 hr)) (by rfl) V.m_repr bt_repr (doa_cons (do_var (pv 5)) doa_nil (by rfl)))) (nomark _))))) (dss_one (ds_ret de_b)) dss_nil)
    (dss_cons (ds_set (i := 5) sc__law_right.nd (by rfl) (by first | exact .inl rfl | exact .inr rfl) (de_cl (c__law_of V B DK) ar__law_of (hr.mono (by omega)) hg (by rfl) (da_cons (de_var (pv 0)) (da_cons (de_lst (da_cons de_n (da_cons (de_var (pv 2)) (da_cons (de_callTy oc_list (by rfl) V.m_list bt_list (doa_cons (do_var (pv 1)) doa_nil (by rfl))) (da_cons (de_tup da_nil) (da_cons (de_tup (da_cons (de_tup (da_cons (de_tup (da_cons de_s (da_cons de_b da_nil (by rfl)) (by rfl))) da_nil (by rfl))) (da_cons de_s da_nil (by rfl)) (by rfl))) (da_cons (de_bin op_addD (do_var (pv 1)) (do_of (de_tup (da_cons de_n da_nil (by rfl))))) da_nil (by rfl)) (by rfl)) (by rfl)) (by rfl)) (by rfl)) (by rfl))) da_nil (by rfl)) (by rfl))) (by rfl) (.inl rfl))
    (dss_cons (ds_set (i := 6) sc__law_right.nd (by rfl) (by first | exact .inl rfl | exact .inr rfl) (de_item (do_of (de_heard (k := 6) V.d__law_heard sc__law_heard (by rfl) (.inl rfl) (h__law_heard B.es.lift) B.es.exm' B.tu B.tb (by decide +kernel) tp rfl (by rfl) (hr.mono (by omega)) hg (by rfl) (LamX.lamS_by (sc := defScope st__law_right) (by decide +kernel)) rfl (fun _ _ _ _ _ => rfl) (fun A outer s H E f c' hr hg lv hx => (de_cl (c_rule_text V B DK) ar_rule_text (hr.mono (by omega)) hg (by rfl) (da_cons (de_var (pv 5)) da_nil (by rfl)))))) (do_of de_i) (fun _ _ => rfl)) (by rfl) (.inl rfl))
    (dss_cons (ds_if (PW.pt (dw_or (dt_not (dt_v (de_isE B.es (by decide +kernel) (B.kn _ (by decide +kernel)) (by rfl) V.m_isinstance (by rfl) (do_var (pv 6))))) (dw_or1 (dt_cmp (op_neDD hr.units) (do_of (de_callB (oc_repr hg (u66 hr)) (by rfl) V.m_repr bt_repr (doa_cons (do_of (de_value B.es (do_var (pv 6)))) doa_nil (by rfl)))) (do_of (de_callB (oc_repr hg (u66 hr)) (by rfl) V.m_repr bt_repr (doa_cons (do_var (pv 5)) doa_nil (by rfl)))) (nomark _))))) (dss_one (ds_ret de_b)) dss_nil)
    (dss_cons (ds_set (i := 5) sc__law_right.nd (by rfl) (by first | exact .inl rfl | exact .inr rfl) (de_cl (c__law_of V B DK) ar__law_of (hr.mono (by omega)) hg (by rfl) (da_cons (de_var (pv 0)) (da_cons (de_lst (da_cons de_n (da_cons de_i (da_cons de_s (da_cons de_s (da_cons de_s (da_cons (de_lst (da_cons de_s da_nil (by rfl))) (da_cons (de_tup (da_cons de_s da_nil (by rfl))) (da_cons de_b da_nil (by rfl)) (by rfl)) (by rfl)) (by rfl)) (by rfl)) (by rfl)) (by rfl)) (by rfl))) da_nil (by rfl)) (by rfl))) (by rfl) (.inl rfl))
    (dss_cons (ds_set (i := 6) sc__law_right.nd (by rfl) (by first | exact .inl rfl | exact .inr rfl) (de_item (do_of (de_heard (k := 8) V.d__law_heard sc__law_heard (by rfl) (.inl rfl) (h__law_heard B.es.lift) B.es.exm' B.tu B.tb (by decide +kernel) tp rfl (by rfl) (hr.mono (by omega)) hg (by rfl) (LamX.lamS_by (sc := defScope st__law_right) (by decide +kernel)) rfl (fun _ _ _ _ _ => rfl) (fun A outer s H E f c' hr hg lv hx => (de_cl (c_known_rule V B DK) ar_known_rule (hr.mono (by omega)) hg (by rfl) (da_cons (de_var (pv 5)) da_nil (by rfl)))))) (do_of de_i) (fun _ _ => rfl)) (by rfl) (.inl rfl))
    (dss_one (ds_ret (de_and (de_isE B.es (by decide +kernel) (B.kn _ (by decide +kernel)) (by rfl) V.m_isinstance (by rfl) (do_var (pv 6))) (de_one (de_cmp (op_eqDD hr.units) (do_of (de_callB (oc_repr hg (u66 hr)) (by rfl) V.m_repr bt_repr (doa_cons (do_of (de_value B.es (do_var (pv 6)))) doa_nil (by rfl)))) (do_of (de_callB (oc_repr hg (u66 hr)) (by rfl) V.m_repr bt_repr (doa_cons (do_var (pv 5)) doa_nil (by rfl)))) (nomark _))))))))))))))))))
theorem b_law (V : Tx K mg) (B : Ec Pr w K mg base excNames fI CS ad fdI) (DK : Dk w K mg) {f c P : Addr} (tp : PySem.W.tabIn K "law" = some (c, P)) {A : Around} {outer : List Env} {s : Shared} {H : Hp} {E : XK} (hr : Room 11 (A.deeper (envOfC "law" (defScope st_law) s.heap.objs.size f (.ref c)))) (hg : A.guards = some []) :
    DSs (cxOf (CXE Pr w) Pr w K mg base ["script", "name", "row", "text", "caught", "place"] "law" (defScope st_law) f (.ref c) A outer s H E) E (defBody st_law) w_law := by
    have lv : Lv (cxOf (CXE Pr w) Pr w K mg base ["script", "name", "row", "text", "caught", "place"] "law" (defScope st_law) f (.ref c) A outer s H E) E := lv_cx
    have hx := lv.px
    exact (dss_cons (ds_for lv.hp (by rfl) (di_seq (de_tup (da_cons de_s (da_cons de_s (da_cons de_s (da_cons de_s (da_cons de_s da_nil (by rfl)) (by rfl)) (by rfl)) (by rfl)) (by rfl)))) (dp_name sc_law.nd (by rfl) (by first | exact .inl rfl | exact .inr rfl) (by first | exact .inl rfl | exact .inr rfl)) (dss_one (ds_if (dt_cmp (op_neDD hr.units) (do_of (de_callB (oc_repr hg (u66 hr)) (by rfl) V.m_repr bt_repr (doa_cons (do_of (de_cl (c_known_rule V B DK) ar_known_rule (hr.mono (by omega)) hg (by rfl) (da_cons (de_var (pv 1)) da_nil (by rfl)))) doa_nil (by rfl)))) (do_of (de_callB (oc_repr hg (u66 hr)) (by rfl) V.m_repr bt_repr (doa_cons (do_of (de_callTy oc_tuple (by rfl) V.m_tuple bt_tuple (doa_cons (do_of (de_comp (own := [("row", 2)]) (by rfl) sc_law.nd (di_seq (de_cl (c__law_known V B DK) ar__law_known (hr.mono (by omega)) hg (by rfl) (da_cons (de_var (pv 1)) da_nil (by rfl)))) (blkOk_by (own := [("row", 2)]) (N := ["script", "name", "row", "text", "caught", "place"]) (sc := defScope st_law) (by decide +kernel)) (by decide) (fun _ _ _ _ _ => (dp_name sc_law.nd (by rfl) (by first | exact .inl rfl | exact .inr rfl) (by first | exact .inl rfl | exact .inr rfl))) (fun _ _ _ _ _ => dts_nil) (fun _ _ _ _ _ => (de_cl (c__law_clause_in V B DK) ar__law_clause_in (hr.mono (by omega)) hg (by rfl) (da_cons (de_var (pv 2)) da_nil (by rfl)))) (fun _ => rfl))) doa_nil (by rfl)))) doa_nil (by rfl)))) (nomark _)) (dss_one (ds_ret de_b)) dss_nil)) (fun _ => rfl))
    (dss_cons (ds_for lv.hp (by rfl) (di_seq (de_cl0 (c__law_hand V B DK) ar__law_hand (hr.mono (by omega)) hg (by rfl))) (dp_name sc_law.nd (by rfl) (by first | exact .inl rfl | exact .inr rfl) (by first | exact .inl rfl | exact .inr rfl)) (dss_cons (ds_set (i := 4) sc_law.nd (by rfl) (by first | exact .inl rfl | exact .inr rfl) (de_item (do_of (de_heard (k := 7) V.d__law_heard sc__law_heard (by rfl) (.inl rfl) (h__law_heard B.es.lift) B.es.exm' B.tu B.tb (by decide +kernel) tp rfl (by rfl) (hr.mono (by omega)) hg (by rfl) (LamX.lamS_by (sc := defScope st_law) (by decide +kernel)) rfl (fun _ _ _ _ _ => rfl) (fun A outer s H E f c' hr hg lv hx => (de_cl (c_read_rule V B DK) ar_read_rule (hr.mono (by omega)) hg (by rfl) (da_cons (de_var (pv 3)) da_nil (by rfl)))))) (do_of de_i) (fun _ _ => rfl)) (by rfl) (.inl rfl))
    (dss_one (ds_if (dt_not (dt_v (de_isE B.es (by decide +kernel) (B.kn _ (by decide +kernel)) (by rfl) V.m_isinstance (by rfl) (do_var (pv 4))))) (dss_one (ds_ret de_b)) dss_nil))) (fun _ => rfl))
    (dss_one (ds_ret (de_callB (oc_all (by rfl)) (by rfl) V.m_all bt_all (doa_cons (do_of (de_comp (own := [("place", 5)]) (by rfl) sc_law.nd (di_seq (de_cl (c__law_cells V B DK) ar__law_cells (hr.mono (by omega)) hg (by rfl) (da_cons (de_var (pv 0)) (da_cons de_i da_nil (by rfl)) (by rfl)))) (blkOk_by (own := [("place", 5)]) (N := ["script", "name", "row", "text", "caught", "place"]) (sc := defScope st_law) (by decide +kernel)) (by decide) (fun _ _ _ _ _ => (dp_name sc_law.nd (by rfl) (by first | exact .inl rfl | exact .inr rfl) (by first | exact .inl rfl | exact .inr rfl))) (fun _ _ _ _ _ => dts_nil) (fun _ _ _ _ _ => (de_cl (c__law_right V B DK) ar__law_right (hr.mono (by omega)) hg (by rfl) (da_cons (de_cl (c__law_pot V B DK) ar_pot (hr.mono (by omega)) hg (by rfl) (da_cons (de_var (pv 0)) (da_cons (de_var (pv 5)) da_nil (by rfl)) (by rfl))) da_nil (by rfl)))) (fun _ => rfl))) doa_nil (by rfl)))))))
end
end LW
set_option Elab.async false
set_option linter.all false
set_option maxRecDepth 100000
set_option maxHeartbeats 1000000
set_option autoImplicit false
/-! k03: tests, clauses, rules. -/
namespace LW
open PySem PySem.Spec PyProof.Rows L2 NB
theorem ok_tup {ds : List D} (h : okD (.tup ds) = true) : okL ds = true := by rw [okD] at h; exact h
theorem okL_cons {d : D} {ds : List D} (h : okL (d :: ds) = true) : okD d = true ∧ okL ds = true := by rw [okL, Bool.and_eq_true] at h; exact h
theorem okL_mem {ds : List D} (h : okL ds = true) : ∀ d ∈ ds, okD d = true := by
  induction ds with
  | nil => exact fun _ h => nomatch h
  | cons a ds ih =>
    obtain ⟨h1, h2⟩ := okL_cons h
    intro d hd
    rcases List.mem_cons.mp hd with e | e
    · rw [e]; exact h1
    · exact ih h2 d e
theorem tup2 {ds : List D} (h : ds.length = 2) : ∃ a b, ds = [a, b] := by
  match ds, h with
  | [a, b], _ => exact ⟨a, b, rfl⟩
theorem eqv_str (x y : Str) : D.eqv (.str x) (.str y) = decide (x = y) := by
  rw [D.eqv, D.py, D.py, PyData.eqv]
  by_cases h : x = y <;> simp [h]
theorem okL_strs {zs : List Str} : okL (zs.map .str) = zs.all PyData.strOk := by
  induction zs with
  | nil => rfl
  | cons z zs ih => rw [List.map_cons, okL, okD, ih, List.all_cons]
theorem dpL_strs {zs : List Str} : dpL (zs.map .str) = 0 := by
  induction zs with
  | nil => rfl
  | cons z zs ih => rw [List.map_cons, dpL, dpD, ih]; rfl
theorem any_strs (z : Str) (zs : List Str) : (zs.map D.str).any (fun y => D.eqv y (.str z)) = decide (z ∈ zs) := by
  induction zs with
  | nil => rfl
  | cons y zs ih =>
    rw [List.map_cons, List.any_cons, ih, eqv_str]
    by_cases h : y = z
    · simp [h]
    · have : ¬ z = y := fun e => h e.symm
      simp [h, this]
theorem in_strs_tup {z : Str} {zs : List Str} (h : PyData.strOk z = true) (hz : zs.all PyData.strOk = true) : inB (.str z) (.tup (zs.map .str)) = some (decide (z ∈ zs)) := by
  have : eqOk (.str z) (.tup (zs.map .str)) = true := by
    unfold eqOk
    rw [okD, okD, h, okL_strs, hz, dpD, dpD, dpL_strs]
    rfl
  simp only [inB, this, if_true, any_strs]
theorem in_strs_lst {z : Str} {zs : List Str} (h : PyData.strOk z = true) (hz : zs.all PyData.strOk = true) : inB (.str z) (.lst (zs.map .str)) = some (decide (z ∈ zs)) := by
  have : eqOk (.str z) (.lst (zs.map .str)) = true := by
    unfold eqOk
    rw [okD, okD, h, okL_strs, hz, dpD, dpD, dpL_strs]
    rfl
  simp only [inB, this, if_true, any_strs]
def tupB (v : D) (lo hi : Int) : Bool := match v with
  | .tup ds => decide (lo ≤ ds.length) && decide ((ds.length : Int) ≤ hi)
  | _ => false
def wordB (v : D) (zs : List Str) : Bool := match v with
  | .str z => decide (z ∈ zs)
  | _ => false
def isBl (v : D) : Bool := match v with
  | .bl _ => true
  | _ => false
def testB (v : D) : Bool := match v with
  | .tup [a, b] => wordB a k_WORDS && isBl b
  | _ => false
theorem words_ok : k_WORDS.all PyData.strOk = true := by decide +kernel
theorem deeds_ok : k_DEEDS.all PyData.strOk = true := by decide +kernel
section
variable {t : Nat} {Q : R → Nat → Prop} {E : KX} {v : D} {lo hi : Int}
theorem i_is_tuple (h : okD v = true) : F_is_tuple [v, .int lo, .int hi] t Q E ↔ Q (.im (.bl (tupB v lo hi))) t := by
  cases v <;> simp [F_is_tuple, w_is_tuple, tupB, okD] at h ⊢
  rename_i xs
  by_cases h1 : lo ≤ xs.length <;> simp [h1] <;> (intros; omega)
theorem i_is_word {zs : List Str} (h : okD v = true) (hz : zs.all PyData.strOk = true) : F_is_word [v, .tup (zs.map .str)] t Q E ↔ Q (.im (.bl (wordB v zs))) t := by
  cases v with
  | str z =>
    rw [okD] at h
    simp [-inB, F_is_word, w_is_word, wordB, in_strs_tup h hz]
    by_cases hm : z ∈ zs <;> simp [hm]
  | pot => simp [okD] at h
  | exc _ _ => simp [okD] at h
  | _ => simp [F_is_word, w_is_word, wordB]
theorem i_is_test (h : okD v = true) : F_is_test [v] t Q E ↔ Q (.im (.bl (testB v))) t := by
  simp [F_is_test, w_is_test, i_is_tuple h]
  cases v with
  | tup ds =>
    by_cases h2 : ds.length = 2
    · obtain ⟨a, b, rfl⟩ := tup2 h2
      obtain ⟨ha, h'⟩ := okL_cons (ok_tup h)
      obtain ⟨hb, _⟩ := okL_cons h'
      simp [tupB, testB, i_is_word ha words_ok]
      cases ew : wordB a k_WORDS <;> simp
      cases b <;> simp [isBl, okD] at hb ⊢
    · have e1 : tupB (.tup ds) 2 2 = false := by
        simp [tupB]
        omega
      have e2 : testB (.tup ds) = false := by
        unfold testB
        split
        · rename_i e
          cases e
          exact absurd rfl h2
        · rfl
      simp [e1, e2]
  | _ => simp [tupB, testB]
end
end LW
set_option Elab.async false
set_option linter.all false
set_option maxRecDepth 100000
set_option maxHeartbeats 1000000
set_option autoImplicit false
/-! k03: clauses, rules: the program. -/
namespace LW
open PySem PySem.Spec PyProof.Rows L2 NB
def wordOf (v : D) : Str := match v with
  | .tup (.str w :: _) => w
  | _ => Str.empty
def tsB (a : D) : Bool := match a with
  | .tup ts => ts.all testB && decide ((ts.map wordOf).Nodup)
  | _ => false
def clauseB (v : D) : Bool := match v with
  | .tup [a, b] => (tupB a 0 4 && wordB b k_DEEDS) && tsB a
  | _ => false
def ruleB (v : D) : Bool := match v with
  | .tup cs => (decide ((1 : Int) ≤ cs.length) && decide ((cs.length : Int) ≤ 20)) && cs.all clauseB
  | _ => false
theorem clauseB_other {ds : List D} (h : ds.length ≠ 2) : clauseB (.tup ds) = false := by
  unfold clauseB
  split
  · rename_i e
    cases e
    exact absurd rfl h
  · rfl
def tsP (p : Str × Bool) : D := .tup [.str p.1, .bl p.2]
theorem tests_of : ∀ {ts : List D}, ts.all testB = true → ∃ l : List (Str × Bool), ts = l.map tsP ∧ ∀ p ∈ l, p.1 ∈ k_WORDS
  | [], _ => ⟨[], rfl, fun _ h => nomatch h⟩
  | d :: ds, h => by
    rw [List.all_cons, Bool.and_eq_true] at h
    obtain ⟨l, rfl, hl⟩ := tests_of h.2
    have h1 := h.1
    unfold testB at h1
    split at h1
    · rename_i a b
      rw [Bool.and_eq_true] at h1
      cases a <;> simp [wordB] at h1
      cases b <;> simp [isBl] at h1
      rename_i z k
      refine ⟨(z, k) :: l, rfl, fun p hp => ?_⟩
      rcases List.mem_cons.mp hp with e | e
      · rw [e]; exact h1
      · exact hl p e
    · cases h1
theorem map_word (l : List (Str × Bool)) : (l.map tsP).map wordOf = l.map (·.1) := by
  rw [List.map_map]
  rfl
theorem all_count (zs : List Str) : (zs.all fun z => decide (((zs.count z : Nat) : Int) = 1)) = decide zs.Nodup := by
  by_cases h : zs.Nodup
  · rw [decide_eq_true h, List.all_eq_true]
    intro z hz
    have h1 := List.nodup_iff_count.mp h z
    have h2 : 0 < zs.count z := List.count_pos_iff.mpr hz
    exact decide_eq_true (by omega)
  · rw [decide_eq_false h]
    cases e : (zs.all fun z => decide (((zs.count z : Nat) : Int) = 1)) with
    | false => rfl
    | true =>
      refine absurd (List.nodup_iff_count.mpr fun z => ?_) h
      by_cases hz : z ∈ zs
      · have := of_decide_eq_true (List.all_eq_true.mp e z hz)
        omega
      · rw [List.count_eq_zero_of_not_mem hz]
        omega
theorem countP_strs (z : Str) (zs : List Str) : (zs.map D.str).countP (fun y => D.eqv y (.str z)) = zs.count z := by
  rw [List.countP_map, List.count]
  refine List.countP_congr fun y _ => ?_
  simp [eqv_str]
theorem eqOk_str_lst {z : Str} {zs : List Str} (h : PyData.strOk z = true) (hz : zs.all PyData.strOk = true) : eqOk (.str z) (.lst (zs.map .str)) = true := by
  unfold eqOk
  rw [okD, okD, h, okL_strs, hz, dpD, dpD, dpL_strs]
  rfl
theorem bls_map {α : Type} (g : α → D) (f : α → Bool) (hg : ∀ x, g x = .bl (f x)) : ∀ ds : List α, blsD (ds.map g) = some (ds.map f)
  | [] => rfl
  | d :: ds => by rw [List.map_cons, hg, blsD, bls_map g f hg ds]; rfl
theorem words_strOk {l : List (Str × Bool)} (h : ∀ p ∈ l, p.1 ∈ k_WORDS) : (l.map (·.1)).all PyData.strOk = true := List.all_eq_true.mpr fun z hz => by
  obtain ⟨p, hp, rfl⟩ := List.mem_map.mp hz
  exact List.all_eq_true.mp words_ok _ (h p hp)
theorem sz : sizeLine = 16777216 := sizeLine_eq
section
variable {t : Nat} {Q : R → Nat → Prop} {E : KX} {v : D}
theorem tupB_tup {a : D} {lo hi : Int} (h : tupB a lo hi = true) : ∃ ts, a = .tup ts ∧ lo ≤ ts.length ∧ (ts.length : Int) ≤ hi := by
  cases a <;> simp [tupB] at h
  exact ⟨_, rfl, h⟩
theorem i_is_clause (h : okD v = true) : F_is_clause [v] t Q E ↔ Q (.im (.bl (clauseB v))) t := by
  simp [F_is_clause, w_is_clause, i_is_tuple h]
  cases v with
  | tup ds =>
    by_cases h2 : ds.length = 2
    · obtain ⟨a, b, rfl⟩ := tup2 h2
      obtain ⟨ha, h'⟩ := okL_cons (ok_tup h)
      obtain ⟨hb, _⟩ := okL_cons h'
      simp [show tupB (.tup [a, b]) 2 2 = true from rfl, i_is_tuple ha, i_is_word hb deeds_ok, clauseB]
      cases ea : tupB a 0 4 <;> simp
      cases eb : wordB b k_DEEDS <;> simp
      obtain ⟨ts, rfl, _, h4⟩ := tupB_tup ea
      have hk := okL_mem (ok_tup ha)
      simp
      rw [compL_map (f := fun d => .bl (testB d)) (fun d hd => ⟨_, .im (.bl (testB d)), bindP_nm, rfl, fun Q' E => by simp [i_is_test (hk d hd)]⟩) (by rw [sz]; simp only [List.length_nil]; omega)]
      simp [-List.all_eq_true, -List.all_eq_false, bls_map (fun d => D.bl (testB d)) testB (fun _ => rfl), List.all_map, Function.comp_def, tsB]
      cases hts : ts.all testB with
      | false => simp
      | true =>
        obtain ⟨l, rfl, hl⟩ := tests_of hts
        rw [List.length_map] at h4
        have hso := words_strOk hl
        simp
        rw [compL_maps (g := tsP) (f := fun p => .str p.1) (fun p hp => ⟨_, .im (.str p.1), bindP2, rfl, fun Q' E => by simp⟩) (by rw [sz]; simp only [List.length_nil]; omega)]
        simp
        rw [compL_maps (g := fun p : Str × Bool => D.str p.1) (f := fun p => .bl (decide ((((l.map (·.1)).count p.1 : Nat) : Int) = 1))) (fun p hp => ⟨_, .im (.bl (decide ((((l.map (·.1)).count p.1 : Nat) : Int) = 1))), bindP_nm, rfl, fun Q' E => ?_⟩) (by rw [sz]; simp only [List.length_nil]; omega)]
        · simp [-List.all_eq_true, -List.all_eq_false]
          rw [bls_map _ (fun p : Str × Bool => decide ((((l.map (·.1)).count p.1 : Nat) : Int) = 1)) (fun z => rfl)]
          have key := all_count (l.map (·.1))
          rw [List.all_map] at key
          simp [-List.all_eq_true, -List.all_eq_false, List.all_map]
          rw [show (wordOf ∘ tsP) = (fun p : Str × Bool => p.1) from rfl, ← key]
          rfl
        · have z1 : PyData.strOk p.1 = true := List.all_eq_true.mp words_ok _ (hl p hp)
          have z2 := eqOk_str_lst z1 hso
          have z3 := countP_strs p.1 (l.map (·.1))
          rw [List.map_map] at z2 z3
          rw [List.countP_map] at z3
          have z2 : eqOk (.str p.1) (.lst (l.map fun p => D.str p.1)) = true := z2
          have z3 : l.countP ((fun y => D.eqv y (.str p.1)) ∘ fun p => D.str p.1) = (l.map (·.1)).count p.1 := z3
          simp [m1W, z2, z3, kindV]
    · have e1 : tupB (.tup ds) 2 2 = false := by
        simp [tupB]
        omega
      simp [e1, clauseB_other h2]
  | _ => simp [tupB, clauseB]
theorem i_is_rule (h : okD v = true) : F_is_rule [v] t Q E ↔ Q (.im (.bl (ruleB v))) t := by
  simp [F_is_rule, w_is_rule, i_is_tuple h]
  cases e1 : tupB v 1 20 with
  | false =>
    have : ruleB v = false := by
      cases v <;> simp [tupB, ruleB] at e1 ⊢
      intro a b
      exact absurd (e1 a) (by omega)
    simp [this]
  | true =>
    obtain ⟨cs, rfl, h1, h2⟩ := tupB_tup e1
    have hk := okL_mem (ok_tup h)
    simp
    rw [compL_map (f := fun d => .bl (clauseB d)) (fun d hd => ⟨_, .im (.bl (clauseB d)), bindP_nm, rfl, fun Q' E => by simp [i_is_clause (hk d hd)]⟩) (by rw [sz]; simp only [List.length_nil]; omega)]
    simp [-List.all_eq_true, -List.all_eq_false, bls_map (fun d => D.bl (clauseB d)) clauseB (fun _ => rfl), List.all_map, Function.comp_def, ruleB, h1, h2]
end
end LW
set_option Elab.async false
set_option linter.all false
set_option maxRecDepth 100000
set_option maxHeartbeats 1000000
set_option autoImplicit false
/-! Draws: one of some, odd values, bent values; one value is right. -/
namespace LW
open PySem PySem.Spec PyProof.Rows L2 NB
theorem g_law_of {ds : List D} (h : ds ≠ []) (hl : ds.length < 1000000) : GivesT F__law_of [.pot, .lst ds] 1 (fun r => ∃ d ∈ ds, r = .im d) := by
  intro t Q E ht q
  have hp : 0 < ds.length := List.length_pos_iff.mpr h
  simp [F__law_of, w__law_of, takeW]
  refine ⟨hp, by omega, by omega, fun k k0 k1 => ?_⟩
  obtain ⟨d, e1, _, e2⟩ := atI_mem k0 k1
  exact ⟨_, ⟨d, e1, rfl⟩, q _ _ (by omega) ⟨d, e2, rfl⟩⟩
/-- one of some, by its own look -/
theorem g_law_of' {ds : List D} {post : D → Prop} (h : ds ≠ []) (hl : ds.length < 1000000) (hp : ∀ d ∈ ds, post d) : GivesT F__law_of [.pot, .lst ds] 1 (fun r => ∃ d, r = .im d ∧ post d) := fun t Q E ht q =>
  g_law_of h hl t Q E ht fun r t' l ⟨d, hd, e⟩ => q r t' l ⟨d, e, hp d hd⟩
section
variable {t : Nat} {Q : R → Nat → Prop} {E : KX} {v : D}
theorem i_law_words : F__law_words [] t Q E ↔ Q (.nw (k_WORDS.map .str)) t := by
  simp [F__law_words, w__law_words, sizeLine_eq]
  rfl
end
end LW
set_option Elab.async false
set_option linter.all false
set_option maxRecDepth 100000
set_option maxHeartbeats 1000000
set_option autoImplicit false
/-! k03: known rows. -/
namespace LW
open PySem PySem.Spec PyProof.Rows L2 NB
section
variable {t : Nat} {Q : R → Nat → Prop} {E : KX} {v : D}
theorem known1 : F__law_known [.str "nearest"] t Q E ↔ Q (.nw ((["open if out", "open if here and room", "up if near above", "down if near below", "up if calls above", "up if wishes above"] : List Str).map .str)) t := by
  simp [F__law_known, w__law_known, sizeLine_eq]
theorem known2 : F__law_known [.str "loop"] t Q E ↔ Q (.nw ((["open if out", "open if here and room", "up if bottom", "down if top", "down if down", "up"] : List Str).map .str)) t := by
  simp [F__law_known, w__law_known, sizeLine_eq, osE]
theorem known3 : F__law_known [.str "collect"] t Q E ↔ Q (.nw ((["open if out", "open if here and room", "up if up and calls above", "up if up and wishes above", "down if down and calls below", "down if down and wishes below", "up if calls above", "up if wishes above", "down if calls below", "down if wishes below"] : List Str).map .str)) t := by
  simp (config := { decide := true }) [F__law_known, w__law_known, sizeLine_eq, osE, osL, osA]
theorem known4 : F__law_known [.str "group"] t Q E ↔ Q (.nw ((["open if out", "open if here and room", "up if up and own above", "up if up and wishes above", "down if down and own below", "down if down and wishes below", "up if own above", "up if wishes above", "down if own below", "down if wishes below"] : List Str).map .str)) t := by
  simp (config := { decide := true }) [F__law_known, w__law_known, sizeLine_eq, osE, osL, osA]
theorem known5 : F__law_known [.str "highest"] t Q E ↔ Q (.nw ((["open if out", "open if here and room and no calls above", "up if calls above and room", "down if calls below and room", "up if wishes above", "down if wishes below"] : List Str).map .str)) t := by
  simp (config := { decide := true }) [F__law_known, w__law_known, sizeLine_eq, osE, osL, osA]
end
end LW
set_option Elab.async false
set_option linter.all false
set_option maxRecDepth 100000
set_option maxHeartbeats 1000000
set_option autoImplicit false
/-! k03: the clause of a row. -/
namespace LW
open PySem PySem.Spec PyProof.Rows L2 NB
def testIn (x : Str) : D := if cutS x none (some 3) = "no " then .tup [.str (cutS x (some 3) none), .bl false] else .tup [.str x, .bl true]
def testsOf : List Str → List Str
  | _ :: r :: _ => Txt.split r " and "
  | _ => []
def deedOf : List Str → Str
  | d :: _ => d
  | [] => Str.empty
def clauseIn (z : Str) : D := .tup [.tup ((testsOf (Txt.split z " if ")).map testIn), .str (deedOf (Txt.split z " if "))]
def rowOk (z : Str) : Bool := ((Txt.split z " if ").all PyData.strOk) && ((decide (z.length ≤ 1000) && decide ((Txt.split z " if ").length ≤ 100)) && (!(Txt.split z " if ").isEmpty && ((Txt.split z " if ").all fun x => decide (x.length ≤ 1000)) && (decide ((testsOf (Txt.split z " if ")).length ≤ 100) && (testsOf (Txt.split z " if ")).all fun x => decide (x.length ≤ 1000))))
section
variable {z : Str}
theorem sep_if : ¬ (Str.ofString " if ").length = 0 := by decide +kernel
theorem sep_and : ¬ (Str.ofString " and ").length = 0 := by decide +kernel
theorem eqOk_strs_nil {zs : List Str} (h : zs.all PyData.strOk = true) : eqOk (.lst (zs.map .str)) (.lst []) = true := by
  unfold eqOk
  rw [okD, okD, okL_strs, h, dpD, dpD, dpL_strs]
  rfl
theorem eqv_cons_nil {d : D} {ds : List D} : D.eqv (.lst (d :: ds)) (.lst []) = false := by
  simp [D.eqv, D.py, pyL, PyData.eqv, PyData.eqvAll]
theorem eqv_nil_nil : D.eqv (.lst []) (.lst []) = true := by
  simp [D.eqv, D.py, pyL, PyData.eqv, PyData.eqvAll]
theorem g_clause_in (h : rowOk z = true) : Gives F__law_clause_in [.str z] (.im (clauseIn z)) := by
  intro t Q E q
  unfold rowOk at h
  rw [Bool.and_eq_true] at h
  obtain ⟨h0, h⟩ := h
  simp only [Bool.and_eq_true, decide_eq_true_eq, Bool.not_eq_true', List.all_eq_true (p := fun x : Str => decide (x.length ≤ 1000))] at h
  obtain ⟨⟨h1, h2⟩, ⟨h3, h4⟩, h5, h6⟩ := h
  unfold clauseIn at q
  have hz : z.length + 2 ≤ sizeLine := by rw [sz]; omega
  cases hs : Txt.split z " if " with
  | nil => rw [hs] at h3; cases h3
  | cons d rest =>
    rw [hs] at h0 h2 h4 h5 h6 q
    rw [List.all_cons, Bool.and_eq_true] at h0
    have o1 := eqOk_strs_nil h0.2
    have c1 : NB.cutD (.str d :: rest.map D.str) (some 1) none = rest.map D.str := by
      rw [show (1 : Int) = ((1 : Nat) : Int) from rfl, cut_drop (by simp)]
      rfl
    have h4' : ∀ x ∈ d :: rest, x.length ≤ 1000 := fun x hx => h4 x hx
    have o2 : eqOk (.lst []) (.lst []) = true := by decide +kernel
    cases rest with
    | nil =>
      have c1 : NB.cutD [.str d] (some 1) none = [] := c1
      simp [F__law_clause_in, w__law_clause_in, m1W, kindV, hz, hs, sep_if, c1, o2, eqv_nil_nil, forL]
      simp [testsOf, deedOf] at q
      exact ⟨by rw [sz]; decide, q⟩
    | cons r rest =>
      have o1 : eqOk (.lst (.str r :: rest.map D.str)) (.lst []) = true := o1
      have c1 : NB.cutD (.str d :: .str r :: rest.map D.str) (some 1) none = .str r :: rest.map D.str := c1
      have hr : r.length + 2 ≤ sizeLine := by
        have := h4' r (by simp)
        rw [sz]; omega
      simp only [testsOf] at h5 h6 q
      have h6' : ∀ x ∈ Txt.split r " and ", x.length ≤ 1000 := fun x hx => h6 x hx
      simp [F__law_clause_in, w__law_clause_in, m1W, kindV, hz, hs, sep_if, sep_and, c1, o1, eqv_cons_nil, hr]
      generalize Txt.split r " and " = xs at h5 h6' q ⊢
      refine forL_inv (j := 0) (fun j ρ t' => ∃ x, ρ = [.im (.str z), .im (.str d), .ow (.str r :: rest.map D.str), .ow ((xs.take j).map testIn), x] ∧ t' = t) ⟨.non, by simp, rfl⟩ ?_ ?_
      · intro i e ρ t1 nx he hI hn
        obtain ⟨x, rfl, rfl⟩ := hI
        rw [Nat.zero_add] at hn ⊢
        rw [List.getElem?_map] at he
        obtain ⟨y, hy, rfl⟩ := Option.map_eq_some_iff.mp he
        have hi : i < xs.length := (List.getElem?_eq_some_iff.mp hy).1
        have hm : y ∈ xs := List.mem_of_getElem? hy
        have hy1 : y.length ≤ sizeLine := by have := h6' y hm; rw [sz]; omega
        have tk : (xs.take (i + 1)).map testIn = (xs.take i).map testIn ++ [testIn y] := by
          rw [List.take_add_one, hy, List.map_append]
          rfl
        rw [tk] at hn
        have hl : min i xs.length < sizeLine := by rw [sz]; omega
        have h22 : 2 ≤ sizeLine := by rw [sz]; decide
        by_cases hno : cutS y none (some 3) = "no "
        · simp [hy1, hno, hl, h22]
          refine hn _ _ ⟨.im (.str y), ?_, rfl⟩
          simp [testIn, hno]
        · simp [hy1, hno, hl, h22]
          refine hn _ _ ⟨.im (.str y), ?_, rfl⟩
          simp [testIn, hno]
      · intro ρ t1 hI
        obtain ⟨x, rfl, rfl⟩ := hI
        rw [List.length_map, Nat.zero_add, List.take_length]
        simp [deedOf] at q
        simp
        exact ⟨by rw [sz]; decide, q⟩
end
end LW
set_option Elab.async false
set_option linter.all false
set_option maxRecDepth 100000
set_option maxHeartbeats 1000000
set_option autoImplicit false
/-! k03: drawn rules. -/
namespace LW
open PySem PySem.Spec PyProof.Rows L2 NB
theorem g_law_some {ds : List D} {m : Nat} (hm : m ≤ ds.length) (hl : ds.length ≤ 1000) : GivesT F__law_some [.pot, .lst ds, .int (m : Nat)] m (fun r => ∃ xs rest, r = .nw xs ∧ (xs ++ rest).Perm ds ∧ xs.length = m) := by
  intro t Q E ht q
  simp [F__law_some, w__law_some]
  refine ⟨by omega, ?_⟩
  refine forL_inv (j := 0) (fun j ρ t' => ∃ (rests found : List D) (x : Sl), ρ = [.im .pot, .im (.lst ds), .im (.int (m : Nat)), .ow rests, .ow found, x] ∧ (found ++ rests).Perm ds ∧ found.length = j ∧ t' ≤ t + j) ⟨ds, [], .non, rfl, .refl _, rfl, by omega⟩ ?_ ?_
  · intro i d ρ t1 nx hd hI hn
    obtain ⟨hi, rfl⟩ := rangeD_get hd
    obtain ⟨rests, found, x, rfl, pm, fl, tl⟩ := hI
    have len := pm.length_eq
    rw [List.length_append] at len
    have hz : sizeLine = 16777216 := sizeLine_eq
    simp [-popAtF, takeW]
    refine ⟨by omega, by omega, by omega, fun k k0 k1 => ?_⟩
    obtain ⟨d, e1, e2⟩ := popAt_ok k0 k1 (by omega)
    exact ⟨_, _, e2, _, ⟨by omega, rfl⟩, hn _ _ ⟨_, _, _, rfl, pop_perm e1 pm, by rw [List.length_append, List.length_singleton, fl], by omega⟩⟩
  · intro ρ t1 hI
    obtain ⟨rests, found, x, rfl, pm, fl, tl⟩ := hI
    rw [rangeD_len] at fl tl
    simp
    exact q _ _ (by omega) ⟨found, rests, rfl, pm, by omega⟩

/-- a clause of a drawn rule -/
def goodC (d : D) : Bool := (clauseB d && niD 128 (10 ^ 20) d) && (decide (wtD d ≤ 200) && decide (dpD d ≤ 3))
theorem goodC_iff {d : D} : goodC d = true ↔ clauseB d = true ∧ niD 128 (10 ^ 20) d = true ∧ wtD d ≤ 200 ∧ dpD d ≤ 3 := by
  unfold goodC
  rw [Bool.and_eq_true, Bool.and_eq_true, Bool.and_eq_true, decide_eq_true_eq, decide_eq_true_eq, and_assoc]
def strOf (d : D) : Str := match d with
  | .str z => z
  | _ => Str.empty
theorem words_small : (k_WORDS.all fun z => sgS 128 z && decide (z.length ≤ 13)) = true := by decide +kernel
theorem g_law_clause : GivesT F__law_clause [.pot] 12 (fun r => ∃ d, r = .im d ∧ goodC d = true) := by
  intro t Q E ht q
  have hz := sz
  simp [F__law_clause, w__law_clause, sizeLine_eq]
  simp [i_law_words]
  refine g_law_of' (post := fun d => ∃ m : Nat, d = .int m ∧ m ≤ 4) (by simp) (by simp) (fun d hd => ?_) _ _ _ (by omega) fun r t1 l1 pr => ?_
  · simp at hd
    rcases hd with rfl | rfl | rfl | rfl | rfl
    · exact ⟨0, rfl, by omega⟩
    · exact ⟨1, rfl, by omega⟩
    · exact ⟨2, rfl, by omega⟩
    · exact ⟨3, rfl, by omega⟩
    · exact ⟨4, rfl, by omega⟩
  · obtain ⟨_, rfl, m, rfl, hm⟩ := pr
    simp
    refine g_law_some (by rw [List.length_map]; exact Nat.le_trans hm (by decide)) (by rw [List.length_map]; decide) _ _ _ (by omega) fun r t2 l2 pr => ?_
    obtain ⟨xs, rest, rfl, pm, lx⟩ := pr
    have mem : ∀ x ∈ xs, ∃ z ∈ k_WORDS, x = .str z := fun x hx => by
      have := pm.mem_iff.mp (List.mem_append_left rest hx)
      obtain ⟨z, h1, h2⟩ := List.mem_map.mp this
      exact ⟨z, h1, h2.symm⟩
    have nd : (xs.map strOf).Nodup := by
      have p2 := pm.map strOf
      rw [List.map_append] at p2
      have e : (k_WORDS.map D.str).map strOf = k_WORDS := by decide +kernel
      rw [e] at p2
      have n2 : (xs.map strOf ++ rest.map strOf).Nodup := p2.nodup_iff.mpr (by decide +kernel)
      exact (List.nodup_append.mp n2).1
    simp
    refine compL_drawK (post := fun x => testB x = true ∧ niD 128 (10 ^ 20) x = true ∧ wtD x ≤ 16 ∧ dpD x ≤ 1) (κ := wordOf) (κ' := strOf) (n := 1) (fun d hd => ⟨_, bindP_nm, fun t Q' E h1 hq => ?_⟩) (by simp only [List.length_nil]; omega) (by omega) fun ys t' l3 py ky => ?_
    · obtain ⟨z, hz, rfl⟩ := mem d hd
      have ws := List.all_eq_true.mp words_small z hz
      rw [Bool.and_eq_true, decide_eq_true_eq] at ws
      simp [takeW, sizeLine_eq]
      refine ⟨by omega, fun k k0 k1 => hq _ _ (by omega) ⟨?_, ?_, ?_, ?_⟩ rfl⟩
      · simp [testB, wordB, isBl, hz]
      · simp [niD, niL, ws.1]
      · simp only [R_im, wtD, wtL]; omega
      · simp [dpD, dpL]
    · have ly : ys.length = xs.length := by
        have := congrArg List.length ky
        rwa [List.length_map, List.length_map] at this
      rw [← ky] at nd
      simp
      refine g_law_of' (post := fun d => ∃ z ∈ k_DEEDS, d = .str z) (by simp) (by simp) (fun d hd => ?_) _ _ _ (by omega) fun r t4 l4 pr => ?_
      · simp at hd
        rcases hd with rfl | rfl | rfl | rfl
        all_goals exact ⟨_, by decide +kernel, rfl⟩
      · obtain ⟨_, rfl, z, hz, rfl⟩ := pr
        refine q _ _ (by omega) ⟨_, rfl, goodC_iff.mpr ⟨?_, ?_, ?_, ?_⟩⟩
        · have a1 : (ys.all testB) = true := List.all_eq_true.mpr fun y hy => (py y hy).1
          have a2 : tupB (.tup ys) 0 4 = true := by
            simp [tupB]
            omega
          simp only [clauseB, tsB, a1, a2, wordB, decide_eq_true nd, Bool.and_true, Bool.true_and]
          exact decide_eq_true hz
        · have a1 : niL 128 (10 ^ 20) ys = true := niL_iff.mpr fun y hy => (py y hy).2.1
          have a2 : sgS 128 z = true := (List.all_eq_true (p := fun z => sgS 128 z)).mp (by decide +kernel) z hz
          simp only [R_im, niD, niL, a1, a2, Bool.and_true]
        · have a1 := wtL_le fun y hy => (py y hy).2.2.1
          have a2 : z.length ≤ 4 := of_decide_eq_true ((List.all_eq_true (p := fun z : Str => decide (z.length ≤ 4))).mp (by decide +kernel) z hz)
          simp only [R_im, wtD, wtL]
          omega
        · have a1 : dpL ys ≤ 1 := dpL_le.mpr fun y hy => (py y hy).2.2.2
          simp only [R_im, dpD, dpL]
          omega
/-- a drawn rule -/
structure RuleD (d : D) : Prop where
  rl : ruleB d = true
  ni : niD 128 (10 ^ 20) d = true
  wt : wtD d ≤ 3000
  dp : dpD d ≤ 4
theorem ruleD_of {L : List D} (h : ∀ d ∈ L, goodC d = true) (h1 : 1 ≤ L.length) (h2 : L.length ≤ 14) : RuleD (.tup L) := by
  have h' := fun d hd => goodC_iff.mp (h d hd)
  refine ⟨?_, ?_, ?_, ?_⟩
  · have a1 : L.all clauseB = true := List.all_eq_true.mpr fun d hd => (h' d hd).1
    simp only [ruleB, a1, Bool.and_true, Bool.and_eq_true, decide_eq_true_eq]
    omega
  · rw [niD]
    exact niL_iff.mpr fun d hd => (h' d hd).2.1
  · have := wtL_le fun d hd => (h' d hd).2.2.1
    rw [wtD]
    omega
  · rw [dpD]
    have : dpL L ≤ 3 := dpL_le.mpr fun d hd => (h' d hd).2.2.2
    omega
section
variable {L : List D} {way at_ to : Int} {x1 x4 x7 : Sl} {t : Nat} {k : KS}
theorem rule_5 (h : ∀ d ∈ L, goodC d = true) (h1 : 1 ≤ L.length) (h2 : L.length ≤ 14) (q : ∀ d, RuleD d → k.rt (.im d) t) : w__law_rule_5 [.im .pot, x1, .ow L, .im (.int way), x4, .im (.int at_), .im (.int to), x7] t k := by
  simp [w__law_rule_5]
  exact q _ (ruleD_of h h1 h2)
theorem rule_4 (h : ∀ d ∈ L, goodC d = true) (h1 : 5 ≤ L.length) (h2 : L.length ≤ 11) (a0 : 0 ≤ at_) (a1 : at_ < L.length) (b0 : 0 ≤ to) (b1 : to < L.length) (ht : t + 20 ≤ 2000000) (q : ∀ d t', t' ≤ t + 20 → RuleD d → k.rt (.im d) t') :
    w__law_rule_4 [.im .pot, x1, .ow L, .im (.int way), x4, .im (.int at_), .im (.int to), x7] t k := by
  have hz := sz
  obtain ⟨m, rfl⟩ := Int.eq_ofNat_of_zero_le a0
  have hm : m < L.length := by omega
  have ct := cut_take (ds := L) (k := m) (by omega)
  have cd1 : NB.cutD L (some ((m : Int) + 1)) none = L.drop (m + 1) := by
    have := cut_drop (ds := L) (k := m + 1) (by omega)
    rwa [show (((m + 1 : Nat) : Int)) = ((m : Int) + 1) from by omega] at this
  have cd0 := cut_drop (ds := L) (k := m) (by omega)
  have ht' : ∀ d ∈ L.take m, goodC d = true := fun d hd => h d (List.mem_of_mem_take hd)
  have hd' : ∀ n, ∀ d ∈ L.drop n, goodC d = true := fun n d hd => h d (List.mem_of_mem_drop hd)
  by_cases w1 : way = 1
  · simp [w__law_rule_4, w1, ct, cd1]
    refine ⟨_, ⟨by omega, rfl⟩, ?_⟩
    refine rule_5 (fun d hd => ?_) (by simp; omega) (by simp; omega) fun d hd => q d t (by omega) hd
    rcases List.mem_append.mp hd with hd | hd
    · exact ht' d hd
    · exact hd' _ d hd
  · by_cases w2 : way = 2
    · simp [w__law_rule_4, w2, ct, cd0]
      refine g_law_clause _ _ _ (by omega) fun r t1 l1 pr => ?_
      obtain ⟨c, rfl, gc⟩ := pr
      refine ⟨by omega, _, ⟨by omega, rfl⟩, _, if_pos ?_, ?_⟩
      · simp; omega
      · refine rule_5 (fun d hd => ?_) (by simp; omega) (by simp; omega) fun d hd => q d t1 (by omega) hd
        rcases List.mem_append.mp hd with hd | hd
        · rcases List.mem_append.mp hd with hd | hd
          · exact ht' d hd
          · rw [List.mem_singleton.mp hd]; exact gc
        · exact hd' _ d hd
    · by_cases w3 : way = 3
      · obtain ⟨n, rfl⟩ := Int.eq_ofNat_of_zero_le b0
        have hn : n < L.length := by omega
        have i1 : ixN L.length (m : Int) = some m := by unfold ixN; rw [if_pos (by omega), if_pos (by omega)]; rfl
        have i2 : ixN L.length (n : Int) = some n := by unfold ixN; rw [if_pos (by omega), if_pos (by omega)]; rfl
        simp [w__law_rule_4, w3, swapS]
        refine ⟨m, i1, n, i2, _, List.getElem?_eq_getElem hm, _, List.getElem?_eq_getElem hn, ?_⟩
        refine rule_5 (fun d hd => ?_) (by simp; omega) (by simp; omega) fun d hd => q d t (by omega) hd
        rcases List.mem_or_eq_of_mem_set hd with hd | hd
        · rcases List.mem_or_eq_of_mem_set hd with hd | hd
          · exact h d hd
          · rw [hd]; exact h _ (List.getElem_mem hn)
        · rw [hd]; exact h _ (List.getElem_mem hm)
      · simp [w__law_rule_4, w1, w2, w3]
        exact rule_5 h (by omega) (by omega) fun d hd => q d t (by omega) hd
theorem rule_3 (h : ∀ d ∈ L, goodC d = true) (h1 : 5 ≤ L.length) (h2 : L.length ≤ 11) (a0 : 0 ≤ at_) (a1 : at_ < L.length) (b0 : 0 ≤ to) (b1 : to < L.length) (ht : t + 200 ≤ 2000000) (q : ∀ d t', t' ≤ t + 200 → RuleD d → k.rt (.im d) t') :
    w__law_rule_3 [.im .pot, x1, .ow L, .im (.int way), x4, .im (.int at_), .im (.int to), x7] t k := by
  have hz := sz
  by_cases w0 : way = 0
  · simp [w__law_rule_3, w0, takeW]
    refine ⟨by omega, fun j j0 j1 => ?_⟩
    obtain ⟨m, rfl⟩ := Int.eq_ofNat_of_zero_le j0
    have e : ((1 : Int) + (m : Nat)).toNat = m + 1 := by omega
    refine ⟨by omega, by omega, ?_⟩
    rw [e]
    refine compL_draw (post := fun x => goodC x = true) (n := 12) (fun d hd => ⟨_, bindP_nm, fun t Q' E h1 hq => ?_⟩) (by rw [rangeD_len]; simp only [List.length_nil]; omega) (by rw [rangeD_len]; omega) fun ys t3 l3 py le3 => ?_
    · simp
      refine g_law_clause _ _ _ (by omega) fun r t1 l1 pr => ?_
      obtain ⟨c, rfl, gc⟩ := pr
      exact hq _ _ (by omega) gc
    · rw [rangeD_len] at l3 le3
      simp
      exact q _ _ (by omega) (ruleD_of py (by omega) (by omega))
  · simp [w__law_rule_3, w0]
    exact rule_4 h h1 h2 a0 a1 b0 b1 (by omega) fun d t' l hd => q d t' (by omega) hd
theorem rule_2 (h : ∀ d ∈ L, goodC d = true) (h1 : 5 ≤ L.length) (h2 : L.length ≤ 11) (ht : t + 202 ≤ 2000000) (q : ∀ d t', t' ≤ t + 202 → RuleD d → k.rt (.im d) t') :
    w__law_rule_2 [.im .pot, x1, .ow L, .im (.int way), x4, .non, .non, x7] t k := by
  simp [w__law_rule_2, takeW]
  refine ⟨by omega, by omega, by omega, fun a a0 a1 => ⟨by omega, by omega, by omega, fun b b0 b1 => ?_⟩⟩
  exact rule_3 h h1 h2 a0 a1 b0 b1 (by omega) fun d t' l hd => q d t' (by omega) hd
end
theorem rule_1 {n : Str} {zs : List Str} {t : Nat} {k : KS} (hk : ∀ t Q E, F__law_known [.str n] t Q E ↔ Q (.nw (zs.map .str)) t) (h : (zs.all fun z => rowOk z && goodC (clauseIn z)) = true) (h1 : 5 ≤ zs.length) (h2 : zs.length ≤ 11) (ht : t + 203 ≤ 2000000)
    (q : ∀ d t', t' ≤ t + 203 → RuleD d → k.rt (.im d) t') : w__law_rule_1 [.im .pot, .im (.str n), .non, .non, .non, .non, .non, .non] t k := by
  have hz := sz
  have ha : ∀ z ∈ zs, rowOk z = true ∧ goodC (clauseIn z) = true := fun z hm => by
    have := List.all_eq_true.mp h z hm
    rwa [Bool.and_eq_true] at this
  simp [w__law_rule_1, hk]
  have main : ∀ (Q' : List D → Nat → Prop), Q' (zs.map clauseIn) t → compL (.nm 4) yesT (callW F__law_clause_in (consD (varW 4) nilW)) [.im .pot, .im (.str n), .non, .non, .non, .non, .non, .non] (zs.map .str) [] t Q' := by
    intro Q' hq
    refine compL_gives (f := clauseIn) (fun z hm => ⟨_, .im (clauseIn z), bindP_nm, rfl, fun Q' E hq => ?_⟩) (by simp only [List.length_nil]; omega) (by rw [List.nil_append]; exact hq)
    simp
    exact g_clause_in (ha z hm).1 _ _ _ hq
  refine main _ ?_
  simp [takeW]
  refine ⟨by omega, fun w w0 w1 => ?_⟩
  refine rule_2 (fun d hd => ?_) (by rw [List.length_map]; exact h1) (by rw [List.length_map]; exact h2) (by omega) fun d t' l hd => q d t' (by omega) hd
  obtain ⟨z, hm, rfl⟩ := List.mem_map.mp hd
  exact (ha z hm).2
theorem g_law_rule : GivesT F__law_rule [.pot] 210 (fun r => ∃ d, r = .im d ∧ RuleD d) := by
  intro t Q E ht q
  simp [F__law_rule, w__law_rule, sizeLine_eq]
  refine g_law_of (by simp) (by simp) _ _ _ (by omega) fun r t1 l1 pr => ?_
  obtain ⟨d, hd, rfl⟩ := pr
  simp at hd
  have fin : ∀ d t', t' ≤ t1 + 203 → RuleD d → Q (.im d) t' := fun d t' l hd => q _ _ (by omega) ⟨d, rfl, hd⟩
  rcases hd with rfl | rfl | rfl | rfl | rfl
  · simp
    exact rule_1 (fun _ _ _ => known3) (by decide +kernel) (by decide) (by decide) (by omega) fin
  · simp
    exact rule_1 (fun _ _ _ => known2) (by decide +kernel) (by decide) (by decide) (by omega) fin
  · simp
    exact rule_1 (fun _ _ _ => known1) (by decide +kernel) (by decide) (by decide) (by omega) fin
  · simp
    exact rule_1 (fun _ _ _ => known5) (by decide +kernel) (by decide) (by decide) (by omega) fin
  · simp
    exact rule_1 (fun _ _ _ => known4) (by decide +kernel) (by decide) (by decide) (by omega) fin
end LW
set_option Elab.async false
set_option linter.all false
set_option maxRecDepth 100000
set_option maxHeartbeats 1000000
set_option autoImplicit false
/-! k04: rules, their texts both ways. -/
namespace LW
open PySem PySem.Spec PyProof.Rows L2 NB
abbrev Cl4 := List (Str × Bool) × Str
def clD (c : Cl4) : D := .tup [.tup (c.1.map tsP), .str c.2]
abbrev ruD (cs : List Cl4) : D := .tup (cs.map clD)
structure GoodC (c : Cl4) : Prop where
  ln : c.1.length ≤ 4
  wd : ∀ p ∈ c.1, p.1 ∈ k_WORDS
  nd : (c.1.map (·.1)).Nodup
  de : c.2 ∈ k_DEEDS
structure GoodR (cs : List Cl4) : Prop where
  l1 : 1 ≤ cs.length
  l20 : cs.length ≤ 20
  all : ∀ c ∈ cs, GoodC c
theorem GoodC.bl {c : Cl4} (G : GoodC c) : clauseB (clD c) = true := by
  have := G.ln
  have h1 : tupB (.tup (c.1.map tsP)) 0 4 = true := by
    simp [tupB]
    omega
  have h2 : tsB (.tup (c.1.map tsP)) = true := by
    have t1 : (c.1.map tsP).all testB = true := List.all_eq_true.mpr fun d hd => by
      obtain ⟨p, hp, rfl⟩ := List.mem_map.mp hd
      have := G.wd p hp
      simp [tsP, testB, wordB, isBl, this]
    simp only [tsB, t1, map_word, decide_eq_true G.nd]
    rfl
  simp only [clD, clauseB, h1, h2, wordB, decide_eq_true G.de]
  rfl
theorem GoodR.bl {cs : List Cl4} (G : GoodR cs) : ruleB (ruD cs) = true := by
  have := G.l1; have := G.l20
  have h1 : (cs.map clD).all clauseB = true := List.all_eq_true.mpr fun d hd => by
    obtain ⟨c, hc, rfl⟩ := List.mem_map.mp hd
    exact (G.all c hc).bl
  simp only [ruleB, h1, List.length_map]
  rw [decide_eq_true (by omega), decide_eq_true (by omega)]
  rfl
theorem clauseB_inv {v : D} (h : clauseB v = true) : ∃ c, v = clD c ∧ GoodC c := by
  unfold clauseB at h
  split at h
  · rename_i a b
    rw [Bool.and_eq_true, Bool.and_eq_true] at h
    obtain ⟨⟨h1, h2⟩, h3⟩ := h
    obtain ⟨ts, rfl, _, h4⟩ := tupB_tup h1
    cases b <;> simp [wordB] at h2
    rename_i z
    rw [tsB, Bool.and_eq_true] at h3
    obtain ⟨l, rfl, hl⟩ := tests_of h3.1
    have nd := of_decide_eq_true h3.2
    rw [map_word] at nd
    rw [List.length_map] at h4
    exact ⟨(l, z), rfl, (show l.length ≤ 4 by omega), hl, nd, h2⟩
  · cases h
theorem clauses_inv : ∀ {ds : List D}, ds.all clauseB = true → ∃ cs : List Cl4, ds = cs.map clD ∧ ∀ c ∈ cs, GoodC c
  | [], _ => ⟨[], rfl, fun _ h => nomatch h⟩
  | d :: ds, h => by
    rw [List.all_cons, Bool.and_eq_true] at h
    obtain ⟨c, rfl, hc⟩ := clauseB_inv h.1
    obtain ⟨cs, rfl, hcs⟩ := clauses_inv h.2
    refine ⟨c :: cs, rfl, fun e he => ?_⟩
    rcases List.mem_cons.mp he with e1 | e1
    · rw [e1]; exact hc
    · exact hcs e e1
theorem ruleB_inv {v : D} (h : ruleB v = true) : ∃ cs, v = ruD cs ∧ GoodR cs := by
  unfold ruleB at h
  split at h
  · rw [Bool.and_eq_true, Bool.and_eq_true, decide_eq_true_eq, decide_eq_true_eq] at h
    obtain ⟨⟨h1, h2⟩, h3⟩ := h
    obtain ⟨cs, rfl, hcs⟩ := clauses_inv h3
    rw [List.length_map] at h1 h2
    exact ⟨cs, rfl, by omega, by omega, hcs⟩
  · cases h
/-! ### texts -/
def testS (p : Str × Bool) : Str := if p.2 = true then p.1 else Str.ofString "no " ++ p.1
def clauseS (c : Cl4) : Str := if c.1 = [] then c.2 else c.2 ++ Str.ofString " if " ++ Txt.join " and " (c.1.map testS)
def ruleS (cs : List Cl4) : Str := Txt.join "\n" (cs.map clauseS)
theorem words_small2 {z : Str} (h : z ∈ k_WORDS) : sgS 128 z = true ∧ z.length ≤ 13 := by
  have := List.all_eq_true.mp words_small z h
  rw [Bool.and_eq_true, decide_eq_true_eq] at this
  exact this
theorem deeds_small : (k_DEEDS.all fun z => sgS 128 z && decide (z.length ≤ 4)) = true := by decide +kernel
theorem deeds_small2 {z : Str} (h : z ∈ k_DEEDS) : sgS 128 z = true ∧ z.length ≤ 4 := by
  have := List.all_eq_true.mp deeds_small z h
  rw [Bool.and_eq_true, decide_eq_true_eq] at this
  exact this
theorem no_len : (Str.ofString "no ").length = 3 := osL "no "
theorem if_len : (Str.ofString " if ").length = 4 := osL " if "
theorem and_len : (Str.ofString " and ").length = 5 := osL " and "
theorem feed_len : (Str.ofString "\n").length = 1 := osL "\n"
theorem join_len (s : Str) : ∀ zs : List Str, (Txt.join s zs).length ≤ (zs.map (·.length)).sum + zs.length * s.length
  | [] => by
    have : (Txt.join s []).length = 0 := rfl
    omega
  | z :: zs => by
    have := len_join_cons s z zs
    rw [TL.join_eq, this, List.length_cons, Nat.add_mul]
    simp only [List.map_cons, List.sum_cons]
    omega
theorem sum_le {B : Nat} : ∀ {zs : List Nat}, (∀ z ∈ zs, z ≤ B) → zs.sum ≤ B * zs.length
  | [], _ => by simp
  | z :: zs, h => by
    have h1 := h z List.mem_cons_self
    have h2 := sum_le fun y hy => h y (List.mem_cons_of_mem _ hy)
    rw [List.sum_cons, List.length_cons, Nat.mul_succ]
    omega
theorem test_len {p : Str × Bool} (h : p.1 ∈ k_WORDS) : (testS p).length ≤ 16 := by
  have := (words_small2 h).2
  unfold testS
  split
  · omega
  · rw [strLen_append, no_len]
    omega
theorem tests_len {c : Cl4} (G : GoodC c) : ((c.1.map testS).map (·.length)).sum + (c.1.map testS).length * (Str.ofString " and ").length ≤ 84 := by
  have := G.ln
  have h := sum_le (B := 16) (zs := (c.1.map testS).map (·.length)) fun z hz => by
    obtain ⟨y, hy, rfl⟩ := List.mem_map.mp hz
    obtain ⟨p, hp, rfl⟩ := List.mem_map.mp hy
    exact test_len (G.wd p hp)
  rw [List.length_map, List.length_map] at h
  rw [and_len, List.length_map]
  omega
theorem clause_len {c : Cl4} (G : GoodC c) : (clauseS c).length ≤ 92 := by
  have h1 := (deeds_small2 G.de).2
  have h2 := tests_len G
  have h3 := join_len " and " (c.1.map testS)
  unfold clauseS
  split
  · omega
  · rw [strLen_append, strLen_append, if_len]
    omega
theorem rule_total {cs : List Cl4} (G : GoodR cs) : ((cs.map clauseS).map (·.length)).sum + (cs.map clauseS).length * (Str.ofString "\n").length ≤ 1900 := by
  have := G.l20
  have h := sum_le (B := 92) (zs := (cs.map clauseS).map (·.length)) fun z hz => by
    obtain ⟨y, hy, rfl⟩ := List.mem_map.mp hz
    obtain ⟨c, hc, rfl⟩ := List.mem_map.mp hy
    exact clause_len (G.all c hc)
  rw [List.length_map, List.length_map] at h
  rw [feed_len, List.length_map]
  omega
theorem rule_len {cs : List Cl4} (G : GoodR cs) : (ruleS cs).length ≤ 1900 := by
  have h1 := rule_total G
  have h2 := join_len "\n" (cs.map clauseS)
  unfold ruleS
  omega
theorem ok_tests {c : Cl4} (G : GoodC c) : okL (c.1.map tsP) = true ∧ dpL (c.1.map tsP) ≤ 63 := by
  have key : ∀ l : List (Str × Bool), (∀ p ∈ l, p.1 ∈ k_WORDS) → okL (l.map tsP) = true ∧ dpL (l.map tsP) ≤ 1 := by
    intro l
    induction l with
    | nil => exact fun _ => ⟨rfl, by decide⟩
    | cons p l ih =>
      intro h
      obtain ⟨h1, h2⟩ := ih fun q hq => h q (List.mem_cons_of_mem _ hq)
      have z1 : PyData.strOk p.1 = true := List.all_eq_true.mp words_ok _ (h p List.mem_cons_self)
      refine ⟨?_, ?_⟩
      · rw [List.map_cons, okL, h1, tsP, okD, okL, okL, okL, okD, okD, z1]
        rfl
      · rw [List.map_cons, dpL]
        have : dpD (tsP p) = 1 := rfl
        omega
  have := key c.1 G.wd
  exact ⟨this.1, by omega⟩
theorem GoodR.ni {cs : List Cl4} (G : GoodR cs) : niD 128 (10 ^ 20) (ruD cs) = true := by
  rw [niD, niL_iff]
  intro d hd
  obtain ⟨c, hc, rfl⟩ := List.mem_map.mp hd
  have g := G.all c hc
  have h1 : niL 128 (10 ^ 20) (c.1.map tsP) = true := niL_iff.mpr fun d hd => by
    obtain ⟨p, hp, rfl⟩ := List.mem_map.mp hd
    rw [tsP, niD, niL, niL, niL, niD, niD, (words_small2 (g.wd p hp)).1]
    rfl
  rw [clD, niD, niL, niL, niL, niD, niD, h1, (deeds_small2 g.de).1]
  rfl
theorem GoodR.fine {cs : List Cl4} (G : GoodR cs) : Fine (ruD cs) := by
  have h20 := G.l20
  refine ⟨ni_mono (by decide) (by decide) G.ni, ?_, ?_⟩
  · have h := wtL_le (k := 100) (ds := cs.map clD) fun d hd => by
      obtain ⟨c, hc, rfl⟩ := List.mem_map.mp hd
      have g := G.all c hc
      have hl := g.ln
      have h1 := wtL_le (k := 16) (ds := c.1.map tsP) fun d hd => by
        obtain ⟨p, hp, rfl⟩ := List.mem_map.mp hd
        have := (words_small2 (g.wd p hp)).2
        simp only [tsP, wtD, wtL]
        omega
      rw [List.length_map] at h1
      have h2 := (deeds_small2 g.de).2
      simp only [clD, wtD, wtL]
      omega
    rw [List.length_map] at h
    rw [wtD]
    omega
  · have h : dpL (cs.map clD) ≤ 3 := dpL_le.mpr fun d hd => by
      obtain ⟨c, hc, rfl⟩ := List.mem_map.mp hd
      have h1 : dpL (c.1.map tsP) ≤ 1 := dpL_le.mpr fun d hd => by
        obtain ⟨p, hp, rfl⟩ := List.mem_map.mp hd
        simp [tsP, dpD, dpL]
      simp only [clD, dpD, dpL]
      omega
    rw [dpD]
    omega
theorem GoodR.ok {cs : List Cl4} (G : GoodR cs) : okD (ruD cs) = true := G.fine.ok
end LW
set_option Elab.async false
set_option linter.all false
set_option maxRecDepth 100000
set_option maxHeartbeats 1000000
set_option autoImplicit false
/-! k04: rule_text and the law's own text. -/
namespace LW
open PySem PySem.Spec PyProof.Rows L2 NB
/-- an own list, one more -/
theorem app_of {i : Nat} {w : W} {ρ ρ' : List Sl} {t t' : Nat} {k : KS} {ds0 ds : List D} {x : R} (h0 : ρ[i]? = some (.ow ds0)) (hw : ∀ Q E, Q x ρ' t' → w ρ t Q E) (h1 : ρ'[i]? = some (.ow ds)) (hl : ds.length < sizeLine) (q : k.nx (ρ'.set i (.ow (ds ++ [x.d]))) t') :
    dropS (ownW i (consD w nilW) appendF) ρ t k := ⟨⟨_, h0⟩, hw _ _ ⟨_, _, _, h1, if_pos hl, q⟩⟩
theorem strs_map : ∀ zs : List Str, strsD (zs.map .str) = some zs
  | [] => rfl
  | z :: zs => by rw [List.map_cons, strsD, strs_map zs]; rfl
theorem join_D {s : Str} {d : D} {zs : List Str} (hx : itsD d = some (zs.map .str)) (hl : (zs.map (·.length)).sum + zs.length * s.length ≤ 16777216) : joinD (.str s) d = some (.im (.str (Txt.join s zs))) := by
  unfold joinD
  simp only [hx, Option.bind_some, strs_map]
  rw [if_pos hl]
/-- sep.join(what w gives) -/
theorem join_gives {s : Str} {w : W} {ρ ρ' : List Sl} {t t' : Nat} {x : R} {zs : List Str} {Q : R → List Sl → Nat → Prop} {E : KX} (hw : ∀ Q E, Q x ρ' t' → w ρ t Q E) (hx : itsD x.d = some (zs.map .str)) (hl : (zs.map (·.length)).sum + zs.length * s.length ≤ 16777216)
    (q : Q (.im (.str (Txt.join s zs))) ρ' t') : m1W "str" joinD (valO (pureW (.im (.str s)))) (valO w) ρ t Q E :=
  ⟨⟨_, rfl, True.intro⟩, hw _ _ ⟨_, _, _, rfl, rfl, join_D hx hl, q⟩⟩
theorem add_S {a b : Str} (h : a.length + b.length ≤ 10000) : addD (.str a) (.str b) = some (.im (.str (a ++ b))) := if_pos (by rw [sz]; omega)
theorem eq_tests {c : Cl4} (G : GoodC c) : eqD (.tup (c.1.map tsP)) (.tup []) = some (.im (.bl (decide (c.1 = [])))) := by
  have h := ok_tests G
  simp [eqOk_nil h.1 h.2, eqv_nil]
  cases c.fst <;> simp
theorem g_test_text {p : Str × Bool} (h : p.1 ∈ k_WORDS) : Gives F_test_text [tsP p] (.im (.str (testS p))) := fun t Q E q => by
  have hl := (words_small2 h).2
  obtain ⟨w, b⟩ := p
  refine def_of rfl ?_
  unfold w_test_text
  simp only [seqS, unpS]
  refine ⟨_, bindP2, ?_⟩
  refine ret_of ?_
  simp only [ifV, testW]
  cases b with
  | true => exact ⟨true, rfl, q⟩
  | false => exact ⟨false, rfl, _, _, _, rfl, rfl, add_S (by rw [no_len]; have : w.length ≤ 13 := hl; show 3 + w.length ≤ _; omega), q⟩
theorem g_clause_text {c : Cl4} (G : GoodC c) : Gives F_clause_text [clD c] (.im (.str (clauseS c))) := fun t Q E q => by
  have hz := sz
  have h1 := (deeds_small2 G.de).2
  have h2 := tests_len G
  have h3 := join_len " and " (c.1.map testS)
  have hl := G.ln
  refine def_of rfl ?_
  unfold w_clause_text
  simp only [seqS, unpS]
  refine ⟨_, bindP2, ?_⟩
  refine ret_of ?_
  simp only [ifV, testW, op2W, slotO, valO, tupW, nilW]
  refine ⟨le_sl rfl, _, _, _, rfl, rfl, eq_tests G, _, rfl, ?_⟩
  by_cases he : c.1 = []
  · rw [decide_eq_true he, if_pos rfl]
    have e : clauseS c = c.2 := if_pos he
    rw [e] at q
    exact q
  · rw [decide_eq_false he, if_neg (by decide)]
    have e : clauseS c = c.2 ++ Str.ofString " if " ++ Txt.join " and " (c.1.map testS) := if_neg he
    rw [e] at q
    refine ⟨_, _, _, rfl, rfl, add_S (by rw [if_len]; omega), ?_⟩
    refine join_gives (x := .nw ((c.1.map testS).map .str)) (ρ' := [.im (clD c), .im (.tup (c.1.map tsP)), .im (.str c.2), .non]) (t' := t) (zs := c.1.map testS) (fun Q E h => ?_) rfl (by omega) ⟨_, _, _, rfl, rfl, add_S (by rw [strLen_append, if_len]; omega), q⟩
    simp only [compW, seqI]
    refine ⟨_, rfl, ?_⟩
    refine compL_gives (g := tsP) (f := fun p => .str (testS p)) (fun p hp => ⟨_, .im (.str (testS p)), bindP_nm, rfl, fun Q' E h => ?_⟩) (by rw [List.length_nil]; omega) ?_
    · exact call_of (ds := [tsP p]) (ρ' := [.im (clD c), .im (.tup (c.1.map tsP)), .im (.str c.2), .im (tsP p)]) (fun Q E h => h) (g_test_text (G.wd p hp) _ _ _ h)
    · rw [List.nil_append]
      rw [List.map_map] at h
      exact h
theorem g_rule_text {cs : List Cl4} (G : GoodR cs) : Gives F_rule_text [ruD cs] (.im (.str (ruleS cs))) := fun t Q E q => by
  have hz := sz
  have h20 := G.l20
  have h2 := rule_total G
  refine def_of rfl ?_
  unfold w_rule_text
  simp only [seqS, dropS]
  refine call_of (ds := [ruD cs]) (ρ' := [.im (ruD cs), .non]) (fun Q E h => h) ?_
  refine def_of rfl ?_
  unfold w_check_rule
  simp only [ifS, notT, testW]
  refine call_of (ds := [ruD cs]) (ρ' := [.im (ruD cs)]) (fun Q E h => h) ((i_is_rule G.ok).mpr ⟨_, rfl, ?_⟩)
  rw [G.bl]
  show w_rule_text_1 [.im (ruD cs), .non] t _
  unfold w_rule_text_1
  refine ret_of ?_
  refine join_gives (x := .nw ((cs.map clauseS).map .str)) (ρ' := [.im (ruD cs), .non]) (t' := t) (zs := cs.map clauseS) (fun Q E h => ?_) rfl (by omega) q
  simp only [compW, seqI]
  refine ⟨_, rfl, ?_⟩
  refine compL_gives (g := clD) (f := fun c => .str (clauseS c)) (fun c hc => ⟨_, .im (.str (clauseS c)), bindP_nm, rfl, fun Q' E h => ?_⟩) (by rw [List.length_nil]; omega) ?_
  · exact call_of (ds := [clD c]) (ρ' := [.im (ruD cs), .im (clD c)]) (fun Q E h => h) (g_clause_text (G.all c hc) _ _ _ h)
  · rw [List.nil_append]
    rw [List.map_map] at h
    exact h
/-- what is none: refused -/
theorem x_rule_text {v : D} {t : Nat} {Q : R → Nat → Prop} {E : KX} (ok : okD v = true) (no : ruleB v = false) (q : E "BadRule" v t) : F_rule_text [v] t Q E := by
  refine def_of rfl ?_
  unfold w_rule_text
  simp only [seqS, dropS]
  refine call_of (ds := [v]) (ρ' := [.im v, .non]) (fun Q E h => h) ?_
  refine def_of rfl ?_
  unfold w_check_rule
  simp only [ifS, notT, testW]
  refine call_of (ds := [v]) (ρ' := [.im v]) (fun Q E h => h) ((i_is_rule ok).mpr ⟨_, rfl, ?_⟩)
  rw [no]
  exact q
/-! ### the law's own -/
theorem eq_words {zs : List Str} (h : okL (zs.map .str) = true) : eqD (.lst (zs.map .str)) (.lst []) = some (.im (.bl (decide (zs = [])))) := by
  have h1 : eqOk (.lst (zs.map .str)) (.lst []) = true := by
    unfold eqOk
    rw [okD, okD, h, dpD, dpD, dpL_strs]
    rfl
  have h2 : D.eqv (.lst (zs.map .str)) (.lst []) = decide (zs = []) := by
    unfold D.eqv
    rw [D.py, D.py, PyData.eqv]
    cases zs with
    | nil => rfl
    | cons z zs => rw [List.map_cons, pyL, pyL, PyData.eqvAll]; simp
  simp [h1, h2]
theorem okL_tests {c : Cl4} (G : GoodC c) : okL ((c.1.map testS).map .str) = true := by
  rw [okL_strs, List.all_eq_true]
  intro z hz
  obtain ⟨p, hp, rfl⟩ := List.mem_map.mp hz
  have h := (words_small2 (G.wd p hp)).1
  refine sgS_ok (c := 128) ?_ (by decide)
  unfold testS
  split
  · exact h
  · exact sgS_append (by decide +kernel) h
theorem bindP22 {ρ : List Sl} {i j : Nat} {d e : D} : bindP (.tp [.nm i, .nm j]) (.tup [d, e]) ρ = some ((ρ.set i (.im d)).set j (.im e)) := rfl
theorem g_law_text {cs : List Cl4} (G : GoodR cs) : Gives F__law_text [ruD cs] (.im (.str (ruleS cs))) := fun t Q E q => by
  have hz := sz
  have h20 := G.l20
  have h2 := rule_total G
  refine def_of rfl ?_
  unfold w__law_text
  refine set_of ?_
  simp only [lstW, nilW]
  refine ⟨le_sl rfl, ?_⟩
  unfold w__law_text_1
  simp only [seqS, forS, seqI]
  refine ⟨_, rfl, ?_⟩
  refine forL_inv (j := 0) (fun j ρ t' => t' = t ∧ ∃ (x2 x3 x4 x5 x6 : Sl), ρ = [.im (ruD cs), .ow (((cs.take j).map clauseS).map .str), x2, x3, x4, x5, x6]) ⟨rfl, .non, .non, .non, .non, .non, rfl⟩ ?_ ?_
  · intro i d ρ t1 nx hd hI hn
    rw [Nat.zero_add] at hn hI
    rw [List.getElem?_map] at hd
    obtain ⟨c, hc, rfl⟩ := Option.map_eq_some_iff.mp hd
    obtain ⟨rfl, x2, x3, x4, x5, x6, rfl⟩ := hI
    have hi : i < cs.length := (List.getElem?_eq_some_iff.mp hc).1
    have g := G.all c (List.mem_of_getElem? hc)
    have e1 := (deeds_small2 g.de).2
    have e2 := tests_len g
    have e3 := join_len " and " (c.1.map testS)
    have hl := g.ln
    refine ⟨_, bindP22, ?_⟩
    refine set_of ?_
    simp only [compW, seqI]
    refine ⟨_, rfl, ?_⟩
    refine compL_gives (g := tsP) (f := fun p => .str (testS p)) (fun p hp => ⟨_, .im (.str (testS p)), bindP22, rfl, fun Q' E h => ?_⟩) (by rw [List.length_nil]; omega) ?_
    · obtain ⟨w, b⟩ := p
      have hw := (words_small2 (g.wd _ hp)).2
      simp only [ifV, testW]
      cases b with
      | true => exact ⟨true, rfl, h⟩
      | false => exact ⟨false, rfl, _, _, _, rfl, rfl, add_S (by rw [no_len]; have : w.length ≤ 13 := hw; show 3 + w.length ≤ _; omega), h⟩
    · rw [List.nil_append]
      have em : c.1.map (fun p => D.str (testS p)) = (c.1.map testS).map .str := by rw [List.map_map]; rfl
      rw [em]
      refine app_of (x := .im (.str (clauseS c))) (ρ' := [.im (ruD cs), .ow (((cs.take i).map clauseS).map .str), .im (.tup (c.1.map tsP)), .im (.str c.2), .ow ((c.1.map testS).map .str), .non, .non]) (t' := t1) rfl (fun Q E h => ?_) rfl ?_ ?_
      · simp only [ifV, testW, op2W, slotO, valO, lstW, nilW]
        refine ⟨le_sl rfl, _, _, _, rfl, rfl, eq_words (okL_tests g), _, rfl, ?_⟩
        by_cases he : c.1 = []
        · have e : clauseS c = c.2 := if_pos he
          rw [e] at h
          rw [decide_eq_true (by rw [he]; rfl), if_pos rfl]
          exact h
        · have e : clauseS c = c.2 ++ Str.ofString " if " ++ Txt.join " and " (c.1.map testS) := if_neg he
          rw [e] at h
          rw [decide_eq_false (fun z => he (List.map_eq_nil_iff.mp z)), if_neg (by decide)]
          exact ⟨_, _, _, rfl, rfl, add_S (by rw [if_len]; omega), ⟨_, rfl, True.intro⟩, _, _, _, rfl, rfl, join_D rfl (by omega), _, _, _, rfl, rfl, add_S (by rw [strLen_append, if_len]; omega), h⟩
      · rw [List.length_map, List.length_map, List.length_take]
        omega
      · refine hn _ _ ⟨rfl, .im (.tup (c.1.map tsP)), .im (.str c.2), .ow ((c.1.map testS).map .str), .non, .non, ?_⟩
        rw [List.take_succ, hc, List.map_append, List.map_append]
        rfl
  · intro ρ t1 hI
    obtain ⟨rfl, x2, x3, x4, x5, x6, rfl⟩ := hI
    rw [List.length_map, Nat.zero_add, List.take_length]
    dsimp only
    unfold w__law_text_2
    refine ret_of ?_
    exact ⟨⟨_, rfl, True.intro⟩, _, _, _, rfl, rfl, join_D rfl (by omega), q⟩
end LW
set_option Elab.async false
set_option linter.all false
set_option maxRecDepth 100000
set_option maxHeartbeats 1000000
set_option autoImplicit false
/-! k04: a clause is read. -/
namespace LW
open PySem PySem.Spec PyProof.Rows L2 NB
def clauseR (z : Str) : D := if Txt.find z " if " < 0 then .tup [.tup [], .str z]
  else .tup [.tup ((Txt.split (cutS z (some (Txt.find z " if " + 4)) none) " and ").map testIn), .str (cutS z none (some (Txt.find z " if ")))]
theorem slice_S {z : Str} {lo hi : Option Int} (h : z.length ≤ 10000) : sliceD (.str z) lo hi = some (.im (.str (cutS z lo hi))) := if_pos (by rw [sz]; omega)
theorem split_D {z s : Str} (h : z.length ≤ 4000) (hs : (s.length == 0) = false) : splitD (.str z) (.str s) = some (.nw ((Txt.split z s).map .str)) := if_pos ⟨hs, by rw [sz]; omega⟩
theorem split_few {z s : Str} (h : 1 ≤ s.length) : (Txt.split z s).length ≤ z.length + 1 := by
  have := split_weight z s h
  omega
theorem len_D {z : Str} (h : z.length ≤ 10000) : g1 lenD [.str z] = some (.im (.int (z.length : Nat))) := by
  show (if z.length ≤ sizeLine then some z.length else none).map _ = _
  rw [if_pos (by rw [sz]; omega)]
  rfl
theorem eq_strD (a b : Str) : eqD (.str a) (.str b) = some (.im (.bl (decide (a = b)))) := by
  simp
theorem g_test_in {x : Str} (h : x.length ≤ 4000) : Gives F_test_in [.str x] (.im (testIn x)) := fun t Q E q => by
  have ln : g1 lenD [.str "no "] = some (.im (.int 3)) := by rw [len_D (by rw [no_len]; decide), no_len]; rfl
  refine def_of rfl ?_
  unfold w_test_in
  refine ret_of ?_
  simp only [ifV, testW, op2W, slotO, valO, sliceW, noneP, someP, opNW, consO, nilW, pureW]
  refine ⟨_, _, rfl, ln, 3, rfl, _, _, rfl, slice_S (by omega), _, _, _, rfl, rfl, eq_strD _ _, _, rfl, ?_⟩
  unfold testIn at q
  by_cases he : cutS x none (some 3) = "no "
  · rw [if_pos he] at q
    rw [decide_eq_true he, if_pos rfl]
    exact ⟨_, _, rfl, ln, 3, rfl, _, _, rfl, slice_S (by omega), le_sl rfl, q⟩
  · rw [if_neg he] at q
    rw [decide_eq_false he, if_neg (by decide)]
    exact ⟨le_sl rfl, q⟩
theorem cutS_len2 (z : Str) (lo hi : Option Int) : (cutS z lo hi).length ≤ z.length := cutS_length z lo hi
theorem g_clause_in2 {z : Str} (h : z.length ≤ 3900) : Gives F_clause_in [.str z] (.im (clauseR z)) := fun t Q E q => by
  have hz := sz
  have li : g1 lenD [.str " if "] = some (.im (.int 4)) := by rw [len_D (by rw [if_len]; decide), if_len]; rfl
  have ab : ((Str.ofString " and ").length == 0) = false := by rw [and_len]; rfl
  refine def_of rfl ?_
  unfold w_clause_in
  refine set_of ?_
  refine ⟨⟨_, rfl, True.intro⟩, _, _, _, rfl, rfl, rfl, ?_⟩
  refine if_of ?_
  simp only [testW, op2W, slotO, valO, pureW]
  refine ⟨_, _, _, rfl, rfl, rfl, decide (Txt.find z " if " < 0), rfl, ?_⟩
  unfold clauseR at q
  by_cases hf : Txt.find z " if " < 0
  · rw [if_pos hf] at q
    rw [decide_eq_true hf, if_pos rfl]
    refine ret_of ?_
    exact ⟨le_sl rfl, le_sl rfl, q⟩
  · rw [if_neg hf] at q
    rw [decide_eq_false hf, if_neg (by decide)]
    refine ret_of ?_
    have cl := cutS_len2 z (some (Txt.find z " if " + 4)) none
    have few := split_few (z := cutS z (some (Txt.find z " if " + 4)) none) (s := " and ") (by rw [and_len]; decide)
    simp only [tupW, consD, opNW, consO, valO, compW, seqI, nilW]
    simp only [m1W, sliceW, slotO, valO, someP, noneP, op2W, opNW, consO, nilW, pureW]
    refine ⟨_, _, rfl, li, _, _, _, rfl, rfl, rfl, _, rfl, _, _, rfl, slice_S (by omega), ⟨_, rfl, True.intro⟩, _, _, _, rfl, rfl, split_D (by omega) ab, _, rfl, ?_⟩
    refine compL_gives (g := .str) (f := testIn) (fun x hx => ⟨_, .im (testIn x), bindP_nm, rfl, fun Q' E h => ?_⟩) (by rw [List.length_nil]; omega) ?_
    · have := part_short hx
      exact call_of (ds := [.str x]) (ρ' := [.im (.str z), .im (.int (Txt.find z " if ")), .im (.str x)]) (fun Q E h => h) (g_test_in (by omega) _ _ _ h)
    · exact ⟨_, _, rfl, rfl, _, rfl, _, _, rfl, slice_S (by omega), le_sl rfl, q⟩
end LW
set_option Elab.async false
set_option linter.all false
set_option maxRecDepth 100000
set_option maxHeartbeats 1000000
set_option autoImplicit false
/-! k04: what is written of a clause is read. -/
namespace LW
open PySem PySem.Spec PyProof.Rows L2 NB
/-- the separator does not begin in p, whatever follows -/
def freeB (S p : List Nat) : Bool := (List.range p.length).all fun i => !(((p ++ S).drop i).take S.length == S)
theorem free_pre {S p rest : List Nat} (h : freeB S p = true) {i : Nat} (hi : i < p.length) : TL.pre S ((p ++ (S ++ rest)).drop i) = false := by
  have h1 := List.all_eq_true.mp h i (List.mem_range.mpr hi)
  have h1 : (((p ++ S).drop i).take S.length == S) = false := by simpa using h1
  have e : ((p ++ (S ++ rest)).drop i).take S.length = ((p ++ S).drop i).take S.length := by
    rw [← List.append_assoc, List.drop_append_of_le_length (by rw [List.length_append]; omega), List.take_append_of_le_length (by rw [List.length_drop, List.length_append]; omega)]
  show (((p ++ (S ++ rest)).drop i).take S.length == S) = false
  rw [e]
  exact h1
theorem free_last {S p : List Nat} (h : freeB S p = true) {i : Nat} (hi : i < p.length) : TL.pre S (p.drop i) = false := by
  cases e : TL.pre S (p.drop i) with
  | false => rfl
  | true =>
    have e : (p.drop i).take S.length = S := eq_of_beq e
    have hl := congrArg List.length e
    rw [List.length_take, List.length_drop] at hl
    have h1 := List.all_eq_true.mp h i (List.mem_range.mpr hi)
    have h1 : (((p ++ S).drop i).take S.length == S) = false := by simpa using h1
    have e2 : ((p ++ S).drop i).take S.length = (p.drop i).take S.length := by
      rw [List.drop_append_of_le_length (by omega), List.take_append_of_le_length (by rw [List.length_drop]; omega)]
    rw [e2, e] at h1
    simp at h1
theorem spl_joinF {S : List Nat} (hS : S ≠ []) : ∀ {parts : List (List Nat)}, parts ≠ [] → (∀ p ∈ parts, freeB S p = true) → TL.spl S 0 [] (TL.joinL S parts) = parts
  | [], h, _ => absurd rfl h
  | [p], _, hp => by
    show TL.spl S 0 [] p = [p]
    rw [TL.spl_last fun i hi => free_last (hp p (List.mem_singleton.mpr rfl)) hi, List.nil_append]
  | p :: q :: r, _, hp => by
    show TL.spl S 0 [] (p ++ (S ++ TL.joinL S (q :: r))) = p :: q :: r
    rw [TL.spl_part hS fun i hi => free_pre (hp p List.mem_cons_self) hi, List.nil_append, spl_joinF hS (by simp) fun z hz => hp z (List.mem_cons_of_mem _ hz)]
theorem split_joinF {y : Str} (hy : TL.tl y ≠ []) (hk : y.cps.all (· < 256) = true) {parts : List Str} (hne : parts ≠ []) (hp : ∀ p ∈ parts, freeB (TL.tl y) (TL.tl p) = true) : Txt.split (Txt.join y parts) y = parts := by
  refine TL.map_tl_inj ?_
  rw [TL.split_spl _ y hy (TL.kind_ok hk), TL.join_eq, TL.tl_join]
  refine spl_joinF hy (fun e => hne (List.map_eq_nil_iff.mp e)) fun p h => ?_
  obtain ⟨z, hz, rfl⟩ := List.mem_map.mp h
  exact hp z hz
/-! ### tests -/
theorem tests_free : (k_WORDS.all fun w => freeB (TL.tl " and ") (TL.tl w) && freeB (TL.tl " and ") (TL.tl (Str.ofString "no " ++ w))) = true := by decide +kernel
theorem tests_read : (k_WORDS.all fun w => !decide (cutS w none (some 3) = "no ") && (decide (cutS (Str.ofString "no " ++ w) none (some 3) = "no ") && decide (cutS (Str.ofString "no " ++ w) (some 3) none = w))) = true := by decide +kernel
theorem test_read {p : Str × Bool} (h : p.1 ∈ k_WORDS) : testIn (testS p) = tsP p := by
  have := List.all_eq_true.mp tests_read p.1 h
  rw [Bool.and_eq_true, Bool.and_eq_true, decide_eq_true_eq, decide_eq_true_eq, Bool.not_eq_true', decide_eq_false_iff_not] at this
  obtain ⟨h1, h2, h3⟩ := this
  obtain ⟨w, b⟩ := p
  cases b with
  | true =>
    show testIn w = _
    unfold testIn
    rw [if_neg h1]
    rfl
  | false =>
    show testIn (Str.ofString "no " ++ w) = _
    unfold testIn
    rw [if_pos h2, h3]
    rfl
theorem test_free {p : Str × Bool} (h : p.1 ∈ k_WORDS) : freeB (TL.tl " and ") (TL.tl (testS p)) = true := by
  have := List.all_eq_true.mp tests_free p.1 h
  rw [Bool.and_eq_true] at this
  unfold testS
  split
  · exact this.1
  · exact this.2
/-! ### where " if " is -/
theorem deeds_find : (k_DEEDS.all fun d => decide (Txt.find d " if " < 0) && !(TL.tl d).contains 32) = true := by decide +kernel
theorem deed_find {d : Str} (h : d ∈ k_DEEDS) : Txt.find d " if " < 0 ∧ 32 ∉ TL.tl d := by
  have := List.all_eq_true.mp deeds_find d h
  rw [Bool.and_eq_true, decide_eq_true_eq, Bool.not_eq_true'] at this
  exact ⟨this.1, fun z => by rw [List.contains_iff_mem.mpr z] at this; exact absurd this.2 (by decide)⟩
theorem if_tl : TL.tl (Str.ofString " if ") = [32, 105, 102, 32] := by decide +kernel
theorem find_if {d j : Str} (h : 32 ∉ TL.tl d) : Txt.find (d ++ Str.ofString " if " ++ j) " if " = (d.length : Nat) := by
  have hne : TL.tl (Str.ofString " if ") ≠ [] := by rw [if_tl]; simp
  have dl : (TL.tl d).length = d.length := Array.length_toList
  have e : TL.tl (d ++ Str.ofString " if " ++ j) = TL.tl d ++ (TL.tl (Str.ofString " if ") ++ TL.tl j) := by rw [TL.tl_append, TL.tl_append, List.append_assoc]
  have at_ : StrLaws.At (d ++ Str.ofString " if " ++ j) (Str.ofString " if ") (d ++ Str.ofString " if " ++ j).length d.length := by
    refine (TL.at_iff hne _).mpr ?_
    rw [e, ← dl, List.drop_left]
    exact TL.pre_self _ _
  rcases find_whole (d ++ Str.ofString " if " ++ j) (Str.ofString " if ") with ⟨_, hn⟩ | ⟨i, hi, ha, hn⟩
  · exact absurd at_ (hn _)
  · rw [hi]
    have le : i ≤ d.length := by
      by_cases hlt : d.length < i
      · exact absurd at_ (hn _ hlt)
      · omega
    by_cases heq : i = d.length
    · rw [heq]
    · have hlt : i < (TL.tl d).length := by omega
      have p1 := (TL.at_iff hne i).mp ha
      rw [e, if_tl] at p1
      rw [TL.free_of (s := 32) (S := [105, 102, 32]) (q := [32, 105, 102, 32] ++ TL.tl j) h i hlt] at p1
      cases p1
theorem cut_at (z : Str) (i : Nat) : TL.tl (cutS z none (some (i : Int))) = (TL.tl z).take i ∧ TL.tl (cutS z (some (i : Int)) none) = (TL.tl z).drop i := by
  have e : (TL.tl z).length = z.length := Array.length_toList
  unfold cutS
  rw [HT.sIx_none, HT.sIx_none, HT.sIx_nat, HT.sIx_nat]
  constructor
  · show List.take _ (List.drop 0 (TL.tl z)) = _
    rw [List.drop_zero, Nat.sub_zero]
    by_cases h : i ≤ z.length
    · rw [Nat.min_eq_left h]
    · rw [Nat.min_eq_right (by omega), ← e, List.take_length, List.take_of_length_le (by omega)]
  · show List.take (z.length - min i z.length) (List.drop (min i z.length) (TL.tl z)) = _
    by_cases h : i ≤ z.length
    · rw [Nat.min_eq_left h, ← e, ← List.length_drop, List.take_length]
    · rw [Nat.min_eq_right (by omega), ← e, List.drop_length, List.drop_eq_nil_of_le (by omega), List.take_nil]
theorem clause_read {c : Cl4} (G : GoodC c) : clauseR (clauseS c) = clD c := by
  obtain ⟨f1, f2⟩ := deed_find G.de
  by_cases he : c.1 = []
  · have e : clauseS c = c.2 := if_pos he
    rw [e]
    unfold clauseR
    rw [if_pos f1, clD, he]
    rfl
  · have e : clauseS c = c.2 ++ Str.ofString " if " ++ Txt.join " and " (c.1.map testS) := if_neg he
    rw [e]
    have fi := find_if (d := c.2) (j := Txt.join " and " (c.1.map testS)) f2
    have dl : (TL.tl c.2).length = c.2.length := Array.length_toList
    have et : TL.tl (c.2 ++ Str.ofString " if " ++ Txt.join " and " (c.1.map testS)) = TL.tl c.2 ++ ([32, 105, 102, 32] ++ TL.tl (Txt.join " and " (c.1.map testS))) := by rw [TL.tl_append, TL.tl_append, List.append_assoc, if_tl]
    unfold clauseR
    rw [fi, if_neg (by omega)]
    have e1 : cutS (c.2 ++ Str.ofString " if " ++ Txt.join " and " (c.1.map testS)) none (some (c.2.length : Nat)) = c.2 := by
      refine TL.ext_tl ?_
      rw [(cut_at _ _).1, et, ← dl, List.take_left]
    have e2 : cutS (c.2 ++ Str.ofString " if " ++ Txt.join " and " (c.1.map testS)) (some ((c.2.length : Nat) + 4)) none = Txt.join " and " (c.1.map testS) := by
      refine TL.ext_tl ?_
      rw [show (((c.2.length : Nat) : Int) + 4) = ((c.2.length + 4 : Nat) : Int) by omega, (cut_at _ _).2, et, ← dl, ← List.drop_drop, List.drop_left]
      rfl
    rw [e1, e2, split_joinF (y := " and ") (by decide +kernel) (by decide +kernel) (fun z => he (List.map_eq_nil_iff.mp z)) fun p hp => ?_]
    · rw [clD, List.map_map]
      congr 2
      congr 1
      refine List.map_congr_left fun p hp => ?_
      exact test_read (G.wd p hp)
    · obtain ⟨q, hq, rfl⟩ := List.mem_map.mp hp
      exact test_free (G.wd q hq)
end LW
set_option Elab.async false
set_option linter.all false
set_option maxRecDepth 100000
set_option maxHeartbeats 1000000
set_option autoImplicit false
/-! k04: a rule's text is read. -/
namespace LW
open PySem PySem.Spec PyProof.Rows L2 NB
/-- signs of a text -/
abbrev sgs (z : Str) : List Nat := z.cps.toList
theorem sgs_append (a b : Str) : sgs (a ++ b) = sgs a ++ sgs b := by
  show (a ++ b).cps.toList = _
  rw [show (a ++ b).cps = a.cps ++ b.cps from rfl, Array.toList_append]
theorem join_one (y a : Str) : Txt.join y [a] = a := by rw [TL.join_eq]; rfl
theorem join_two (y a b : Str) (r : List Str) : Txt.join y (a :: b :: r) = a ++ y ++ Txt.join y (b :: r) := by rw [TL.join_eq, TL.join_eq]; rfl
theorem join_sgs {y : Str} {c : Nat} : ∀ {zs : List Str}, c ∈ sgs (Txt.join y zs) → c ∈ sgs y ∨ ∃ z ∈ zs, c ∈ sgs z
  | [], h => by
    have : sgs (Txt.join y []) = [] := rfl
    rw [this] at h
    cases h
  | [a], h => by
    rw [join_one] at h
    exact .inr ⟨a, List.mem_cons_self, h⟩
  | a :: b :: r, h => by
    rw [join_two, sgs_append, sgs_append] at h
    rcases List.mem_append.mp h with h | h
    · rcases List.mem_append.mp h with h | h
      · exact .inr ⟨a, List.mem_cons_self, h⟩
      · exact .inl h
    · rcases join_sgs h with h | ⟨z, hz, h⟩
      · exact .inl h
      · exact .inr ⟨z, List.mem_cons_of_mem _ hz, h⟩
theorem sgs_join {y : Str} {c : Nat} : ∀ {zs : List Str} {z : Str}, z ∈ zs → c ∈ sgs z → c ∈ sgs (Txt.join y zs)
  | [a], z, hz, h => by
    rw [join_one, ← List.mem_singleton.mp hz]
    exact h
  | a :: b :: r, z, hz, h => by
    rw [join_two, sgs_append, sgs_append]
    rcases List.mem_cons.mp hz with e | hz
    · exact List.mem_append_left _ (List.mem_append_left _ (by rw [← e]; exact h))
    · exact List.mem_append_right _ (sgs_join hz h)
theorem sgS_join {y : Str} {zs : List Str} {b : Nat} (hy : sgS b y = true) (hz : ∀ z ∈ zs, sgS b z = true) : sgS b (Txt.join y zs) = true := sgS_iff.mpr fun c hc => by
  rcases join_sgs hc with h | ⟨z, h1, h2⟩
  · exact sgS_iff.mp hy c h
  · exact sgS_iff.mp (hz z h1) c h2
theorem sgS_part {y x p : Str} {b : Nat} (h : sgS b x = true) (hp : p ∈ Txt.split x y) : sgS b p = true := sgS_iff.mpr fun c hc => by
  refine sgS_iff.mp h c ?_
  have e := PySem.StrLaws.join_split x y
  rw [← TL.join_eq] at e
  have := sgs_join (y := y) hp hc
  rw [e] at this
  exact this

def readR (z : Str) : D := .tup ((Txt.split z "\n").map clauseR)
theorem okL_iff {ds : List D} : okL ds = true ↔ ∀ d ∈ ds, okD d = true := by
  induction ds with
  | nil => simp [okL]
  | cons d ds ih =>
    rw [okL, Bool.and_eq_true, ih]
    simp
theorem testIn_ok {x : Str} (h : sgS 128 x = true) : okD (testIn x) = true := by
  unfold testIn
  split
  · rw [okD, okL, okL, okL, okD, okD, sgS_ok (sgS_cut h) (by decide)]
    rfl
  · rw [okD, okL, okL, okL, okD, okD, sgS_ok h (by decide)]
    rfl
theorem clauseR_ok {x : Str} (h : sgS 128 x = true) : okD (clauseR x) = true := by
  unfold clauseR
  split
  · rw [okD, okL, okL, okL, okD, okD, sgS_ok h (by decide)]
    rfl
  · have h1 : okL ((Txt.split (cutS x (some (Txt.find x " if " + 4)) none) " and ").map testIn) = true := okL_iff.mpr fun d hd => by
      obtain ⟨y, hy, rfl⟩ := List.mem_map.mp hd
      exact testIn_ok (sgS_part (sgS_cut h) hy)
    rw [okD, okL, okL, okL, okD, okD, h1, sgS_ok (sgS_cut h) (by decide)]
    rfl
theorem readR_ok {z : Str} (h : sgS 128 z = true) : okD (readR z) = true := by
  rw [readR, okD, okL_iff]
  intro d hd
  obtain ⟨y, hy, rfl⟩ := List.mem_map.mp hd
  exact clauseR_ok (sgS_part h hy)
theorem tsP_inj : ∀ {l l' : List (Str × Bool)}, l.map tsP = l'.map tsP → l = l'
  | [], [], _ => rfl
  | [], _ :: _, h => by cases h
  | _ :: _, [], h => by cases h
  | (a, b) :: l, (a', b') :: l', h => by
    rw [List.map_cons, List.map_cons] at h
    injection h with h1 h2
    rw [tsP_inj h2]
    simp [tsP] at h1
    rw [h1.1, h1.2]
theorem clD_inj : ∀ {l l' : List Cl4}, l.map clD = l'.map clD → l = l'
  | [], [], _ => rfl
  | [], _ :: _, h => by cases h
  | _ :: _, [], h => by cases h
  | (a, b) :: l, (a', b') :: l', h => by
    rw [List.map_cons, List.map_cons] at h
    injection h with h1 h2
    rw [clD_inj h2]
    simp [clD] at h1
    rw [tsP_inj h1.1, h1.2]
theorem ruD_inj {cs cs' : List Cl4} (h : ruD cs = ruD cs') : cs = cs' := clD_inj (D.tup.inj h)
theorem ne_str (a b : Str) : neD (.str a) (.str b) = some (.im (.bl !decide (a = b))) := by
  simp
theorem g_read {z : Str} {t : Nat} {Q : R → Nat → Prop} {E : KX} (hz : z.length ≤ 3800) (hs : sgS 128 z = true)
    (q1 : ∀ cs, GoodR cs → readR z = ruD cs → ruleS cs = z → Q (.im (ruD cs)) t)
    (q2 : (∀ cs, GoodR cs → readR z = ruD cs → ruleS cs ≠ z) → E "NoText" (.str z) t) : F_read_rule [.str z] t Q E := by
  have hz2 := sz
  have fb : ((Str.ofString "\n").length == 0) = false := by rw [feed_len]; rfl
  refine def_of rfl ?_
  unfold w_read_rule
  refine guard_of (t1 := t) (ρ1 := [.im (.str z), .non, .non]) (fun Q E h => ?_) ?_
  · simpa using h
  unfold w_read_rule_1
  refine set_of ?_
  simp only [opNW, consO, valO, compW, seqI, nilW]
  refine ⟨⟨_, rfl, True.intro⟩, _, _, _, rfl, rfl, split_D (by omega) fb, _, rfl, ?_⟩
  refine compL_gives (g := .str) (f := clauseR) (fun row hr => ⟨_, .im (clauseR row), bindP_nm, rfl, fun Q' E h => ?_⟩) ?_ ?_
  · have := part_short hr
    exact call_of (ds := [.str row]) (ρ' := [.im (.str z), .non, .im (.str row)]) (fun Q E h => h) (g_clause_in2 (by omega) _ _ _ h)
  · have := split_few (z := z) (s := "\n") (Nat.le_of_eq feed_len.symm)
    rw [List.length_nil]
    omega
  rw [List.nil_append]
  refine ⟨_, .im (readR z), rfl, rfl, ?_⟩
  have okR := readR_ok hs
  show w_read_rule_2 [.im (.str z), .im (readR z), .non] t _
  unfold w_read_rule_2
  refine if_of ?_
  simp only [orT, notT, testW]
  refine call_of (ds := [readR z]) (ρ' := [.im (.str z), .im (readR z), .non]) (fun Q E h => h) ((i_is_rule okR).mpr ⟨_, rfl, ?_⟩)
  cases hb : ruleB (readR z) with
  | false =>
    refine q2 fun cs G e _ => ?_
    rw [e, G.bl] at hb
    cases hb
  | true =>
    obtain ⟨cs, e, G⟩ := ruleB_inv hb
    rw [e] at q1 q2 ⊢
    simp only [Bool.not_true, Bool.false_eq_true, if_false, op2W, valO]
    refine call_of (ds := [ruD cs]) (ρ' := [.im (.str z), .im (ruD cs), .non]) (fun Q E h => h) (g_rule_text G _ _ _ ?_)
    refine ⟨_, _, _, rfl, rfl, ne_str _ _, _, rfl, ?_⟩
    by_cases he : ruleS cs = z
    · rw [decide_eq_true he]
      exact q1 cs G rfl he
    · rw [decide_eq_false he]
      refine q2 fun cs' G' e' => ?_
      obtain rfl := ruD_inj e'
      exact he
/-! ### what is written is read -/
theorem words_sgs : (k_WORDS.all fun w => !(sgs w).contains 10) = true := by decide +kernel
theorem deeds_sgs : (k_DEEDS.all fun w => !(sgs w).contains 10) = true := by decide +kernel
theorem seps_sgs : 10 ∉ sgs (Str.ofString " if ") ∧ 10 ∉ sgs (Str.ofString " and ") ∧ 10 ∉ sgs (Str.ofString "no ") := by decide +kernel
theorem clause_free {c : Cl4} (G : GoodC c) : 10 ∉ sgs (clauseS c) := by
  have hw : ∀ p ∈ c.1, 10 ∉ sgs (testS p) := fun p hp hc => by
    have h1 := List.all_eq_true.mp words_sgs p.1 (G.wd p hp)
    rw [Bool.not_eq_true'] at h1
    have h2 : 10 ∉ sgs p.1 := fun z => by rw [List.contains_iff_mem.mpr z] at h1; cases h1
    unfold testS at hc
    split at hc
    · exact h2 hc
    · rw [sgs_append] at hc
      rcases List.mem_append.mp hc with h | h
      · exact seps_sgs.2.2 h
      · exact h2 h
  have h1 := List.all_eq_true.mp deeds_sgs c.2 G.de
  rw [Bool.not_eq_true'] at h1
  have h2 : 10 ∉ sgs c.2 := fun z => by rw [List.contains_iff_mem.mpr z] at h1; cases h1
  intro hc
  unfold clauseS at hc
  split at hc
  · exact h2 hc
  · rw [sgs_append, sgs_append] at hc
    rcases List.mem_append.mp hc with h | h
    · rcases List.mem_append.mp h with h | h
      · exact h2 h
      · exact seps_sgs.1 h
    · rcases join_sgs h with h | ⟨z, hz, h⟩
      · exact seps_sgs.2.1 h
      · obtain ⟨p, hp, rfl⟩ := List.mem_map.mp hz
        exact hw p hp h
theorem clause_sg {c : Cl4} (G : GoodC c) : sgS 128 (clauseS c) = true := by
  have hw : ∀ p ∈ c.1, sgS 128 (testS p) = true := fun p hp => by
    have h1 := (words_small2 (G.wd p hp)).1
    unfold testS
    split
    · exact h1
    · exact sgS_append (by decide +kernel) h1
  unfold clauseS
  split
  · exact (deeds_small2 G.de).1
  · refine sgS_append (sgS_append (deeds_small2 G.de).1 (by decide +kernel)) (sgS_join (by decide +kernel) fun z hz => ?_)
    obtain ⟨p, hp, rfl⟩ := List.mem_map.mp hz
    exact hw p hp
theorem rule_sg {cs : List Cl4} (G : GoodR cs) : sgS 128 (ruleS cs) = true := sgS_join (by decide +kernel) fun z hz => by
  obtain ⟨c, hc, rfl⟩ := List.mem_map.mp hz
  exact clause_sg (G.all c hc)
theorem feed_tl : TL.tl (Str.ofString "\n") = [10] := by decide +kernel
theorem read_text {cs : List Cl4} (G : GoodR cs) : readR (ruleS cs) = ruD cs := by
  have h1 : Txt.split (ruleS cs) "\n" = cs.map clauseS := by
    refine TL.split_join (s := 10) (S := []) feed_tl (by decide +kernel) (fun e => ?_) fun z hz hc => ?_
    · have := G.l1
      rw [List.map_eq_nil_iff.mp e] at this
      exact absurd this (by decide)
    · obtain ⟨c, h2, rfl⟩ := List.mem_map.mp hz
      exact clause_free (G.all c h2) hc
  rw [readR, h1, List.map_map]
  congr 1
  exact List.map_congr_left fun c hc => clause_read (G.all c hc)
theorem g_read_text {cs : List Cl4} (G : GoodR cs) : Gives F_read_rule [.str (ruleS cs)] (.im (ruD cs)) := fun t Q E q => by
  have tl := rule_len G
  refine g_read (by omega) (rule_sg G) (fun cs' G' e _ => ?_) fun h => ?_
  · rw [← e, read_text G]
    exact q
  · exact absurd rfl (h cs G (read_text G))
/-- what is no text -/
theorem x_read {v : D} {t : Nat} {Q : R → Nat → Prop} {E : KX} (ok : okD v = true) (h : ∀ z, v ≠ .str z) (q : E "NoText" v t) : F_read_rule [v] t Q E := by
  refine def_of rfl ?_
  unfold w_read_rule
  refine if_of ?_
  cases v with
  | str z => exact absurd rfl (h z)
  | pot => simp [okD] at ok
  | exc _ _ => simp [okD] at ok
  | _ => simpa using q
end LW
set_option Elab.async false
set_option linter.all false
set_option maxRecDepth 100000
set_option maxHeartbeats 1000000
set_option autoImplicit false
/-! k04: texts looked at; texts otherwise. -/
namespace LW
open PySem PySem.Spec PyProof.Rows L2 NB
def sg (c : Nat) : Str := ⟨#[c]⟩
structure TextOk (z : Str) : Prop where
  sg : sgS 128 z = true
  ln : z.length ≤ 3790
theorem TextOk.fine {z : Str} (h : TextOk z) : Fine (.str z) := ⟨by rw [niD]; exact sgS_mono h.sg (by decide), by rw [wtD]; have := h.ln; omega, by rw [dpD]; omega⟩
theorem eq_str (a : Str) : eqD (.str a) (.str a) = some (.im (.bl true)) := by
  simp
theorem repr_D {d : D} (h : showOk d = true) : g1 reprD [d] = some (.im (.str d.py.shown)) := if_pos h
theorem no_in : ("NoText" : Str) ∈ excNames := by decide +kernel
theorem bad_in : ("BadRule" : Str) ∈ excNames := by decide +kernel
theorem name_in : ("BadName" : Str) ∈ excNames := by decide +kernel
theorem isE_of {c : Str} {v : D} (h : c ∈ excNames) : isE excNames c (.exc c v) = some true := by simp [h]
theorem excV_of {c : Str} {v : D} (h : c ∈ excNames) : excVD excNames (.exc c v) = some (.im v) := by simp [h]
/-- a text is read rightly -/
theorem g_law_is_read {z : Str} (h : TextOk z) : Gives F__law_is_read [.str z] (.im (.bl true)) := by
  intro t Q E q
  refine def_of rfl ?_
  unfold w__law_is_read
  simp only [seqS, unpS, heardW]
  refine call_of (ds := [.str z]) (ρ' := [.im (.str z), .non, .non]) (fun Q E h => h) ?_
  refine g_read (by have := h.ln; omega) h.sg (fun cs G _ e => ?_) fun _ => ?_
  · refine ⟨_, rfl, ?_⟩
    show w__law_is_read_1 [.im (.str z), .im .non, .im (ruD cs)] t _
    unfold w__law_is_read_1
    refine if_of ?_
    simp only [testW, op2W, slotO, valO, pureW, List.getElem?_cons_zero, List.getElem?_cons_succ]
    refine ⟨_, _, _, rfl, rfl, rfl, false, rfl, ?_⟩
    show w__law_is_read_2 [.im (.str z), .im .non, .im (ruD cs)] t _
    unfold w__law_is_read_2
    refine ret_of ?_
    simp only [andV, op2W, valO]
    refine call_of (ds := [ruD cs]) (ρ' := [.im (.str z), .im .non, .im (ruD cs)]) (fun Q E h => h) ((i_is_rule G.ok).mpr ?_)
    rw [G.bl]
    refine ⟨_, _, _, rfl, rfl, rfl, true, rfl, ?_⟩
    rw [if_pos rfl]
    refine call_of (ds := [ruD cs]) (ρ' := [.im (.str z), .im .non, .im (ruD cs)]) (fun Q E h => h) (g_law_text G _ _ _ ?_)
    rw [e]
    exact ⟨_, _, _, rfl, rfl, eq_str z, q⟩
  · refine ⟨no_in, _, rfl, ?_⟩
    have sh := h.fine.show
    show w__law_is_read_1 [.im (.str z), .im (.exc "NoText" (.str z)), .im .non] t _
    unfold w__law_is_read_1
    refine if_of ?_
    simp only [testW, op2W, slotO, valO, pureW, List.getElem?_cons_zero, List.getElem?_cons_succ]
    refine ⟨_, _, _, rfl, rfl, rfl, true, rfl, ?_⟩
    rw [if_pos rfl]
    refine ret_of ?_
    simp only [andV, isEW, op2W, op1W, opNW, consO, slotO, valO, nilW, List.getElem?_cons_zero, List.getElem?_cons_succ]
    refine ⟨_, true, rfl, isE_of no_in, true, rfl, ?_⟩
    rw [if_pos rfl]
    exact ⟨_, _, rfl, excV_of no_in, _, _, rfl, repr_D sh, _, _, rfl, repr_D sh, _, _, _, rfl, rfl, eq_str _, q⟩
/-- a sign of a text -/
theorem g_law_ofS {z : Str} (h : 0 < z.length) (hl : z.length < 1000000) : GivesT F__law_of [.pot, .str z] 1 (fun r => ∃ c ∈ sgs z, r = .im (.str (sg c))) := by
  intro t Q E ht q
  have hz : z.length ≤ sizeLine := by rw [sz]; omega
  have e : (sgs z).length = z.length := Array.length_toList
  simp [F__law_of, w__law_of, takeW, hz]
  refine ⟨h, by omega, by omega, fun k k0 k1 => ?_⟩
  obtain ⟨d, e1, _, e2⟩ := atI_mem (ds := sgs z) k0 (by omega)
  exact ⟨_, ⟨d, e1, rfl⟩, q _ _ (by omega) ⟨d, e2, rfl⟩⟩
def T (B : Nat) (z : Str) : Prop := sgS 128 z = true ∧ z.length ≤ B
theorem cut_two (z : Str) {i j : Nat} (hi : i ≤ z.length) (hij : i ≤ j) : (cutS z none (some (i : Int))).length + (cutS z (some (j : Int)) none).length ≤ z.length := by
  have e : z.cps.toList.length = z.length := Array.length_toList
  unfold cutS
  rw [HT.sIx_none, HT.sIx_none, HT.sIx_nat, HT.sIx_nat]
  show (List.toArray _).size + (List.toArray _).size ≤ _
  rw [List.size_toArray, List.size_toArray, List.length_take, List.length_take, List.length_drop, List.length_drop]
  omega
end LW
set_option Elab.async false
set_option linter.all false
set_option maxRecDepth 100000
set_option maxHeartbeats 1000000
set_option autoImplicit false
/-! k04: texts otherwise. -/
namespace LW
open PySem PySem.Spec PyProof.Rows L2 NB
theorem blank_len : (Str.ofString " ").length = 1 := osL " "
theorem sum_drop : ∀ (xs : List Nat) (k : Nat), (xs.drop k).sum ≤ xs.sum
  | _, 0 => by simp
  | [], k + 1 => by simp
  | x :: xs, k + 1 => by
    have := sum_drop xs k
    rw [List.drop_succ_cons, List.sum_cons]
    omega
theorem sum_two (xs : List Nat) (i j : Nat) : (xs.take i).sum + (xs.drop (i + j)).sum ≤ xs.sum := by
  have h1 : (xs.take i).sum + (xs.drop i).sum = xs.sum := by rw [← List.sum_append, List.take_append_drop]
  have h2 := sum_drop (xs.drop i) j
  rw [List.drop_drop] at h2
  omega
theorem cut_dropA {ds : List D} {k : Nat} : NB.cutD ds (some (k : Int)) none = ds.drop k := by
  by_cases h : k ≤ ds.length
  · exact cut_drop h
  · unfold NB.cutD
    rw [HT.sIx_none, HT.sIx_nat, Nat.min_eq_right (by omega), List.drop_eq_nil_of_le (Nat.le_refl _), List.drop_eq_nil_of_le (by omega), List.take_nil]
theorem slice_L {ds : List D} {k : Nat} : sliceD (.lst ds) (some (k : Int)) none = some (.nw (ds.drop k)) := by
  simp only [sliceD, D.ls, Option.map_some, cut_dropA]
theorem slice_T {ds : List D} {k : Nat} (h : k ≤ ds.length) : sliceD (.lst ds) none (some (k : Int)) = some (.nw (ds.take k)) := by
  simp only [sliceD, D.ls, Option.map_some, cut_take h]
theorem add_L {L M : List D} (h : L.length + M.length ≤ 100000) : addD (.lst L) (.lst M) = some (.nw (L ++ M)) := if_pos (by rw [sz]; omega)
section
variable {z : Str} {i c : Nat} {way : Int} {t : Nat} {k : KS}
abbrev oS (z : Str) (i c : Nat) (way : Int) (x5 x6 x7 : Sl) : List Sl := [.im .pot, .im (.str z), .im (.int (i : Nat)), .im (.str (sg c)), .im (.int way), x5, x6, x7]
theorem sg_ok (hc : c < 128) : sgS 128 (sg c) = true := sgS_iff.mpr fun x hx => by
  have : x ∈ [c] := hx
  rw [List.mem_singleton.mp this]
  exact hc
abbrev wsD (z : Str) : List D := (Txt.split z " ").map .str
theorem words_two (hz : T 3000 z) {m j : Nat} : (((Txt.split z " ").take m ++ (Txt.split z " ").drop (m + j)).map (·.length)).sum + ((Txt.split z " ").take m ++ (Txt.split z " ").drop (m + j)).length ≤ z.length + 1 := by
  have sp := split_weight z " " (Nat.le_of_eq blank_len.symm)
  have s2 := sum_two ((Txt.split z " ").map (·.length)) m j
  rw [List.map_append, List.sum_append, List.map_take, List.map_drop, List.length_append, List.length_take, List.length_drop]
  omega
theorem words_sg (hz : T 3000 z) {m n : Nat} : ∀ p ∈ (Txt.split z " ").take m ++ (Txt.split z " ").drop n, sgS 128 p = true := fun p hp => by
  rcases List.mem_append.mp hp with h | h
  · exact sgS_part hz.1 (List.mem_of_mem_take h)
  · exact sgS_part hz.1 (List.mem_of_mem_drop h)
theorem ot_8 {m : Nat} {y : Str} (hz : T 3000 z) (w0 : 0 ≤ way) (hm : m ≤ (Txt.split z " ").length) (hy : sgS 128 y = true) (ly : y.length ≤ 11) (q : ∀ z', T (z.length + 16) z' → k.rt (.im (.str z')) t) : w__law_otherwise_8 (oS z i c way (.ow (wsD z)) (.im (.int (m : Nat))) (.im (.str y))) t k := by
  have h2 := hz.2
  obtain ⟨v, rfl⟩ := Int.eq_ofNat_of_zero_le w0
  have few := split_few (z := z) (s := " ") (Nat.le_of_eq blank_len.symm)
  have wt := words_two hz (m := m) (j := v % 2)
  rw [List.length_append] at wt
  unfold w__law_otherwise_8
  refine ret_of ?_
  have lz : (wsD z).length = (Txt.split z " ").length := List.length_map _
  have key : ((((Txt.split z " ").take m ++ [y]) ++ (Txt.split z " ").drop (m + v % 2)).map (·.length)).sum + (((Txt.split z " ").take m ++ [y]) ++ (Txt.split z " ").drop (m + v % 2)).length ≤ z.length + 13 := by
    rw [List.map_append, List.sum_append] at wt
    rw [List.map_append, List.map_append, List.sum_append, List.sum_append, List.length_append, List.length_append, List.length_singleton, List.map_singleton, List.sum_singleton]
    omega
  have jl := join_len " " (((Txt.split z " ").take m ++ [y]) ++ (Txt.split z " ").drop (m + v % 2))
  rw [blank_len] at jl
  refine join_gives (x := .nw ((((Txt.split z " ").take m ++ [y]) ++ (Txt.split z " ").drop (m + v % 2)).map .str)) (ρ' := oS z i c v (.ow (wsD z)) (.im (.int (m : Nat))) (.im (.str y))) (t' := t) (zs := ((Txt.split z " ").take m ++ [y]) ++ (Txt.split z " ").drop (m + v % 2)) (fun Q E h => ?_) rfl (by rw [blank_len]; omega) (q _ ⟨sgS_join (by decide +kernel) fun p hp => ?_, by omega⟩)
  · simp only [op2W, sliceW, slotO, valO, noneP, someP, varW, lstW, consD, pureW, nilW, List.getElem?_cons_zero, List.getElem?_cons_succ]
    have em : modD (.int (v : Nat)) (.int 2) = some (.im (.int ((v % 2 : Nat) : Int))) := by
      simp
    have ea : addD (.int (m : Nat)) (.int ((v % 2 : Nat) : Int)) = some (.im (.int ((m + v % 2 : Nat) : Int))) := by
      simp
    refine ⟨_, rfl, _, _, rfl, slice_T (by rw [lz]; exact hm), le_sl rfl, _, _, _, rfl, rfl, add_L ?_, _, _, _, rfl, rfl, em, _, _, _, rfl, rfl, ea, _, rfl, _, _, rfl, slice_L, _, _, _, rfl, rfl, add_L ?_, ?_⟩
    · rw [List.length_take, lz, List.length_singleton]
      omega
    · rw [List.length_append, List.length_take, lz, List.length_singleton, List.length_drop, lz]
      omega
    · rw [List.map_append, List.map_append, List.map_take, List.map_drop] at h
      exact h
  · rcases List.mem_append.mp hp with h | h
    · rcases List.mem_append.mp h with h | h
      · exact sgS_part hz.1 (List.mem_of_mem_take h)
      · rw [List.mem_singleton.mp h]
        exact hy
    · exact sgS_part hz.1 (List.mem_of_mem_drop h)
theorem ot_7 {m : Nat} {x7 : Sl} (hz : T 3000 z) (w0 : 0 ≤ way) (hm : m ≤ (Txt.split z " ").length) (ht : t + 1 ≤ 2000000) (q : ∀ z' t', t' ≤ t + 1 → T (z.length + 16) z' → k.rt (.im (.str z')) t') : w__law_otherwise_7 (oS z i c way (.ow (wsD z)) (.im (.int (m : Nat))) x7) t k := by
  unfold w__law_otherwise_7
  refine set_of (call_of (ds := [.pot, .lst [.str "no", .str "if", .str "and", .str "here", .str "up", .str "calls above", .str "above", .str "rest", .str "no no", .str ""]]) (ρ' := oS z i c way (.ow (wsD z)) (.im (.int (m : Nat))) x7) (fun Q E h => ?_) ?_)
  · simp only [consD, varW, lstW, pureW, nilW, List.getElem?_cons_zero]
    exact ⟨le_sl rfl, h⟩
  · refine g_law_of' (post := fun d => ∃ y : Str, d = .str y ∧ sgS 128 y = true ∧ y.length ≤ 11) (by simp) (by simp) (fun d hd => ?_) _ _ _ ht fun x t' l1 ⟨d, e1, y, e2, h3, h4⟩ => ?_
    · simp only [List.mem_cons, List.not_mem_nil, or_false] at hd
      rcases hd with rfl | rfl | rfl | rfl | rfl | rfl | rfl | rfl | rfl | rfl <;> exact ⟨_, rfl, by decide +kernel, by decide +kernel⟩
    · subst e2
      subst e1
      exact ot_8 hz w0 hm h3 h4 fun z' h => q z' _ l1 h
theorem ot_6 {m : Nat} {x7 : Sl} (hz : T 3000 z) (w0 : 0 ≤ way) (hm : m ≤ (Txt.split z " ").length) (ht : t + 1 ≤ 2000000) (q : ∀ z' t', t' ≤ t + 1 → T (z.length + 16) z' → k.rt (.im (.str z')) t') : w__law_otherwise_6 (oS z i c way (.ow (wsD z)) (.im (.int (m : Nat))) x7) t k := by
  have h2 := hz.2
  have few := split_few (z := z) (s := " ") (Nat.le_of_eq blank_len.symm)
  have wt := words_two hz (m := m) (j := 1)
  unfold w__law_otherwise_6
  refine if_of ?_
  simp only [testW, op2W, slotO, valO, pureW, List.getElem?_cons_zero, List.getElem?_cons_succ]
  refine ⟨_, _, _, rfl, rfl, rfl, decide (way = 3), rfl, ?_⟩
  by_cases hw : way = 3
  · rw [decide_eq_true hw, if_pos rfl]
    refine ret_of ?_
    have lz : (wsD z).length = (Txt.split z " ").length := List.length_map _
    have jl := join_len " " ((Txt.split z " ").take m ++ (Txt.split z " ").drop (m + 1))
    rw [blank_len] at jl
    refine join_gives (x := .nw (((Txt.split z " ").take m ++ (Txt.split z " ").drop (m + 1)).map .str)) (ρ' := oS z i c way (.ow (wsD z)) (.im (.int (m : Nat))) x7) (t' := t) (zs := (Txt.split z " ").take m ++ (Txt.split z " ").drop (m + 1)) (fun Q E h => ?_) rfl (by rw [blank_len]; omega) (q _ _ (by omega) ⟨sgS_join (by decide +kernel) (words_sg hz), by omega⟩)
    simp only [op2W, sliceW, slotO, valO, noneP, someP, varW, pureW, List.getElem?_cons_zero, List.getElem?_cons_succ]
    refine ⟨_, rfl, _, _, rfl, slice_T (by rw [lz]; exact hm), _, _, _, rfl, rfl, rfl, _, rfl, _, _, rfl, slice_L (k := m + 1), _, _, _, rfl, rfl, add_L ?_, ?_⟩
    · show ((wsD z).take m).length + ((wsD z).drop (m + 1)).length ≤ _
      rw [List.length_take, lz, List.length_drop, lz]
      omega
    · rw [List.map_append, List.map_take, List.map_drop] at h
      exact h
  · rw [decide_eq_false hw, if_neg (by decide)]
    exact ot_7 hz w0 hm ht q
theorem ot_4 {x5 x6 x7 : Sl} (hz : T 3000 z) (w0 : 0 ≤ way) (ht : t + 2 ≤ 2000000) (q : ∀ z' t', t' ≤ t + 2 → T (z.length + 16) z' → k.rt (.im (.str z')) t') : w__law_otherwise_4 (oS z i c way x5 x6 x7) t k := by
  have h2 := hz.2
  have hz2 := sz
  have few := split_few (z := z) (s := " ") (Nat.le_of_eq blank_len.symm)
  have pos := split_pos z (Str.ofString " ")
  have lz : (wsD z).length = (Txt.split z " ").length := List.length_map _
  unfold w__law_otherwise_4
  refine set_of ?_
  refine ⟨⟨_, rfl, True.intro⟩, _, _, _, rfl, rfl, split_D (by omega) (by rw [blank_len]; rfl), ?_⟩
  show w__law_otherwise_5 (oS z i c way (.ow (wsD z)) x6 x7) t k
  unfold w__law_otherwise_5
  have ll : g1 lenD [.lst (wsD z)] = some (.im (.int ((Txt.split z " ").length : Nat))) := by
    rw [show g1 lenD [D.lst (wsD z)] = some (.im (.int ((wsD z).length : Nat))) from rfl, lz]
  refine set_of (call_of (ds := [.pot, .int ((Txt.split z " ").length : Nat)]) (ρ' := oS z i c way (.ow (wsD z)) x6 x7) (fun Q E h => ?_) ⟨_, rfl, by omega, by omega, by omega, fun a a0 a1 => ?_⟩)
  · simp only [consD, varW, opNW, consO, slotO, nilW, List.getElem?_cons_zero, List.getElem?_cons_succ]
    exact ⟨_, _, rfl, ll, h⟩
  · obtain ⟨m, rfl⟩ := Int.eq_ofNat_of_zero_le a0
    exact ot_6 hz w0 (by omega) (by omega) fun z' t' l h => q z' t' (by omega) h
theorem ot_3 {x5 x6 x7 : Sl} (hz : T 3000 z) (w0 : 0 ≤ way) (ht : t + 2 ≤ 2000000) (q : ∀ z' t', t' ≤ t + 2 → T (z.length + 16) z' → k.rt (.im (.str z')) t') : w__law_otherwise_3 (oS z i c way x5 x6 x7) t k := by
  have h2 := hz.2
  unfold w__law_otherwise_3
  refine if_of ?_
  simp only [testW, op2W, slotO, valO, pureW, List.getElem?_cons_zero, List.getElem?_cons_succ]
  refine ⟨_, _, _, rfl, rfl, rfl, decide (way = 2), rfl, ?_⟩
  by_cases hw : way = 2
  · rw [decide_eq_true hw, if_pos rfl]
    refine ret_of ?_
    have sp := split_weight z "\n" (Nat.le_of_eq feed_len.symm)
    have hs : (Txt.split z "\n").reverse.length = (Txt.split z "\n").length := List.length_reverse
    have hs2 : ((Txt.split z "\n").reverse.map (·.length)).sum = ((Txt.split z "\n").map (·.length)).sum := by
      rw [List.map_reverse, List.sum_reverse]
    have jl := join_len "\n" (Txt.split z "\n").reverse
    rw [feed_len, hs, hs2] at jl
    refine join_gives (x := .nw ((Txt.split z "\n").reverse.map .str)) (ρ' := oS z i c way x5 x6 x7) (t' := t) (zs := (Txt.split z "\n").reverse) (fun Q E h => ?_) rfl (by rw [feed_len, hs, hs2]; omega) (q _ _ (by omega) ⟨sgS_join (by decide +kernel) fun p hp => sgS_part hz.1 (List.mem_reverse.mp hp), by omega⟩)
    simp only [op1W, valO]
    refine ⟨⟨_, rfl, True.intro⟩, _, _, _, rfl, rfl, split_D (by omega) (by rw [feed_len]; rfl), _, _, rfl, rfl, ?_⟩
    rw [List.map_reverse] at h
    exact h
  · rw [decide_eq_false hw, if_neg (by decide)]
    exact ot_4 hz w0 ht q
theorem ot_2 {x5 x6 x7 : Sl} (hz : T 3000 z) (w0 : 0 ≤ way) (hi : i ≤ z.length) (hc : c < 128) (ht : t + 2 ≤ 2000000) (q : ∀ z' t', t' ≤ t + 2 → T (z.length + 16) z' → k.rt (.im (.str z')) t') : w__law_otherwise_2 (oS z i c way x5 x6 x7) t k := by
  have h2 := hz.2
  unfold w__law_otherwise_2
  refine if_of ?_
  simp only [testW, op2W, slotO, valO, pureW, List.getElem?_cons_zero, List.getElem?_cons_succ]
  refine ⟨_, _, _, rfl, rfl, rfl, decide (way = 1), rfl, ?_⟩
  by_cases hw : way = 1
  · rw [decide_eq_true hw, if_pos rfl]
    refine ret_of ?_
    have ct := cut_two z hi (Nat.le_refl i)
    simp only [sliceW, slotO, noneP, someP, varW, List.getElem?_cons_zero, List.getElem?_cons_succ]
    refine ⟨_, rfl, _, _, rfl, slice_S (by omega), _, _, _, rfl, rfl, add_S (by show _ + 1 ≤ _; omega), _, rfl, _, _, rfl, slice_S (by omega), _, _, _, rfl, rfl, add_S ?_, q _ _ (by omega) ⟨sgS_append (sgS_append (sgS_cut hz.1) (sg_ok hc)) (sgS_cut hz.1), ?_⟩⟩
    · show (cutS z none (some (i : Int)) ++ sg c).length + (cutS z (some (i : Int)) none).length ≤ _
      rw [strLen_append]
      show _ + 1 + _ ≤ _
      omega
    · show ((cutS z none (some (i : Int)) ++ sg c) ++ cutS z (some (i : Int)) none).length ≤ _
      rw [strLen_append, strLen_append]
      show _ + 1 + _ ≤ _
      omega
  · rw [decide_eq_false hw, if_neg (by decide)]
    exact ot_3 hz w0 ht q
theorem ot_1 {x5 x6 x7 : Sl} (hz : T 3000 z) (w0 : 0 ≤ way) (hi : i ≤ z.length) (hc : c < 128) (ht : t + 2 ≤ 2000000) (q : ∀ z' t', t' ≤ t + 2 → T (z.length + 16) z' → k.rt (.im (.str z')) t') : w__law_otherwise_1 (oS z i c way x5 x6 x7) t k := by
  have h2 := hz.2
  unfold w__law_otherwise_1
  refine if_of ?_
  simp only [testW, op2W, slotO, valO, pureW, List.getElem?_cons_zero, List.getElem?_cons_succ]
  refine ⟨_, _, _, rfl, rfl, rfl, decide (way = 0), rfl, ?_⟩
  by_cases hw : way = 0
  · rw [decide_eq_true hw, if_pos rfl]
    refine ret_of ?_
    have ct := cut_two z hi (show i ≤ i + 1 by omega)
    have e : ((i : Int) + 1) = ((i + 1 : Nat) : Int) := by omega
    simp only [sliceW, slotO, noneP, someP, varW, List.getElem?_cons_zero, List.getElem?_cons_succ]
    refine ⟨_, rfl, _, _, rfl, slice_S (by omega), _, _, _, rfl, rfl, rfl, _, rfl, _, _, rfl, slice_S (by omega), _, _, _, rfl, rfl, add_S ?_, q _ _ (by omega) ⟨sgS_append (sgS_cut hz.1) (sgS_cut hz.1), ?_⟩⟩
    · show (cutS z none (some (i : Int))).length + (cutS z (some ((i : Int) + 1)) none).length ≤ _
      rw [e]
      omega
    · show (cutS z none (some (i : Int)) ++ cutS z (some ((i : Int) + 1)) none).length ≤ _
      rw [strLen_append, e]
      omega
  · rw [decide_eq_false hw, if_neg (by decide)]
    exact ot_2 hz w0 hi hc ht q
end
theorem g_otherwise {z : Str} (hz : T 3000 z) : GivesT F__law_otherwise [.pot, .str z] 5 (fun r => ∃ z', r = .im (.str z') ∧ T (z.length + 16) z') := by
  intro t Q E ht q
  have h2 := hz.2
  refine def_of rfl ?_
  unfold w__law_otherwise
  simp only [seqS, par3S]
  have hl := len_D (z := z) (by omega)
  refine call_of (ds := [.pot, .int ((z.length : Nat) + 1)]) (ρ' := [.im .pot, .im (.str z), .non, .non, .non, .non, .non, .non]) (fun Q E h => ?_) ⟨_, rfl, by omega, by omega, by omega, fun a a0 a1 => ?_⟩
  · simp only [consD, varW, op2W, opNW, consO, slotO, valO, pureW, nilW]
    exact ⟨_, _, rfl, hl, _, _, _, rfl, rfl, rfl, h⟩
  obtain ⟨i, rfl⟩ := Int.eq_ofNat_of_zero_le a0
  refine call_of (ds := [.pot, .str " \nopendwuifanhre"]) (ρ' := [.im .pot, .im (.str z), .non, .non, .non, .non, .non, .non]) (fun Q E h => h) (g_law_ofS (by decide +kernel) (by decide +kernel) _ _ _ (by omega) fun x t2 l2 ⟨c, hc, e⟩ => ?_)
  subst e
  have c128 : c < 128 := (List.all_eq_true (p := fun c => decide (c < 128))).mp (by decide +kernel) c hc |> of_decide_eq_true
  refine call_of (ds := [.pot, .int 6]) (ρ' := [.im .pot, .im (.str z), .non, .non, .non, .non, .non, .non]) (fun Q E h => h) ⟨_, rfl, by decide, by decide, by omega, fun way w0 _ => ?_⟩
  exact ot_1 (i := i) (c := c) (way := way) hz w0 (by omega) c128 (by omega) fun z' t' l' h => q _ t' (by omega) ⟨z', rfl, h⟩
end LW
set_option Elab.async false
set_option linter.all false
set_option maxRecDepth 100000
set_option maxHeartbeats 1000000
set_option autoImplicit false
/-! k04: texts read without data: what refuses, what is known. -/
namespace LW
open PySem PySem.Spec PyProof.Rows L2 NB
def testP (x : Str) : Str × Bool := if cutS x none (some 3) = "no " then (cutS x (some 3) none, false) else (x, true)
theorem testIn_P (x : Str) : testIn x = tsP (testP x) := by
  unfold testIn testP
  split <;> rfl
def clauseRP (z : Str) : Cl4 := if Txt.find z " if " < 0 then ([], z)
  else ((Txt.split (cutS z (some (Txt.find z " if " + 4)) none) " and ").map testP, cutS z none (some (Txt.find z " if ")))
theorem clauseR_P (z : Str) : clauseR z = clD (clauseRP z) := by
  unfold clauseR clauseRP
  split
  · rfl
  · show D.tup [.tup _, _] = .tup [.tup (List.map tsP (List.map testP _)), _]
    rw [List.map_map]
    congr 3
    exact List.map_congr_left fun x _ => testIn_P x
def clauseInP (z : Str) : Cl4 := ((testsOf (Txt.split z " if ")).map testP, deedOf (Txt.split z " if "))
theorem clauseIn_P (z : Str) : clauseIn z = clD (clauseInP z) := by
  show D.tup [.tup _, _] = .tup [.tup (List.map tsP (List.map testP _)), _]
  rw [List.map_map]
  congr 3
  exact List.map_congr_left fun x _ => testIn_P x
def rowsP (z : Str) : List Cl4 := (Txt.split z "\n").map clauseRP
theorem readR_P (z : Str) : readR z = ruD (rowsP z) := by
  show D.tup _ = .tup (List.map clD (List.map clauseRP _))
  rw [List.map_map]
  congr 1
  exact List.map_congr_left fun x _ => clauseR_P x
def goodCB (c : Cl4) : Bool := (decide (c.1.length ≤ 4) && c.1.all fun p => decide (p.1 ∈ k_WORDS)) && (decide ((c.1.map (·.1)).Nodup) && decide (c.2 ∈ k_DEEDS))
def goodRB (cs : List Cl4) : Bool := (decide (1 ≤ cs.length) && decide (cs.length ≤ 20)) && cs.all goodCB
theorem goodCB_iff {c : Cl4} : goodCB c = true ↔ GoodC c := by
  unfold goodCB
  rw [Bool.and_eq_true, Bool.and_eq_true, Bool.and_eq_true, decide_eq_true_eq, decide_eq_true_eq, decide_eq_true_eq, List.all_eq_true]
  constructor
  · rintro ⟨⟨h1, h2⟩, h3, h4⟩
    exact ⟨h1, fun p hp => of_decide_eq_true (h2 p hp), h3, h4⟩
  · intro G
    exact ⟨⟨G.ln, fun p hp => decide_eq_true (G.wd p hp)⟩, G.nd, G.de⟩
theorem goodR_iff {cs : List Cl4} : goodRB cs = true ↔ GoodR cs := by
  unfold goodRB
  rw [Bool.and_eq_true, Bool.and_eq_true, decide_eq_true_eq, decide_eq_true_eq, List.all_eq_true]
  constructor
  · rintro ⟨⟨h1, h2⟩, h3⟩
    exact ⟨h1, h2, fun c hc => goodCB_iff.mp (h3 c hc)⟩
  · intro G
    exact ⟨⟨G.l1, G.l20⟩, fun c hc => goodCB_iff.mpr (G.all c hc)⟩
/-- a text that is refused -/
def refB (z : Str) : Bool := (decide (z.length ≤ 3000) && sgS 128 z) && !(goodRB (rowsP z) && decide (ruleS (rowsP z) = z))
theorem x_ref {z : Str} {t : Nat} {Q : R → Nat → Prop} {E : KX} (h : refB z = true) (q : E "NoText" (.str z) t) : F_read_rule [.str z] t Q E := by
  unfold refB at h
  rw [Bool.and_eq_true, Bool.and_eq_true, decide_eq_true_eq] at h
  refine g_read (by omega) h.1.2 (fun cs G e e2 => ?_) fun _ => q
  have h2 := h.2
  rw [readR_P] at e
  rw [ruD_inj e, goodR_iff.mpr G, e2, decide_eq_true rfl] at h2
  cases h2
/-! ### what is known -/
structure Kn where
  name : Str
  text : Str
  rows : List Str
def kn0 : Kn := ⟨"collect", "open if out\nopen if here and room\nup if up and calls above\nup if up and wishes above\ndown if down and calls below\ndown if down and wishes below\nup if calls above\nup if wishes above\ndown if calls below\ndown if wishes below", ["open if out", "open if here and room", "up if up and calls above", "up if up and wishes above", "down if down and calls below", "down if down and wishes below", "up if calls above", "up if wishes above", "down if calls below", "down if wishes below"]⟩
def kn1 : Kn := ⟨"group", "open if out\nopen if here and room\nup if up and own above\nup if up and wishes above\ndown if down and own below\ndown if down and wishes below\nup if own above\nup if wishes above\ndown if own below\ndown if wishes below", ["open if out", "open if here and room", "up if up and own above", "up if up and wishes above", "down if down and own below", "down if down and wishes below", "up if own above", "up if wishes above", "down if own below", "down if wishes below"]⟩
def kn2 : Kn := ⟨"highest", "open if out\nopen if here and room and no calls above\nup if calls above and room\ndown if calls below and room\nup if wishes above\ndown if wishes below", ["open if out", "open if here and room and no calls above", "up if calls above and room", "down if calls below and room", "up if wishes above", "down if wishes below"]⟩
def kn3 : Kn := ⟨"loop", "open if out\nopen if here and room\nup if bottom\ndown if top\ndown if down\nup", ["open if out", "open if here and room", "up if bottom", "down if top", "down if down", "up"]⟩
def kn4 : Kn := ⟨"nearest", "open if out\nopen if here and room\nup if near above\ndown if near below\nup if calls above\nup if wishes above", ["open if out", "open if here and room", "up if near above", "down if near below", "up if calls above", "up if wishes above"]⟩
structure KnOk (k : Kn) : Prop where
  len : k.text.length ≤ 3000
  sg : sgS 128 k.text = true
  good : goodRB (rowsP k.text) = true
  back : ruleS (rowsP k.text) = k.text
  rows : k.rows.map clauseInP = rowsP k.text
  tab : k_KNOWN.lookup k.name = some k.text
  rok : k.rows.all rowOk = true
theorem kn0_ok : KnOk kn0 := ⟨by decide +kernel, by decide +kernel, by decide +kernel, by decide +kernel, by decide +kernel, by decide +kernel, by decide +kernel⟩
theorem kn1_ok : KnOk kn1 := ⟨by decide +kernel, by decide +kernel, by decide +kernel, by decide +kernel, by decide +kernel, by decide +kernel, by decide +kernel⟩
theorem kn2_ok : KnOk kn2 := ⟨by decide +kernel, by decide +kernel, by decide +kernel, by decide +kernel, by decide +kernel, by decide +kernel, by decide +kernel⟩
theorem kn3_ok : KnOk kn3 := ⟨by decide +kernel, by decide +kernel, by decide +kernel, by decide +kernel, by decide +kernel, by decide +kernel, by decide +kernel⟩
theorem kn4_ok : KnOk kn4 := ⟨by decide +kernel, by decide +kernel, by decide +kernel, by decide +kernel, by decide +kernel, by decide +kernel, by decide +kernel⟩
end LW
set_option Elab.async false
set_option linter.all false
set_option maxRecDepth 100000
set_option maxHeartbeats 1000000
set_option autoImplicit false
/-! k04: known rules. -/
namespace LW
open PySem PySem.Spec PyProof.Rows L2 NB
/-- what is no name: refused -/
theorem x_known {v : D} {t : Nat} {Q : R → Nat → Prop} {E : KX} (ok : okD v = true) (no : ∀ z, v = .str z → k_KNOWN.lookup z = none) (q : E "BadName" v t) : F_known_rule [v] t Q E := by
  refine def_of rfl ?_
  unfold w_known_rule
  refine if_of ?_
  cases v with
  | str z =>
    have h := no z rfl
    simp only [orT, notT, testW, isiW, op1W, slotO]
    refine ⟨_, true, rfl, rfl, true, rfl, ?_⟩
    refine ⟨_, _, rfl, (show notInTab k_KNOWN (.str z) = some (.im (.bl true)) by simp [h]), true, rfl, ?_⟩
    exact q
  | pot => simp [okD] at ok
  | exc _ _ => simp [okD] at ok
  | _ => simpa using q
theorem g_known {k : Kn} (h : KnOk k) : Gives F_known_rule [.str k.name] (.im (ruD (rowsP k.text))) := fun t Q E q => by
  have G : GoodR (rowsP k.text) := goodR_iff.mp h.good
  have e := h.tab
  refine def_of rfl ?_
  unfold w_known_rule
  refine if_of ?_
  simp only [orT, notT, testW, isiW, op1W, slotO]
  refine ⟨_, true, rfl, rfl, true, rfl, ?_⟩
  refine ⟨_, _, rfl, (show notInTab k_KNOWN (.str k.name) = some (.im (.bl false)) by simp [e]), false, rfl, ?_⟩
  show w_known_rule_1 [.im (.str k.name)] t _
  unfold w_known_rule_1
  refine ret_of ?_
  refine call_of (ds := [.str k.text]) (ρ' := [.im (.str k.name)]) (fun Q E h => ?_) ?_
  · simp only [consD, op1W, slotO, nilW]
    exact ⟨_, _, rfl, (show ofTab k_KNOWN (.str k.name) = some (.im (.str k.text)) by simp [e]), h⟩
  · have := g_read_text G t (fun r t2 => Q r t2) E
    rw [h.back] at this
    exact this q
end LW
set_option Elab.async false
set_option linter.all false
set_option maxRecDepth 100000
set_option maxHeartbeats 1000000
set_option autoImplicit false
/-! k04: one rule is right: what refuses. -/
namespace LW
open PySem PySem.Spec PyProof.Rows L2 NB
abbrev rR (B : D) (x2 x3 x4 x5 x6 : Sl) : List Sl := [.im .pot, .im B, x2, x3, x4, x5, x6]
theorem item_T0 {x : D} {xs : List D} : itemD (.tup (x :: xs)) (.int 0) = some (.im x) := by
  have : atI (x :: xs) 0 = some x := atI_nat (j := 0) rfl
  simp only [itemD, this, Option.map_some]
theorem add_T {xs ys : List D} (h : xs.length + ys.length ≤ 1000) : addD (.tup xs) (.tup ys) = some (.im (.tup (xs ++ ys))) := if_pos (by rw [sz]; omega)
theorem ne_same (a : Str) : neD (.str a) (.str a) = some (.im (.bl false)) := by simp
theorem rule_wl {cs : List Cl4} (G : GoodR cs) : wtL (cs.map clD) ≤ 2000 := by
  have h20 := G.l20
  have h := wtL_le (k := 100) (ds := cs.map clD) fun d hd => by
    obtain ⟨c, hc, rfl⟩ := List.mem_map.mp hd
    have g := G.all c hc
    have hl := g.ln
    have h1 := wtL_le (k := 16) (ds := c.1.map tsP) fun d hd => by
      obtain ⟨p, hp, rfl⟩ := List.mem_map.mp hd
      have := (words_small2 (g.wd p hp)).2
      simp only [tsP, wtD, wtL]
      omega
    rw [List.length_map] at h1
    have h2 := (deeds_small2 g.de).2
    simp only [clD, wtD, wtL]
    omega
  rw [List.length_map] at h
  omega
structure OddR (d : D) : Prop where
  ok : okD d = true
  sh : showOk d = true
  no : ruleB d = false
structure OddT (d : D) : Prop where
  ok : okD d = true
  sh : showOk d = true
  no : ∀ z, d ≠ .str z
structure OddN (d : D) : Prop where
  ok : okD d = true
  sh : showOk d = true
  no : ∀ z, d = .str z → k_KNOWN.lookup z = none
section
variable {B o : D} {x2 x3 x4 x5 x6 : Sl} {t : Nat} {k : KS}
theorem r12 (sh : showOk o = true) (q : k.rt (.im (.bl true)) t) : w__law_right_12 (rR B x2 x3 x4 (.im o) (.im (.exc "BadName" o))) t k := by
  unfold w__law_right_12
  refine ret_of ?_
  simp only [andV, isEW, op2W, op1W, opNW, consO, slotO, valO, nilW, List.getElem?_cons_zero, List.getElem?_cons_succ]
  refine ⟨_, true, rfl, isE_of name_in, true, rfl, ?_⟩
  rw [if_pos rfl]
  exact ⟨_, _, rfl, excV_of name_in, _, _, rfl, repr_D sh, _, _, rfl, repr_D sh, _, _, _, rfl, rfl, eq_str _, q⟩
theorem r11 (ho : OddN o) (q : k.rt (.im (.bl true)) t) : w__law_right_11 (rR B x2 x3 x4 (.im o) x6) t k := by
  unfold w__law_right_11
  refine set_of ?_
  simp only [op2W, valO, heardW, pureW]
  refine call_of (ds := [o]) (ρ' := frzR (rR B x2 x3 x4 (.im o) x6)) (fun Q E h => h) (x_known ho.ok ho.no ⟨name_in, _, _, _, rfl, rfl, item_T0, ?_⟩)
  exact r12 ho.sh q
theorem fineN {d : D} (h : fineB d = true) (g : ∀ z, d = .str z → k_KNOWN.lookup z = none) : OddN d := ⟨(fine_iff.mp h).ok, (fine_iff.mp h).show, g⟩
theorem no_keys : k_KNOWN.lookup (Str.ofString "Loop") = none ∧ k_KNOWN.lookup (Str.ofString "") = none ∧ k_KNOWN.lookup (Str.ofString "loop ") = none := by decide +kernel
theorem r10 (ht : t + 1 ≤ 2000000) (q : ∀ t', t' ≤ t + 1 → k.rt (.im (.bl true)) t') : w__law_right_10 (rR B x2 x3 x4 x5 x6) t k := by
  unfold w__law_right_10
  refine set_of (call_of (ds := [.pot, .lst [D.non, .int 7, .str "Loop", .str "", .str "loop ", .lst [.str "loop"], .tup [.str "loop"], .bl true]]) (ρ' := rR B x2 x3 x4 x5 x6) (fun Q E h => ?_) ?_)
  · simp only [lstW, consD, tupW, pureW, varW, nilW, List.getElem?_cons_succ, List.getElem?_cons_zero, R_im]
    exact ⟨le_sl rfl, le_sl rfl, le_sl rfl, h⟩
  · refine g_law_of' (post := OddN) (by simp) (by simp) (fun d hd => ?_) _ _ _ (by omega) fun x t' l1 ⟨d, e, hd⟩ => ?_
    · simp only [List.mem_cons, List.not_mem_nil, or_false] at hd
      rcases hd with rfl | rfl | rfl | rfl | rfl | rfl | rfl | rfl
      · exact fineN (by decide +kernel) fun z e => by cases e
      · exact fineN (by decide +kernel) fun z e => by cases e
      · exact fineN (by decide +kernel) fun z e => by cases e; exact no_keys.1
      · exact fineN (by decide +kernel) fun z e => by cases e; exact no_keys.2.1
      · exact fineN (by decide +kernel) fun z e => by cases e; exact no_keys.2.2
      · exact fineN (by decide +kernel) fun z e => by cases e
      · exact fineN (by decide +kernel) fun z e => by cases e
      · exact fineN (by decide +kernel) fun z e => by cases e
    · subst e
      exact r11 hd (q t' l1)
theorem r9 (sh : showOk o = true) (ht : t + 1 ≤ 2000000) (q : ∀ t', t' ≤ t + 1 → k.rt (.im (.bl true)) t') : w__law_right_9 (rR B x2 x3 x4 (.im o) (.im (.exc "BadRule" o))) t k := by
  unfold w__law_right_9
  refine if_of ?_
  simp only [orT, notT, testW, isEW, op2W, op1W, opNW, consO, slotO, valO, nilW, List.getElem?_cons_zero, List.getElem?_cons_succ]
  refine ⟨_, true, rfl, isE_of bad_in, true, rfl, ?_⟩
  simp only [Bool.not_true, Bool.false_eq_true, if_false]
  refine ⟨_, _, rfl, excV_of bad_in, _, _, rfl, repr_D sh, _, _, rfl, repr_D sh, _, _, _, rfl, rfl, ne_same _, false, rfl, ?_⟩
  exact r10 ht q
theorem r8 (ho : OddR o) (ht : t + 1 ≤ 2000000) (q : ∀ t', t' ≤ t + 1 → k.rt (.im (.bl true)) t') : w__law_right_8 (rR B x2 x3 x4 (.im o) x6) t k := by
  unfold w__law_right_8
  refine set_of ?_
  simp only [op2W, valO, heardW, pureW]
  refine call_of (ds := [o]) (ρ' := frzR (rR B x2 x3 x4 (.im o) x6)) (fun Q E h => h) (x_rule_text ho.ok ho.no ⟨bad_in, _, _, _, rfl, rfl, item_T0, ?_⟩)
  exact r9 ho.sh ht q
theorem fineR {d : D} (h : Fine d) (g : ruleB d = false) : OddR d := ⟨h.ok, h.show, g⟩
theorem fineT {d : D} (h : Fine d) (g : ∀ z, d ≠ .str z) : OddT d := ⟨h.ok, h.show, g⟩
theorem r7 {cs : List Cl4} {z : Str} (G : GoodR cs) (hz : TextOk z) (ht : t + 2 ≤ 2000000) (q : ∀ t', t' ≤ t + 2 → k.rt (.im (.bl true)) t') : w__law_right_7 (rR (ruD cs) (.im (.str z)) x3 x4 x5 x6) t k := by
  have h20 := G.l20
  have lm : (cs.map clD).length = cs.length := List.length_map _
  unfold w__law_right_7
  refine set_of (call_of (ds := [.pot, .lst [D.non, .str z, .lst (cs.map clD), .tup [], .tup [.tup [.tup [.str "here", .bl true]], .str "open"], .tup (cs.map clD ++ [.non])]]) (ρ' := rR (ruD cs) (.im (.str z)) x3 x4 x5 x6) (fun Q E h => ?_) ?_)
  · simp only [slotO, lstW, consD, tupW, pureW, varW, nilW, opNW, consO, op2W, valO, List.getElem?_cons_succ, List.getElem?_cons_zero, R_im, rsv]
    exact ⟨_, _, rfl, rfl, le_sl rfl, le_sl rfl, le_sl rfl, le_sl rfl, le_sl rfl, _, _, _, rfl, rfl, add_T (xs := cs.map clD) (ys := [.non]) (by rw [lm]; simp only [List.length_singleton]; omega), le_sl rfl, h⟩
  · refine g_law_of' (post := OddR) (by simp) (by simp) (fun d hd => ?_) _ _ _ (by omega) fun x t' l1 ⟨d, e, hd⟩ => ?_
    · have f := G.fine
      have h1 : niD 0x110000 (10 ^ 29) (.tup (cs.map clD)) = true := f.ni
      have h2 : wtD (.tup (cs.map clD)) ≤ 100000 := f.wt
      have h2b : wtL (cs.map clD) ≤ 2000 := rule_wl G
      have h3 : dpD (.tup (cs.map clD)) ≤ 60 := f.dp
      rw [niD] at h1
      rw [wtD] at h2
      rw [dpD] at h3
      simp only [List.mem_cons, List.not_mem_nil, or_false] at hd
      rcases hd with rfl | rfl | rfl | rfl | rfl | rfl
      · exact fineR (fine_iff.mp (by decide +kernel)) rfl
      · exact fineR hz.fine rfl
      · have g : Fine (.lst (cs.map clD)) := ⟨by rw [niD]; exact h1, by rw [wtD]; exact h2, by rw [dpD]; exact h3⟩
        exact fineR g rfl
      · exact fineR (fine_iff.mp (by decide +kernel)) rfl
      · exact fineR (fine_iff.mp (by decide +kernel)) (by decide +kernel)
      · have g : Fine (.tup (cs.map clD ++ [.non])) := by
          refine ⟨?_, ?_, ?_⟩
          · rw [niD, niL_iff]
            intro d hd
            rcases List.mem_append.mp hd with hd | hd
            · exact niL_iff.mp h1 d hd
            · rw [List.mem_singleton.mp hd]
              rfl
          · rw [wtD, wtL_append]
            show _ + 1 + 1 ≤ _
            omega
          · rw [dpD]
            have : dpL (cs.map clD ++ [.non]) ≤ 59 := dpL_le.mpr fun d hd => by
              rcases List.mem_append.mp hd with hd | hd
              · exact dpL_le.mp (show dpL (cs.map clD) ≤ 59 by omega) d hd
              · rw [List.mem_singleton.mp hd, dpD]
                omega
            omega
        refine fineR g ?_
        simp [ruleB, clauseB]
    · subst e
      exact r8 hd (by omega) fun t2 l2 => q t2 (by omega)
theorem r6 {cs : List Cl4} {z : Str} (G : GoodR cs) (hz : TextOk z) (ho : OddT o) (ht : t + 2 ≤ 2000000) (q : ∀ t', t' ≤ t + 2 → k.rt (.im (.bl true)) t') : w__law_right_6 (rR (ruD cs) (.im (.str z)) x3 x4 (.im o) (.im (.exc "NoText" o))) t k := by
  unfold w__law_right_6
  refine if_of ?_
  simp only [orT, notT, testW, isEW, op2W, op1W, opNW, consO, slotO, valO, nilW, List.getElem?_cons_zero, List.getElem?_cons_succ]
  refine ⟨_, true, rfl, isE_of no_in, true, rfl, ?_⟩
  simp only [Bool.not_true, Bool.false_eq_true, if_false]
  refine ⟨_, _, rfl, excV_of no_in, _, _, rfl, repr_D ho.sh, _, _, rfl, repr_D ho.sh, _, _, _, rfl, rfl, ne_same _, false, rfl, ?_⟩
  exact r7 G hz ht q
theorem r5 {cs : List Cl4} {z : Str} (G : GoodR cs) (hz : TextOk z) (ho : OddT o) (ht : t + 2 ≤ 2000000) (q : ∀ t', t' ≤ t + 2 → k.rt (.im (.bl true)) t') : w__law_right_5 (rR (ruD cs) (.im (.str z)) x3 x4 (.im o) x6) t k := by
  unfold w__law_right_5
  refine set_of ?_
  simp only [op2W, valO, heardW, pureW]
  refine call_of (ds := [o]) (ρ' := frzR (rR (ruD cs) (.im (.str z)) x3 x4 (.im o) x6)) (fun Q E h => h) (x_read ho.ok ho.no ⟨no_in, _, _, _, rfl, rfl, item_T0, ?_⟩)
  exact r6 G hz ho ht q
theorem r4 {cs : List Cl4} {z : Str} (G : GoodR cs) (hz : TextOk z) (ht : t + 3 ≤ 2000000) (q : ∀ t', t' ≤ t + 3 → k.rt (.im (.bl true)) t') : w__law_right_4 (rR (ruD cs) (.im (.str z)) x3 x4 x5 x6) t k := by
  unfold w__law_right_4
  refine set_of (call_of (ds := [.pot, .lst [D.non, .int 7, .lst [.str "open"], ruD cs, .bl true, .tup [.str "a", .int 1]]]) (ρ' := rR (ruD cs) (.im (.str z)) x3 x4 x5 x6) (fun Q E h => ?_) ?_)
  · simp only [lstW, consD, tupW, pureW, varW, nilW, List.getElem?_cons_succ, List.getElem?_cons_zero, R_im]
    exact ⟨le_sl rfl, le_sl rfl, le_sl rfl, h⟩
  · refine g_law_of' (post := OddT) (by simp) (by simp) (fun d hd => ?_) _ _ _ (by omega) fun x t' l1 ⟨d, e, hd⟩ => ?_
    · simp only [List.mem_cons, List.not_mem_nil, or_false] at hd
      rcases hd with rfl | rfl | rfl | rfl | rfl | rfl
      · exact fineT (fine_iff.mp (by decide +kernel)) fun z e => by cases e
      · exact fineT (fine_iff.mp (by decide +kernel)) fun z e => by cases e
      · exact fineT (fine_iff.mp (by decide +kernel)) fun z e => by cases e
      · exact fineT G.fine fun z e => by cases e
      · exact fineT (fine_iff.mp (by decide +kernel)) fun z e => by cases e
      · exact fineT (fine_iff.mp (by decide +kernel)) fun z e => by cases e
    · subst e
      exact r5 G hz hd (by omega) fun t2 h => q t2 (by omega)
end
end LW
set_option Elab.async false
set_option linter.all false
set_option maxRecDepth 100000
set_option maxHeartbeats 1000000
set_option autoImplicit false
/-! k04: one drawn rule is right. -/
namespace LW
open PySem PySem.Spec PyProof.Rows L2 NB
theorem call1_of {F : WF} {w : W} {ρ : List Sl} {t : Nat} {Q : R → List Sl → Nat → Prop} {E : KX} (h : w ρ t (fun x ρ1 t1 => F [x.d] t1 (fun r t2 => Q r ρ1 t2) E) E) : callW F (consD w nilW) ρ t Q E := h
section
variable {cs : List Cl4} {x2 x3 x4 x5 x6 : Sl} {t : Nat} {k : KS}
theorem text_ok (G : GoodR cs) : T 1900 (ruleS cs) := ⟨rule_sg G, rule_len G⟩
theorem T_ok {B : Nat} {z : Str} (h : T B z) (hB : B ≤ 3790) : TextOk z := ⟨h.1, by have := h.2; omega⟩
theorem T_mono {B C : Nat} {z : Str} (h : T B z) (hB : B ≤ C) : T C z := ⟨h.1, Nat.le_trans h.2 hB⟩
theorem r3 (G : GoodR cs) (ht : t + 150 ≤ 2000000) (q : ∀ t', t' ≤ t + 150 → k.rt (.im (.bl true)) t') : w__law_right_3 (rR (ruD cs) (.im (.str (ruleS cs))) x3 x4 x5 x6) t k := by
  have hT := text_ok G
  unfold w__law_right_3
  simp only [seqS, forS, range1I, consD, pureW, nilW]
  refine ⟨14, rfl, by decide, by decide, ?_⟩
  refine forL_inv (j := 0) (fun j ρ t' => t' ≤ t + 10 * j ∧ ∃ (x3 x4 : Sl), ρ = rR (ruD cs) (.im (.str (ruleS cs))) x3 x4 x5 x6) ⟨by omega, _, _, rfl⟩ ?_ ?_
  · intro i d ρ t1 nx hd hI hn
    obtain ⟨hi, rfl⟩ := rangeD_get hd
    have hi : i < 14 := hi
    obtain ⟨tl, x3, x4, rfl⟩ := hI
    rw [Nat.zero_add] at hn tl
    refine ⟨_, bindP_nm, ?_⟩
    refine set_of (call_of (ds := [.pot, .str (ruleS cs)]) (ρ' := rR (ruD cs) (.im (.str (ruleS cs))) (.im (.int (i : Nat))) x4 x5 x6) (fun Q E h => h) (g_otherwise (T_mono hT (by decide)) _ _ _ (by omega) fun x t2 l2 ⟨z, e, hz⟩ => ?_))
    subst e
    have hz : T 1916 z := T_mono hz (by have := hT.2; omega)
    simp only [ifS, orT, notT, testW]
    refine call_of (ds := [.str z]) (ρ' := rR (ruD cs) (.im (.str (ruleS cs))) (.im (.int (i : Nat))) (.im (.str z)) x5 x6) (fun Q E h => h) (g_law_is_read (T_ok hz (by decide)) _ _ _ ⟨true, rfl, ?_⟩)
    simp only [Bool.not_true, Bool.false_eq_true, if_false]
    refine call1_of (call_of (ds := [.pot, .str z]) (ρ' := rR (ruD cs) (.im (.str (ruleS cs))) (.im (.int (i : Nat))) (.im (.str z)) x5 x6) (fun Q E h => h) (g_otherwise (T_mono hz (by decide)) _ _ _ (by omega) fun x t3 l3 ⟨y, e, hy⟩ => ?_))
    subst e
    refine g_law_is_read (T_ok hy (by have := hz.2; omega)) _ _ _ ⟨true, rfl, ?_⟩
    exact hn _ _ ⟨by omega, _, _, rfl⟩
  · intro ρ t1 hI
    obtain ⟨tl, x3, x4, rfl⟩ := hI
    rw [rangeD_len] at tl
    have tl : t1 ≤ t + 10 * (0 + 14) := tl
    exact r4 G (T_ok hT (by decide)) (by omega) fun t2 h => q t2 (by omega)
theorem r2 (G : GoodR cs) (ht : t + 150 ≤ 2000000) (q : ∀ t', t' ≤ t + 150 → k.rt (.im (.bl true)) t') : w__law_right_2 (rR (ruD cs) (.im (.str (ruleS cs))) x3 x4 x5 x6) t k := by
  have sh := G.fine.show
  unfold w__law_right_2
  refine if_of ?_
  simp only [orT, testW, op2W, valO]
  refine call_of (ds := [ruD cs]) (ρ' := rR (ruD cs) (.im (.str (ruleS cs))) x3 x4 x5 x6) (fun Q E h => h) (g_rule_text G _ _ _ ?_)
  refine ⟨_, _, _, rfl, rfl, ne_same _, false, rfl, ?_⟩
  simp only [Bool.false_eq_true, if_false, opNW, consO, valO]
  refine call_of (ds := [.str (ruleS cs)]) (ρ' := rR (ruD cs) (.im (.str (ruleS cs))) x3 x4 x5 x6) (fun Q E h => h) (g_read_text G _ _ _ ?_)
  refine ⟨_, _, rfl, repr_D sh, _, _, rfl, repr_D sh, _, _, _, rfl, rfl, ne_same _, false, rfl, ?_⟩
  exact r3 G ht q
end
theorem g_law_right : GivesT F__law_right [.pot] 400 (fun x => x = .im (.bl true)) := by
  intro t Q E ht q
  refine def_of rfl ?_
  unfold w__law_right
  refine set_of (call_of (ds := [.pot]) (ρ' := [.im .pot, .non, .non, .non, .non, .non, .non]) (fun Q E h => h) ?_)
  refine g_law_rule _ _ _ (by omega) fun x t1 l1 ⟨d, e, hd⟩ => ?_
  subst e
  obtain ⟨cs, rfl, G⟩ := ruleB_inv hd.rl
  show w__law_right_1 (rR (ruD cs) .non .non .non .non .non) t1 _
  unfold w__law_right_1
  refine set_of (call_of (ds := [ruD cs]) (ρ' := rR (ruD cs) .non .non .non .non .non) (fun Q E h => h) (g_law_text G _ _ _ ?_))
  exact r2 G (by omega) fun t' h => q _ t' (by omega) rfl
end LW
set_option Elab.async false
set_option linter.all false
set_option maxRecDepth 100000
set_option maxHeartbeats 1000000
set_option autoImplicit false
/-! k04: texts by hand; the law. -/
namespace LW
open PySem PySem.Spec PyProof.Rows L2 NB
def rest21 : Str := Txt.join "\n" (List.replicate 21 (Str.ofString "rest"))
def handS : List Str := ["", "open if", "open if ", "close", "open if here and", "open if here or out", "open  if here", "Open", " open", "open if no no here", "open if here and here", "open if here and no here", "open\n", "open if here if out",
  "open if above", "if here", "open if here and out and room and up and top", rest21, "no"]
theorem hand_ref : (handS.all refB) = true := by decide +kernel
theorem mul21 : mulLD (.lst [.str "rest"]) (.int 21) = some (.nw ((List.replicate 21 (Str.ofString "rest")).map .str)) := by simp [mulLD]
theorem g_hand : Gives F__law_hand [] (.nw (handS.map .str)) := by
  intro t Q E q
  refine def_of rfl ?_
  unfold w__law_hand
  refine set_of ?_
  simp only [lstW, consD, pureW, nilW]
  refine ⟨le_sl rfl, ?_⟩
  unfold w__law_hand_1
  refine set_of ?_
  simp only [op2W, slotO, valO, lstW, consD, pureW, nilW]
  refine ⟨le_sl rfl, _, _, _, rfl, rfl, add_lst (Nat.le_of_ble_eq_true rfl), ?_⟩
  unfold w__law_hand_2
  refine ret_of ?_
  simp only [op2W, slotO, valO, lstW, consD, pureW, nilW]
  exact ⟨⟨_, rfl, True.intro⟩, le_sl rfl, _, _, _, rfl, rfl, mul21, _, _, _, rfl, rfl, join_D (zs := List.replicate 21 (Str.ofString "rest")) rfl (by decide +kernel), le_sl rfl, _, _, _, rfl, rfl, add_lst (Nat.le_of_ble_eq_true rfl), q⟩
theorem g_cells {ns : List Int} (hl : ns.length ≤ 63) : GivesT F__law_cells [.scr ns, .int 3] 0 (fun r => ∃ m : Nat, m ≤ 3 ∧ r = .nw (rangeD 0 m)) := by
  intro t Q E ht q
  simp [F__law_cells, w__law_cells]
  obtain ⟨m, hm, e⟩ : ∃ m : Nat, m ≤ 3 ∧ (if 1 < (if (ns.length : Int) < 3 then (ns.length : Int) else 3) then (if (ns.length : Int) < 3 then (ns.length : Int) else 3) else 1) = (m : Int) := by
    by_cases h1 : (ns.length : Int) < 3
    · rw [if_pos h1]
      by_cases h2 : 1 < (ns.length : Int)
      · rw [if_pos h2]; exact ⟨ns.length, by omega, rfl⟩
      · rw [if_neg h2]; exact ⟨1, by omega, rfl⟩
    · rw [if_neg h1]
      exact ⟨3, by omega, rfl⟩
  rw [e]
  exact ⟨by omega, by omega, q _ t (by omega) ⟨m, hm, by rw [Int.toNat_natCast]⟩⟩
/-- the law's own known rules, by the same data -/
theorem g_rows {ρ : List Sl} {zs : List Str} {t : Nat} {Q : List D → Nat → Prop} (h2 : 2 < ρ.length) (h : zs.all rowOk = true) (hl : zs.length ≤ 1000) (q : Q ((zs.map clauseInP).map clD) t) : compL (.nm 2) yesT (callW F__law_clause_in (consD (varW 2) nilW)) ρ (zs.map .str) [] t Q := by
  have hz := sz
  refine compL_gives (g := .str) (f := clauseIn) (fun z hz => ⟨_, .im (clauseIn z), bindP_nm, rfl, fun Q' E hq => ?_⟩) (by rw [List.length_nil]; omega) ?_
  · refine call_of (ds := [.str z]) (ρ' := ρ.set 2 (.im (.str z))) (fun Q E h => ?_) (g_clause_in (List.all_eq_true.mp h z hz) _ _ _ hq)
    simp only [consD, varW, nilW, List.getElem?_set_self h2]
    exact h
  · rw [List.nil_append]
    rw [List.map_map] at q
    rw [show zs.map clauseIn = zs.map (clD ∘ clauseInP) from List.map_congr_left fun z _ => clauseIn_P z]
    exact q
structure Kl (k : Kn) : Prop where
  ok : KnOk k
  law : ∀ t Q E, F__law_known [.str k.name] t Q E ↔ Q (.nw (k.rows.map .str)) t
def kns : List Kn := [kn0, kn1, kn2, kn3, kn4]
theorem kns_law : ∀ k ∈ kns, Kl k ∧ k.rows.length ≤ 1000 := fun k hk => by
  simp only [kns, List.mem_cons, List.not_mem_nil, or_false] at hk
  rcases hk with rfl | rfl | rfl | rfl | rfl
  · exact ⟨⟨kn0_ok, fun _ _ _ => known3⟩, by decide⟩
  · exact ⟨⟨kn1_ok, fun _ _ _ => known4⟩, by decide⟩
  · exact ⟨⟨kn2_ok, fun _ _ _ => known5⟩, by decide⟩
  · exact ⟨⟨kn3_ok, fun _ _ _ => known2⟩, by decide⟩
  · exact ⟨⟨kn4_ok, fun _ _ _ => known1⟩, by decide⟩
theorem law_ok : LawW F_law 63 := by
  intro ns hl
  have hz := sz
  refine def_of rfl ?_
  unfold w_law
  simp only [seqS, forS, seqI, tupW, consD, pureW, nilW]
  refine ⟨le_sl rfl, kns.map fun k => .str k.name, rfl, ?_⟩
  refine forL_inv (j := 0) (fun j ρ t' => t' = 0 ∧ ∃ (x1 x2 x3 x4 x5 : Sl), ρ = [.im (.scr ns), x1, x2, x3, x4, x5]) ⟨rfl, .non, .non, .non, .non, .non, rfl⟩ ?_ ?_
  · intro i d ρ t3 nx hd hI hn
    rw [List.getElem?_map] at hd
    obtain ⟨k, hk, rfl⟩ := Option.map_eq_some_iff.mp hd
    obtain ⟨⟨ok, lw⟩, lr⟩ := kns_law k (List.mem_of_getElem? hk)
    obtain ⟨rfl, x1, x2, x3, x4, x5, rfl⟩ := hI
    have G : GoodR (rowsP k.text) := goodR_iff.mp ok.good
    have sh := G.fine.show
    refine ⟨_, bindP_nm, ?_⟩
    simp only [ifS, testW, op2W, opNW, consO, valO, nilW, compW, seqI]
    refine call_of (ds := [.str k.name]) (ρ' := [.im (.scr ns), .im (.str k.name), x2, x3, x4, x5]) (fun Q E h => h) (g_known ok _ _ _ ?_)
    refine ⟨_, _, rfl, repr_D sh, ?_⟩
    refine call_of (ds := [.str k.name]) (ρ' := [.im (.scr ns), .im (.str k.name), x2, x3, x4, x5]) (fun Q E h => h) ((lw _ _ _).mpr ⟨_, rfl, ?_⟩)
    refine g_rows (by simp) ok.rok lr ?_
    rw [ok.rows]
    refine ⟨_, _, rfl, rfl, _, _, rfl, repr_D sh, _, _, _, rfl, rfl, ne_same _, false, rfl, ?_⟩
    exact hn _ _ ⟨rfl, .im (.str k.name), .non, x3, x4, x5, rfl⟩
  · intro ρ t3 hI
    obtain ⟨rfl, x1, x2, x3, x4, x5, rfl⟩ := hI
    dsimp only
    unfold w_law_1
    simp only [seqS, forS, seqI]
    refine call_of (ds := []) (ρ' := [.im (.scr ns), x1, x2, x3, x4, x5]) (fun Q E h => h) (g_hand _ _ _ ?_)
    refine ⟨_, rfl, ?_⟩
    refine forL_inv (j := 0) (fun j ρ t' => t' = 0 ∧ ∃ (x1 x2 x3 x4 x5 : Sl), ρ = [.im (.scr ns), x1, x2, x3, x4, x5]) ⟨rfl, _, _, _, _, _, rfl⟩ ?_ ?_
    · intro i d ρ t3 nx hd hI hn
      rw [List.getElem?_map] at hd
      obtain ⟨z, hz, rfl⟩ := Option.map_eq_some_iff.mp hd
      have hr := List.all_eq_true.mp hand_ref z (List.mem_of_getElem? hz)
      obtain ⟨rfl, x1, x2, x3, x4, x5, rfl⟩ := hI
      refine ⟨_, bindP_nm, ?_⟩
      refine set_of ?_
      simp only [op2W, valO, heardW, pureW]
      refine call_of (ds := [.str z]) (ρ' := frzR [.im (.scr ns), x1, x2, .im (.str z), x4, x5]) (fun Q E h => h) (x_ref hr ⟨no_in, _, _, _, rfl, rfl, item_T0, ?_⟩)
      simp only [ifS, notT, testW, isEW, slotO]
      exact ⟨_, true, rfl, isE_of no_in, true, rfl, hn _ _ ⟨rfl, frzS x1, frzS x2, .im (.str z), .im (.exc "NoText" (.str z)), frzS x5, rfl⟩⟩
    · intro ρ t3 hI
      obtain ⟨rfl, x1, x2, x3, x4, x5, rfl⟩ := hI
      dsimp only
      unfold w_law_2
      refine ret_of ?_
      simp only [opNW, consO, valO, compW, seqI, nilW]
      refine call_of (ds := [.scr ns, .int 3]) (ρ' := [.im (.scr ns), x1, x2, x3, x4, x5]) (fun Q E h => h) (g_cells hl _ _ _ (by omega) fun r t2 l2 ⟨m, hm, e⟩ => ?_)
      subst e
      refine ⟨_, rfl, ?_⟩
      refine compL_draw (n := 400) (post := fun x => x = .bl true) (t := t2) (acc := []) (ds := rangeD 0 m) (fun d hd => ?_) (by rw [rangeD_len]; simp only [List.length_nil]; omega) (by rw [rangeD_len]; omega) fun xs t4 l4 px lx => ?_
      · obtain ⟨i, hi, rfl⟩ := rangeD_mem hd
        refine ⟨_, bindP_nm, fun t Q' E h1 h2 => ?_⟩
        refine call1_of (call_of (ds := [.scr ns, .int (i : Nat)]) (ρ' := [.im (.scr ns), x1, x2, x3, x4, .im (.int (i : Nat))]) (fun Q E h => h) ⟨ns, i, rfl, by omega, by omega, ?_⟩)
        exact g_law_right _ _ _ h1 fun x t' l5 hx => h2 x t' l5 (by rw [hx]; rfl)
      · rw [List.nil_append]
        exact ⟨_, _, rfl, allD_yes px, rfl⟩
end LW
set_option Elab.async false
set_option linter.all false
set_option maxRecDepth 100000
set_option autoImplicit false
/-! The text behind the top; the law. -/
namespace LW
open PySem PySem.Spec PyProof.Rows L2 NB
set_option maxHeartbeats 4000000
theorem tx_of {K : PySem.W.Frag} {h : Heap} {mg : Str → Option Value} (X : K.In h) (G : h.Ns mainGlobals mg)
    (a_is_tuple : At K "is_tuple" st_is_tuple)
    (a_is_word : At K "is_word" st_is_word)
    (a_is_test : At K "is_test" st_is_test)
    (a_is_clause : At K "is_clause" st_is_clause)
    (a_is_rule : At K "is_rule" st_is_rule)
    (a_check_rule : At K "check_rule" st_check_rule)
    (a_test_text : At K "test_text" st_test_text)
    (a_clause_text : At K "clause_text" st_clause_text)
    (a_rule_text : At K "rule_text" st_rule_text)
    (a_test_in : At K "test_in" st_test_in)
    (a_clause_in : At K "clause_in" st_clause_in)
    (a_read_rule : At K "read_rule" st_read_rule)
    (a_known_rule : At K "known_rule" st_known_rule)
    (a__law_pot : At K "_law_pot" st__law_pot)
    (a__law_take : At K "_law_take" st__law_take)
    (a__law_of : At K "_law_of" st__law_of)
    (a__law_cells : At K "_law_cells" st__law_cells)
    (a__law_some : At K "_law_some" st__law_some)
    (a__law_heard : At K "_law_heard" st__law_heard)
    (a__law_words : At K "_law_words" st__law_words)
    (a__law_known : At K "_law_known" st__law_known)
    (a__law_clause_in : At K "_law_clause_in" st__law_clause_in)
    (a__law_clause : At K "_law_clause" st__law_clause)
    (a__law_rule : At K "_law_rule" st__law_rule)
    (a__law_text : At K "_law_text" st__law_text)
    (a__law_is_read : AtL K "_law_is_read" st__law_is_read)
    (a__law_otherwise : At K "_law_otherwise" st__law_otherwise)
    (a__law_hand : At K "_law_hand" st__law_hand)
    (a__law_right : AtL K "_law_right" st__law_right)
    {t_FEED : Nat} (s_FEED : PySem.W.nsIn K mainGlobals "FEED" = some (some (.str "\n" t_FEED)))
    {t_IF : Nat} (s_IF : PySem.W.nsIn K mainGlobals "IF" = some (some (.str " if " t_IF)))
    {t_AND : Nat} (s_AND : PySem.W.nsIn K mainGlobals "AND" = some (some (.str " and " t_AND)))
    {t_NO : Nat} (s_NO : PySem.W.nsIn K mainGlobals "NO" = some (some (.str "no " t_NO)))
    {t_COLLECT : Nat} (s_COLLECT : PySem.W.nsIn K mainGlobals "COLLECT" = some (some (.str "open if out\nopen if here and room\nup if up and calls above\nup if up and wishes above\ndown if down and calls below\ndown if down and wishes below\nup if calls above\nup if wishes above\ndown if calls below\ndown if wishes below" t_COLLECT)))
    {t_NEAREST : Nat} (s_NEAREST : PySem.W.nsIn K mainGlobals "NEAREST" = some (some (.str "open if out\nopen if here and room\nup if near above\ndown if near below\nup if calls above\nup if wishes above" t_NEAREST)))
    {t_LOOP : Nat} (s_LOOP : PySem.W.nsIn K mainGlobals "LOOP" = some (some (.str "open if out\nopen if here and room\nup if bottom\ndown if top\ndown if down\nup" t_LOOP)))
    {t_HIGHEST : Nat} (s_HIGHEST : PySem.W.nsIn K mainGlobals "HIGHEST" = some (some (.str "open if out\nopen if here and room and no calls above\nup if calls above and room\ndown if calls below and room\nup if wishes above\ndown if wishes below" t_HIGHEST)))
    {t_GROUP : Nat} (s_GROUP : PySem.W.nsIn K mainGlobals "GROUP" = some (some (.str "open if out\nopen if here and room\nup if up and own above\nup if up and wishes above\ndown if down and own below\ndown if down and wishes below\nup if own above\nup if wishes above\ndown if own below\ndown if wishes below" t_GROUP)))
    {t_MOST_CLAUSES : Nat} (g_MOST_CLAUSES : PySem.W.nsIn K mainGlobals "MOST_CLAUSES" = some (some (.int 20 t_MOST_CLAUSES)))
    {t_MOST_TESTS : Nat} (g_MOST_TESTS : PySem.W.nsIn K mainGlobals "MOST_TESTS" = some (some (.int 4 t_MOST_TESTS)))
    {t_PAIR : Nat} (g_PAIR : PySem.W.nsIn K mainGlobals "PAIR" = some (some (.int 2 t_PAIR)))
    (g_WORDS : AtT K "WORDS" k_WORDS)
    (g_DEEDS : AtT K "DEEDS" k_DEEDS)
    (m_ValueError : PySem.W.nsIn K mainGlobals "ValueError" = some none)
    (m_abs : PySem.W.nsIn K mainGlobals "abs" = some none)
    (m_all : PySem.W.nsIn K mainGlobals "all" = some none)
    (m_bool : PySem.W.nsIn K mainGlobals "bool" = some none)
    (m_int : PySem.W.nsIn K mainGlobals "int" = some none)
    (m_isinstance : PySem.W.nsIn K mainGlobals "isinstance" = some none)
    (m_len : PySem.W.nsIn K mainGlobals "len" = some none)
    (m_list : PySem.W.nsIn K mainGlobals "list" = some none)
    (m_max : PySem.W.nsIn K mainGlobals "max" = some none)
    (m_min : PySem.W.nsIn K mainGlobals "min" = some none)
    (m_range : PySem.W.nsIn K mainGlobals "range" = some none)
    (m_repr : PySem.W.nsIn K mainGlobals "repr" = some none)
    (m_str : PySem.W.nsIn K mainGlobals "str" = some none)
    (m_sum : PySem.W.nsIn K mainGlobals "sum" = some none)
    (m_tuple : PySem.W.nsIn K mainGlobals "tuple" = some none) : Tx K mg where
  d_is_tuple := df_of X G a_is_tuple fun _ _ _ _ _ _ us hl => match us, hl with | [_, _, _], _ => rfl
  d_is_word := df_of X G a_is_word fun _ _ _ _ _ _ us hl => match us, hl with | [_, _], _ => rfl
  d_is_test := df_of X G a_is_test fun _ _ _ _ _ _ us hl => match us, hl with | [_], _ => rfl
  d_is_clause := df_of X G a_is_clause fun _ _ _ _ _ _ us hl => match us, hl with | [_], _ => rfl
  d_is_rule := df_of X G a_is_rule fun _ _ _ _ _ _ us hl => match us, hl with | [_], _ => rfl
  d_check_rule := df_of X G a_check_rule fun _ _ _ _ _ _ us hl => match us, hl with | [_], _ => rfl
  d_test_text := df_of X G a_test_text fun _ _ _ _ _ _ us hl => match us, hl with | [_], _ => rfl
  d_clause_text := df_of X G a_clause_text fun _ _ _ _ _ _ us hl => match us, hl with | [_], _ => rfl
  d_rule_text := df_of X G a_rule_text fun _ _ _ _ _ _ us hl => match us, hl with | [_], _ => rfl
  d_test_in := df_of X G a_test_in fun _ _ _ _ _ _ us hl => match us, hl with | [_], _ => rfl
  d_clause_in := df_of X G a_clause_in fun _ _ _ _ _ _ us hl => match us, hl with | [_], _ => rfl
  d_read_rule := df_of X G a_read_rule fun _ _ _ _ _ _ us hl => match us, hl with | [_], _ => rfl
  d_known_rule := df_of X G a_known_rule fun _ _ _ _ _ _ us hl => match us, hl with | [_], _ => rfl
  d__law_pot := df_of X G a__law_pot fun _ _ _ _ _ _ us hl => match us, hl with | [_, _], _ => rfl
  d__law_take := df_of X G a__law_take fun _ _ _ _ _ _ us hl => match us, hl with | [_, _], _ => rfl
  d__law_of := df_of X G a__law_of fun _ _ _ _ _ _ us hl => match us, hl with | [_, _], _ => rfl
  d__law_cells := df_of X G a__law_cells fun _ _ _ _ _ _ us hl => match us, hl with | [_, _], _ => rfl
  d__law_some := df_of X G a__law_some fun _ _ _ _ _ _ us hl => match us, hl with | [_, _, _], _ => rfl
  d__law_heard := df_of X G a__law_heard fun _ _ _ _ _ _ us hl => match us, hl with | [_], _ => rfl
  d__law_words := df_of X G a__law_words fun _ _ _ _ _ _ us hl => match us, hl with | [], _ => rfl
  d__law_known := df_of X G a__law_known fun _ _ _ _ _ _ us hl => match us, hl with | [_], _ => rfl
  d__law_clause_in := df_of X G a__law_clause_in fun _ _ _ _ _ _ us hl => match us, hl with | [_], _ => rfl
  d__law_clause := df_of X G a__law_clause fun _ _ _ _ _ _ us hl => match us, hl with | [_], _ => rfl
  d__law_rule := df_of X G a__law_rule fun _ _ _ _ _ _ us hl => match us, hl with | [_], _ => rfl
  d__law_text := df_of X G a__law_text fun _ _ _ _ _ _ us hl => match us, hl with | [_], _ => rfl
  d__law_is_read := dfl_of X G a__law_is_read fun _ _ _ _ _ _ us hl => match us, hl with | [_], _ => rfl
  d__law_otherwise := df_of X G a__law_otherwise fun _ _ _ _ _ _ us hl => match us, hl with | [_, _], _ => rfl
  d__law_hand := df_of X G a__law_hand fun _ _ _ _ _ _ us hl => match us, hl with | [], _ => rfl
  d__law_right := dfl_of X G a__law_right fun _ _ _ _ _ _ us hl => match us, hl with | [_], _ => rfl
  s_FEED := gs_of X G s_FEED
  s_IF := gs_of X G s_IF
  s_AND := gs_of X G s_AND
  s_NO := gs_of X G s_NO
  s_COLLECT := gs_of X G s_COLLECT
  s_NEAREST := gs_of X G s_NEAREST
  s_LOOP := gs_of X G s_LOOP
  s_HIGHEST := gs_of X G s_HIGHEST
  s_GROUP := gs_of X G s_GROUP
  g_MOST_CLAUSES := gi_of X G g_MOST_CLAUSES
  g_MOST_TESTS := gi_of X G g_MOST_TESTS
  g_PAIR := gi_of X G g_PAIR
  g_WORDS := gt_of X G g_WORDS
  g_DEEDS := gt_of X G g_DEEDS
  m_ValueError := PySem.W.mg_none_of X G m_ValueError
  m_abs := PySem.W.mg_none_of X G m_abs
  m_all := PySem.W.mg_none_of X G m_all
  m_bool := PySem.W.mg_none_of X G m_bool
  m_int := PySem.W.mg_none_of X G m_int
  m_isinstance := PySem.W.mg_none_of X G m_isinstance
  m_len := PySem.W.mg_none_of X G m_len
  m_list := PySem.W.mg_none_of X G m_list
  m_max := PySem.W.mg_none_of X G m_max
  m_min := PySem.W.mg_none_of X G m_min
  m_range := PySem.W.mg_none_of X G m_range
  m_repr := PySem.W.mg_none_of X G m_repr
  m_str := PySem.W.mg_none_of X G m_str
  m_sum := PySem.W.mg_none_of X G m_sum
  m_tuple := PySem.W.mg_none_of X G m_tuple
theorem init_of {K : PySem.W.Frag} {mg : Str → Option Value} {fI : Addr} (Pr : Program) (w : World) (V : Tx K mg) (a : AtI K st_init fI) : ∃ fd, InitS Pr w K mg fI fd := by
  obtain ⟨⟨oc, od, kV, doc, pm, an, cd, ct, sl, l, c, k⟩, ve⟩ := a
  have F := fun_mk l c k
  exact ⟨_, ⟨fun base => Fun.ok F sc_init (fun vs H Q E h => by obtain ⟨_, _, _, rfl, _⟩ := h; rfl) fun cdv A outer s H vs Q E hr h => ⟨_, pss_cons (ps_expr (pe_veinit (by rfl) V.m_ValueError ve (pa_cons (pv 0) (pa_cons (pv 1) pa_nil)))) (pss_one (ps_ost (pv 0) (pv 1))), init_read h⟩,
    F.binds fun _ _ _ _ _ _ us hl => match us, hl with | [_, _], _ => rfl⟩⟩
theorem exc_of {K : PySem.W.Frag} {h : Heap} {mg : Str → Option Value} {fI CS : Addr} {C_BadRule : Addr} {C_NoText : Addr} {C_BadName : Addr} (X : K.In h) (G : h.Ns mainGlobals mg) (l : PySem.W.nsIn K mainGlobals "LiftError" = some (some (.ref CS))) (tf : PySem.W.typeIn K (.ref fI) = some (.type "function"))
    (e_BadRule : ExcN K "BadRule" C_BadRule fI CS) (e_NoText : ExcN K "NoText" C_NoText fI CS) (e_BadName : ExcN K "BadName" C_BadName fI CS) (k_BadRule_BadRule : PySem.W.kitOne K (.ref C_BadRule) (.ref C_BadRule) = some true) (k_BadRule_NoText : PySem.W.kitOne K (.ref C_BadRule) (.ref C_NoText) = some false) (k_BadRule_BadName : PySem.W.kitOne K (.ref C_BadRule) (.ref C_BadName) = some false) (k_NoText_BadRule : PySem.W.kitOne K (.ref C_NoText) (.ref C_BadRule) = some false) (k_NoText_NoText : PySem.W.kitOne K (.ref C_NoText) (.ref C_NoText) = some true) (k_NoText_BadName : PySem.W.kitOne K (.ref C_NoText) (.ref C_BadName) = some false) (k_BadName_BadRule : PySem.W.kitOne K (.ref C_BadName) (.ref C_BadRule) = some false) (k_BadName_NoText : PySem.W.kitOne K (.ref C_BadName) (.ref C_NoText) = some false) (k_BadName_BadName : PySem.W.kitOne K (.ref C_BadName) (.ref C_BadName) = some true) : ∃ ad : Str → Addr, ExcS K mg excNames fI CS ad ∧ ∀ c ∈ excNames, PySem.W.kitOne K (.type "NoneType") (.ref (ad c)) = some false := by
  have E : ∀ c ∈ excNames, ExcN K c ((fun x => if x = "BadRule" then C_BadRule else if x = "NoText" then C_NoText else C_BadName : Str → Addr) c) fI CS := (List.forall_mem_cons.mpr ⟨e_BadRule, (List.forall_mem_cons.mpr ⟨e_NoText, (List.forall_mem_cons.mpr ⟨e_BadName, (fun _ z => nomatch z)⟩)⟩)⟩)
  exact ⟨_, excS_of X G l tf E ((List.forall_mem_cons.mpr ⟨(List.forall_mem_cons.mpr ⟨k_BadRule_BadRule, (List.forall_mem_cons.mpr ⟨k_BadRule_NoText, (List.forall_mem_cons.mpr ⟨k_BadRule_BadName, (fun _ z => nomatch z)⟩)⟩)⟩), (List.forall_mem_cons.mpr ⟨(List.forall_mem_cons.mpr ⟨k_NoText_BadRule, (List.forall_mem_cons.mpr ⟨k_NoText_NoText, (List.forall_mem_cons.mpr ⟨k_NoText_BadName, (fun _ z => nomatch z)⟩)⟩)⟩), (List.forall_mem_cons.mpr ⟨(List.forall_mem_cons.mpr ⟨k_BadName_BadRule, (List.forall_mem_cons.mpr ⟨k_BadName_NoText, (List.forall_mem_cons.mpr ⟨k_BadName_BadName, (fun _ z => nomatch z)⟩)⟩)⟩), (fun _ z => nomatch z)⟩)⟩)⟩)), fun c hc => (E c hc).kn⟩
theorem law_at {Pr : Program} {w : World} {K : PySem.W.Frag} {h : Heap} {mg : Str → Option Value} {fa : Addr} (X : K.In h) (G : h.Ns mainGlobals mg) (V : Tx K mg) {fI CS : Addr} (EE : ∃ ad, ExcS K mg excNames fI CS ad ∧ ∀ c ∈ excNames, PySem.W.kitOne K (.type "NoneType") (.ref (ad c)) = some false) (ii : AtI K st_init fI) (DK : Dk w K mg) (tu : tabUB K = true) (tn : tabNB K = true) (hfa : mg "law" = some (.ref fa))
    (a : AtL K "law" st_law) :
    (∀ x ∈ lamNames, ∀ c P, PySem.W.tabIn K x = some (c, P) → K.lookup P = none) ∧ ∃ fd : FuncData, (∀ (s : Shared) (u : Value), BindsTo s fd ⟨[u], []⟩ [("script", u)]) ∧ ∀ base : Heap, K.In base → base.Ns mainGlobals mg → TabsB K mg base → FnG Pr w K mg base (CXE Pr w) 12 fa fd ["script"] F_law := by
  obtain ⟨ad, ES, kn⟩ := EE
  obtain ⟨fdI, I⟩ := init_of Pr w V ii
  obtain ⟨f, oc, od, kV, doc, pm, an, cd, ct, sl, a1, l1, c1, k1, t1⟩ := a
  have e := hfa.symm.trans (PySem.W.mg_of X G a1)
  cases e
  obtain ⟨⟨c', P⟩, t2, t3⟩ := Option.map_eq_some_iff.mp t1
  have t3 : c' = cd := t3
  subst t3
  exact ⟨tabN_of tn, _, fun _ _ => .of_eq rfl, fun base _ _ tb => fnG_of (EX := fun E => E) l1 c1 sc_law (fun _ _ _ z => z) fun A outer s H E hr hg => by have B : Ec Pr w K mg base excNames fI CS ad fdI := ⟨ES, I.io base, I.bi, kn, tb, tabU_of tu⟩; exact b_law V B DK t2 hr hg⟩
end LW
open PySem PySem.W PyProof.Rows
set_option maxHeartbeats 0 in
theorem PySem.Challenge.cw_nobodyleft_k04_rules_written_and_read_an_holds : PySem.Challenge.rw_nobodyleft_k04_rules_written_and_read_an.Holds := by
  w_on; o_law; k_head; (case hw => w_witness2)
  k_fill
  refine NB.walk_ofG (l := PySem.Challenge.rw_nobodyleft_k04_rules_written_and_read_an) (k := 12) (x := "script") (Fw := LW.F_law) rfl rfl ⟨rfl, by decide, by decide⟩ (fun w h Y => by first | exact PySem.W.km_in_of Y | exact PySem.W.kIn_of Y) (NB.recs_of (by kernel_rfl)) ?F LW.law_ok
  case F =>
    intro w mg fa h KX G hmg
    refine' LW.law_at KX G (LW.tx_of KX G (NB.at_mk ?a_is_tuple ?l_is_tuple ?c_is_tuple ?k_is_tuple) (NB.at_mk ?a_is_word ?l_is_word ?c_is_word ?k_is_word) (NB.at_mk ?a_is_test ?l_is_test ?c_is_test ?k_is_test) (NB.at_mk ?a_is_clause ?l_is_clause ?c_is_clause ?k_is_clause) (NB.at_mk ?a_is_rule ?l_is_rule ?c_is_rule ?k_is_rule) (NB.at_mk ?a_check_rule ?l_check_rule ?c_check_rule ?k_check_rule) (NB.at_mk ?a_test_text ?l_test_text ?c_test_text ?k_test_text) (NB.at_mk ?a_clause_text ?l_clause_text ?c_clause_text ?k_clause_text) (NB.at_mk ?a_rule_text ?l_rule_text ?c_rule_text ?k_rule_text) (NB.at_mk ?a_test_in ?l_test_in ?c_test_in ?k_test_in) (NB.at_mk ?a_clause_in ?l_clause_in ?c_clause_in ?k_clause_in) (NB.at_mk ?a_read_rule ?l_read_rule ?c_read_rule ?k_read_rule) (NB.at_mk ?a_known_rule ?l_known_rule ?c_known_rule ?k_known_rule) (NB.at_mk ?a__law_pot ?l__law_pot ?c__law_pot ?k__law_pot) (NB.at_mk ?a__law_take ?l__law_take ?c__law_take ?k__law_take) (NB.at_mk ?a__law_of ?l__law_of ?c__law_of ?k__law_of) (NB.at_mk ?a__law_cells ?l__law_cells ?c__law_cells ?k__law_cells) (NB.at_mk ?a__law_some ?l__law_some ?c__law_some ?k__law_some) (NB.at_mk ?a__law_heard ?l__law_heard ?c__law_heard ?k__law_heard) (NB.at_mk ?a__law_words ?l__law_words ?c__law_words ?k__law_words) (NB.at_mk ?a__law_known ?l__law_known ?c__law_known ?k__law_known) (NB.at_mk ?a__law_clause_in ?l__law_clause_in ?c__law_clause_in ?k__law_clause_in) (NB.at_mk ?a__law_clause ?l__law_clause ?c__law_clause ?k__law_clause) (NB.at_mk ?a__law_rule ?l__law_rule ?c__law_rule ?k__law_rule) (NB.at_mk ?a__law_text ?l__law_text ?c__law_text ?k__law_text) (NB.at_mkL ?a__law_is_read ?l__law_is_read ?c__law_is_read ?k__law_is_read ?r__law_is_read) (NB.at_mk ?a__law_otherwise ?l__law_otherwise ?c__law_otherwise ?k__law_otherwise) (NB.at_mk ?a__law_hand ?l__law_hand ?c__law_hand ?k__law_hand) (NB.at_mkL ?a__law_right ?l__law_right ?c__law_right ?k__law_right ?r__law_right) ?s_FEED ?s_IF ?s_AND ?s_NO ?s_COLLECT ?s_NEAREST ?s_LOOP ?s_HIGHEST ?s_GROUP ?g_MOST_CLAUSES ?g_MOST_TESTS ?g_PAIR (NB.at_mkT (xs := LW.k_WORDS) ?t_WORDS ?u_WORDS ?s_WORDS ?v_WORDS) (NB.at_mkT (xs := LW.k_DEEDS) ?t_DEEDS ?u_DEEDS ?s_DEEDS ?v_DEEDS) ?m_ValueError ?m_abs ?m_all ?m_bool ?m_int ?m_isinstance ?m_len ?m_list ?m_max ?m_min ?m_range ?m_repr ?m_str ?m_sum ?m_tuple) (LW.exc_of KX G ?x_l ?x_tf (NB.exc_mk ?x_BadRule_at ?x_BadRule_l ?x_BadRule_rv ?x_BadRule_sa ?x_BadRule_exC ?x_BadRule_tyC ?x_BadRule_kC ?x_BadRule_ga ?x_BadRule_gg ?x_BadRule_hd ?x_BadRule_nov ?x_BadRule_hcl ?x_BadRule_hcc ?x_BadRule_hsp ?x_BadRule_htk ?x_BadRule_hmo ?x_BadRule_ini ?x_BadRule_exm ?x_BadRule_kn) (NB.exc_mk ?x_NoText_at ?x_NoText_l ?x_NoText_rv ?x_NoText_sa ?x_NoText_exC ?x_NoText_tyC ?x_NoText_kC ?x_NoText_ga ?x_NoText_gg ?x_NoText_hd ?x_NoText_nov ?x_NoText_hcl ?x_NoText_hcc ?x_NoText_hsp ?x_NoText_htk ?x_NoText_hmo ?x_NoText_ini ?x_NoText_exm ?x_NoText_kn) (NB.exc_mk ?x_BadName_at ?x_BadName_l ?x_BadName_rv ?x_BadName_sa ?x_BadName_exC ?x_BadName_tyC ?x_BadName_kC ?x_BadName_ga ?x_BadName_gg ?x_BadName_hd ?x_BadName_nov ?x_BadName_hcl ?x_BadName_hcc ?x_BadName_hsp ?x_BadName_htk ?x_BadName_hmo ?x_BadName_ini ?x_BadName_exm ?x_BadName_kn) ?k_BadRule_BadRule ?k_BadRule_NoText ?k_BadRule_BadName ?k_NoText_BadRule ?k_NoText_NoText ?k_NoText_BadName ?k_BadName_BadRule ?k_BadName_NoText ?k_BadName_BadName) (NB.at_mkI ?i_l ?i_c ?i_k ?i_ve) ⟨NB.ktab_of KX G ?da_KNOWN ?dl_KNOWN ?ds_KNOWN ?dn_KNOWN⟩ ?tabu ?tabn hmg (NB.at_mkL ?a_law ?l_law ?c_law ?k_law ?r_law)
    (case a_is_tuple => k_is); (case l_is_tuple => k_is); (case c_is_tuple => k_is); (case k_is_tuple => k_is); (case a_is_word => k_is); (case l_is_word => k_is); (case c_is_word => k_is); (case k_is_word => k_is); (case a_is_test => k_is); (case l_is_test => k_is); (case c_is_test => k_is); (case k_is_test => k_is); (case a_is_clause => k_is); (case l_is_clause => k_is); (case c_is_clause => k_is); (case k_is_clause => k_is); (case a_is_rule => k_is); (case l_is_rule => k_is); (case c_is_rule => k_is); (case k_is_rule => k_is); (case a_check_rule => k_is); (case l_check_rule => k_is); (case c_check_rule => k_is); (case k_check_rule => k_is); (case a_test_text => k_is); (case l_test_text => k_is); (case c_test_text => k_is); (case k_test_text => k_is); (case a_clause_text => k_is); (case l_clause_text => k_is); (case c_clause_text => k_is); (case k_clause_text => k_is); (case a_rule_text => k_is); (case l_rule_text => k_is); (case c_rule_text => k_is); (case k_rule_text => k_is); (case a_test_in => k_is); (case l_test_in => k_is); (case c_test_in => k_is); (case k_test_in => k_is); (case a_clause_in => k_is); (case l_clause_in => k_is); (case c_clause_in => k_is); (case k_clause_in => k_is); (case a_read_rule => k_is); (case l_read_rule => k_is); (case c_read_rule => k_is); (case k_read_rule => k_is); (case a_known_rule => k_is); (case l_known_rule => k_is); (case c_known_rule => k_is); (case k_known_rule => k_is); (case a__law_pot => k_is); (case l__law_pot => k_is); (case c__law_pot => k_is); (case k__law_pot => k_is); (case a__law_take => k_is); (case l__law_take => k_is); (case c__law_take => k_is); (case k__law_take => k_is); (case a__law_of => k_is); (case l__law_of => k_is); (case c__law_of => k_is); (case k__law_of => k_is); (case a__law_cells => k_is); (case l__law_cells => k_is); (case c__law_cells => k_is); (case k__law_cells => k_is); (case a__law_some => k_is); (case l__law_some => k_is); (case c__law_some => k_is); (case k__law_some => k_is); (case a__law_heard => k_is); (case l__law_heard => k_is); (case c__law_heard => k_is); (case k__law_heard => k_is); (case a__law_words => k_is); (case l__law_words => k_is); (case c__law_words => k_is); (case k__law_words => k_is); (case a__law_known => k_is); (case l__law_known => k_is); (case c__law_known => k_is); (case k__law_known => k_is); (case a__law_clause_in => k_is); (case l__law_clause_in => k_is); (case c__law_clause_in => k_is); (case k__law_clause_in => k_is); (case a__law_clause => k_is); (case l__law_clause => k_is); (case c__law_clause => k_is); (case k__law_clause => k_is); (case a__law_rule => k_is); (case l__law_rule => k_is); (case c__law_rule => k_is); (case k__law_rule => k_is); (case a__law_text => k_is); (case l__law_text => k_is); (case c__law_text => k_is); (case k__law_text => k_is); (case a__law_is_read => k_is); (case l__law_is_read => k_is); (case c__law_is_read => k_is); (case k__law_is_read => k_is); (case a__law_otherwise => k_is); (case l__law_otherwise => k_is); (case c__law_otherwise => k_is); (case k__law_otherwise => k_is); (case a__law_hand => k_is); (case l__law_hand => k_is); (case c__law_hand => k_is); (case k__law_hand => k_is); (case a__law_right => k_is); (case l__law_right => k_is); (case c__law_right => k_is); (case k__law_right => k_is); (case s_FEED => k_is); (case s_IF => k_is); (case s_AND => k_is); (case s_NO => k_is); (case s_COLLECT => k_is); (case s_NEAREST => k_is); (case s_LOOP => k_is); (case s_HIGHEST => k_is); (case s_GROUP => k_is); (case g_MOST_CLAUSES => k_is); (case g_MOST_TESTS => k_is); (case g_PAIR => k_is); (case t_WORDS => k_is); (case u_WORDS => k_is); (case t_DEEDS => k_is); (case u_DEEDS => k_is); (case m_ValueError => k_is); (case m_abs => k_is); (case m_all => k_is); (case m_bool => k_is); (case m_int => k_is); (case m_isinstance => k_is); (case m_len => k_is); (case m_list => k_is); (case m_max => k_is); (case m_min => k_is); (case m_range => k_is); (case m_repr => k_is); (case m_str => k_is); (case m_sum => k_is); (case m_tuple => k_is); (case x_l => k_is); (case x_BadRule_at => k_is); (case x_BadRule_l => k_is); (case x_BadRule_sa => k_is); (case x_BadRule_exC => k_is); (case x_BadRule_tyC => k_is); (case x_BadRule_kC => k_is); (case x_BadRule_ga => k_is); (case x_BadRule_gg => k_is); (case x_BadRule_hd => k_is); (case x_BadRule_nov => k_is); (case x_BadRule_hcc => k_is); (case x_BadRule_hsp => k_is); (case x_BadRule_htk => k_is); (case x_BadRule_hmo => k_is); (case x_BadRule_ini => k_is); (case x_NoText_at => k_is); (case x_NoText_l => k_is); (case x_NoText_sa => k_is); (case x_NoText_exC => k_is); (case x_NoText_tyC => k_is); (case x_NoText_kC => k_is); (case x_NoText_ga => k_is); (case x_NoText_gg => k_is); (case x_NoText_hd => k_is); (case x_NoText_nov => k_is); (case x_NoText_hcc => k_is); (case x_NoText_hsp => k_is); (case x_NoText_htk => k_is); (case x_NoText_hmo => k_is); (case x_NoText_ini => k_is); (case x_BadName_at => k_is); (case x_BadName_l => k_is); (case x_BadName_sa => k_is); (case x_BadName_exC => k_is); (case x_BadName_tyC => k_is); (case x_BadName_kC => k_is); (case x_BadName_ga => k_is); (case x_BadName_gg => k_is); (case x_BadName_hd => k_is); (case x_BadName_nov => k_is); (case x_BadName_hcc => k_is); (case x_BadName_hsp => k_is); (case x_BadName_htk => k_is); (case x_BadName_hmo => k_is); (case x_BadName_ini => k_is); (case x_tf => k_is); (case i_l => k_is); (case i_c => k_is); (case i_k => k_is); (case i_ve => k_is); (case x_BadRule_rv => kernel_rfl); (case x_BadRule_hcl => kernel_rfl); (case x_BadRule_exm => kernel_rfl); (case x_BadRule_kn => kernel_rfl); (case x_NoText_rv => kernel_rfl); (case x_NoText_hcl => kernel_rfl); (case x_NoText_exm => kernel_rfl); (case x_NoText_kn => kernel_rfl); (case x_BadName_rv => kernel_rfl); (case x_BadName_hcl => kernel_rfl); (case x_BadName_exm => kernel_rfl); (case x_BadName_kn => kernel_rfl); (case k_BadRule_BadRule => kernel_rfl); (case k_BadRule_NoText => kernel_rfl); (case k_BadRule_BadName => kernel_rfl); (case k_NoText_BadRule => kernel_rfl); (case k_NoText_NoText => kernel_rfl); (case k_NoText_BadName => kernel_rfl); (case k_BadName_BadRule => kernel_rfl); (case k_BadName_NoText => kernel_rfl); (case k_BadName_BadName => kernel_rfl); (case da_KNOWN => k_is); (case dl_KNOWN => k_is); (case dn_KNOWN => kernel_rfl); (case ds_KNOWN => (show NB.DicS _ _ _; repeat (first | exact True.intro | refine ⟨⟨_, _, rfl, rfl, rfl⟩, ?_⟩))); (case a_law => k_is); (case l_law => k_is); (case c_law => k_is); (case k_law => k_is); (case r__law_is_read => kernel_rfl); (case r__law_right => kernel_rfl); (case r_law => kernel_rfl); (case tabu => kernel_rfl); (case tabn => kernel_rfl); (case s_WORDS => (rw [sizeLine_eq]; decide)); (case v_WORDS => (show L2.Vals _ _; repeat (first | exact .nil | refine .cons ⟨_, rfl⟩ ?_))); (case s_DEEDS => (rw [sizeLine_eq]; decide)); (case v_DEEDS => (show L2.Vals _ _; repeat (first | exact .nil | refine .cons ⟨_, rfl⟩ ?_)))
