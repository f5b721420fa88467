import PyProof.Rows.All
import Wide.All
import OpenK.AllK
import Wide.FinOn
import HandS.ForMost
import HandS.Zip
import HandS.IsInst
import HandS.Wide
import HandS.TupAny
import HandS.TupMul
import HandS.SortInts
import HandS.Exc
import HandS.ExcInit
import HandS.ExcValue
import HandS.Lambda
import KE.KDictKeyed
import HandS.Deep
import HandS.Text
import PyProof.P3In
import KE.SortData
import HandS.Conv
import HandS.Style
import HandS.TupSets
import HandS.SetFor
import PyProof.ReprRoads
import HandS.Words
import HandS.Ends
import HandS.Strs
import HandS.ExcField
import KE.KExcIs
import HandS.Star
import HandS.More
import HandS.List
import KE.KDictZip
import KE.KDictLaws
import KE.GoesEnum
import PyProof.ReprLen
import PyProof.FitsInt
import PyProof.Rows.SortStr
import PySem.Challenge.RW_nobodyleft_k05_what_cars_see_and_do
set_option autoImplicit false
/-! Printed by pr.py: which defs of the law make lambdas; the lambdas. -/
namespace NB
open PySem L2
structure LamRec where
  q : Str
  ps : Arguments
  body : Expr
  sc : Scope
def lamNames : List Str := ["_law_are_refused"]
def passZ : Stmt := .Pass ⟨0, 0, 0, 0⟩
def noneZ : Expr := .Constant .none 0 ⟨0, 0, 0, 0⟩
def topN (i : Nat) : Stmt := PySem.Challenge.pw_nobodyleft_k05_what_cars_see_and_do.main.body.getD i passZ
def kidE : Expr → List Expr
  | .UnaryOp _ a _ => [a]
  | .Call f as _ _ => f :: as
  | .BoolOp _ vs _ => vs
  | .BinOp a _ b _ => [a, b]
  | .Compare a _ bs _ => a :: bs
  | .Subscript a b _ => [a, b]
  | .Attribute a _ _ => [a]
  | .Tuple es _ _ => es
  | .List es _ => es
  | .IfExp a b c _ => [a, b, c]
  | _ => []
def kidS : Stmt → List Expr
  | .Expr e _ => [e]
  | .Return (some e) _ => [e]
  | .If t _ _ _ => [t]
  | .Assign ts e _ => e :: ts
  | .For t i _ _ _ => [t, i]
  | _ => []
def kidB : Stmt → List Stmt
  | .If _ a b _ => a ++ b
  | .For _ _ a b _ => a ++ b
  | .While _ b _ _ => b
  | _ => []
def lamR (x : Str) : Expr → LamRec
  | .Lambda ps b sc _ => ⟨x ++ ".<locals>." ++ "<lambda>", ps, b, sc⟩
  | _ => ⟨x, default, noneZ, default⟩
def lamX : Nat → LamRec
  | 0 => lamR "_law_are_refused" ((kidE ((kidE ((kidS ((defBody (topN 76)).getD 1 passZ)).getD 0 noneZ)).getD 0 noneZ)).getD 1 noneZ)
  | 1 => lamR "_law_are_refused" ((kidE ((kidE ((kidS ((defBody (topN 76)).getD 2 passZ)).getD 0 noneZ)).getD 0 noneZ)).getD 1 noneZ)
  | 2 => lamR "_law_are_refused" ((kidE ((kidE ((kidS ((defBody (topN 76)).getD 3 passZ)).getD 0 noneZ)).getD 0 noneZ)).getD 1 noneZ)
  | 3 => lamR "_law_are_refused" ((kidE ((kidE ((kidS ((defBody (topN 76)).getD 4 passZ)).getD 0 noneZ)).getD 0 noneZ)).getD 1 noneZ)
  | 4 => lamR "_law_are_refused" ((kidE ((kidE ((kidS ((defBody (topN 76)).getD 5 passZ)).getD 0 noneZ)).getD 0 noneZ)).getD 1 noneZ)
  | 5 => lamR "_law_are_refused" ((kidE ((kidE ((kidS ((defBody (topN 76)).getD 6 passZ)).getD 0 noneZ)).getD 0 noneZ)).getD 1 noneZ)
  | 6 => lamR "_law_are_refused" ((kidE ((kidS ((defBody (topN 76)).getD 7 passZ)).getD 0 noneZ)).getD 1 noneZ)
  | _ => ⟨"", default, noneZ, default⟩
end NB
set_option Elab.async false
set_option linter.all false
set_option maxRecDepth 100000
set_option maxHeartbeats 4000000
set_option autoImplicit false
/-! The data layer: data, what represents it, the state between two steps. -/
namespace NB
open PySem PySem.Spec PyProof.Rows L2

/-- what is fixed for all: the written part, the world -/
structure KF where
  fr : PySem.W.Frag
  w : World
instance : CoeOut KF PySem.W.Frag := ⟨KF.fr⟩
abbrev kX (X : Cx) : KF := ⟨X.K, X.w⟩
/-- data; pot: the law's own list of draws, opaque; scr: the script -/
inductive D where
  | non | bl (b : Bool) | int (i : Int) | str (s : Str) | tup (xs : List D) | lst (xs : List D) | pot | scr (ns : List Int)
  /-- an exception of the package, with its value -/
  | exc (c : Str) (v : D)
  /-- a def of the text, as a value; a lambda of the text, with the cells of its frame -/
  | fnv (x : Str) | clo (n : Nat) (cl : List (Str × Addr))
  /-- a dict: its keys, its values -/
  | dct (ks vs : List D)
  /-- an instance of a class of the text, with its slots -/
  | ins (c : Str) (vs : List D)
/-- a thing that its holder may change -/
inductive Ob where
  | l (ds : List D) | d (ks vs : List D)
instance : Coe (List D) Ob := ⟨Ob.l⟩
def Ob.dat : Ob → D
  | .l ds => .lst ds
  | .d ks vs => .dct ks vs
@[simp] theorem Ob.dat_l (ds : List D) : (Ob.l ds).dat = .lst ds := rfl
@[simp] theorem Ob.dat_d (ks vs : List D) : (Ob.d ks vs).dat = .dct ks vs := rfl
/-- a slot: nothing known, immutable data, a thing of this frame's own -/
inductive Sl where
  | non | im (d : D) | ow (o : Ob)
/-- what an expression gives: data, or a new thing that nobody else holds -/
inductive R where
  | im (d : D) | nw (o : Ob)
def R.d : R → D
  | .im d => d
  | .nw o => o.dat
/-- an operand: a slot that is read when the operation is done, or data -/
inductive Od where
  | sl (i : Nat) | va (d : D)

abbrev PA1 := Addr → Prop
abbrev St := L2.St

/-- a list of the written part -/
def KL (K : KF) (a : Addr) (xs : List V) : Prop := ∃ (o : Obj) (its : Array Value) (n : Nat), K.fr.lookup a = some o ∧ o.cls = .type "list" ∧ o.dict = none ∧ o.data = .seq its n ∧ its.size ≤ sizeLine ∧ Vals xs its.toList
/-! ### defs that make lambdas: their tables of code objects -/
def lamQ (x : Str) : Str := x ++ ".<locals>." ++ "<lambda>"
def tabsOf (K : PySem.W.Frag) : List (Addr × Str) := lamNames.filterMap fun x => (PySem.W.tabIn K x).map fun p => (p.2, lamQ x)
def Tb (K : PySem.W.Frag) (H : Hp) : Prop := LamX.Tabs (tabsOf K) H
/-- a class of the text -/
def ClsAt (K : PySem.W.Frag) (c : Str) (C : Addr) : Prop := PySem.W.nsIn K mainGlobals c = some (some (.ref C))
/-- an exception object of the class at C, its dict at x, at a -/
def ExV (C x a : Addr) : HO := .ext fun h => ∃ (oe : Obj) (vs : Array Value), h.get? a = some oe ∧ Zc (.ref C) (some x) oe ∧ oe.data = .fields vs
/-- a lambda of the text, by its number -/
def CloO (n : Nat) (cl : List (Str × Addr)) (f c : Addr) : HO := .ext fun h => ∃ pm ctv : Value, h.get? f = some (PySem.W.kla_obj "<lambda>" (lamX n).q (lamX n).ps (lamX n).body (lamX n).sc (cloFrom cl (lamX n).sc.names []) pm c ctv)
/-- a slotted instance of the class at C -/
def InsO (C a : Addr) (xs : List V) : HO := .ext fun h => ∃ us : List Value, Vals xs us ∧ h.get? a = some { cls := .ref C, dict := none, data := .plain, slots := (us.map some).toArray }
/-- a dict at a: hashes and keys' places, values -/
def DicN (a : Addr) (xs : List (Int × Addr)) (ys : List V) : HO := .ext fun h => ∃ us : List Value, Vals ys us ∧ us.length = xs.length ∧ ∃ (o : Obj) (es : Array DictEntry) (ep : Nat), h.get? a = some o ∧ o.ExactDict ∧ o.data = .dict es ep ∧ es.toList = (xs.zip us).map fun p => ⟨p.1.1, .ref p.1.2, p.2⟩
def keyD : Key → D
  | .inl i => .int i
  | .inr x => .str x
mutual
def nkD : NestedKey → D
  | .none => .non
  | .num i => .int i
  | .text x => .str x
  | .tup ks => .tup (nkDs ks)
def nkDs : List NestedKey → List D
  | [] => []
  | k :: ks => nkD k :: nkDs ks
end
/-- the object u at a is a dict with the keys ks: their values xs, the entries' values ys -/
def IsD (K : KF) (a : Addr) (ks : List D) (u : HO) (xs ys : List V) : Prop :=
  (∃ zs : List Key, zs.length = ys.length ∧ zs.Nodup ∧ ks = zs.map keyD ∧ xs = zs.map kV ∧ u = .dK (zs.zip ys)) ∨
  (∃ (ns : List NestedKey) (as : List Addr), ns.length = ys.length ∧ ns.length ≤ sizeLine ∧ ns.Nodup ∧ as.length = ns.length ∧ ks = nkDs ns ∧ (∀ k ∈ ns, k.depth ≤ 8 ∧ ∃ l, k = .tup l) ∧ xs = as.map V.ref ∧ u = DicN a ((ns.map (NestedKey.hash K.w)).zip as) ys)
mutual
/-- v represents d in H; lists lie outside M -/
def Rp (K : KF) (H : Hp) (P M : PA1) : D → V → Prop
  | .non, v => v = V.non
  | .bl b, v => v = V.bl b
  | .int i, v => v = V.int i
  | .str s, v => v = V.str s
  | .tup ds, v => ∃ a xs, v = V.ref a ∧ SqT K H a xs ∧ RpA K H P M ds xs
  | .lst ds, v => ∃ a xs, v = V.ref a ∧ ¬ M a ∧ H a = some (.lst xs) ∧ RpA K H P M ds xs
  | .pot, v => ∃ a, v = V.ref a ∧ P a
  | .scr ns, v => ∃ a, v = V.ref a ∧ ((∃ o, H a = some (.frz o (.lst (ns.map V.int)))) ∨ KL K a (ns.map V.int))
  | .exc c d, v => ∃ (a C x : Addr) (y : V), v = V.ref a ∧ ¬ M a ∧ ClsAt K c C ∧ H a = some (ExV C x a) ∧ H x = some (.xd [("value", y)]) ∧ Rp K H P M d y
  | .fnv x, v => ∃ a, v = V.ref a ∧ PySem.W.nsIn K.fr mainGlobals x = some (some (.ref a))
  | .clo n cl, v => ∃ f c, v = V.ref f ∧ ¬ M f ∧ H f = some (CloO n cl f c) ∧ H c = some (LamX.CodeO c (lamX n).q)
  | .dct ks vs, v => ∃ a u xs ys, v = V.ref a ∧ ¬ M a ∧ H a = some u ∧ IsD K a ks u xs ys ∧ RpA K H P M ks xs ∧ RpA K H P M vs ys
  | .ins c vs, v => ∃ (a C : Addr) (xs : List V), v = V.ref a ∧ ¬ M a ∧ ClsAt K c C ∧ H a = some (InsO C a xs) ∧ RpA K H P M vs xs
def RpA (K : KF) (H : Hp) (P M : PA1) : List D → List V → Prop
  | [], xs => xs = []
  | d :: ds, xs => ∃ x r, xs = x :: r ∧ Rp K H P M d x ∧ RpA K H P M ds r
end
/-- the same, but the outermost list may lie in M -/
def Rs (K : KF) (H : Hp) (P M : PA1) : D → V → Prop
  | .lst ds, v => ∃ a xs, v = V.ref a ∧ H a = some (.lst xs) ∧ RpA K H P M ds xs
  | .dct ks vs, v => ∃ a u xs ys, v = V.ref a ∧ H a = some u ∧ IsD K a ks u xs ys ∧ RpA K H P M ks xs ∧ RpA K H P M vs ys
  | d, v => Rp K H P M d v
/-- what may be changed by its holder -/
def Mu (a : Addr) (u : HO) : Prop := (∃ xs, u = .lst xs) ∨ (∃ kvs, u = .dK kvs) ∨ ∃ xs ys, xs.length = ys.length ∧ u = DicN a xs ys
/-- the parts of a thing -/
def Ob.ct : Ob → List D
  | .l ds => ds
  | .d ks vs => ks ++ vs
/-- the object u at a is the thing o, of the parts' values xs -/
def Cu (K : KF) (a : Addr) : Ob → HO → List V → Prop
  | .l _, u, xs => u = .lst xs
  | .d ks _, u, xs => ∃ xk xv, xs = xk ++ xv ∧ xk.length = ks.length ∧ IsD K a ks u xk xv

def isT : HO → Bool
  | .tbl _ => true
  | _ => false
/-- new over H0: nothing of it but a table, at most -/
def Nw (H0 : Hp) (a : Addr) : Prop := ∀ o, H0 a = some o → isT o = true
theorem nw_of {H0 : Hp} {a : Addr} (h : H0 a = none) : Nw H0 a := fun o e => by rw [h] at e; cases e
theorem Nw.no {H0 : Hp} {a : Addr} {o : HO} (h : Nw H0 a) (e : H0 a = some o) (t : isT o = false) : False := by
  rw [h o e] at t; cases t
/-- all but N is kept (tables may grow) -/
structure Kp (K : KF) (N : PA1) (H H' : Hp) : Prop where
  go : ∀ a o, H a = some o → ¬ N a → H' a = some o ∨ isT o = true
  tb : Tb K H → Tb K H'
section
variable {K : KF}
theorem Kp.refl {N : PA1} {H : Hp} : Kp K N H H := ⟨fun _ _ h _ => .inl h, id⟩
theorem Kp.of {N : PA1} {H H' : Hp} (h : ∀ a o, H a = some o → H' a = some o) : Kp K N H H' := ⟨fun a o e _ => .inl (h a o e), fun t => LamX.Tabs.ext t h⟩
/-! ### dicts stand apart -/
theorem val_any (y : V) : ∃ u, RelV y u := by
  cases y with
  | non => exact ⟨_, rfl⟩
  | bl b => exact ⟨_, rfl⟩
  | int i => exact ⟨.int i 0, 0, rfl⟩
  | str x => exact ⟨.str x 0, 0, rfl⟩
  | byt b => exact ⟨.bytes b 0, 0, rfl⟩
  | flt b => exact ⟨.float b 0, 0, rfl⟩
  | ref a => exact ⟨_, rfl⟩
  | ty n => exact ⟨_, rfl⟩
theorem vals_any : ∀ ys : List V, ∃ us, Vals ys us
  | [] => ⟨[], .nil⟩
  | y :: ys => by
    obtain ⟨u, h⟩ := val_any y
    obtain ⟨us, hs⟩ := vals_any ys
    exact ⟨u :: us, .cons h hs⟩
/-- a thing at a that is no dict is no DicN -/
theorem dicN_ne {a : Addr} {xs : List (Int × Addr)} {ys : List V} {φ : Heap → Prop} (hl : xs.length = ys.length) (h : ∀ h o, φ h → h.get? a = some o → ∀ es ep, o.data ≠ .dict es ep) : DicN a xs ys ≠ .ext φ := fun z => by
  obtain ⟨us, hu⟩ := vals_any ys
  unfold DicN at z
  injection z with z
  let o : Obj := { cls := .type "dict", data := .dict ((xs.zip us).map fun p => (⟨p.1.1, .ref p.1.2, p.2⟩ : DictEntry)).toArray 0 }
  let hp : Heap := { (default : Heap) with objs := (List.replicate (a + 1) o).toArray }
  have g : hp.get? a = some o := by
    have e : hp.objs[a]? = some o := by
      show (List.replicate (a + 1) o).toArray[a]? = some o
      simp
    unfold Heap.get?
    rw [e]
  have q : φ hp := by
    rw [← z]
    exact ⟨us, hu, by rw [← hu.length, hl], o, _, 0, g, ⟨rfl, rfl, rfl⟩, rfl, by simp⟩
  exact h hp o q g _ _ rfl
/-- .. but lists -/
theorem mu_noExt {a : Addr} {u : HO} {φ : Heap → Prop} (h : ∀ h o, φ h → h.get? a = some o → ∀ es ep, o.data ≠ .dict es ep) (m : Mu a u) : u ≠ .ext φ := fun z => by
  rcases m with ⟨xs, e⟩ | ⟨xs, e⟩ | ⟨xs, ys, hl, e⟩
  · rw [e] at z; cases z
  · rw [e] at z; cases z
  · exact dicN_ne hl h (e.symm.trans z)
theorem mu_noCode {a : Addr} {u : HO} {q : Str} (m : Mu a u) : u ≠ LamX.CodeO a q := mu_noExt (fun h o ⟨oc, vs, t, e, d, _⟩ g es ep z => by
  rw [e] at g
  cases g
  rw [d] at z
  cases z) m
theorem Mu.noT {a : Addr} {u : HO} (m : Mu a u) : isT u = false := by
  rcases m with ⟨xs, rfl⟩ | ⟨xs, rfl⟩ | ⟨xs, ys, hl, rfl⟩ <;> rfl
theorem Mu.l {a : Addr} {xs : List V} : Mu a (.lst xs) := .inl ⟨xs, rfl⟩
theorem IsD.mu {K : KF} {a : Addr} {ks : List D} {u : HO} {xs ys : List V} (h : IsD K a ks u xs ys) : Mu a u := by
  rcases h with ⟨zs, _, _, _, _, e⟩ | ⟨ns, as, h1, _, _, h2, _, _, _, e⟩
  · exact .inr (.inl ⟨_, e⟩)
  · exact .inr (.inr ⟨_, _, by rw [List.length_zip, List.length_map, h2, Nat.min_self, h1], e⟩)
theorem Cu.mu {K : KF} {a : Addr} {o : Ob} {u : HO} {xs : List V} (h : Cu K a o u xs) : Mu a u := by
  cases o with
  | l ds => exact .inl ⟨xs, h⟩
  | d ks vs =>
    obtain ⟨_, _, _, _, h⟩ := h
    exact h.mu
theorem Kp.but {N : PA1} {H H' : Hp} (hN : ∀ a, N a → ∃ u, H a = some u ∧ Mu a u) (h : ∀ a o, ¬ N a → H a = some o → H' a = some o) : Kp K N H H' := ⟨fun a o e n => .inl (h a o n e), fun t p hp => by
  obtain ⟨ps, h1, h2, h3⟩ := t p hp
  refine ⟨ps, h _ _ (fun z => ?_) h1, h2, fun pos cv hc => ?_⟩
  · obtain ⟨u, e2, m⟩ := hN _ z
    rw [h1] at e2
    cases e2
    cases m.noT
  · obtain ⟨c, e1, e2⟩ := h3 pos cv hc
    refine ⟨c, e1, h _ _ (fun z => ?_) e2⟩
    obtain ⟨u, e3, m⟩ := hN _ z
    rw [e2] at e3
    exact mu_noCode m (Option.some.inj e3).symm⟩
theorem Kp.seq {N : PA1} {H H' : Hp} (k : Kp K N H H') {a : Addr} {o : HO} (h : H a = some o) (n : ¬ N a) (t : isT o = false) : H' a = some o := by
  rcases k.go a o h n with e | e
  · exact e
  · rw [t] at e; cases e
theorem Kp.mono {N N' : PA1} {H H' : Hp} (k : Kp K N H H') (h : ∀ a, N a → N' a) : Kp K N' H H' := ⟨fun a o e n => k.go a o e fun z => n (h a z), k.tb⟩
theorem Kp.trans {N N' : PA1} {H H1 H2 : Hp} (a : Kp K N H H1) (b : Kp K N' H1 H2) (h : ∀ x o, H x = Option.some o → N' x → N x ∨ isT o = true) : Kp K N H H2 := ⟨fun c o e n => by
  rcases a.go c o e n with e1 | t
  · by_cases hc : N' c
    · rcases h c o e hc with z | z
      · exact absurd z n
      · exact .inr z
    · exact b.go c o e1 hc
  · exact .inr t, fun t => b.tb (a.tb t)⟩
end

theorem RpA.length {K : KF} {H : Hp} {P M : PA1} : ∀ {ds : List D} {xs : List V}, RpA K H P M ds xs → ds.length = xs.length
  | [], xs, h => by rw [RpA] at h; subst h; rfl
  | d :: ds, xs, h => by
    rw [RpA] at h
    obtain ⟨x, r, rfl, _, h2⟩ := h
    rw [List.length_cons, List.length_cons, RpA.length h2]
theorem RpA.nil {K : KF} {H : Hp} {P M : PA1} : RpA K H P M [] [] := by rw [RpA]
theorem RpA.cons {K : KF} {H : Hp} {P M : PA1} {d : D} {ds : List D} {x : V} {xs : List V} (a : Rp K H P M d x) (b : RpA K H P M ds xs) : RpA K H P M (d :: ds) (x :: xs) := by
  rw [RpA]; exact ⟨x, xs, rfl, a, b⟩
theorem RpA.cons_inv {K : KF} {H : Hp} {P M : PA1} {d : D} {ds : List D} {xs : List V} (h : RpA K H P M (d :: ds) xs) : ∃ x r, xs = x :: r ∧ Rp K H P M d x ∧ RpA K H P M ds r := by
  rw [RpA] at h; exact h
theorem RpA.get {K : KF} {H : Hp} {P M : PA1} : ∀ {ds : List D} {xs : List V} {i : Nat} {d : D}, RpA K H P M ds xs → ds[i]? = some d → ∃ x, xs[i]? = some x ∧ Rp K H P M d x
  | [], _, _, _, _, e => by simp at e
  | d :: ds, xs, 0, e, h, he => by
    obtain ⟨x, r, rfl, h1, _⟩ := h.cons_inv
    simp at he; subst he
    exact ⟨x, rfl, h1⟩
  | d :: ds, xs, i + 1, e, h, he => by
    obtain ⟨x, r, rfl, _, h2⟩ := h.cons_inv
    obtain ⟨y, h3, h4⟩ := RpA.get (i := i) h2 (by simpa using he)
    exact ⟨y, by simpa using h3, h4⟩
theorem RpA.get' {K : KF} {H : Hp} {P M : PA1} {ds : List D} {xs : List V} {i : Nat} {x : V} (h : RpA K H P M ds xs) (e : xs[i]? = some x) : ∃ d, ds[i]? = some d ∧ Rp K H P M d x := by
  have hl := h.length
  have hi : i < xs.length := (List.getElem?_eq_some_iff.mp e).1
  have e2 : ds[i]? = some (ds[i]'(by omega)) := List.getElem?_eq_getElem (by omega)
  obtain ⟨y, h1, h2⟩ := h.get e2
  rw [e] at h1; cases h1
  exact ⟨_, e2, h2⟩
theorem RpA.append {K : KF} {H : Hp} {P M : PA1} : ∀ {ds es : List D} {xs ys : List V}, RpA K H P M ds xs → RpA K H P M es ys → RpA K H P M (ds ++ es) (xs ++ ys)
  | [], _, xs, _, h, g => by
    rw [RpA] at h; subst h; exact g
  | d :: ds, es, xs, ys, h, g => by
    obtain ⟨x, r, rfl, h1, h2⟩ := h.cons_inv
    exact .cons h1 (RpA.append h2 g)
theorem RpA.take {K : KF} {H : Hp} {P M : PA1} : ∀ {ds : List D} {xs : List V} (n : Nat), RpA K H P M ds xs → RpA K H P M (ds.take n) (xs.take n)
  | _, _, 0, _ => .nil
  | [], xs, n + 1, h => by rw [RpA] at h; subst h; exact .nil
  | d :: ds, xs, n + 1, h => by
    obtain ⟨x, r, rfl, h1, h2⟩ := h.cons_inv
    exact .cons h1 (RpA.take n h2)
theorem RpA.drop {K : KF} {H : Hp} {P M : PA1} : ∀ {ds : List D} {xs : List V} (n : Nat), RpA K H P M ds xs → RpA K H P M (ds.drop n) (xs.drop n)
  | _, _, 0, h => h
  | [], xs, n + 1, h => by rw [RpA] at h; subst h; exact .nil
  | d :: ds, xs, n + 1, h => by
    obtain ⟨x, r, rfl, h1, h2⟩ := h.cons_inv
    exact RpA.drop n h2
theorem RpA.reverse {K : KF} {H : Hp} {P M : PA1} : ∀ {ds : List D} {xs : List V}, RpA K H P M ds xs → RpA K H P M ds.reverse xs.reverse
  | [], xs, h => by rw [RpA] at h; subst h; exact .nil
  | d :: ds, xs, h => by
    obtain ⟨x, r, rfl, h1, h2⟩ := h.cons_inv
    rw [List.reverse_cons, List.reverse_cons]
    exact (RpA.reverse h2).append (.cons h1 .nil)
theorem RpA.eraseIdx {K : KF} {H : Hp} {P M : PA1} {ds : List D} {xs : List V} (n : Nat) (h : RpA K H P M ds xs) : RpA K H P M (ds.eraseIdx n) (xs.eraseIdx n) := by
  rw [List.eraseIdx_eq_take_drop_succ, List.eraseIdx_eq_take_drop_succ]
  exact (h.take n).append (h.drop (n + 1))
theorem RpA.set {K : KF} {H : Hp} {P M : PA1} : ∀ {ds : List D} {xs : List V} {d : D} {x : V} (n : Nat), RpA K H P M ds xs → Rp K H P M d x → RpA K H P M (ds.set n d) (xs.set n x)
  | [], xs, _, _, n, h, _ => by rw [RpA] at h; subst h; exact .nil
  | e :: ds, xs, d, x, 0, h, g => by
    obtain ⟨y, r, rfl, _, h2⟩ := h.cons_inv
    exact .cons g h2
  | e :: ds, xs, d, x, n + 1, h, g => by
    obtain ⟨y, r, rfl, h1, h2⟩ := h.cons_inv
    exact .cons h1 (RpA.set n h2 g)

/-- from one heap to a later one -/
structure Mo (K : KF) (H H' : Hp) (P P' M M' : PA1) : Prop where
  /-- lists are kept outside M, tuples anywhere -/
  lst : ∀ a xs, ¬ M a → H a = some (.lst xs) → H' a = some (.lst xs)
  tup : ∀ a xs, Rd H a (.tup xs) → Rd H' a (.tup xs)
  frz : ∀ a o u, H a = some (.frz o u) → H' a = some (.frz o u)
  ext : ∀ a φ, ¬ M a → H a = some (.ext φ) → H' a = some (.ext φ)
  dic : ∀ a kvs, ¬ M a → H a = some (.dK kvs) → H' a = some (.dK kvs)
  cod : ∀ a q, H a = some (LamX.CodeO a q) → H' a = some (LamX.CodeO a q)
  xd : ∀ a fs, H a = some (.xd fs) → H' a = some (.xd fs)
  pot : ∀ a, P a → P' a
  mem : ∀ a u, H a = some u → isT u = false → M' a → M a
theorem Mo.mu {K : KF} {H H' : Hp} {P P' M M' : PA1} (m : Mo K H H' P P' M M') {a : Addr} {u : HO} (n : ¬ M a) (e : H a = some u) (h : Mu a u) : H' a = some u := by
  rcases h with ⟨xs, rfl⟩ | ⟨xs, rfl⟩ | ⟨xs, ys, hl, rfl⟩
  · exact m.lst a xs n e
  · exact m.dic a xs n e
  · exact m.ext a _ n e
mutual
theorem Rp.mo {K : KF} {H H' : Hp} {P P' M M' : PA1} (m : Mo K H H' P P' M M') : ∀ {d : D} {v : V}, Rp K H P M d v → Rp K H' P' M' d v
  | .non, v, h => by rw [Rp] at h ⊢; exact h
  | .bl _, v, h => by rw [Rp] at h ⊢; exact h
  | .int _, v, h => by rw [Rp] at h ⊢; exact h
  | .str _, v, h => by rw [Rp] at h ⊢; exact h
  | .tup ds, v, h => by
    rw [Rp] at h ⊢
    obtain ⟨a, xs, e, h1, h2⟩ := h
    refine ⟨a, xs, e, ?_, RpA.mo m h2⟩
    rcases h1 with h1 | h1
    · exact .inl (m.tup a xs h1)
    · exact .inr h1
  | .lst ds, v, h => by
    rw [Rp] at h ⊢
    obtain ⟨a, xs, e, n, h1, h2⟩ := h
    exact ⟨a, xs, e, fun z => n (m.mem a _ h1 rfl z), m.lst a xs n h1, RpA.mo m h2⟩
  | .dct ks vs, v, h => by
    rw [Rp] at h ⊢
    obtain ⟨a, u, xs, ys, e, n, h1, d, h2, h3⟩ := h
    exact ⟨a, u, xs, ys, e, fun z => n (m.mem a _ h1 d.mu.noT z), m.mu n h1 d.mu, d, RpA.mo m h2, RpA.mo m h3⟩
  | .ins c vs, v, h => by
    rw [Rp] at h ⊢
    obtain ⟨a, C, xs, e, n, hc, h1, h2⟩ := h
    exact ⟨a, C, xs, e, fun z => n (m.mem a _ h1 rfl z), hc, m.ext a _ n h1, RpA.mo m h2⟩
  | .fnv x, v, h => by rw [Rp] at h ⊢; exact h
  | .clo n cl, v, h => by
    rw [Rp] at h ⊢
    obtain ⟨f, c, e, n, h1, h2⟩ := h
    exact ⟨f, c, e, fun z => n (m.mem f _ h1 rfl z), m.ext f _ n h1, m.cod c _ h2⟩
  | .pot, v, h => by
    rw [Rp] at h ⊢
    obtain ⟨a, e, h⟩ := h
    exact ⟨a, e, m.pot a h⟩
  | .scr ns, v, h => by
    rw [Rp] at h ⊢
    obtain ⟨a, e, h⟩ := h
    refine ⟨a, e, ?_⟩
    rcases h with ⟨o, h⟩ | h
    · exact .inl ⟨o, m.frz a o _ h⟩
    · exact .inr h
  | .exc c d, v, h => by
    rw [Rp] at h ⊢
    obtain ⟨a, C, x, y, e, n, hc, h1, h2, h3⟩ := h
    exact ⟨a, C, x, y, e, fun z => n (m.mem a _ h1 rfl z), hc, m.ext a _ n h1, m.xd x _ h2, Rp.mo m h3⟩
theorem RpA.mo {K : KF} {H H' : Hp} {P P' M M' : PA1} (m : Mo K H H' P P' M M') : ∀ {ds : List D} {xs : List V}, RpA K H P M ds xs → RpA K H' P' M' ds xs
  | [], xs, h => by rw [RpA] at h ⊢; exact h
  | d :: ds, xs, h => by
    obtain ⟨x, r, rfl, h1, h2⟩ := h.cons_inv
    exact .cons (Rp.mo m h1) (RpA.mo m h2)
end
/-- N may have changed: things, all within M -/
theorem Mo.of {K : KF} {H H' : Hp} {P P' M M' N : PA1} (k : Kp K N H H') (hl : ∀ a, N a → ∃ u, H a = some u ∧ Mu a u) (hN : ∀ a, N a → M a) (hP : ∀ a, P a → P' a) (hM : ∀ a, M' a → M a ∨ Nw H a) : Mo K H H' P P' M M' := by
  have nn : ∀ {a : Addr} {o : HO}, H a = some o → ¬ Mu a o → ¬ N a := fun e q z => by
    obtain ⟨u, e2, m⟩ := hl _ z
    rw [e] at e2
    cases e2
    exact q m
  exact {
    lst := fun a xs n h => k.seq h (fun z => n (hN a z)) rfl
    ext := fun a xs n h => k.seq h (fun z => n (hN a z)) rfl
    dic := fun a xs n h => k.seq h (fun z => n (hN a z)) rfl
    cod := fun a q h => k.seq h (nn h fun m => mu_noCode m rfl) rfl
    frz := fun a o u h => k.seq h (nn h fun m => by rcases m with ⟨_, z⟩ | ⟨_, z⟩ | ⟨_, _, _, z⟩ <;> cases z) rfl
    xd := fun a fs h => k.seq h (nn h fun m => by rcases m with ⟨_, z⟩ | ⟨_, z⟩ | ⟨_, _, _, z⟩ <;> cases z) rfl
    tup := fun a xs h => by
      rcases h with h | ⟨o, h⟩
      · exact .inl (k.seq h (nn h fun m => by rcases m with ⟨_, z⟩ | ⟨_, z⟩ | ⟨_, _, _, z⟩ <;> cases z) rfl)
      · exact .inr ⟨o, k.seq h (nn h fun m => by rcases m with ⟨_, z⟩ | ⟨_, z⟩ | ⟨_, _, _, z⟩ <;> cases z) rfl⟩
    pot := hP
    mem := fun a u h ht z => by
      rcases hM a z with q | q
      · exact q
      · exact (q.no h ht).elim }
theorem Mo.grow {K : KF} {H H' : Hp} {P M : PA1} (k : Kp K (fun _ => False) H H') : Mo K H H' P P M M :=
  .of k (fun _ z => z.elim) (fun _ z => z.elim) (fun _ z => z) fun _ z => .inl z
theorem Mo.less {K : KF} {H : Hp} {P M M' : PA1} (h : ∀ a, M' a → M a) : Mo K H H P P M M' :=
  .of (N := fun _ => False) Kp.refl (fun _ z => z.elim) (fun _ z => z.elim) (fun _ z => z) fun a z => .inl (h a z)

theorem Rp.rs {K : KF} {H : Hp} {P M : PA1} {d : D} {v : V} (h : Rp K H P M d v) : Rs K H P M d v := by
  cases d with
  | dct ks vs =>
    rw [Rp] at h
    obtain ⟨a, u, xs, ys, e, _, h1, h2⟩ := h
    exact ⟨a, u, xs, ys, e, h1, h2⟩
  | lst ds =>
    rw [Rp] at h
    obtain ⟨a, xs, e, _, h1, h2⟩ := h
    exact ⟨a, xs, e, h1, h2⟩
  | _ => exact h

/-! ### the state between two steps -/
/-- what is fixed: F the foreign lists (their contents by HF), P0 H0 the entry of the frame, hd data held -/
structure Gh where
  F : PA1
  HF : Hp
  P0 : PA1
  H0 : Hp
  hd : List (D × V)
def Own (ρ : List Sl) (σ : St) (a : Addr) : Prop := ∃ (i : Nat) (ds : Ob), ρ[i]? = some (.ow ds) ∧ σ[i]? = some (some (V.ref a))
def Mx (F P : PA1) (ρ : List Sl) (σ : St) : PA1 := fun a => F a ∨ P a ∨ Own ρ σ a
def PotAt (H : Hp) (t : Nat) (a : Addr) : Prop := ∃ i j k : Int, H a = some (.lst [.int i, .int j, .int k]) ∧ 0 ≤ i ∧ i < 10 ^ 300 ∧ 0 ≤ j ∧ j < 2 ^ 61 ∧ 0 ≤ k ∧ k ≤ t
theorem PotAt.mono {H : Hp} {t t' : Nat} {a : Addr} (h : PotAt H t a) (l : t ≤ t') : PotAt H t' a := by
  obtain ⟨i, j, k, e, h1, h2, h3, h4, h5, h6⟩ := h
  exact ⟨i, j, k, e, h1, h2, h3, h4, h5, by omega⟩

structure Sat (K : KF) (G : Gh) (P : PA1) (ρ : List Sl) (t : Nat) (σ : St) (H : Hp) : Prop where
  len : ρ.length = σ.length
  im : ∀ (i : Nat) (d : D), ρ[i]? = some (.im d) → ∃ (v : V), σ[i]? = some (some v) ∧ Rp K H P (Mx G.F P ρ σ) d v
  ow : ∀ (i : Nat) (ds : Ob), ρ[i]? = some (.ow ds) → ∃ (a : Addr) (u : HO) (xs : List V), σ[i]? = some (some (.ref a)) ∧ H a = some u ∧ Cu K a ds u xs ∧ RpA K H P (Mx G.F P ρ σ) ds.ct xs ∧ ¬ G.F a ∧ ¬ P a ∧ Nw G.H0 a
  dj : ∀ (i j : Nat) (ds es : Ob) (a : Addr), ρ[i]? = some (.ow ds) → ρ[j]? = some (.ow es) → σ[i]? = some (some (.ref a)) → σ[j]? = some (some (.ref a)) → i = j
  fo : ∀ a, G.F a → ∃ u, Mu a u ∧ G.HF a = some u ∧ H a = some u
  hd : ∀ p ∈ G.hd, Rp K H P (Mx G.F P ρ σ) p.1 p.2
  pt : ∀ a, P a → PotAt H t a
  p0 : ∀ a, G.P0 a → P a
  pn : ∀ a, P a → G.P0 a ∨ Nw G.H0 a
  kp : Kp K G.P0 G.H0 H
  fp : ∀ a, G.F a → ¬ P a
  tb : Tb K H

section
variable {K : KF} {G : Gh} {P : PA1} {ρ : List Sl} {t : Nat} {σ : St} {H H' : Hp}
/-- what is in M is a thing of H -/
theorem Sat.mlist (S : Sat K G P ρ t σ H) : ∀ a, Mx G.F P ρ σ a → ∃ u, H a = some u ∧ Mu a u := by
  rintro a (h | h | ⟨i, ds, h1, h2⟩)
  · obtain ⟨u, m, _, e⟩ := S.fo a h
    exact ⟨u, e, m⟩
  · obtain ⟨i, j, k, e, _⟩ := S.pt a h
    exact ⟨_, e, .l⟩
  · obtain ⟨b, u, xs, e1, e2, c, _⟩ := S.ow i ds h1
    rw [h2] at e1
    cases e1
    exact ⟨u, e2, c.mu⟩
theorem Sat.h0 (S : Sat K G P ρ t σ H) {a : Addr} (h : Nw H a) : Nw G.H0 a := fun o e => by
  by_cases hp : G.P0 a
  · obtain ⟨i, j, k, e2, _⟩ := S.pt a (S.p0 a hp)
    exact (h.no e2 rfl).elim
  · rcases S.kp.go a o e hp with e2 | e2
    · exact h o e2
    · exact e2
/-- the heap has grown -/
theorem Sat.grow (S : Sat K G P ρ t σ H) (k : Kp K (fun _ => False) H H') : Sat K G P ρ t σ H' where
  len := S.len
  im := fun i d e => let ⟨v, h1, h2⟩ := S.im i d e; ⟨v, h1, h2.mo (.grow k)⟩
  ow := fun i ds e => let ⟨a, u, xs, h1, h2, c, h3, h4⟩ := S.ow i ds e; ⟨a, u, xs, h1, k.seq h2 id c.mu.noT, c, h3.mo (.grow k), h4⟩
  dj := S.dj
  fo := fun a h => let ⟨u, m, e1, e2⟩ := S.fo a h; ⟨u, m, e1, k.seq e2 id m.noT⟩
  hd := fun p hp => (S.hd p hp).mo (.grow k)
  pt := fun a h => let ⟨i, j, l, e, r⟩ := S.pt a h; ⟨i, j, l, k.seq e id rfl, r⟩
  p0 := S.p0
  pn := S.pn
  kp := S.kp.trans k fun _ _ _ z => z.elim
  fp := S.fp
  tb := k.tb S.tb
def Gh.add (G : Gh) (a : Addr) (u : HO) : Gh := { G with F := fun b => G.F b ∨ b = a, HF := upd G.HF a u }
def Gh.hold (G : Gh) (d : D) (v : V) : Gh := { G with hd := (d, v) :: G.hd }
def Gh.holds (G : Gh) (l : List (D × V)) : Gh := { G with hd := l ++ G.hd }
/-- a new thing, foreign from now on -/
theorem Sat.add (S : Sat K G P ρ t σ H) {a : Addr} {u : HO} (m : Mu a u) (k : Kp K (fun _ => False) H H') (h0 : H a = none) (h1 : H' a = some u) : Sat K (G.add a u) P ρ t σ H' := by
  have nm : ¬ Mx G.F P ρ σ a := fun z => by
    obtain ⟨ys, e, _⟩ := S.mlist a z
    rw [h0] at e; cases e
  have mo : Mo K H H' P P (Mx G.F P ρ σ) (Mx (G.add a u).F P ρ σ) := .of k (fun _ z => z.elim) (fun _ z => z.elim) (fun _ z => z) fun b z => by
    rcases z with (z | z) | z
    · exact .inl (.inl z)
    · subst z; exact .inr (nw_of h0)
    · exact .inl (.inr z)
  refine ⟨S.len, fun i d e => ?_, fun i ds e => ?_, S.dj, fun b h => ?_, fun p hp => (S.hd p hp).mo mo, fun b h => ?_, S.p0, S.pn, S.kp.trans k fun _ _ _ z => z.elim, fun b h => ?_, k.tb S.tb⟩
  · obtain ⟨v, h1, h2⟩ := S.im i d e
    exact ⟨v, h1, h2.mo mo⟩
  · obtain ⟨b, w, ys, e1, e2, c, e3, e4, e5, e6⟩ := S.ow i ds e
    refine ⟨b, w, ys, e1, k.seq e2 id c.mu.noT, c, e3.mo mo, fun z => ?_, e5, e6⟩
    rcases z with z | z
    · exact e4 z
    · subst z; rw [h0] at e2; cases e2
  · rcases h with h | h
    · obtain ⟨ys, m, e1, e2⟩ := S.fo b h
      refine ⟨ys, m, ?_, k.seq e2 id m.noT⟩
      show upd G.HF a _ b = _
      rw [upd_ne (fun z => by subst z; rw [h0] at e2; cases e2)]
      exact e1
    · subst h
      exact ⟨u, m, upd_same, h1⟩
  · obtain ⟨i, j, l, e, r⟩ := S.pt b h
    exact ⟨i, j, l, k.seq e id rfl, r⟩
  · rcases h with h | h
    · exact S.fp b h
    · subst h
      intro z
      obtain ⟨i, j, l, e, _⟩ := S.pt b z
      rw [h0] at e; cases e
/-- the new thing is data from now on -/
theorem Sat.less {a : Addr} {u : HO} (S : Sat K (G.add a u) P ρ t σ H) (hF : ∀ b, G.F b → b ≠ a) : Sat K G P ρ t σ H := by
  have mo : Mo K H H P P (Mx (G.add a u).F P ρ σ) (Mx G.F P ρ σ) := .less fun b z => by
    rcases z with z | z
    · exact .inl (.inl z)
    · exact .inr z
  refine ⟨S.len, fun i d e => ?_, fun i ds e => ?_, S.dj, fun b h => ?_, fun p hp => (S.hd p hp).mo mo, S.pt, S.p0, S.pn, S.kp, fun b h => S.fp b (.inl h), S.tb⟩
  · obtain ⟨v, h1, h2⟩ := S.im i d e
    exact ⟨v, h1, h2.mo mo⟩
  · obtain ⟨b, w, ys, e1, e2, c, e3, e4, e5⟩ := S.ow i ds e
    exact ⟨b, w, ys, e1, e2, c, e3.mo mo, fun z => e4 (.inl z), e5⟩
  · obtain ⟨ys, m, e1, e2⟩ := S.fo b (.inl h)
    refine ⟨ys, m, ?_, e2⟩
    have e1 : upd G.HF a _ b = _ := e1
    rw [upd_ne (hF b h)] at e1
    exact e1
theorem Sat.hold (S : Sat K G P ρ t σ H) {d : D} {v : V} (h : Rp K H P (Mx G.F P ρ σ) d v) : Sat K (G.hold d v) P ρ t σ H :=
  ⟨S.len, S.im, S.ow, S.dj, S.fo, fun p hp => by
    rcases List.mem_cons.mp hp with e | e
    · subst e; exact h
    · exact S.hd p e, S.pt, S.p0, S.pn, S.kp, S.fp, S.tb⟩
theorem Sat.unhold {d : D} {v : V} (S : Sat K (G.hold d v) P ρ t σ H) : Sat K G P ρ t σ H ∧ Rp K H P (Mx G.F P ρ σ) d v :=
  ⟨⟨S.len, S.im, S.ow, S.dj, S.fo, fun p hp => S.hd p (List.mem_cons_of_mem _ hp), S.pt, S.p0, S.pn, S.kp, S.fp, S.tb⟩, S.hd (d, v) List.mem_cons_self⟩
theorem Sat.holds (S : Sat K G P ρ t σ H) {l : List (D × V)} (h : ∀ p ∈ l, Rp K H P (Mx G.F P ρ σ) p.1 p.2) : Sat K (G.holds l) P ρ t σ H :=
  ⟨S.len, S.im, S.ow, S.dj, S.fo, fun p hp => by
    rcases List.mem_append.mp hp with e | e
    · exact h p e
    · exact S.hd p e, S.pt, S.p0, S.pn, S.kp, S.fp, S.tb⟩
theorem Sat.unholds {l : List (D × V)} (S : Sat K (G.holds l) P ρ t σ H) : Sat K G P ρ t σ H ∧ ∀ p ∈ l, Rp K H P (Mx G.F P ρ σ) p.1 p.2 :=
  ⟨⟨S.len, S.im, S.ow, S.dj, S.fo, fun p hp => S.hd p (List.mem_append_right _ hp), S.pt, S.p0, S.pn, S.kp, S.fp, S.tb⟩, fun p hp => S.hd p (List.mem_append_left _ hp)⟩

/-! ### results -/
theorem RpA.app_inv {M : PA1} : ∀ {ds es : List D} {xs ys : List V}, xs.length = ds.length → RpA K H P M (ds ++ es) (xs ++ ys) → RpA K H P M ds xs ∧ RpA K H P M es ys
  | [], _, [], _, _, h => ⟨.nil, h⟩
  | d :: ds, es, x :: xs, ys, hl, h => by
    obtain ⟨y, r, e, h1, h2⟩ := h.cons_inv
    cases e
    obtain ⟨a, b⟩ := RpA.app_inv (by simpa using hl) h2
    exact ⟨.cons h1 a, b⟩
/-- a thing as data -/
theorem rp_ob {M : PA1} {o : Ob} {a : Addr} {u : HO} {xs : List V} (n : ¬ M a) (e : H a = some u) (c : Cu K a o u xs) (ra : RpA K H P M o.ct xs) : Rp K H P M o.dat (.ref a) := by
  cases o with
  | l ds =>
    have c : u = .lst xs := c
    subst c
    show Rp K H P M (.lst ds) _
    rw [Rp]
    exact ⟨a, xs, rfl, n, e, ra⟩
  | d ks vs =>
    obtain ⟨xk, xv, rfl, hl, d⟩ := c
    obtain ⟨r1, r2⟩ := RpA.app_inv hl ra
    show Rp K H P M (.dct ks vs) _
    rw [Rp]
    exact ⟨a, u, xk, xv, rfl, n, e, d, r1, r2⟩
theorem rs_ob {M : PA1} {o : Ob} {a : Addr} {u : HO} {xs : List V} (e : H a = some u) (c : Cu K a o u xs) (ra : RpA K H P M o.ct xs) : Rs K H P M o.dat (.ref a) := by
  cases o with
  | l ds =>
    have c : u = .lst xs := c
    subst c
    exact ⟨a, xs, rfl, e, ra⟩
  | d ks vs =>
    obtain ⟨xk, xv, rfl, hl, d⟩ := c
    obtain ⟨r1, r2⟩ := RpA.app_inv hl ra
    exact ⟨a, u, xk, xv, rfl, e, d, r1, r2⟩
/-- the state behind an expression, and its value -/
def RS (K : KF) (G : Gh) (P : PA1) (ρ : List Sl) (t : Nat) (σ : St) (H : Hp) : R → V → Prop
  | .im d, v => Sat K G P ρ t σ H ∧ Rp K H P (Mx G.F P ρ σ) d v
  | .nw o, v => ∃ a u xs, v = .ref a ∧ Sat K (G.add a u) P ρ t σ H ∧ ¬ Mx G.F P ρ σ a ∧ Nw G.H0 a ∧ H a = some u ∧ Cu K a o u xs ∧ RpA K H P (Mx (G.add a u).F P ρ σ) o.ct xs
theorem RS.im {r : R} {v : V} (h : RS K G P ρ t σ H r v) : Sat K G P ρ t σ H ∧ Rp K H P (Mx G.F P ρ σ) r.d v := by
  cases r with
  | im d => exact h
  | nw o =>
    obtain ⟨a, u, xs, rfl, S, nm, h0, e, c, ra⟩ := h
    exact ⟨S.less fun b hb z => by subst z; exact nm (.inl hb), rp_ob nm e c (ra.mo (.less fun b z => by
      rcases z with z | z
      · exact .inl (.inl z)
      · exact .inr z))⟩
/-- an operand's value: a slot's, or data -/
def RO (K : KF) (G : Gh) (P : PA1) (ρ : List Sl) (t : Nat) (σ : St) (H : Hp) : Od → V → Prop
  | .sl i, v => Sat K G P ρ t σ H ∧ σ[i]? = some (some v)
  | .va d, v => Sat K G P ρ t σ H ∧ Rp K H P (Mx G.F P ρ σ) d v
@[simp] def rsv (ρ : List Sl) : Od → Option D
  | .va d => some d
  | .sl i => match ρ[i]? with
    | some (.im d) => some d
    | some (.ow o) => some o.dat
    | _ => none
theorem RO.sat {o : Od} {v : V} (h : RO K G P ρ t σ H o v) : Sat K G P ρ t σ H := by
  cases o <;> exact h.1
theorem rsv_ok {o : Od} {v : V} {d : D} (S : Sat K G P ρ t σ H) (h : RO K G P ρ t σ H o v) (e : rsv ρ o = some d) : Rs K H P (Mx G.F P ρ σ) d v := by
  cases o with
  | va x =>
    cases e
    exact h.2.rs
  | sl i =>
    have e : (match ρ[i]? with | some (.im d) => some d | some (.ow o) => some o.dat | _ => none) = some d := e
    have hv : σ[i]? = some (some v) := h.2
    split at e
    · rename_i x q
      cases e
      obtain ⟨v', h1, h2⟩ := S.im i _ q
      rw [hv] at h1; cases h1
      exact h2.rs
    · rename_i ds q
      cases e
      obtain ⟨a, u, xs, h1, h2, c, h3, _⟩ := S.ow i _ q
      rw [hv] at h1; cases h1
      exact rs_ob h2 c h3
    · cases e
end
end NB
set_option Elab.async false
set_option linter.all false
set_option maxRecDepth 100000
set_option maxHeartbeats 4000000
set_option autoImplicit false
/-! Readings by data: what an expression, a test, an argument list does to the state. -/
namespace NB
open PySem PySem.Spec PyProof.Rows L2

/-- what is wanted of an exception: its class, its value, the draws so far -/
abbrev KX := Str → D → Nat → Prop
/-- slots, draws, what is wanted behind -/
abbrev Wg (α : Type) := List Sl → Nat → (α → List Sl → Nat → Prop) → KX → Prop
abbrev W := Wg R
abbrev WO := Wg Od
/-- the state as a def is left -/
structure EndOk (K : KF) (G : Gh) (P : PA1) (t : Nat) (H : Hp) : Prop where
  pt : ∀ a, P a → PotAt H t a
  p0 : ∀ a, G.P0 a → P a
  pn : ∀ a, P a → G.P0 a ∨ Nw G.H0 a
  kp : Kp K G.P0 G.H0 H
  tb : Tb K H
/-- an exception of the class c with the value v leaves as E0 wants it -/
def LkE (K : KF) (EX : XK) (G : Gh) (E : KX) : Prop := ∀ (c : Str) (v : D) (t : Nat) (P : PA1) (H : Hp) (C x : Addr) (y : V), E c v t → ClsAt K c C → EndOk K G P t H → H x = some (.xd [("value", y)]) → Rp K H P (fun a => G.F a ∨ P a) v y → EX (.ref C) (some x) H
/-- what a frame's exceptions are to be, and what is known of its ghost -/
structure XX where
  ex : XK
  en : Gh → Prop
  add : ∀ (G : Gh) (a : Addr) (u : HO), Nw G.H0 a → en G → en (G.add a u)
  hold : ∀ (G : Gh) (d : D) (v : V), en G → en (G.hold d v)
  holds : ∀ (G : Gh) (l : List (D × V)), en G → en (G.holds l)
def XX.of (E : XK) : XX := ⟨E, fun _ => True, fun _ _ _ _ _ => trivial, fun _ _ _ _ => trivial, fun _ _ _ => trivial⟩
instance : Coe XK XX := ⟨XX.of⟩
/-- the frame entered at P, H, with the foreign things F -/
def XX.fr (E : XK) (F P : PA1) (H : Hp) : XX := ⟨E, fun G => G.P0 = P ∧ G.H0 = H ∧ ∀ a, G.F a → F a ∨ Nw H a, fun G a u n h => ⟨h.1, h.2.1, fun b z => by
    rcases z with z | z
    · exact h.2.2 b z
    · subst z
      exact .inr (h.2.1 ▸ n)⟩, fun _ _ _ h => h, fun _ _ h => h⟩
structure Lk (K : KF) (EX : XX) (G : Gh) (E : KX) : Prop where
  ek : LkE K EX.ex G E
  en : EX.en G
section
variable {K : KF} {EX : XX} {G : Gh} {E : KX}
theorem Lk.add {a : Addr} {u : HO} (h : Lk K EX G E) (n : Nw G.H0 a) : Lk K EX (G.add a u) E := ⟨fun c v t P H C x y e hc ok hx r =>
  h.ek c v t P H C x y e hc ⟨ok.pt, ok.p0, ok.pn, ok.kp, ok.tb⟩ hx (r.mo (.less fun b z => z.elim (fun z => .inl (.inl z)) .inr)), EX.add _ _ _ n h.en⟩
theorem Lk.hold {d : D} {v : V} (h : Lk K EX G E) : Lk K EX (G.hold d v) E := ⟨fun c v t P H C x y e hc ok hx r => h.ek c v t P H C x y e hc ⟨ok.pt, ok.p0, ok.pn, ok.kp, ok.tb⟩ hx r, EX.hold _ _ _ h.en⟩
theorem Lk.holds {l : List (D × V)} (h : Lk K EX G E) : Lk K EX (G.holds l) E := ⟨fun c v t P H C x y e hc ok hx r => h.ek c v t P H C x y e hc ⟨ok.pt, ok.p0, ok.pn, ok.kp, ok.tb⟩ hx r, EX.holds _ _ h.en⟩
/-- nothing is wanted -/
theorem LkE.no {EX : XK} (h : ∀ c d t, ¬ E c d t) : LkE K EX G E := fun c v t _ _ _ _ _ e => (h c v t e).elim
end

abbrev Rel (α β : Type) := Gh → PA1 → List Sl → Nat → St → Hp → α → β → Prop
def Go {α β : Type} (K : KF) (EX : XX) (R : Rel α β) (w : Wg α) : St → Hp → (β → Hp → Prop) → Prop := fun σ H Q =>
  ∃ (G : Gh) (P : PA1) (ρ : List Sl) (t : Nat) (Q' : α → List Sl → Nat → Prop) (E : KX), Sat K G P ρ t σ H ∧ w ρ t Q' E ∧ Lk K EX G E ∧
    ∀ r ρ' t' v H' P', Q' r ρ' t' → R G P' ρ' t' σ H' r v → Q v H'
/-- what is left to do: from the state behind the first part -/
def Rest {α β γ δ : Type} (K : KF) (EX : XX) (R : Rel α β) (R2 : Rel γ δ) (k : α → Wg γ) (σ : St) (Q : δ → Hp → Prop) (x : β) (H : Hp) : Prop :=
  ∃ (G : Gh) (P : PA1) (ρ : List Sl) (t : Nat) (r : α) (Q' : γ → List Sl → Nat → Prop) (E : KX), R G P ρ t σ H r x ∧ k r ρ t Q' E ∧ Lk K EX G E ∧
    ∀ r2 ρ' t' v H' P', Q' r2 ρ' t' → R2 G P' ρ' t' σ H' r2 v → Q v H'
def bindW {α γ : Type} (w : Wg α) (k : α → Wg γ) : Wg γ := fun ρ t Q E => w ρ t (fun r ρ1 t1 => k r ρ1 t1 Q E) E
@[simp] def pureW {α : Type} (r : α) : Wg α := fun ρ t Q _ => Q r ρ t
theorem go_bind {α β γ δ : Type} {K : KF} {EX : XX} {R : Rel α β} {R2 : Rel γ δ} {w : Wg α} {k : α → Wg γ} {σ : St} {H : Hp} {Q : δ → Hp → Prop}
    (h : Go K EX R2 (bindW w k) σ H Q) : Go K EX R w σ H (Rest K EX R R2 k σ Q) := by
  obtain ⟨G, P, ρ, t, Q', E, S, hw, lk, hq⟩ := h
  exact ⟨G, P, ρ, t, _, E, S, hw, lk, fun r ρ' t' v H' P' hr rel => ⟨G, P', ρ', t', r, Q', E, rel, hr, lk, hq⟩⟩

/-! ### judgements -/
/-- a value part of an operand -/
def ROv (K : KF) (G : Gh) (P : PA1) (ρ : List Sl) (σ : St) (H : Hp) : Od → V → Prop
  | .sl i, v => σ[i]? = some (some v)
  | .va d, v => Rp K H P (Mx G.F P ρ σ) d v
theorem RO.iff {K : KF} {G : Gh} {P : PA1} {ρ : List Sl} {t : Nat} {σ : St} {H : Hp} {o : Od} {v : V} : RO K G P ρ t σ H o v ↔ Sat K G P ρ t σ H ∧ ROv K G P ρ σ H o v := by
  cases o <;> exact Iff.rfl
def holdO (G : Gh) : Od → V → Gh
  | .sl _, _ => G
  | .va d, v => G.hold d v
def RT (K : KF) : Rel Bool Bool := fun G P ρ t σ H r v => Sat K G P ρ t σ H ∧ r = v
def RA (K : KF) : Rel (List D) (List V) := fun G P ρ t σ H r v => Sat K G P ρ t σ H ∧ RpA K H P (Mx G.F P ρ σ) r v
def ROA (K : KF) : Rel (List Od) (List V) := fun G P ρ t σ H r v => Sat K G P ρ t σ H ∧ Paired (ROv K G P ρ σ H) r v

abbrev DE (X : Cx) (EX : XX) (e : Expr) (w : W) : Prop := PE X e (Go (kX X) EX (RS (kX X)) w)
abbrev DO (X : Cx) (EX : XX) (e : Expr) (w : WO) : Prop := PE X e (Go (kX X) EX (RO (kX X)) w)
abbrev DT (X : Cx) (EX : XX) (e : Expr) (w : Wg Bool) : Prop := PT X e (Go (kX X) EX (RT (kX X)) w)
abbrev DA (X : Cx) (EX : XX) (es : List Expr) (w : Wg (List D)) : Prop := PA X es (Go (kX X) EX (RA (kX X)) w)
abbrev DOA (X : Cx) (EX : XX) (es : List Expr) (w : Wg (List Od)) : Prop := PA X es (Go (kX X) EX (ROA (kX X)) w)

theorem PE.imp {X : Cx} {e : Expr} {t t' : TE} (h : PE X e t) (i : ∀ σ H Q, t' σ H Q → t σ H Q) : PE X e t' := ⟨fun pins s σ H Q I q => h.run pins s σ H Q I (i σ H Q q)⟩
theorem PT.imp {X : Cx} {e : Expr} {t t' : TT} (h : PT X e t) (i : ∀ σ H Q, t' σ H Q → t σ H Q) : PT X e t' := ⟨fun pins s σ H Q I q => h.run pins s σ H Q I (i σ H Q q)⟩
theorem PA.imp {X : Cx} {e : List Expr} {t t' : TA} (h : PA X e t) (i : ∀ σ H Q, t' σ H Q → t σ H Q) : PA X e t' := ⟨fun pos pins s σ H Q I q => h.run pos pins s σ H Q I (i σ H Q q)⟩

section
variable {K : KF} {EX : XX} {G : Gh} {P P' : PA1} {ρ ρ' : List Sl} {t t' : Nat} {σ : St} {H H' : Hp} {o : Od} {x v : V} {d : D}
theorem RO.hold (h : RO K G P ρ t σ H o x) : Sat K (holdO G o x) P ρ t σ H := by
  cases o with
  | sl i => exact h.1
  | va d => exact h.1.hold h.2
theorem RO.back (h : RO K G P ρ t σ H o x) (S : Sat K (holdO G o x) P' ρ' t' σ H') : Sat K G P' ρ' t' σ H' ∧ RO K G P' ρ' t' σ H' o x := by
  cases o with
  | sl i => exact ⟨S, S, h.2⟩
  | va d =>
    obtain ⟨S', r⟩ := S.unhold
    exact ⟨S', S', r⟩
theorem Lk.holdO {E : KX} (h : Lk K EX G E) : Lk K EX (holdO G o x) E := by
  cases o
  · exact h
  · exact h.hold
theorem holdO_F : (holdO G o x).F = G.F := by cases o <;> rfl
/-- behind a second part under the first one's hold: an operand -/
theorem RO.back2 {o2 : Od} {y : V} (h : RO K G P ρ t σ H o x) (h2 : RO K (holdO G o x) P' ρ' t' σ H' o2 y) : Sat K G P' ρ' t' σ H' ∧ RO K G P' ρ' t' σ H' o x ∧ RO K G P' ρ' t' σ H' o2 y := by
  obtain ⟨S, r⟩ := h.back h2.sat
  refine ⟨S, r, ?_⟩
  cases o2 with
  | sl i => exact ⟨S, h2.2⟩
  | va d =>
    have q := h2.2
    rw [holdO_F] at q
    exact ⟨S, q⟩
end

/-! ### operations on values, by data -/
/-- what an operation gives: data of the grown heap, or a list that is new -/
def Rz (K : KF) (H H' : Hp) (P M : PA1) : R → V → Prop
  | .im d, z => Rp K H' P M d z
  | .nw o, z => ∃ a u xs, z = .ref a ∧ H a = none ∧ H' a = some u ∧ Cu K a o u xs ∧ RpA K H' P (fun b => M b ∨ b = a) o.ct xs
def Ml (H : Hp) (M : PA1) : Prop := ∀ a, M a → ∃ u, H a = some u ∧ Mu a u
theorem rz_rs {K : KF} {G : Gh} {P : PA1} {ρ : List Sl} {t : Nat} {σ : St} {H H' : Hp} {r : R} {z : V} (S : Sat K G P ρ t σ H) (k : Kp K (fun _ => False) H H') (h : Rz K H H' P (Mx G.F P ρ σ) r z) : RS K G P ρ t σ H' r z := by
  cases r with
  | im d => exact ⟨S.grow k, h⟩
  | nw o =>
    obtain ⟨a, u, xs, rfl, h0, h1, c, ra⟩ := h
    refine ⟨a, u, xs, rfl, S.add c.mu k h0 h1, fun z => ?_, S.h0 (nw_of h0), h1, c, ra.mo (.less fun b z => ?_)⟩
    · obtain ⟨ys, e, _⟩ := S.mlist a z
      rw [h0] at e; cases e
    · rcases z with (z | z) | z
      · exact .inl (.inl z)
      · exact .inr z
      · exact .inl (.inr z)
abbrev R1D := D → Option R
abbrev R2D := D → D → Option R
abbrev RND := List D → Option R
def Fit (K : KF) (H : Hp) (P M : PA1) (r : Option R) (Q : VK) : Prop := ∃ r', r = some r' ∧ ∀ z H', Kp K (fun _ => False) H H' → Rz K H H' P M r' z → Q z H'
def Op2 (X : Cx) (f : Value → Value → Sem Value) (g : R2D) : Prop := OpR X f fun x y H Q => ∃ (P M : PA1) (d e : D), Rs (kX X) H P M d x ∧ Rs (kX X) H P M e y ∧ Ml H M ∧ Fit (kX X) H P M (g d e) Q
def Op1 (X : Cx) (f : Value → Sem Value) (g : R1D) : Prop := UnR X f fun x H Q => ∃ (P M : PA1) (d : D), Rs (kX X) H P M d x ∧ Ml H M ∧ Fit (kX X) H P M (g d) Q
def OpN (X : Cx) (f : List Value → Sem Value) (g : RND) : Prop :=
  ∀ (pins : List (Addr × Obj)) (s : Shared) (σ : St) (H : Hp) (xs : List V) (us : List Value) (Q : VK) (P M : PA1) (ds : List D), Inv X pins σ H s → Vals xs us → Paired (Rs (kX X) H P M) ds xs → Ml H M → Fit (kX X) H P M (g ds) Q →
    wpAny (model X.prog X.w) X.A (f us) (EP X pins σ Q) X.xe s

@[simp] def op2W (g : R2D) (a b : WO) : W := fun ρ t Q E => a ρ t (fun x ρ1 t1 => b ρ1 t1 (fun y ρ2 t2 => ∃ d e r, rsv ρ2 x = some d ∧ rsv ρ2 y = some e ∧ g d e = some r ∧ Q r ρ2 t2) E) E
@[simp] def op1W (g : R1D) (a : WO) : W := fun ρ t Q E => a ρ t (fun x ρ1 t1 => ∃ d r, rsv ρ1 x = some d ∧ g d = some r ∧ Q r ρ1 t1) E
@[simp] def rsvs (ρ : List Sl) : List Od → Option (List D)
  | [] => some []
  | o :: os => match rsv ρ o, rsvs ρ os with
    | some d, some ds => some (d :: ds)
    | _, _ => none
@[simp] def opNW (g : RND) (a : Wg (List Od)) : W := fun ρ t Q E => a ρ t (fun x ρ1 t1 => ∃ ds r, rsvs ρ1 x = some ds ∧ g ds = some r ∧ Q r ρ1 t1) E

section
variable {X : Cx} {EX : XX} {a b c : Expr} {pos : Pos} {wa wb wc : WO} {σ : St} {H : Hp} {Q : VK}
theorem op2_read {g : R2D} (h : Go (kX X) EX (RS (kX X)) (op2W g wa wb) σ H Q) :
    Go (kX X) EX (RO (kX X)) wa σ H fun x H1 => Go (kX X) EX (RO (kX X)) wb σ H1 fun y H2 => ∃ (P M : PA1) (d e : D), Rs (kX X) H2 P M d x ∧ Rs (kX X) H2 P M e y ∧ Ml H2 M ∧ Fit (kX X) H2 P M (g d e) Q := by
  obtain ⟨G, P, ρ, t, Q', E, S, hw, lk, hq⟩ := h
  refine ⟨G, P, ρ, t, _, E, S, hw, lk, fun o ρ1 t1 x H1 P1 h1 r1 => ?_⟩
  refine ⟨holdO G o x, P1, ρ1, t1, _, E, r1.hold, h1, lk.holdO, fun o2 ρ2 t2 y H2 P2 h2 r2 => ?_⟩
  obtain ⟨d, e, r, e1, e2, e3, q⟩ := h2
  obtain ⟨S2, q1, q2⟩ := r1.back2 r2
  refine ⟨P2, Mx G.F P2 ρ2 σ, d, e, rsv_ok S2 q1 e1, rsv_ok S2 q2 e2, S2.mlist, r, e3, fun z H' k rz => ?_⟩
  exact hq r ρ2 t2 z H' P2 q (rz_rs S2 k rz)
theorem op1_read {g : R1D} (h : Go (kX X) EX (RS (kX X)) (op1W g wa) σ H Q) :
    Go (kX X) EX (RO (kX X)) wa σ H fun x H1 => ∃ (P M : PA1) (d : D), Rs (kX X) H1 P M d x ∧ Ml H1 M ∧ Fit (kX X) H1 P M (g d) Q := by
  obtain ⟨G, P, ρ, t, Q', E, S, hw, lk, hq⟩ := h
  refine ⟨G, P, ρ, t, _, E, S, hw, lk, fun o ρ1 t1 x H1 P1 h1 r1 => ?_⟩
  obtain ⟨d, r, e1, e3, q⟩ := h1
  have S1 := r1.sat
  exact ⟨P1, Mx G.F P1 ρ1 σ, d, rsv_ok S1 r1 e1, S1.mlist, r, e3, fun z H' k rz => hq r ρ1 t1 z H' P1 q (rz_rs S1 k rz)⟩
theorem rsvs_ok {K : KF} {G : Gh} {P : PA1} {ρ : List Sl} {t : Nat} {σ : St} {H : Hp} (S : Sat K G P ρ t σ H) : ∀ {os : List Od} {vs : List V} {ds : List D}, Paired (ROv K G P ρ σ H) os vs → rsvs ρ os = some ds → Paired (Rs K H P (Mx G.F P ρ σ)) ds vs
  | _, _, ds, .nil, e => by
    cases e
    exact .nil
  | o :: os, _, ds, .cons r p, e => by
    rw [rsvs] at e
    split at e
    · rename_i d ds' e1 e2
      cases e
      exact .cons (rsv_ok S (RO.iff.mpr ⟨S, r⟩) e1) (rsvs_ok S p e2)
    · cases e
theorem opN_read {g : RND} {w : Wg (List Od)} (h : Go (kX X) EX (RS (kX X)) (opNW g w) σ H Q) :
    Go (kX X) EX (ROA (kX X)) w σ H fun xs H1 => ∃ (P M : PA1) (ds : List D), Paired (Rs (kX X) H1 P M) ds xs ∧ Ml H1 M ∧ Fit (kX X) H1 P M (g ds) Q := by
  obtain ⟨G, P, ρ, t, Q', E, S, hw, lk, hq⟩ := h
  refine ⟨G, P, ρ, t, _, E, S, hw, lk, fun os ρ1 t1 xs H1 P1 h1 r1 => ?_⟩
  obtain ⟨ds, r, e1, e3, q⟩ := h1
  obtain ⟨S1, p1⟩ := r1
  exact ⟨P1, Mx G.F P1 ρ1 σ, ds, rsvs_ok S1 p1 e1, S1.mlist, r, e3, fun z H' k rz => hq r ρ1 t1 z H' P1 q (rz_rs S1 k rz)⟩

theorem de_bin {op : Operator} {g : R2D} (ho : Op2 X (binaryOp op) g) (ha : DO X EX a wa) (hb : DO X EX b wb) : DE X EX (.BinOp a op b pos) (op2W g wa wb) :=
  PE.imp (pe_op ho ha hb) fun _ _ _ h => op2_read h
theorem de_un {op : UnaryOp} {g : R1D} (ho : Op1 X (unaryOp op) g) (ha : DO X EX a wa) : DE X EX (.UnaryOp op a pos) (op1W g wa) :=
  PE.imp (pe_un ho ha) fun _ _ _ h => op1_read h
theorem de_cmp {op : CmpOp} {g : R2D} (ho : Op2 X (compareOp op) g) (ha : DO X EX a wa) (hb : DO X EX b wb) (hm : behindInMarks op b = false) : DE X EX (.Compare a [op] [b] pos) (op2W g wa wb) :=
  PE.imp (pe_cmpR ho ha hb hm) fun _ _ _ h => op2_read h
/-- a bool as a test -/
@[simp] def testW (w : W) : Wg Bool := fun ρ t Q E => w ρ t (fun r ρ1 t1 => ∃ b, r = .im (.bl b) ∧ Q b ρ1 t1) E
theorem test_read {w : W} {QT : Bool → Hp → Prop} (h : Go (kX X) EX (RT (kX X)) (testW w) σ H QT) : Go (kX X) EX (RS (kX X)) w σ H fun x H' => ∃ k, x = .bl k ∧ QT k H' := by
  obtain ⟨G, P, ρ, t, Q', E, S, hw, lk, hq⟩ := h
  refine ⟨G, P, ρ, t, _, E, S, hw, lk, fun r ρ1 t1 x H1 P1 h1 r1 => ?_⟩
  obtain ⟨k, rfl, q⟩ := h1
  obtain ⟨S1, e⟩ := r1
  rw [Rp] at e
  exact ⟨k, e, hq k ρ1 t1 k H1 P1 q ⟨S1, rfl⟩⟩
theorem dt_cmp {op : CmpOp} {g : R2D} (ho : Op2 X (compareOp op) g) (ha : DO X EX a wa) (hb : DO X EX b wb) (hm : behindInMarks op b = false) : DT X EX (.Compare a [op] [b] pos) (testW (op2W g wa wb)) :=
  PT.imp (pt_cmpR ho ha hb hm) fun _ _ _ h => op2_read (test_read h)
/-- two comparisons, the middle one asked once -/
@[simp] def chainW (g g' : R2D) (a b c : WO) : W := fun ρ t Q E => a ρ t (fun x ρ1 t1 => b ρ1 t1 (fun y ρ2 t2 => ∃ d e k, rsv ρ2 x = some d ∧ rsv ρ2 y = some e ∧ g d e = some (.im (.bl k)) ∧
  if k = true then c ρ2 t2 (fun z ρ3 t3 => ∃ e' f r, rsv ρ3 y = some e' ∧ rsv ρ3 z = some f ∧ g' e' f = some r ∧ Q r ρ3 t3) E else Q (.im (.bl false)) ρ2 t2) E) E
theorem chain_read {g g' : R2D} (h : Go (kX X) EX (RS (kX X)) (chainW g g' wa wb wc) σ H Q) :
    Go (kX X) EX (RO (kX X)) wa σ H fun x H1 => Go (kX X) EX (RO (kX X)) wb σ H1 fun y H2 => ∃ (P M : PA1) (d e : D), Rs (kX X) H2 P M d x ∧ Rs (kX X) H2 P M e y ∧ Ml H2 M ∧ Fit (kX X) H2 P M (g d e) fun z H3 => ∃ k, z = .bl k ∧
      (if k = true then Go (kX X) EX (RO (kX X)) wc σ H3 (fun w' H4 => ∃ (P M : PA1) (d e : D), Rs (kX X) H4 P M d y ∧ Rs (kX X) H4 P M e w' ∧ Ml H4 M ∧ Fit (kX X) H4 P M (g' d e) Q) else Q (.bl false) H3) := by
  obtain ⟨G, P, ρ, t, Q', E, S, hw, lk, hq⟩ := h
  refine ⟨G, P, ρ, t, _, E, S, hw, lk, fun o ρ1 t1 x H1 P1 h1 r1 => ?_⟩
  refine ⟨holdO G o x, P1, ρ1, t1, _, E, r1.hold, h1, lk.holdO, fun o2 ρ2 t2 y H2 P2 h2 r2 => ?_⟩
  obtain ⟨d, e, k, e1, e2, e3, q⟩ := h2
  obtain ⟨S2, q1, q2⟩ := r1.back2 r2
  refine ⟨P2, Mx G.F P2 ρ2 σ, d, e, rsv_ok S2 q1 e1, rsv_ok S2 q2 e2, S2.mlist, _, e3, fun z H3 k3 rz => ?_⟩
  have rz : Rp (kX X) H3 P2 (Mx G.F P2 ρ2 σ) (.bl k) z := rz
  rw [Rp] at rz
  refine ⟨k, rz, ?_⟩
  have S3 := S2.grow k3
  have q3 : RO (kX X) G P2 ρ2 t2 σ H3 o2 y := by
    cases o2 with
    | sl i => exact ⟨S3, q2.2⟩
    | va d => exact ⟨S3, q2.2.mo (.grow k3)⟩
  cases k with
  | false =>
    rw [if_neg Bool.false_ne_true] at q ⊢
    refine hq _ ρ2 t2 _ H3 P2 q ⟨S3, ?_⟩
    rw [Rp]
  | true =>
    rw [if_pos rfl] at q ⊢
    refine ⟨holdO G o2 y, P2, ρ2, t2, _, E, q3.hold, q, lk.holdO, fun o3 ρ3 t3 z H4 P3 h3 r3 => ?_⟩
    obtain ⟨e', f, r, f1, f2, f3, q4⟩ := h3
    obtain ⟨S4, q5, q6⟩ := q3.back2 r3
    exact ⟨P3, Mx G.F P3 ρ3 σ, e', f, rsv_ok S4 q5 f1, rsv_ok S4 q6 f2, S4.mlist, r, f3, fun z H' k rz => hq r ρ3 t3 z H' P3 q4 (rz_rs S4 k rz)⟩
theorem de_chain {op op' : CmpOp} {g g' : R2D} (ho : Op2 X (compareOp op) g) (ho' : Op2 X (compareOp op') g') (ha : DO X EX a wa) (hb : DO X EX b wb) (hc : DO X EX c wc) (hm : lastMarks [op, op'] [b, c] = false) :
    DE X EX (.Compare a [op, op'] [b, c] pos) (chainW g g' wa wb wc) :=
  PE.imp (pe_chain ho ho' ha hb hc hm) fun _ _ _ h => chain_read h
theorem dt_chain {op op' : CmpOp} {g g' : R2D} (ho : Op2 X (compareOp op) g) (ho' : Op2 X (compareOp op') g') (ha : DO X EX a wa) (hb : DO X EX b wb) (hc : DO X EX c wc) (hm : lastMarks [op, op'] [b, c] = false) :
    DT X EX (.Compare a [op, op'] [b, c] pos) (testW (chainW g g' wa wb wc)) :=
  PT.imp (pt_chain ho ho' ha hb hc hm) fun _ _ _ h => chain_read (test_read h)

/-! ### names, constants -/
@[simp] def varW (i : Nat) : W := fun ρ t Q _ => match ρ[i]? with
  | some (.im d) => Q (.im d) ρ t
  | some (.ow o) => Q (.im o.dat) (ρ.set i (.im o.dat)) t
  | _ => False
@[simp] def slotO (i : Nat) : WO := fun ρ t Q _ => match ρ[i]? with
  | some .non => False
  | none => False
  | _ => Q (.sl i) ρ t
/-- an own thing becomes data -/
theorem Sat.freeze {K : KF} {G : Gh} {P : PA1} {ρ : List Sl} {t : Nat} {σ : St} {H : Hp} {i : Nat} {ds : Ob} (S : Sat K G P ρ t σ H) (e : ρ[i]? = some (.ow ds)) :
    Sat K G P (ρ.set i (.im ds.dat)) t σ H ∧ ∃ v, σ[i]? = some (some v) ∧ Rp K H P (Mx G.F P (ρ.set i (.im ds.dat)) σ) ds.dat v := by
  have hi : i < ρ.length := (List.getElem?_eq_some_iff.mp e).1
  have self : (ρ.set i (.im ds.dat))[i]? = some (.im ds.dat) := List.getElem?_set_self hi
  have other : ∀ j, j ≠ i → (ρ.set i (.im ds.dat))[j]? = ρ[j]? := fun j hj => List.getElem?_set_ne (Ne.symm hj)
  have sub : ∀ a, Mx G.F P (ρ.set i (.im ds.dat)) σ a → Mx G.F P ρ σ a := fun a z => by
    rcases z with z | z | ⟨j, es, h1, h2⟩
    · exact .inl z
    · exact .inr (.inl z)
    · by_cases hj : j = i
      · subst hj; rw [self] at h1; cases h1
      · rw [other j hj] at h1
        exact .inr (.inr ⟨j, es, h1, h2⟩)
  have mo : Mo K H H P P (Mx G.F P ρ σ) (Mx G.F P (ρ.set i (.im ds.dat)) σ) := .less sub
  obtain ⟨a, u, xs, h1, h2, hc, h3, h4, h5, h6⟩ := S.ow i ds e
  have nm : ¬ Mx G.F P (ρ.set i (.im ds.dat)) σ a := fun z => by
    rcases z with z | z | ⟨j, es, q1, q2⟩
    · exact h4 z
    · exact h5 z
    · by_cases hj : j = i
      · subst hj; rw [self] at q1; cases q1
      · rw [other j hj] at q1
        exact hj (S.dj j i es ds a q1 e q2 h1)
  have rp : Rp K H P (Mx G.F P (ρ.set i (.im ds.dat)) σ) ds.dat (.ref a) := rp_ob nm h2 hc (h3.mo mo)
  refine ⟨⟨by rw [List.length_set]; exact S.len, fun j d q => ?_, fun j es q => ?_, fun j k es fs b q1 q2 q3 q4 => ?_, S.fo, fun p hp => (S.hd p hp).mo mo, S.pt, S.p0, S.pn, S.kp, S.fp, S.tb⟩, _, h1, rp⟩
  · by_cases hj : j = i
    · subst hj
      rw [self] at q
      cases q
      exact ⟨_, h1, rp⟩
    · rw [other j hj] at q
      obtain ⟨v, r1, r2⟩ := S.im j d q
      exact ⟨v, r1, r2.mo mo⟩
  · by_cases hj : j = i
    · subst hj; rw [self] at q; cases q
    · rw [other j hj] at q
      obtain ⟨b, w, ys, r1, r2, rc, r3, r4⟩ := S.ow j es q
      exact ⟨b, w, ys, r1, r2, rc, r3.mo mo, r4⟩
  · by_cases hj : j = i
    · subst hj; rw [self] at q1; cases q1
    · by_cases hk : k = i
      · subst hk; rw [self] at q2; cases q2
      · rw [other j hj] at q1
        rw [other k hk] at q2
        exact S.dj j k es fs b q1 q2 q3 q4
theorem de_var {i : Nat} {x : Str} (h : PE X (.Name x pos) (tVar i)) : DE X EX (.Name x pos) (varW i) := PE.imp h fun σ H Q h => by
  obtain ⟨G, P, ρ, t, Q', E, S, hw, lk, hq⟩ := h
  have hw : (match ρ[i]? with | some (.im d) => Q' (.im d) ρ t | some (.ow o) => Q' (.im o.dat) (ρ.set i (.im o.dat)) t | _ => False) := hw
  split at hw
  · rename_i d e
    obtain ⟨v, h1, h2⟩ := S.im i d e
    exact ⟨v, h1, hq _ _ _ _ _ P hw ⟨S, h2⟩⟩
  · rename_i ds e
    obtain ⟨S', v, h1, h2⟩ := S.freeze e
    exact ⟨v, h1, hq _ _ _ _ _ P hw ⟨S', h2⟩⟩
  · exact hw.elim
theorem do_var {i : Nat} {x : Str} (h : PE X (.Name x pos) (tVar i)) : DO X EX (.Name x pos) (slotO i) := PE.imp h fun σ H Q h => by
  obtain ⟨G, P, ρ, t, Q', E, S, hw, lk, hq⟩ := h
  have hw : (match ρ[i]? with | some .non => False | none => False | _ => Q' (.sl i) ρ t) := hw
  split at hw
  · exact hw.elim
  · exact hw.elim
  · rename_i n1 n2
    have key : ∃ v, σ[i]? = some (some v) := by
      cases e : ρ[i]? with
      | none => exact absurd e n2
      | some s =>
        cases s with
        | non => exact absurd e n1
        | im d => obtain ⟨v, h1, _⟩ := S.im i d e; exact ⟨v, h1⟩
        | ow ds => obtain ⟨a, u, xs, h1, _⟩ := S.ow i ds e; exact ⟨_, h1⟩
    obtain ⟨v, h1⟩ := key
    exact ⟨v, h1, hq _ _ _ _ _ P hw ⟨S, h1⟩⟩
/-- any expression as an operand -/
@[simp] def valO (w : W) : WO := fun ρ t Q E => w ρ t (fun r ρ1 t1 => Q (.va r.d) ρ1 t1) E
theorem do_of {e : Expr} {w : W} (h : DE X EX e w) : DO X EX e (valO w) := PE.imp h fun σ H Q h => by
  obtain ⟨G, P, ρ, t, Q', E, S, hw, lk, hq⟩ := h
  exact ⟨G, P, ρ, t, _, E, S, hw, lk, fun r ρ1 t1 x H1 P1 h1 r1 => hq _ _ _ _ _ P1 h1 r1.im⟩
/-- a constant: its value is the data, at any heap -/
theorem de_const {e : Expr} {v : V} {d : D} (h : PE X e (tC v)) (hd : ∀ H P M, Rp (kX X) H P M d v) : DE X EX e (pureW (.im d)) := PE.imp h fun σ H Q h => by
  obtain ⟨G, P, ρ, t, Q', E, S, hw, lk, hq⟩ := h
  exact hq _ _ _ _ _ P hw ⟨S, hd _ _ _⟩
end
end NB
set_option Elab.async false
set_option linter.all false
set_option maxRecDepth 100000
set_option maxHeartbeats 4000000
set_option autoImplicit false
/-! Argument lists, tests, displays; statements; what is walked. -/
namespace NB
open PySem PySem.Spec PyProof.Rows L2

/-! ### argument lists -/
@[simp] def nilW {α : Type} : Wg (List α) := fun ρ t Q _ => Q [] ρ t
/-- operands -/
@[simp] def consO (a : WO) (r : Wg (List Od)) : Wg (List Od) := fun ρ t Q E => a ρ t (fun o ρ1 t1 => r ρ1 t1 (fun os ρ2 t2 => Q (o :: os) ρ2 t2) E) E
/-- data -/
@[simp] def consD (a : W) (r : Wg (List D)) : Wg (List D) := fun ρ t Q E => a ρ t (fun x ρ1 t1 => r ρ1 t1 (fun xs ρ2 t2 => Q (x.d :: xs) ρ2 t2) E) E
section
variable {X : Cx} {EX : XX} {e a b c : Expr} {es rest : List Expr} {pos : Pos}
theorem doa_nil : DOA X EX [] nilW := PA.imp pa_nil fun σ H Q h => by
  obtain ⟨G, P, ρ, t, Q', E, S, hw, lk, hq⟩ := h
  exact hq _ _ _ _ _ P hw ⟨S, .nil⟩
theorem doa_cons {w : WO} {r : Wg (List Od)} (ha : DO X EX e w) (hr : DOA X EX es r) (hs : starEach (e :: es) X.env = (false, eval e X.env) :: starEach es X.env) : DOA X EX (e :: es) (consO w r) := PA.imp (pa_cons ha hr hs) fun σ H Q h => by
  obtain ⟨G, P, ρ, t, Q', E, S, hw, lk, hq⟩ := h
  refine ⟨G, P, ρ, t, _, E, S, hw, lk, fun o ρ1 t1 x H1 P1 h1 r1 => ?_⟩
  refine ⟨holdO G o x, P1, ρ1, t1, _, E, r1.hold, h1, lk.holdO, fun os ρ2 t2 xs H2 P2 h2 r2 => ?_⟩
  obtain ⟨S2, p2⟩ := r2
  obtain ⟨S3, r3⟩ := r1.back S2
  refine hq _ _ _ _ _ P2 h2 ⟨S3, .cons (RO.iff.mp r3).2 (Paired.mapP p2 fun od v q => ?_)⟩
  cases od with
  | sl i => exact q
  | va d =>
    have q : Rp (kX X) H2 P2 (Mx (holdO G o x).F P2 ρ2 σ) d v := q
    rw [holdO_F] at q
    exact q
theorem da_nil : DA X EX [] nilW := PA.imp pa_nil fun σ H Q h => by
  obtain ⟨G, P, ρ, t, Q', E, S, hw, lk, hq⟩ := h
  exact hq _ _ _ _ _ P hw ⟨S, .nil⟩
theorem da_cons {w : W} {r : Wg (List D)} (ha : DE X EX e w) (hr : DA X EX es r) (hs : starEach (e :: es) X.env = (false, eval e X.env) :: starEach es X.env) : DA X EX (e :: es) (consD w r) := PA.imp (pa_cons ha hr hs) fun σ H Q h => by
  obtain ⟨G, P, ρ, t, Q', E, S, hw, lk, hq⟩ := h
  refine ⟨G, P, ρ, t, _, E, S, hw, lk, fun o ρ1 t1 x H1 P1 h1 r1 => ?_⟩
  obtain ⟨S1, p1⟩ := r1.im
  refine ⟨G.hold o.d x, P1, ρ1, t1, _, E, S1.hold p1, h1, lk.hold, fun os ρ2 t2 xs H2 P2 h2 r2 => ?_⟩
  obtain ⟨S2, p2⟩ := r2
  obtain ⟨S3, r3⟩ := S2.unhold
  exact hq _ _ _ _ _ P2 h2 ⟨S3, .cons r3 p2⟩

/-! ### and, or, not, if -/
@[simp] def andV (a b : W) : W := fun ρ t Q E => a ρ t (fun r ρ1 t1 => ∃ k, r = .im (.bl k) ∧ if k = true then b ρ1 t1 Q E else Q (.im (.bl false)) ρ1 t1) E
@[simp] def orV (a b : W) : W := fun ρ t Q E => a ρ t (fun r ρ1 t1 => ∃ k, r = .im (.bl k) ∧ if k = true then Q (.im (.bl true)) ρ1 t1 else b ρ1 t1 Q E) E
@[simp] def notV (a : W) : W := fun ρ t Q E => a ρ t (fun r ρ1 t1 => ∃ k, r = .im (.bl k) ∧ Q (.im (.bl (!k))) ρ1 t1) E
@[simp] def andT (a b : Wg Bool) : Wg Bool := fun ρ t Q E => a ρ t (fun k ρ1 t1 => if k = true then b ρ1 t1 Q E else Q false ρ1 t1) E
@[simp] def orT (a b : Wg Bool) : Wg Bool := fun ρ t Q E => a ρ t (fun k ρ1 t1 => if k = true then Q true ρ1 t1 else b ρ1 t1 Q E) E
@[simp] def notT (a : Wg Bool) : Wg Bool := fun ρ t Q E => a ρ t (fun k ρ1 t1 => Q (!k) ρ1 t1) E
@[simp] def ifV {α : Type} (c : Wg Bool) (a b : Wg α) : Wg α := fun ρ t Q E => c ρ t (fun k ρ1 t1 => if k = true then a ρ1 t1 Q E else b ρ1 t1 Q E) E
theorem rp_bl {K : KF} {H : Hp} {P M : PA1} {k : Bool} {v : V} : Rp K H P M (.bl k) v ↔ v = .bl k := by rw [Rp]
theorem de_one {op : BoolOp} {w : W} (h : DE X EX a w) : DE X EX (.BoolOp op [a] pos) w := pe_one h
theorem de_and {wa wb : W} (ha : DE X EX a wa) (hb : DE X EX (.BoolOp .And (b :: rest) pos) wb) : DE X EX (.BoolOp .And (a :: b :: rest) pos) (andV wa wb) := PE.imp (pe_and ha hb) fun σ H Q h => by
  obtain ⟨G, P, ρ, t, Q', E, S, hw, lk, hq⟩ := h
  refine ⟨G, P, ρ, t, _, E, S, hw, lk, fun r ρ1 t1 x H1 P1 h1 r1 => ?_⟩
  obtain ⟨k, rfl, q⟩ := h1
  obtain ⟨S1, e1⟩ := r1
  refine ⟨k, rp_bl.mp e1, ?_⟩
  cases k with
  | true =>
    rw [if_pos rfl] at q ⊢
    exact ⟨G, P1, ρ1, t1, Q', E, S1, q, lk, hq⟩
  | false =>
    rw [if_neg Bool.false_ne_true] at q ⊢
    exact hq _ _ _ _ _ P1 q ⟨S1, rp_bl.mpr rfl⟩
theorem de_or {wa wb : W} (ha : DE X EX a wa) (hb : DE X EX (.BoolOp .Or (b :: rest) pos) wb) : DE X EX (.BoolOp .Or (a :: b :: rest) pos) (orV wa wb) := PE.imp (pe_or ha hb) fun σ H Q h => by
  obtain ⟨G, P, ρ, t, Q', E, S, hw, lk, hq⟩ := h
  refine ⟨G, P, ρ, t, _, E, S, hw, lk, fun r ρ1 t1 x H1 P1 h1 r1 => ?_⟩
  obtain ⟨k, rfl, q⟩ := h1
  obtain ⟨S1, e1⟩ := r1
  refine ⟨k, rp_bl.mp e1, ?_⟩
  cases k with
  | false =>
    rw [if_neg Bool.false_ne_true] at q ⊢
    exact ⟨G, P1, ρ1, t1, Q', E, S1, q, lk, hq⟩
  | true =>
    rw [if_pos rfl] at q ⊢
    exact hq _ _ _ _ _ P1 q ⟨S1, rp_bl.mpr rfl⟩
theorem de_not {wa : W} (ha : DE X EX a wa) : DE X EX (.UnaryOp .Not a pos) (notV wa) := PE.imp (pe_not ha) fun σ H Q h => by
  obtain ⟨G, P, ρ, t, Q', E, S, hw, lk, hq⟩ := h
  refine ⟨G, P, ρ, t, _, E, S, hw, lk, fun r ρ1 t1 x H1 P1 h1 r1 => ?_⟩
  obtain ⟨k, rfl, q⟩ := h1
  obtain ⟨S1, e1⟩ := r1
  exact ⟨k, rp_bl.mp e1, hq _ _ _ _ _ P1 q ⟨S1, rp_bl.mpr rfl⟩⟩
abbrev DW (X : Cx) (EX : XX) (e : Expr) (w : Wg Bool) : Prop := PW X e (Go (kX X) EX (RT (kX X)) w)
theorem PW.imp {X : Cx} {e : Expr} {t t' : TT} (h : PW X e t) (i : ∀ σ H Q, t' σ H Q → t σ H Q) : PW X e t' := ⟨fun wh pins s σ H Q I q => h.run wh pins s σ H Q I (i σ H Q q)⟩
theorem dw_and1 {w : Wg Bool} (h : DT X EX a w) : DW X EX (.BoolOp .And [a] pos) w := pw_and1 h
theorem dw_or1 {w : Wg Bool} (h : DT X EX a w) : DW X EX (.BoolOp .Or [a] pos) w := pw_or1 h
theorem dw_and {wa wb : Wg Bool} (ha : DT X EX a wa) (hb : DW X EX (.BoolOp .And (b :: rest) pos) wb) : DW X EX (.BoolOp .And (a :: b :: rest) pos) (andT wa wb) := PW.imp (pw_and ha hb) fun σ H Q h => by
  obtain ⟨G, P, ρ, t, Q', E, S, hw, lk, hq⟩ := h
  refine ⟨G, P, ρ, t, _, E, S, hw, lk, fun k ρ1 t1 x H1 P1 q r1 => ?_⟩
  obtain ⟨S1, rfl⟩ := r1
  cases k with
  | true =>
    rw [if_pos rfl] at q ⊢
    exact ⟨G, P1, ρ1, t1, Q', E, S1, q, lk, hq⟩
  | false =>
    rw [if_neg Bool.false_ne_true] at q ⊢
    exact hq _ _ _ _ _ P1 q ⟨S1, rfl⟩
theorem dw_or {wa wb : Wg Bool} (ha : DT X EX a wa) (hb : DW X EX (.BoolOp .Or (b :: rest) pos) wb) : DW X EX (.BoolOp .Or (a :: b :: rest) pos) (orT wa wb) := PW.imp (pw_or ha hb) fun σ H Q h => by
  obtain ⟨G, P, ρ, t, Q', E, S, hw, lk, hq⟩ := h
  refine ⟨G, P, ρ, t, _, E, S, hw, lk, fun k ρ1 t1 x H1 P1 q r1 => ?_⟩
  obtain ⟨S1, rfl⟩ := r1
  cases k with
  | false =>
    rw [if_neg Bool.false_ne_true] at q ⊢
    exact ⟨G, P1, ρ1, t1, Q', E, S1, q, lk, hq⟩
  | true =>
    rw [if_pos rfl] at q ⊢
    exact hq _ _ _ _ _ P1 q ⟨S1, rfl⟩
theorem dt_not {wa : Wg Bool} (ha : DT X EX a wa) : DT X EX (.UnaryOp .Not a pos) (notT wa) := PT.imp (pt_not ha) fun σ H Q h => by
  obtain ⟨G, P, ρ, t, Q', E, S, hw, lk, hq⟩ := h
  refine ⟨G, P, ρ, t, _, E, S, hw, lk, fun k ρ1 t1 x H1 P1 q r1 => ?_⟩
  obtain ⟨S1, rfl⟩ := r1
  exact hq _ _ _ _ _ P1 q ⟨S1, rfl⟩
theorem dt_val {w : W} (h : DE X EX e w) (he : ∀ whole, isTrue e X.env whole = (do let v ← whole; standAt e.pos; holding [v] (truthy v))) : DT X EX e (testW w) := PT.imp (pt_val h he) fun _ _ _ h => test_read h
theorem de_if {wc : Wg Bool} {wa wb : W} (hc : DT X EX c wc) (ha : DE X EX a wa) (hb : DE X EX b wb) : DE X EX (.IfExp c a b pos) (ifV wc wa wb) := PE.imp (pe_ifExp hc ha hb) fun σ H Q h => by
  obtain ⟨G, P, ρ, t, Q', E, S, hw, lk, hq⟩ := h
  refine ⟨G, P, ρ, t, _, E, S, hw, lk, fun k ρ1 t1 x H1 P1 q r1 => ?_⟩
  obtain ⟨S1, rfl⟩ := r1
  cases k with
  | true =>
    rw [if_pos rfl] at q ⊢
    exact ⟨G, P1, ρ1, t1, Q', E, S1, q, lk, hq⟩
  | false =>
    rw [if_neg Bool.false_ne_true] at q ⊢
    exact ⟨G, P1, ρ1, t1, Q', E, S1, q, lk, hq⟩

/-! ### displays -/
@[simp] def tupW (a : Wg (List D)) : W := fun ρ t Q E => a ρ t (fun ds ρ1 t1 => ds.length ≤ sizeLine ∧ Q (.im (.tup ds)) ρ1 t1) E
@[simp] def lstW (a : Wg (List D)) : W := fun ρ t Q E => a ρ t (fun ds ρ1 t1 => ds.length ≤ sizeLine ∧ Q (.nw ds) ρ1 t1) E
theorem kp_upd {K : KF} {H : Hp} {p : Addr} {o : HO} (h : H p = none) : Kp K (fun _ => False) H (upd H p o) := Kp.of fun a u e => by
  rw [upd_ne (ne_of_none e h)]; exact e
theorem de_tup {w : Wg (List D)} {k : Nat} (h : DA X EX es w) : DE X EX (.Tuple es k pos) (tupW w) := PE.imp (pe_tup h) fun σ H Q h => by
  obtain ⟨G, P, ρ, t, Q', E, S, hw, lk, hq⟩ := h
  refine ⟨G, P, ρ, t, _, E, S, hw, lk, fun ds ρ1 t1 xs H1 P1 q r1 => ?_⟩
  obtain ⟨q1, q2⟩ := q
  obtain ⟨S1, ra⟩ := r1
  refine ⟨by rw [← ra.length]; exact q1, fun p hp => hq _ _ _ _ _ P1 q2 ⟨S1.grow (kp_upd hp), ?_⟩⟩
  rw [Rp]
  exact ⟨p, xs, rfl, .inl (.inl upd_same), ra.mo (.grow (kp_upd hp))⟩
theorem rz_list {K : KF} {H : Hp} {P M : PA1} {ds : List D} {xs : List V} {p : Addr} (hp : H p = none) (ra : RpA K H P M ds xs) : Rz K H (upd H p (.lst xs)) P M (.nw ds) (.ref p) :=
  ⟨p, _, xs, rfl, hp, upd_same, rfl, ra.mo (.of (N := fun _ => False) (kp_upd hp) (fun _ z => z.elim) (fun _ z => z.elim) (fun _ z => z) fun b z => by
    rcases z with z | z
    · exact .inl z
    · subst z; exact .inr (nw_of hp))⟩
theorem de_lst {w : Wg (List D)} (h : DA X EX es w) : DE X EX (.List es pos) (lstW w) := PE.imp (pe_lst h) fun σ H Q h => by
  obtain ⟨G, P, ρ, t, Q', E, S, hw, lk, hq⟩ := h
  refine ⟨G, P, ρ, t, _, E, S, hw, lk, fun ds ρ1 t1 xs H1 P1 q r1 => ?_⟩
  obtain ⟨q1, q2⟩ := q
  obtain ⟨S1, ra⟩ := r1
  exact ⟨by rw [← ra.length]; exact q1, fun p hp => hq _ _ _ _ _ P1 q2 (rz_rs S1 (kp_upd hp) (rz_list hp ra))⟩
end

/-! ### statements -/
structure KS where
  nx : List Sl → Nat → Prop
  rt : R → Nat → Prop
  bk : List Sl → Nat → Prop
  ct : List Sl → Nat → Prop
  ex : KX
abbrev WS := List Sl → Nat → KS → Prop
def EndR (K : KF) (G : Gh) (P : PA1) (t : Nat) (H : Hp) (r : R) (v : V) : Prop :=
  EndOk K G P t H ∧ match r with
  | .im d => Rp K H P (fun a => G.F a ∨ P a) d v
  | .nw o => ∃ a u xs, v = .ref a ∧ Nw G.H0 a ∧ ¬ G.F a ∧ ¬ P a ∧ H a = some u ∧ Cu K a o u xs ∧ RpA K H P (fun b => (G.F b ∨ P b) ∨ b = a) o.ct xs
theorem Sat.endOk {K : KF} {G : Gh} {P : PA1} {ρ : List Sl} {t : Nat} {σ : St} {H : Hp} (S : Sat K G P ρ t σ H) : EndOk K G P t H := ⟨S.pt, S.p0, S.pn, S.kp, S.tb⟩
theorem RS.endR {K : KF} {G : Gh} {P : PA1} {ρ : List Sl} {t : Nat} {σ : St} {H : Hp} {r : R} {v : V} (h : RS K G P ρ t σ H r v) : EndR K G P t H r v := by
  cases r with
  | im d =>
    obtain ⟨S, rp⟩ := h
    exact ⟨S.endOk, rp.mo (.less fun a z => z.elim .inl fun z => .inr (.inl z))⟩
  | nw o =>
    obtain ⟨a, u, xs, rfl, S, nm, h0, e, c, ra⟩ := h
    refine ⟨⟨S.pt, S.p0, S.pn, S.kp, S.tb⟩, a, u, xs, rfl, h0, fun z => nm (.inl z), fun z => nm (.inr (.inl z)), e, c, ra.mo (.less fun b z => ?_)⟩
    rcases z with (z | z) | z
    · exact .inl (.inl z)
    · exact .inr (.inl z)
    · exact .inl (.inr z)
def GoS (K : KF) (EX : XX) (ws : WS) : TS := fun Dn σ H =>
  ∃ (G : Gh) (P : PA1) (ρ : List Sl) (t : Nat) (k : KS), Sat K G P ρ t σ H ∧ ws ρ t k ∧ Lk K EX G k.ex ∧
    (∀ ρ' t' σ' H' P', k.nx ρ' t' → Sat K G P' ρ' t' σ' H' → Dn.nx σ' H') ∧
    (∀ ρ' t' σ' H' P', k.bk ρ' t' → Sat K G P' ρ' t' σ' H' → Dn.bk σ' H') ∧
    (∀ ρ' t' σ' H' P', k.ct ρ' t' → Sat K G P' ρ' t' σ' H' → Dn.ct σ' H') ∧
    (∀ r t' v H' P', k.rt r t' → EndR K G P' t' H' r v → Dn.rt v H')
abbrev DS (X : Cx) (EX : XX) (s : Stmt) (w : WS) : Prop := PS X s (GoS (kX X) EX w)
abbrev DSs (X : Cx) (EX : XX) (s : List Stmt) (w : WS) : Prop := PSs X s (GoS (kX X) EX w)
theorem PS.imp {X : Cx} {st : Stmt} {t t' : TS} (h : PS X st t) (i : ∀ D σ H, t' D σ H → t D σ H) : PS X st t' := ⟨fun pins s σ H D I q => h.run pins s σ H D I (i D σ H q)⟩
theorem PSs.imp {X : Cx} {st : List Stmt} {t t' : TS} (h : PSs X st t) (i : ∀ D σ H, t' D σ H → t D σ H) : PSs X st t' := ⟨fun pins s σ H D I q => h.run pins s σ H D I (i D σ H q)⟩

@[simp] def nextS : WS := fun ρ t k => k.nx ρ t
@[simp] def seqS (a b : WS) : WS := fun ρ t k => a ρ t { k with nx := fun ρ' t' => b ρ' t' k }
@[simp] def retS (w : W) : WS := fun ρ t k => w ρ t (fun r _ t' => k.rt r t') k.ex
@[simp] def retNS : WS := fun ρ t k => k.rt (.im .non) t
/-- return of a name: an own list is handed out -/
@[simp] def retV (i : Nat) : WS := fun ρ t k => match ρ[i]? with
  | some (.im d) => k.rt (.im d) t
  | some (.ow ds) => k.rt (.nw ds) t
  | _ => False
@[simp] def dropS (w : W) : WS := fun ρ t k => w ρ t (fun _ ρ' t' => k.nx ρ' t') k.ex
@[simp] def ifS (c : Wg Bool) (a b : WS) : WS := fun ρ t k => c ρ t (fun x ρ1 t1 => if x = true then a ρ1 t1 k else b ρ1 t1 k) k.ex
@[simp] def breakS : WS := fun ρ t k => k.bk ρ t
@[simp] def contS : WS := fun ρ t k => k.ct ρ t
@[simp] def slOf : R → Sl
  | .im d => .im d
  | .nw ds => .ow ds
@[simp] def setS (i : Nat) (w : W) : WS := fun ρ t k => w ρ t (fun r ρ' t' => k.nx (ρ'.set i (slOf r)) t') k.ex

section
variable {K : KF} {G : Gh} {P : PA1} {ρ : List Sl} {t : Nat} {σ : St} {H : Hp}
/-- a slot is set anew: to data -/
theorem Sat.setIm (S : Sat K G P ρ t σ H) {i : Nat} {d : D} {v : V} (h : Rp K H P (Mx G.F P ρ σ) d v) : Sat K G P (ρ.set i (.im d)) t (σ.set i (some v)) H := by
  by_cases hi : i < ρ.length
  · have hi' : i < σ.length := by rw [← S.len]; exact hi
    have other : ∀ j, j ≠ i → (ρ.set i (.im d))[j]? = ρ[j]? := fun j hj => List.getElem?_set_ne (Ne.symm hj)
    have self : (ρ.set i (.im d))[i]? = some (.im d) := List.getElem?_set_self hi
    have other' : ∀ j, j ≠ i → (σ.set i (some v))[j]? = σ[j]? := fun j hj => List.getElem?_set_ne (Ne.symm hj)
    have self' : (σ.set i (some v))[i]? = some (some v) := List.getElem?_set_self hi'
    have sub : ∀ a, Mx G.F P (ρ.set i (.im d)) (σ.set i (some v)) a → Mx G.F P ρ σ a := fun a z => by
      rcases z with z | z | ⟨j, es, h1, h2⟩
      · exact .inl z
      · exact .inr (.inl z)
      · by_cases hj : j = i
        · subst hj; rw [self] at h1; cases h1
        · rw [other j hj] at h1
          rw [other' j hj] at h2
          exact .inr (.inr ⟨j, es, h1, h2⟩)
    have mo : Mo K H H P P (Mx G.F P ρ σ) (Mx G.F P (ρ.set i (.im d)) (σ.set i (some v))) := .less sub
    refine ⟨by rw [List.length_set, List.length_set]; exact S.len, fun j e q => ?_, fun j es q => ?_, fun j k es fs b q1 q2 q3 q4 => ?_, S.fo, fun p hp => (S.hd p hp).mo mo, S.pt, S.p0, S.pn, S.kp, S.fp, S.tb⟩
    · by_cases hj : j = i
      · subst hj
        rw [self] at q
        cases q
        exact ⟨v, self', h.mo mo⟩
      · rw [other j hj] at q
        obtain ⟨u, r1, r2⟩ := S.im j e q
        exact ⟨u, by rw [other' j hj]; exact r1, r2.mo mo⟩
    · by_cases hj : j = i
      · subst hj; rw [self] at q; cases q
      · rw [other j hj] at q
        obtain ⟨b, w, ys, r1, r2, rc, r3, r4⟩ := S.ow j es q
        exact ⟨b, w, ys, by rw [other' j hj]; exact r1, r2, rc, r3.mo mo, r4⟩
    · by_cases hj : j = i
      · subst hj; rw [self] at q1; cases q1
      · by_cases hk : k = i
        · subst hk; rw [self] at q2; cases q2
        · rw [other j hj] at q1
          rw [other k hk] at q2
          rw [other' j hj] at q3
          rw [other' k hk] at q4
          exact S.dj j k es fs b q1 q2 q3 q4
  · have e1 : ρ.set i (.im d) = ρ := List.set_eq_of_length_le (by omega)
    have e2 : σ.set i (some v) = σ := List.set_eq_of_length_le (by rw [← S.len]; omega)
    rw [e1, e2]
    exact S
/-- .. to a new list, the frame's own from now on -/
theorem Sat.setOw {i : Nat} {ds : Ob} {a : Addr} {u : HO} {xs : List V} (S : Sat K (G.add a u) P ρ t σ H) (nm : ¬ Mx G.F P ρ σ a) (h0 : Nw G.H0 a) (e : H a = some u) (c : Cu K a ds u xs) (ra : RpA K H P (Mx (G.add a u).F P ρ σ) ds.ct xs) :
    Sat K G P (ρ.set i (.ow ds)) t (σ.set i (some (.ref a))) H := by
  have S0 : Sat K G P ρ t σ H := S.less fun b hb z => by subst z; exact nm (.inl hb)
  by_cases hi : i < ρ.length
  · have hi' : i < σ.length := by rw [← S.len]; exact hi
    have other : ∀ j, j ≠ i → (ρ.set i (.ow ds))[j]? = ρ[j]? := fun j hj => List.getElem?_set_ne (Ne.symm hj)
    have self : (ρ.set i (.ow ds))[i]? = some (.ow ds) := List.getElem?_set_self hi
    have other' : ∀ j, j ≠ i → (σ.set i (some (V.ref a)))[j]? = σ[j]? := fun j hj => List.getElem?_set_ne (Ne.symm hj)
    have self' : (σ.set i (some (V.ref a)))[i]? = some (some (V.ref a)) := List.getElem?_set_self hi'
    have sub : ∀ b, Mx G.F P (ρ.set i (.ow ds)) (σ.set i (some (.ref a))) b → Mx (G.add a u).F P ρ σ b := fun b z => by
      rcases z with z | z | ⟨j, es, h1, h2⟩
      · exact .inl (.inl z)
      · exact .inr (.inl z)
      · by_cases hj : j = i
        · subst hj
          rw [self'] at h2
          cases h2
          exact .inl (.inr rfl)
        · rw [other j hj] at h1
          rw [other' j hj] at h2
          exact .inr (.inr ⟨j, es, h1, h2⟩)
    have mo : Mo K H H P P (Mx (G.add a u).F P ρ σ) (Mx G.F P (ρ.set i (.ow ds)) (σ.set i (some (.ref a)))) := .less sub
    refine ⟨by rw [List.length_set, List.length_set]; exact S.len, fun j e q => ?_, fun j es q => ?_, fun j k es fs b q1 q2 q3 q4 => ?_, S0.fo, fun p hp => (S.hd p hp).mo mo, S.pt, S.p0, S.pn, S.kp, S0.fp, S.tb⟩
    · by_cases hj : j = i
      · subst hj; rw [self] at q; cases q
      · rw [other j hj] at q
        obtain ⟨u, r1, r2⟩ := S.im j e q
        exact ⟨u, by rw [other' j hj]; exact r1, r2.mo mo⟩
    · by_cases hj : j = i
      · subst hj
        rw [self] at q
        cases q
        exact ⟨a, u, xs, self', e, c, ra.mo mo, fun z => nm (.inl z), fun z => nm (.inr (.inl z)), h0⟩
      · rw [other j hj] at q
        obtain ⟨b, w, ys, r1, r2, rc, r3, r4, r5⟩ := S.ow j es q
        exact ⟨b, w, ys, by rw [other' j hj]; exact r1, r2, rc, r3.mo mo, fun z => r4 (.inl z), r5⟩
    · by_cases hj : j = i
      · by_cases hk : k = i
        · rw [hj, hk]
        · subst hj
          rw [self'] at q3
          cases q3
          rw [other k hk] at q2
          rw [other' k hk] at q4
          exact absurd (.inr (.inr ⟨k, fs, q2, q4⟩)) nm
      · by_cases hk : k = i
        · subst hk
          rw [self'] at q4
          cases q4
          rw [other j hj] at q1
          rw [other' j hj] at q3
          exact absurd (.inr (.inr ⟨j, es, q1, q3⟩)) nm
        · rw [other j hj] at q1
          rw [other k hk] at q2
          rw [other' j hj] at q3
          rw [other' k hk] at q4
          exact S0.dj j k es fs b q1 q2 q3 q4
  · have e1 : ρ.set i (.ow ds) = ρ := List.set_eq_of_length_le (by omega)
    have e2 : σ.set i (some (V.ref a)) = σ := List.set_eq_of_length_le (by rw [← S.len]; omega)
    rw [e1, e2]
    exact S0
theorem RS.set {i : Nat} {r : R} {v : V} (h : RS K G P ρ t σ H r v) : Sat K G P (ρ.set i (slOf r)) t (σ.set i (some v)) H := by
  cases r with
  | im d => exact h.1.setIm h.2
  | nw o =>
    obtain ⟨a, u, xs, rfl, S, nm, h0, e, c, ra⟩ := h
    exact S.setOw nm h0 e c ra
end

section
variable {X : Cx} {EX : XX} {e c : Expr} {st : Stmt} {rest p q : List Stmt} {pos : Pos} {wa wb : WS} {w : W}
theorem dss_nil : DSs X EX [] nextS := PSs.imp pss_nil fun D σ H h => by
  obtain ⟨G, P, ρ, t, k, S, hw, lk, hn, _⟩ := h
  exact hn _ _ _ _ P hw S
theorem seq_read {K : KF} {D : Ends} {σ : St} {H : Hp} (h : GoS K EX (seqS wa wb) D σ H) : GoS K EX wa { D with nx := GoS K EX wb D } σ H := by
  obtain ⟨G, P, ρ, t, k, S, hw, lk, hn, hb, hc, hr⟩ := h
  exact ⟨G, P, ρ, t, _, S, hw, lk, fun ρ' t' σ' H' P' z S' => ⟨G, P', ρ', t', k, S', z, lk, hn, hb, hc, hr⟩, hb, hc, hr⟩
theorem dss_cons (h1 : DS X EX st wa) (h2 : DSs X EX rest wb) : DSs X EX (st :: rest) (seqS wa wb) := PSs.imp (pss_cons h1 h2) fun _ _ _ h => seq_read h
theorem dss_one (h1 : DS X EX st wa) : DSs X EX [st] wa := pss_one h1
theorem ds_pass : DS X EX (.Pass pos) nextS := PS.imp ps_pass fun D σ H h => by
  obtain ⟨G, P, ρ, t, k, S, hw, lk, hn, _⟩ := h
  exact hn _ _ _ _ P hw S
theorem ds_break : DS X EX (.Break pos) breakS := PS.imp ps_break fun D σ H h => by
  obtain ⟨G, P, ρ, t, k, S, hw, lk, hn, hb, _⟩ := h
  exact hb _ _ _ _ P hw S
theorem ds_cont : DS X EX (.Continue pos) contS := PS.imp ps_continue fun D σ H h => by
  obtain ⟨G, P, ρ, t, k, S, hw, lk, hn, hb, hc, _⟩ := h
  exact hc _ _ _ _ P hw S
theorem ds_doc {x : Str} {j : Nat} {pos' : Pos} : DS X EX (.Expr (.Constant (.str x) j pos) pos') nextS := PS.imp ps_doc fun D σ H h => by
  obtain ⟨G, P, ρ, t, k, S, hw, lk, hn, _⟩ := h
  exact hn _ _ _ _ P hw S
theorem ds_ret (h : DE X EX e w) : DS X EX (.Return (some e) pos) (retS w) := PS.imp (ps_ret h) fun D σ H h => by
  obtain ⟨G, P, ρ, t, k, S, hw, lk, hn, hb, hc, hr⟩ := h
  exact ⟨G, P, ρ, t, _, k.ex, S, hw, lk, fun r ρ' t' v H' P' z rs => hr r t' v H' P' z rs.endR⟩
theorem ds_retN : DS X EX (.Return none pos) retNS := PS.imp ps_retN fun D σ H h => by
  obtain ⟨G, P, ρ, t, k, S, hw, lk, hn, hb, hc, hr⟩ := h
  exact hr _ _ _ _ P hw ⟨S.endOk, (by show Rp (kX X) H P _ .non .non; rw [Rp])⟩
theorem ds_retV {i : Nat} {x : Str} {pos' : Pos} (h : PE X (.Name x pos') (tVar i)) : DS X EX (.Return (some (.Name x pos')) pos) (retV i) := PS.imp (ps_ret h) fun D σ H h => by
  obtain ⟨G, P, ρ, t, k, S, hw, lk, hn, hb, hc, hr⟩ := h
  have hw : (match ρ[i]? with | some (.im d) => k.rt (.im d) t | some (.ow ds) => k.rt (.nw ds) t | _ => False) := hw
  split at hw
  · rename_i d e
    obtain ⟨v, h1, h2⟩ := S.im i d e
    exact ⟨v, h1, hr _ _ _ _ P hw ⟨S.endOk, h2.mo (.less fun a z => z.elim .inl fun z => .inr (.inl z))⟩⟩
  · rename_i ds e
    obtain ⟨a, u, xs, h1, h2, hc, h3, h4, h5, h6⟩ := S.ow i ds e
    refine ⟨_, h1, hr _ _ _ _ P hw ⟨S.endOk, a, u, xs, rfl, h6, h4, h5, h2, hc, h3.mo (.less fun b z => ?_)⟩⟩
    rcases z with (z | z) | z
    · exact .inl z
    · exact .inr (.inl z)
    · subst z; exact .inr (.inr ⟨i, ds, e, h1⟩)
  · exact hw.elim
theorem ds_drop (h : DE X EX e w) (hs : swapsWith e none pos.line X.env = pure false) : DS X EX (.Expr e pos) (dropS w) := PS.imp (ps_expr h hs) fun D σ H h => by
  obtain ⟨G, P, ρ, t, k, S, hw, lk, hn, hb, hc, hr⟩ := h
  exact ⟨G, P, ρ, t, _, k.ex, S, hw, lk, fun r ρ' t' v H' P' z rs => hn _ _ _ _ P' z rs.im.1⟩
theorem ds_if {wc : Wg Bool} (hc : DT X EX c wc) (ha : DSs X EX p wa) (hb : DSs X EX q wb) : DS X EX (.If c p q pos) (ifS wc wa wb) := PS.imp (ps_if hc ha hb) fun D σ H h => by
  obtain ⟨G, P, ρ, t, k, S, hw, lk, hn, hb, hc, hr⟩ := h
  refine ⟨G, P, ρ, t, _, k.ex, S, hw, lk, fun x ρ' t' v H' P' z rs => ?_⟩
  obtain ⟨S', rfl⟩ := rs
  cases x with
  | true =>
    rw [if_pos rfl] at z ⊢
    exact ⟨G, P', ρ', t', k, S', z, lk, hn, hb, hc, hr⟩
  | false =>
    rw [if_neg Bool.false_ne_true] at z ⊢
    exact ⟨G, P', ρ', t', k, S', z, lk, hn, hb, hc, hr⟩
theorem set_read {K : KF} {i : Nat} {D : Ends} {σ : St} {H : Hp} (h : GoS K EX (setS i w) D σ H) : Go K EX (RS K) w σ H fun x H1 => D.nx (σ.set i (some x)) H1 := by
  obtain ⟨G, P, ρ, t, k, S, hw, lk, hn, hb, hc, hr⟩ := h
  exact ⟨G, P, ρ, t, _, k.ex, S, hw, lk, fun r ρ' t' v H' P' z rs => hn _ _ _ _ P' z rs.set⟩
theorem ds_set {i : Nat} {x : Str} {pos' : Pos} (hN : X.N.Nodup) (hi : X.N[i]? = some x) (hx : Loc X.env.scope x) (he : DE X EX e w) (hs : swapsWith e (some (.Name x pos')) pos.line X.env = pure false) (hf : X.fn x = true ∨ X.env.scope.names.lookup x = some .local) :
    DS X EX (.Assign [.Name x pos'] e pos) (setS i w) := PS.imp (ps_set hN hi hx he hs hf) fun _ _ _ h => set_read h
end

/-! ### targets -/
inductive Pt where
  | nm (i : Nat) | tp (ps : List Pt)
mutual
def bindP : Pt → D → List Sl → Option (List Sl)
  | .nm i, d, ρ => some (ρ.set i (.im d))
  | .tp ps, .tup ds, ρ => bindPs ps ds ρ
  | .tp _, _, _ => none
def bindPs : List Pt → List D → List Sl → Option (List Sl)
  | [], [], ρ => some ρ
  | p :: ps, d :: ds, ρ => match bindP p d ρ with
    | some ρ' => bindPs ps ds ρ'
    | none => none
  | _, _, _ => none
end
mutual
def Pt.ix : Pt → List Nat
  | .nm i => [i]
  | .tp ps => Pt.ixs ps
def Pt.ixs : List Pt → List Nat
  | [] => []
  | p :: ps => p.ix ++ Pt.ixs ps
end
/-- the slots but those at vs are as they were -/
def Alike (vs : List Nat) (σ σ' : St) : Prop := ∀ ws : List Nat, (∀ i ∈ vs, i ∈ ws) → wipe σ' ws = wipe σ ws
theorem wipe_get (σ : St) : ∀ (ws : List Nat) (j : Nat), (wipe σ ws)[j]? = if j ∈ ws ∧ j < σ.length then some none else σ[j]?
  | [], j => by simp [wipe]
  | v :: ws, j => by
    rw [wipe]
    by_cases hv : v = j
    · subst hv
      by_cases hj : v < σ.length
      · rw [List.getElem?_set_self (by rw [wipe_length]; exact hj), if_pos ⟨List.mem_cons_self, hj⟩]
      · rw [if_neg (fun z => hj z.2), List.getElem?_eq_none (by rw [List.length_set, wipe_length]; omega), List.getElem?_eq_none (by omega)]
    · rw [List.getElem?_set_ne hv, wipe_get σ ws j]
      have e : (j ∈ v :: ws ∧ j < σ.length) ↔ (j ∈ ws ∧ j < σ.length) := by
        rw [List.mem_cons]
        exact ⟨fun z => ⟨z.1.resolve_left fun q => hv q.symm, z.2⟩, fun z => ⟨.inr z.1, z.2⟩⟩
      by_cases hc : j ∈ ws ∧ j < σ.length
      · rw [if_pos hc, if_pos (e.mpr hc)]
      · rw [if_neg hc, if_neg (fun z => hc (e.mp z))]
theorem Alike.refl (vs : List Nat) (σ : St) : Alike vs σ σ := fun _ _ => rfl
theorem Alike.set {i : Nat} {σ : St} {v : V} : Alike [i] σ (σ.set i (some v)) := fun ws h => by
  apply List.ext_getElem?
  intro j
  rw [wipe_get, wipe_get, List.length_set]
  by_cases hc : j ∈ ws ∧ j < σ.length
  · rw [if_pos hc, if_pos hc]
  · rw [if_neg hc, if_neg hc]
    by_cases hj : i = j
    · subst hj
      have hl : ¬ i < σ.length := fun z => hc ⟨h i List.mem_cons_self, z⟩
      rw [List.getElem?_eq_none (by rw [List.length_set]; omega), List.getElem?_eq_none (by omega)]
    · rw [List.getElem?_set_ne hj]
theorem Alike.trans {a b : List Nat} {σ σ1 σ2 : St} (h : Alike a σ σ1) (g : Alike b σ1 σ2) : Alike (a ++ b) σ σ2 := fun ws hw =>
  (g ws fun i hi => hw i (List.mem_append_right _ hi)).trans (h ws fun i hi => hw i (List.mem_append_left _ hi))

def GoP (K : KF) (p : Pt) : TG := fun v σ H Q => ∃ (G : Gh) (P : PA1) (ρ : List Sl) (t : Nat) (d : D) (ρ' : List Sl), Sat K G P ρ t σ H ∧ Rp K H P (Mx G.F P ρ σ) d v ∧ bindP p d ρ = some ρ' ∧
  ∀ σ', Sat K G P ρ' t σ' H → Alike p.ix σ σ' → Q σ' H
def GoPs (K : KF) (ps : List Pt) : TGs := fun vs σ H Q => ∃ (G : Gh) (P : PA1) (ρ : List Sl) (t : Nat) (ds : List D) (ρ' : List Sl), Sat K G P ρ t σ H ∧ RpA K H P (Mx G.F P ρ σ) ds vs ∧ bindPs ps ds ρ = some ρ' ∧
  ∀ σ', Sat K G P ρ' t σ' H → Alike (Pt.ixs ps) σ σ' → Q σ' H
theorem PG.imp {X : Cx} {e : Expr} {t t' : TG} (h : PG X e t) (i : ∀ v σ H Q, t' v σ H Q → t v σ H Q) : PG X e t' := ⟨fun pins s σ H v u Q I r q => h.run pins s σ H v u Q I r (i v σ H Q q)⟩
theorem PGs.imp {X : Cx} {e : List Expr} {t t' : TGs} (h : PGs X e t) (i : ∀ v σ H Q, t' v σ H Q → t v σ H Q) : PGs X e t' := ⟨fun pins s σ H v u Q I r q => h.run pins s σ H v u Q I r (i v σ H Q q)⟩
abbrev DP (X : Cx) (e : Expr) (p : Pt) : Prop := PG X e (GoP (kX X) p)
abbrev DPs (X : Cx) (es : List Expr) (ps : List Pt) : Prop := PGs X es (GoPs (kX X) ps)
/-- values that are held across a target's binding -/
theorem bindP_sat {K : KF} {G : Gh} {P : PA1} {ρ : List Sl} {t : Nat} {σ : St} {H : Hp} {l : List (D × V)} (S : Sat K G P ρ t σ H) (h : ∀ p ∈ l, Rp K H P (Mx G.F P ρ σ) p.1 p.2) : Sat K (G.holds l) P ρ t σ H := S.holds h
section
variable {X : Cx} {e : Expr} {es : List Expr} {pos : Pos}
theorem dp_name {i : Nat} {x : Str} (hN : X.N.Nodup) (hi : X.N[i]? = some x) (hx : Loc X.env.scope x) (hf : X.fn x = true ∨ X.env.scope.names.lookup x = some .local) : DP X (.Name x pos) (.nm i) := PG.imp (pg_name hN hi hx hf) fun v σ H Q h => by
  obtain ⟨G, P, ρ, t, d, ρ', S, rp, eb, hq⟩ := h
  rw [bindP] at eb
  cases eb
  exact hq _ (S.setIm rp) .set
theorem dps_nil : DPs X [] [] := PGs.imp pgs_nil fun vs σ H Q h => by
  obtain ⟨G, P, ρ, t, ds, ρ', S, ra, eb, hq⟩ := h
  cases ds with
  | nil =>
    rw [bindPs] at eb
    cases eb
    rw [RpA] at ra
    exact ⟨ra, hq σ S (.refl _ _)⟩
  | cons d ds => simp [bindPs] at eb
theorem dps_cons {p : Pt} {ps : List Pt} (h1 : DP X e p) (h2 : DPs X es ps) (hs : (assignEach (e :: es) X.env).map (·.2) = assign e X.env :: (assignEach es X.env).map (·.2)) : DPs X (e :: es) (p :: ps) := PGs.imp (pgs_cons h1 h2 hs) fun vs σ H Q h => by
  obtain ⟨G, P, ρ, t, ds, ρ', S, ra, eb, hq⟩ := h
  cases ds with
  | nil => simp [bindPs] at eb
  | cons d ds =>
    rw [bindPs] at eb
    obtain ⟨x, r, rfl, rp, ra⟩ := ra.cons_inv
    split at eb
    · rename_i ρ1 e1
      have Sh : Sat (kX X) (G.holds (ds.zip r)) P ρ t σ H := S.holds fun p hp => by
        obtain ⟨i, hi⟩ := List.getElem?_of_mem hp
        rw [List.getElem?_zip_eq_some] at hi
        obtain ⟨y, g1, g2⟩ := ra.get hi.1
        rw [hi.2] at g1; cases g1
        exact g2
      refine ⟨x, r, rfl, G.holds (ds.zip r), P, ρ, t, d, ρ1, Sh, rp, e1, fun σ1 S1 al1 => ?_⟩
      obtain ⟨S2, hh⟩ := S1.unholds
      have ra2 : ∀ {ds : List D} {r : List V}, ds.length = r.length → (∀ p ∈ ds.zip r, Rp (kX X) H P (Mx G.F P ρ1 σ1) p.1 p.2) → RpA (kX X) H P (Mx G.F P ρ1 σ1) ds r := by
        intro ds
        induction ds with
        | nil => intro r hl _; cases r with | nil => exact .nil | cons _ _ => cases hl
        | cons d ds ih => intro r hl hz; cases r with
          | nil => cases hl
          | cons y r => exact .cons (hz (d, y) List.mem_cons_self) (ih (by simpa using hl) fun p hp => hz p (List.mem_cons_of_mem _ hp))
      exact ⟨G, P, ρ1, t, ds, ρ', S2, ra2 ra.length hh, eb, fun σ2 S3 al2 => hq σ2 S3 (al1.trans al2)⟩
    · cases eb
theorem dp_tup {k : Nat} {ps : List Pt} (hc : X.calm = true) (h : DPs X es ps) (hn : (assignEach es X.env).length = ps.length) (hst : (assignEach es X.env).findIdx? (·.1) = none) : DP X (.Tuple es k pos) (.tp ps) := PG.imp (pg_tup hc h hn hst) fun v σ H Q h => by
  obtain ⟨G, P, ρ, t, d, ρ', S, rp, eb, hq⟩ := h
  have lenOk : ∀ {ps : List Pt} {ds : List D} {ρ ρ' : List Sl}, bindPs ps ds ρ = some ρ' → ps.length = ds.length := by
    intro ps
    induction ps with
    | nil => intro ds ρ ρ' e; cases ds with | nil => rfl | cons _ _ => simp [bindPs] at e
    | cons p ps ih => intro ds ρ ρ' e; cases ds with
      | nil => simp [bindPs] at e
      | cons d ds =>
        rw [bindPs] at e
        split at e
        · rw [List.length_cons, List.length_cons, ih e]
        · cases e
  cases d with
  | tup ds =>
    rw [bindP] at eb
    rw [Rp] at rp
    obtain ⟨a, xs, rfl, hq1, ra⟩ := rp
    refine ⟨a, xs, rfl, hq1, by rw [← ra.length, lenOk eb], G, P, ρ, t, ds, ρ', S, ra, eb, fun σ' S' al => hq σ' S' al⟩
  | _ => simp [bindP] at eb
end
/-- target = value, a tuple unpacked -/
@[simp] def unpS (p : Pt) (w : W) : WS := fun ρ t k => w ρ t (fun r ρ1 t1 => ∃ ρ2, bindP p r.d ρ1 = some ρ2 ∧ k.nx ρ2 t1) k.ex
section
variable {X : Cx} {EX : XX} {e tg : Expr} {pos : Pos} {w : W}
theorem ds_unp {p : Pt} (he : DE X EX e w) (hg : DP X tg p) (hs : swapsWithSole [tg] e pos.line X.env = pure false) (hw : swappedStores [tg] e X.env = pure none) (h1 : (assignEach [tg] X.env).map (·.2) = [assign tg X.env]) :
    DS X EX (.Assign [tg] e pos) (unpS p w) := PS.imp (ps_asg he hg hs hw h1) fun D σ H h => by
  obtain ⟨G, P, ρ, t, k, S, hw, lk, hn, hb, hc, hr⟩ := h
  refine ⟨G, P, ρ, t, _, k.ex, S, hw, lk, fun r ρ' t' v H' P' z rs => ?_⟩
  obtain ⟨ρ2, eb, q⟩ := z
  obtain ⟨S1, rp⟩ := rs.im
  exact ⟨G, P', ρ', t', r.d, ρ2, S1, rp, eb, fun σ' S' _ => hn _ _ _ _ P' q S'⟩
end
end NB
set_option Elab.async false
set_option linter.all false
set_option maxRecDepth 100000
set_option maxHeartbeats 4000000
set_option autoImplicit false
/-! What is walked; for, while, comprehensions. -/
namespace NB
open PySem PySem.Spec PyProof.Rows L2

/-- an iterator that gives ds, as long as hs is held -/
def ItOk (K : KF) (hs : List (D × V)) (ds : List D) (J : It) : Prop :=
  ∀ (G : Gh) (P : PA1) (ρ : List Sl) (t : Nat) (σ : St) (H : Hp), Sat K G P ρ t σ H → (∀ p ∈ hs, p ∈ G.hd) →
    (∀ i, i < ds.length → J.go i H) ∧ J.stop ds.length H ∧
    ∀ i x H', i < ds.length → J.yld i H x H' → Kp K (fun _ => False) H H' ∧ ∃ d, ds[i]? = some d ∧ Rp K H' P (Mx G.F P ρ σ) d x
def RI (K : KF) : Rel (List D) It := fun G P ρ t σ H ds J => ∃ hs, Sat K (G.holds hs) P ρ t σ H ∧ ItOk K hs ds J
abbrev DI (X : Cx) (EX : XX) (tg iter : Expr) (wi : Wg (List D)) : Prop := PI X tg iter (Go (kX X) EX (RI (kX X)) wi)
theorem PI.imp {X : Cx} {tg e : Expr} {t t' : TI} (h : PI X tg e t) (i : ∀ σ H Q, t' σ H Q → t σ H Q) : PI X tg e t' := ⟨fun pins s σ H R I q => h.run pins s σ H R I (i σ H R q)⟩

section
variable {K : KF} {ds es : List D} {a b : Addr} {v u : V}
theorem itok_list : ItOk K [(.lst ds, .ref a)] ds (Itl K a) := fun G P ρ t σ H S hh => by
  have h := S.hd _ (hh _ List.mem_cons_self)
  rw [Rp] at h
  obtain ⟨a', xs, e, _, hl, ra⟩ := h
  cases e
  have hq : SqL K H a xs := .of hl
  have hlen := ra.length
  refine ⟨fun i hi => ⟨xs, xs[i]'(by omega), hq, List.getElem?_eq_getElem (by omega)⟩, ⟨xs, hq, by omega⟩, fun i x H' hi y => ?_⟩
  obtain ⟨rfl, y⟩ := y
  obtain ⟨d, h1, h2⟩ := ra.get' (y xs hq)
  exact ⟨.refl, d, h1, h2⟩
theorem itok_tup : ItOk K [(.tup ds, .ref a)] ds (Itt K a) := fun G P ρ t σ H S hh => by
  have h := S.hd _ (hh _ List.mem_cons_self)
  rw [Rp] at h
  obtain ⟨a', xs, e, hq, ra⟩ := h
  cases e
  have hlen := ra.length
  refine ⟨fun i hi => ⟨xs, xs[i]'(by omega), hq, List.getElem?_eq_getElem (by omega)⟩, ⟨xs, hq, by omega⟩, fun i x H' hi y => ?_⟩
  obtain ⟨rfl, y⟩ := y
  obtain ⟨d, h1, h2⟩ := ra.get' (y xs hq)
  exact ⟨.refl, d, h1, h2⟩
def signsD (z : Str) : List D := z.cps.toList.map fun c => .str ⟨#[c]⟩
theorem itok_str {z : Str} : ItOk K [] (signsD z) (Its z) := fun G P ρ t σ H S hh => by
  have hl : (signsD z).length = z.cps.size := by simp [signsD]
  refine ⟨fun i hi => by show i < z.cps.size; omega, by show z.cps.size ≤ _; omega, fun i x H' hi y => ?_⟩
  obtain ⟨rfl, c, h1, rfl⟩ := y
  refine ⟨.refl, .str ⟨#[c]⟩, ?_, by rw [Rp]⟩
  unfold signsD
  rw [List.getElem?_map, Array.getElem?_toList, h1]
  rfl
def rangeD (lo : Int) (n : Nat) : List D := (List.range n).map fun i => .int (lo + (i : Nat))
theorem itok_range {lo : Int} {n : Nat} : ItOk K [] (rangeD lo n) (Itr lo n) := fun G P ρ t σ H S hh => by
  have hl : (rangeD lo n).length = n := by simp [rangeD]
  refine ⟨fun i hi => by show i < n; omega, by show n ≤ _; omega, fun i x H' hi y => ?_⟩
  obtain ⟨rfl, rfl⟩ := y
  refine ⟨.refl, .int (lo + (i : Nat)), ?_, by rw [Rp]⟩
  unfold rangeD
  rw [List.getElem?_map, List.getElem?_range (by omega)]
  rfl
theorem kp_new {H H' : Hp} {T : Addr} {o : HO} (h : H T = none) (e : H' = upd H T o) : Kp K (fun _ => False) H H' := by
  subst e; exact kp_upd h
def zipD (ds es : List D) : List D := (ds.zip es).map fun p => .tup [p.1, p.2]
theorem pair_new {H : Hp} {P M : PA1} {T : Addr} {x y : V} {d e : D} (hT : H T = none) (h1 : Rp K H P M d x) (h2 : Rp K H P M e y) : Rp K (upd H T (.tup [x, y])) P M (.tup [d, e]) (.ref T) := by
  rw [Rp]
  exact ⟨T, [x, y], rfl, .inl (.inl upd_same), .cons (h1.mo (.grow (kp_upd hT))) (.cons (h2.mo (.grow (kp_upd hT))) .nil)⟩
theorem itok_zipL : ItOk K [(.lst ds, .ref a), (.lst es, .ref b)] (zipD ds es) (Itz K a b) := fun G P ρ t σ H S hh => by
  have h := S.hd _ (hh _ List.mem_cons_self)
  have g := S.hd _ (hh _ (List.mem_cons_of_mem _ List.mem_cons_self))
  rw [Rp] at h g
  obtain ⟨a', xs, e1, _, hl, ra⟩ := h
  obtain ⟨b', ys, e2, _, gl, rb⟩ := g
  cases e1
  cases e2
  have l1 := ra.length
  have l2 := rb.length
  have hn : (zipD ds es).length = min ds.length es.length := by simp [zipD]
  refine ⟨fun i hi => ⟨xs, ys, xs[i]'(by omega), ys[i]'(by omega), .of hl, .of gl, List.getElem?_eq_getElem (by omega), List.getElem?_eq_getElem (by omega)⟩, ⟨xs, ys, .of hl, .of gl, by omega⟩, fun i v H' hi y => ?_⟩
  obtain ⟨T, x, y, rfl, hT, rfl, f1, f2⟩ := y
  obtain ⟨d, h1, h2⟩ := ra.get' (f1 xs (.of hl))
  obtain ⟨d', h3, h4⟩ := rb.get' (f2 ys (.of gl))
  refine ⟨kp_upd hT, .tup [d, d'], ?_, pair_new hT h2 h4⟩
  unfold zipD
  rw [List.getElem?_map, (List.getElem?_zip_eq_some (z := (d, d'))).mpr ⟨h1, h3⟩]
  rfl
theorem itok_zipT : ItOk K [(.tup ds, .ref a), (.tup es, .ref b)] (zipD ds es) (RZ.ItzT K a b) := fun G P ρ t σ H S hh => by
  have h := S.hd _ (hh _ List.mem_cons_self)
  have g := S.hd _ (hh _ (List.mem_cons_of_mem _ List.mem_cons_self))
  rw [Rp] at h g
  obtain ⟨a', xs, e1, hl, ra⟩ := h
  obtain ⟨b', ys, e2, gl, rb⟩ := g
  cases e1
  cases e2
  have l1 := ra.length
  have l2 := rb.length
  have hn : (zipD ds es).length = min ds.length es.length := by simp [zipD]
  refine ⟨fun i hi => ⟨xs, ys, xs[i]'(by omega), ys[i]'(by omega), hl, gl, List.getElem?_eq_getElem (by omega), List.getElem?_eq_getElem (by omega)⟩, ⟨xs, ys, hl, gl, by omega⟩, fun i v H' hi y => ?_⟩
  obtain ⟨T, x, y, rfl, hT, rfl, f1, f2⟩ := y
  obtain ⟨d, h1, h2⟩ := ra.get' (f1 xs hl)
  obtain ⟨d', h3, h4⟩ := rb.get' (f2 ys gl)
  refine ⟨kp_upd hT, .tup [d, d'], ?_, pair_new hT h2 h4⟩
  unfold zipD
  rw [List.getElem?_map, (List.getElem?_zip_eq_some (z := (d, d'))).mpr ⟨h1, h3⟩]
  rfl
def enumD (ds : List D) : List D := (ds.zipIdx).map fun p => .tup [.int (p.2 : Nat), p.1]
theorem itok_enum : ItOk K [(.lst ds, .ref a)] (enumD ds) (Ite K a) := fun G P ρ t σ H S hh => by
  have h := S.hd _ (hh _ List.mem_cons_self)
  rw [Rp] at h
  obtain ⟨a', xs, e1, _, hl, ra⟩ := h
  cases e1
  have l1 := ra.length
  have hn : (enumD ds).length = ds.length := by simp [enumD]
  refine ⟨fun i hi => ⟨xs, xs[i]'(by omega), .of hl, List.getElem?_eq_getElem (by omega)⟩, ⟨xs, .of hl, by omega⟩, fun i v H' hi y => ?_⟩
  obtain ⟨T, x, rfl, hT, rfl, f1⟩ := y
  obtain ⟨d, h1, h2⟩ := ra.get' (f1 xs (.of hl))
  refine ⟨kp_upd hT, .tup [.int (i : Nat), d], ?_, pair_new hT (by rw [Rp]) h2⟩
  unfold enumD
  rw [List.getElem?_map, List.getElem?_zipIdx, h1]
  simp
end

/-! ### what may be walked -/
@[simp] def itemsD : D → Option (List D)
  | .lst ds => some ds
  | .tup ds => some ds
  | .str z => some (signsD z)
  | _ => none
@[simp] def seqI (w : W) : Wg (List D) := fun ρ t Q E => w ρ t (fun r ρ1 t1 => ∃ ds, itemsD r.d = some ds ∧ Q ds ρ1 t1) E
@[simp] def range1I (a : Wg (List D)) : Wg (List D) := fun ρ t Q E => a ρ t (fun xs ρ1 t1 => ∃ hi : Int, xs = [.int hi] ∧ -(2 ^ 62) ≤ hi ∧ hi < 2 ^ 62 ∧ Q (rangeD 0 hi.toNat) ρ1 t1) E
@[simp] def range2I (a : Wg (List D)) : Wg (List D) := fun ρ t Q E => a ρ t (fun xs ρ1 t1 => ∃ lo hi : Int, xs = [.int lo, .int hi] ∧ -(2 ^ 62) ≤ lo ∧ lo < 2 ^ 62 ∧ -(2 ^ 62) ≤ hi ∧ hi < 2 ^ 62 ∧ Q (rangeD lo (hi - lo).toNat) ρ1 t1) E
@[simp] def zipI (a : Wg (List D)) : Wg (List D) := fun ρ t Q E => a ρ t (fun xs ρ1 t1 => ∃ ds es, (xs = [.lst ds, .lst es] ∨ xs = [.tup ds, .tup es]) ∧ Q (zipD ds es) ρ1 t1) E
@[simp] def enumI (a : Wg (List D)) : Wg (List D) := fun ρ t Q E => a ρ t (fun xs ρ1 t1 => ∃ ds, xs = [.lst ds] ∧ Q (enumD ds) ρ1 t1) E
section
variable {X : Cx} {EX : XX} {tg e e2 : Expr} {pos p : Pos}
/-- an iterator's one object at the heap's end -/
theorem pie_one {pins : List (Addr × Obj)} {σ : St} {H : Hp} {s : Shared} {R : It → Hp → Prop} {J : It} {tn : Nat → Heap → Prop} {o : Obj} (I : Inv X pins σ H s) (T : Turn X.prog X.w (kX X) tg J [s.heap.objs.size] s.heap.objs.size tn) (st : tn 0 (s.heap.push o)) (q : R J H) :
    PIE X pins σ tg R (.ref s.heap.objs.size) { s with heap := s.heap.push o } := by
  refine ⟨_, _, tn, J, H, rfl, I.kept (t' := s.toks) fun b u z => Heap.get?_push_of_some _ z, T, st, fun b hb => ?_, q⟩
  rw [List.mem_singleton.mp hb]
  exact I.fpOk (Nat.le_refl _) (I.hok.fresh (Nat.le_refl _))
theorem di_seq {w : W} (h : DE X EX e w) : DI X EX tg e (seqI w) := by
  refine ⟨fun pins s σ H R I hw => ?_⟩
  obtain ⟨G, P, ρ, t, Q', E, S, hw, lk, hq⟩ := hw
  refine thn (h.run pins s σ H (fun x H1 => ∃ r ρ1 t1 P1 ds, RS (kX X) G P1 ρ1 t1 σ H1 r x ∧ itemsD r.d = some ds ∧ Q' ds ρ1 t1) I ⟨G, P, ρ, t, _, E, S, hw, lk, fun r ρ1 t1 x H1 P1 z rs => ?_⟩) fun v s1 ⟨x, H1, I1, r1, r, ρ1, t1, P1, ds, rs, e1, q⟩ => ?_
  · obtain ⟨ds, e1, q⟩ := z
    exact ⟨r, ρ1, t1, P1, ds, rs, e1, q⟩
  · obtain ⟨S1, rp⟩ := rs.im
    cases hd : r.d with
    | lst es =>
      rw [hd] at e1 rp
      cases e1
      have rp0 := rp
      rw [Rp] at rp
      obtain ⟨a, xs, rfl, _, hl, ra⟩ := rp
      cases r1
      obtain ⟨its, rv, pl, hz⟩ := I1.list (show SqL (kX X) H1 a xs from .of hl)
      refine wpAny_pyIter_list pl.isList (pie_one I1 (turn_list a _) ⟨_, Heap.get?_push_size _ rfl, rfl, rfl⟩ ?_)
      exact hq _ _ _ _ _ P1 q ⟨[(.lst ds, .ref a)], S1.holds (fun p hp => by rw [List.mem_singleton.mp hp]; exact rp0), itok_list⟩
    | tup es =>
      rw [hd] at e1 rp
      cases e1
      have rp0 := rp
      rw [Rp] at rp
      obtain ⟨a, xs, rfl, hl, ra⟩ := rp
      cases r1
      obtain ⟨its, rv, pl, hz⟩ := I1.tuple hl
      refine wpAny_pyIter_tuple (show s1.heap.IsTuple a its.toArray from pl) (pie_one I1 (turn_tuple a _) ⟨_, Heap.get?_push_size _ rfl, rfl, rfl⟩ ?_)
      exact hq _ _ _ _ _ P1 q ⟨[(.tup ds, .ref a)], S1.holds (fun p hp => by rw [List.mem_singleton.mp hp]; exact rp0), itok_tup⟩
    | str z =>
      rw [hd] at e1 rp
      cases e1
      rw [Rp] at rp
      subst rp
      obtain ⟨tk, rfl⟩ := r1
      have fin : Q' (signsD z) ρ1 t1 → R (Its z) H1 := fun q => hq _ _ _ _ _ P1 q ⟨[], S1.holds (fun p hp => absurd hp (by simp)), itok_str⟩
      cases ha : z.cps.all (· < 128)
      · exact wpAny_pyIter_wide ha (pie_one I1 (turn_str _ z tk "str_iterator" (.inr rfl)) ⟨_, Heap.get?_push_size _ rfl, rfl, rfl⟩ (fin q))
      · exact wpAny_pyIter_ascii ha (pie_one I1 (turn_str _ z tk "str_ascii_iterator" (.inl rfl)) ⟨_, Heap.get?_push_size _ rfl, rfl, rfl⟩ (fin q))
    | non => rw [hd] at e1; cases e1
    | bl _ => rw [hd] at e1; cases e1
    | int _ => rw [hd] at e1; cases e1
    | pot => rw [hd] at e1; cases e1
    | scr _ => rw [hd] at e1; cases e1
    | exc _ _ => rw [hd] at e1; cases e1
    | fnv _ => rw [hd] at e1; cases e1
    | clo _ _ => rw [hd] at e1; cases e1
    | dct _ _ => rw [hd] at e1; cases e1
    | ins _ _ => rw [hd] at e1; cases e1
theorem ra_one {K : KF} {H : Hp} {P M : PA1} {d : D} {vs : List V} (h : RpA K H P M [d] vs) : ∃ v, vs = [v] ∧ Rp K H P M d v := by
  obtain ⟨x, r, rfl, h1, h2⟩ := h.cons_inv
  rw [RpA] at h2
  subst h2
  exact ⟨x, rfl, h1⟩
theorem ra_two {K : KF} {H : Hp} {P M : PA1} {d e : D} {vs : List V} (h : RpA K H P M [d, e] vs) : ∃ v u, vs = [v, u] ∧ Rp K H P M d v ∧ Rp K H P M e u := by
  obtain ⟨x, r, rfl, h1, h2⟩ := h.cons_inv
  obtain ⟨y, rfl, h3⟩ := ra_one h2
  exact ⟨x, y, rfl, h1, h3⟩
theorem di_range1 {w : Wg (List D)} (hg : Gl X "range") (hm : X.mg "range" = none) (ha : DA X EX [e] w) (hs : starEach [e] X.env = [(false, eval e X.env)]) : DI X EX tg (.Call (.Name "range" p) [e] [] pos) (range1I w) := PI.imp (pi_range1 hg hm ha hs) fun σ H R h => by
  obtain ⟨G, P, ρ, t, Q', E, S, hw, lk, hq⟩ := h
  refine ⟨G, P, ρ, t, _, E, S, hw, lk, fun xs ρ1 t1 vs H1 P1 z rs => ?_⟩
  obtain ⟨hi, rfl, b3, b4, q⟩ := z
  obtain ⟨S1, ra⟩ := rs
  obtain ⟨v, rfl, h1⟩ := ra_one ra
  rw [Rp] at h1
  exact ⟨hi, by rw [h1], b3, b4, hq _ _ _ _ _ P1 q ⟨[], S1.holds (fun p hp => absurd hp (by simp)), itok_range⟩⟩
theorem di_range2 {w : Wg (List D)} (hg : Gl X "range") (hm : X.mg "range" = none) (ha : DA X EX [e, e2] w) (hs : starEach [e, e2] X.env = [(false, eval e X.env), (false, eval e2 X.env)]) (hs2 : starEach [e2] X.env = [(false, eval e2 X.env)]) :
    DI X EX tg (.Call (.Name "range" p) [e, e2] [] pos) (range2I w) := PI.imp (pi_range2 hg hm ha hs hs2) fun σ H R h => by
  obtain ⟨G, P, ρ, t, Q', E, S, hw, lk, hq⟩ := h
  refine ⟨G, P, ρ, t, _, E, S, hw, lk, fun xs ρ1 t1 vs H1 P1 z rs => ?_⟩
  obtain ⟨lo, hi, rfl, b1, b2, b3, b4, q⟩ := z
  obtain ⟨S1, ra⟩ := rs
  obtain ⟨v, u, rfl, h1, h2⟩ := ra_two ra
  rw [Rp] at h1 h2
  exact ⟨lo, hi, by rw [h1, h2], ⟨b1, b2, b3, b4⟩, hq _ _ _ _ _ P1 q ⟨[], S1.holds (fun p hp => absurd hp (by simp)), itok_range⟩⟩
theorem di_zip {w : Wg (List D)} {elts : List Expr} {kk : Nat} {tpos : Pos} (hg : Gl X "zip") (hm : X.mg "zip" = none) (ha : DA X EX [e, e2] w) (hs : starEach [e, e2] X.env = (false, eval e X.env) :: starEach [e2] X.env) (hpl : (backTo pos (starEach [e2] X.env)).any (·.1) = false) :
    DI X EX (.Tuple elts kk tpos) (.Call (.Name "zip" p) [e, e2] [] pos) (zipI w) := PI.imp (RZ.pi_zipA hg hm ha hs hpl) fun σ H R h => by
  obtain ⟨G, P, ρ, t, Q', E, S, hw, lk, hq⟩ := h
  refine ⟨G, P, ρ, t, _, E, S, hw, lk, fun xs ρ1 t1 vs H1 P1 z rs => ?_⟩
  obtain ⟨ds, es, hx, q⟩ := z
  obtain ⟨S1, ra⟩ := rs
  have two : ∀ {d1 d2 : D} {v1 v2 : V}, Rp (kX X) H1 P1 (Mx G.F P1 ρ1 σ) d1 v1 → Rp (kX X) H1 P1 (Mx G.F P1 ρ1 σ) d2 v2 → Sat (kX X) (G.holds [(d1, v1), (d2, v2)]) P1 ρ1 t1 σ H1 := fun {d1 d2 v1 v2} g1 g2 => S1.holds fun p hp => by
    rcases List.mem_cons.mp hp with e | hp
    · rw [e]; exact g1
    · rw [List.mem_singleton.mp hp]; exact g2
  rcases hx with rfl | rfl
  · obtain ⟨v, u, rfl, h1, h2⟩ := ra_two ra
    have h1' := h1
    have h2' := h2
    rw [Rp] at h1 h2
    obtain ⟨a, ys, rfl, _, hl, _⟩ := h1
    obtain ⟨b, zs, rfl, _, gl, _⟩ := h2
    exact ⟨a, b, ys, zs, rfl, .inl ⟨.of hl, .of gl, hq _ _ _ _ _ P1 q ⟨_, two h1' h2', itok_zipL⟩⟩⟩
  · obtain ⟨v, u, rfl, h1, h2⟩ := ra_two ra
    have h1' := h1
    have h2' := h2
    rw [Rp] at h1 h2
    obtain ⟨a, ys, rfl, hl, _⟩ := h1
    obtain ⟨b, zs, rfl, gl, _⟩ := h2
    exact ⟨a, b, ys, zs, rfl, .inr ⟨hl, gl, hq _ _ _ _ _ P1 q ⟨_, two h1' h2', itok_zipT⟩⟩⟩
theorem di_enum {w : Wg (List D)} {elts : List Expr} {kk : Nat} {tpos : Pos} (hg : Gl X "enumerate") (hm : X.mg "enumerate" = none) (ha : DA X EX [e] w) (hs : starEach [e] X.env = [(false, eval e X.env)]) :
    DI X EX (.Tuple elts kk tpos) (.Call (.Name "enumerate" p) [e] [] pos) (enumI w) := PI.imp (pi_enum hg hm ha hs) fun σ H R h => by
  obtain ⟨G, P, ρ, t, Q', E, S, hw, lk, hq⟩ := h
  refine ⟨G, P, ρ, t, _, E, S, hw, lk, fun xs ρ1 t1 vs H1 P1 z rs => ?_⟩
  obtain ⟨ds, rfl, q⟩ := z
  obtain ⟨S1, ra⟩ := rs
  obtain ⟨v, rfl, h1⟩ := ra_one ra
  have h1' := h1
  rw [Rp] at h1
  obtain ⟨a, ys, rfl, _, hl, _⟩ := h1
  exact ⟨a, ys, rfl, .of hl, hq _ _ _ _ _ P1 q ⟨_, S1.holds (fun p hp => by rw [List.mem_singleton.mp hp]; exact h1'), itok_enum⟩⟩
end

/-! ### for, while -/
theorem EndR.unholds {K : KF} {G : Gh} {P : PA1} {t : Nat} {H : Hp} {r : R} {v : V} {l : List (D × V)} (h : EndR K (G.holds l) P t H r v) : EndR K G P t H r v := ⟨⟨h.1.pt, h.1.p0, h.1.pn, h.1.kp, h.1.tb⟩, h.2⟩
@[simp] def turnS (p : Pt) (b : WS) (d : D) : WS := fun ρ t k => ∃ ρ', bindP p d ρ = some ρ' ∧ b ρ' t k
def forL (b : D → WS) : List D → WS
  | [] => nextS
  | d :: ds => fun ρ t k => b d ρ t { k with nx := fun ρ' t' => forL b ds ρ' t' k, ct := fun ρ' t' => forL b ds ρ' t' k, bk := k.nx }
@[simp] def forS (wi : Wg (List D)) (p : Pt) (b : WS) : WS := fun ρ t k => wi ρ t (fun ds ρ' t' => forL (turnS p b) ds ρ' t' k) k.ex
def whileS (c : Wg Bool) (b : WS) : WS := fun ρ t k => ∃ I : Nat → List Sl → Nat → Prop, (∃ m, I m ρ t) ∧ ∀ m ρ t, I m ρ t →
  c ρ t (fun x ρ1 t1 => if x = true then b ρ1 t1 { k with nx := fun ρ' t' => ∃ m', m' < m ∧ I m' ρ' t', ct := fun ρ' t' => ∃ m', m' < m ∧ I m' ρ' t', bk := k.nx } else k.nx ρ1 t1) k.ex
section
variable {X : Cx} {EX : XX} {tg iter c : Expr} {body : List Stmt} {pos : Pos}
theorem ds_for {wi : Wg (List D)} {p : Pt} {wb : WS} (hp : PassesOwn (model X.prog X.w) X.A X.env X.xe) (hc : X.calm = true) (hi : DI X EX tg iter wi) (hg : DP X tg p) (hb : DSs X EX body wb) (hs : ∀ x, foldedSetIterable iter X.env x = pure x) :
    DS X EX (.For tg iter body [] pos) (forS wi p wb) := PS.imp (ps_for hp hc hi hg hb hs) fun D σ H h => by
  obtain ⟨G, P, ρ, t, k, S, hw, lk, hn, hb, hct, hr⟩ := h
  refine ⟨G, P, ρ, t, _, k.ex, S, hw, lk, fun ds ρ1 t1 J H1 P1 z ri => ?_⟩
  obtain ⟨hs, S1, ok⟩ := ri
  have inh : ∀ q ∈ hs, q ∈ (G.holds hs).hd := fun q hq => List.mem_append_left _ hq
  refine ⟨fun i m σ H => m = ds.length - i ∧ i ≤ ds.length ∧ ∃ P ρ t, Sat (kX X) (G.holds hs) P ρ t σ H ∧ forL (turnS p wb) (ds.drop i) ρ t k, ⟨ds.length, rfl, Nat.zero_le _, P1, ρ1, t1, S1, z⟩, ?_⟩
  rintro i m σ2 H2 ⟨rfl, hi, P2, ρ2, t2, S2, q⟩
  obtain ⟨g1, g2, g3⟩ := ok _ _ _ _ _ _ S2 inh
  by_cases hlt : i < ds.length
  · refine .inr ⟨g1 i hlt, fun σ' H' => ∃ P ρ t, Sat (kX X) (G.holds hs) P ρ t σ' H' ∧ forL (turnS p wb) (ds.drop (i + 1)) ρ t k, fun σ' H' n => ⟨ds.length - (i + 1), by omega, rfl, hlt, n⟩, fun x H3 y => ?_⟩
    obtain ⟨k3, d, e1, rp⟩ := g3 i x H3 hlt y
    have ed : ds.drop i = d :: ds.drop (i + 1) := by
      rw [List.drop_eq_getElem_cons hlt]
      rw [List.getElem?_eq_getElem hlt] at e1
      cases e1
      rfl
    rw [ed] at q
    obtain ⟨ρ', eb, q⟩ := q
    refine ⟨G.holds hs, P2, ρ2, t2, d, ρ', S2.grow k3, rp, eb, fun σ4 S4 _ => ?_⟩
    refine ⟨G.holds hs, P2, ρ', t2, _, S4, q, lk.holds, fun ρ5 t5 σ5 H5 P5 n5 S5 => ⟨P5, ρ5, t5, S5, n5⟩, fun ρ5 t5 σ5 H5 P5 n5 S5 => hn _ _ _ _ P5 n5 S5.unholds.1, fun ρ5 t5 σ5 H5 P5 n5 S5 => ⟨P5, ρ5, t5, S5, n5⟩, fun r t5 v H5 P5 n5 S5 => hr r t5 v H5 P5 n5 S5.unholds⟩
  · have e : i = ds.length := by omega
    subst e
    rw [List.drop_length] at q
    exact .inl ⟨g2, hn _ _ _ _ P2 q S2.unholds.1⟩
theorem ds_while {wc : Wg Bool} {wb : WS} (hp : PassesOwn (model X.prog X.w) X.A X.env X.xe) (hc : DT X EX c wc) (hb : DSs X EX body wb) : DS X EX (.While c body [] pos) (whileS wc wb) := PS.imp (ps_while hp hc hb) fun D σ H h => by
  obtain ⟨G, P, ρ, t, k, S, hw, lk, hn, hb, hct, hr⟩ := h
  obtain ⟨Iv, ⟨m0, h0⟩, turn⟩ := hw
  refine ⟨fun m σ H => ∃ P ρ t, Sat (kX X) G P ρ t σ H ∧ Iv m ρ t, ⟨m0, P, ρ, t, S, h0⟩, ?_⟩
  rintro m σ1 H1 ⟨P1, ρ1, t1, S1, i1⟩
  refine ⟨G, P1, ρ1, t1, _, k.ex, S1, turn m ρ1 t1 i1, lk, fun x ρ2 t2 v H2 P2 z rs => ?_⟩
  obtain ⟨S2, rfl⟩ := rs
  cases x with
  | false =>
    rw [if_neg Bool.false_ne_true] at z ⊢
    exact hn _ _ _ _ P2 z S2
  | true =>
    rw [if_pos rfl] at z ⊢
    refine ⟨fun σ' H' => ∃ m', m' < m ∧ ∃ P ρ t, Sat (kX X) G P ρ t σ' H' ∧ Iv m' ρ t, fun σ' H' ⟨m', l, q⟩ => ⟨m', l, q⟩, ?_⟩
    exact ⟨G, P2, ρ2, t2, _, S2, z, lk, fun ρ5 t5 σ5 H5 P5 ⟨m', l, n5⟩ S5 => ⟨m', l, P5, ρ5, t5, S5, n5⟩, fun ρ5 t5 σ5 H5 P5 n5 S5 => hn _ _ _ _ P5 n5 S5, fun ρ5 t5 σ5 H5 P5 ⟨m', l, n5⟩ S5 => ⟨m', l, P5, ρ5, t5, S5, n5⟩, hr⟩
end

/-! ### comprehensions -/
@[simp] def wipeR (ρ : List Sl) : List Nat → List Sl
  | [] => ρ
  | v :: vs => (wipeR ρ vs).set v .non
theorem wipeR_length (ρ : List Sl) : ∀ vs : List Nat, (wipeR ρ vs).length = ρ.length
  | [] => rfl
  | v :: vs => by rw [wipeR, List.length_set, wipeR_length ρ vs]
theorem wipeR_get (ρ : List Sl) : ∀ (ws : List Nat) (j : Nat), (wipeR ρ ws)[j]? = if j ∈ ws ∧ j < ρ.length then some .non else ρ[j]?
  | [], j => by simp [wipeR]
  | v :: ws, j => by
    rw [wipeR]
    by_cases hv : v = j
    · subst hv
      by_cases hj : v < ρ.length
      · rw [List.getElem?_set_self (by rw [wipeR_length]; exact hj), if_pos ⟨List.mem_cons_self, hj⟩]
      · rw [if_neg (fun z => hj z.2), List.getElem?_eq_none (by rw [List.length_set, wipeR_length]; omega), List.getElem?_eq_none (by omega)]
    · rw [List.getElem?_set_ne hv, wipeR_get ρ ws j]
      have e : (j ∈ v :: ws ∧ j < ρ.length) ↔ (j ∈ ws ∧ j < ρ.length) := by
        rw [List.mem_cons]
        exact ⟨fun z => ⟨z.1.resolve_left fun q => hv q.symm, z.2⟩, fun z => ⟨.inr z.1, z.2⟩⟩
      by_cases hc : j ∈ ws ∧ j < ρ.length
      · rw [if_pos hc, if_pos (e.mpr hc)]
      · rw [if_neg hc, if_neg (fun z => hc (e.mp z))]
section
variable {K : KF} {G : Gh} {P : PA1} {ρ ρ' : List Sl} {t : Nat} {σ σ' : St} {H : Hp}
/-- the slots that are known are as they were, others may be forgotten -/
theorem Sat.agree (S : Sat K G P ρ t σ H) (hl : ρ'.length = ρ.length) (hl2 : σ'.length = σ.length) (h : ∀ (i : Nat) (s : Sl), ρ'[i]? = some s → s ≠ .non → ρ[i]? = some s ∧ σ'[i]? = σ[i]?) : Sat K G P ρ' t σ' H := by
  have sub : ∀ a, Mx G.F P ρ' σ' a → Mx G.F P ρ σ a := fun a z => by
    rcases z with z | z | ⟨j, es, h1, h2⟩
    · exact .inl z
    · exact .inr (.inl z)
    · obtain ⟨e1, e2⟩ := h j _ h1 (by intro z; cases z)
      exact .inr (.inr ⟨j, es, e1, e2 ▸ h2⟩)
  have mo : Mo K H H P P (Mx G.F P ρ σ) (Mx G.F P ρ' σ') := .less sub
  refine ⟨by rw [hl, hl2]; exact S.len, fun i d e => ?_, fun i ds e => ?_, fun i j ds es a e1 e2 e3 e4 => ?_, S.fo, fun p hp => (S.hd p hp).mo mo, S.pt, S.p0, S.pn, S.kp, S.fp, S.tb⟩
  · obtain ⟨e1, e2⟩ := h i _ e (by intro z; cases z)
    obtain ⟨v, r1, r2⟩ := S.im i d e1
    exact ⟨v, e2 ▸ r1, r2.mo mo⟩
  · obtain ⟨e1, e2⟩ := h i _ e (by intro z; cases z)
    obtain ⟨a, u, xs, r1, r2, rc, r3, r4⟩ := S.ow i ds e1
    exact ⟨a, u, xs, e2 ▸ r1, r2, rc, r3.mo mo, r4⟩
  · obtain ⟨a1, a2⟩ := h i _ e1 (by intro z; cases z)
    obtain ⟨b1, b2⟩ := h j _ e2 (by intro z; cases z)
    exact S.dj i j ds es a a1 b1 (a2 ▸ e3) (b2 ▸ e4)
/-- a foreign thing's content is another one -/
theorem Sat.updF {a : Addr} {u w : HO} (S : Sat K (G.add a u) P ρ t σ H) (hF : ∀ b, G.F b → b ≠ a) (h0 : Nw G.H0 a) (mw : Mu a w) : Sat K (G.add a w) P ρ t σ (upd H a w) := by
  have hx : H a = some u ∧ Mu a u := by
    obtain ⟨zs, m, e1, e2⟩ := S.fo a (.inr rfl)
    have e1 : upd G.HF a u a = some zs := e1
    rw [upd_same] at e1
    cases e1
    exact ⟨e2, m⟩
  have npa : ¬ P a := S.fp a (.inr rfl)
  have k : Kp K (fun b => b = a) H (upd H a w) := .but (fun b z => ⟨u, by rw [z]; exact hx⟩) fun b o n e => by rw [upd_ne n]; exact e
  have mo : Mo K H (upd H a w) P P (Mx (G.add a u).F P ρ σ) (Mx (G.add a w).F P ρ σ) := .of k (fun b z => by subst z; exact ⟨u, hx⟩) (fun b z => by subst z; exact .inl (.inr rfl)) (fun _ z => z) fun b z => .inl z
  refine ⟨S.len, fun i d e => ?_, fun i ds e => ?_, S.dj, fun b h => ?_, fun p hp => (S.hd p hp).mo mo, fun b h => ?_, S.p0, S.pn, ⟨fun b o e n => ?_, fun t => k.tb (S.kp.tb t)⟩, S.fp, k.tb S.tb⟩
  · obtain ⟨v, r1, r2⟩ := S.im i d e
    exact ⟨v, r1, r2.mo mo⟩
  · obtain ⟨b, v, zs, r1, r2, rc, r3, r4, r5⟩ := S.ow i ds e
    have nb : b ≠ a := fun z => by subst z; exact r4 (.inr rfl)
    exact ⟨b, v, zs, r1, by rw [upd_ne nb]; exact r2, rc, r3.mo mo, r4, r5⟩
  · by_cases hb : b = a
    · subst hb
      exact ⟨w, mw, upd_same, upd_same⟩
    · obtain ⟨zs, m, e1, e2⟩ := S.fo b h
      have e1 : upd G.HF a u b = some zs := e1
      rw [upd_ne hb] at e1
      exact ⟨zs, m, by show upd G.HF a _ b = _; rw [upd_ne hb]; exact e1, by rw [upd_ne hb]; exact e2⟩
  · obtain ⟨i, j, l, e, r⟩ := S.pt b h
    have nb : b ≠ a := fun z => npa (z ▸ h)
    exact ⟨i, j, l, by rw [upd_ne nb]; exact e, r⟩
  · have e : G.H0 b = some o := e
    by_cases nb : b = a
    · rw [nb] at e
      exact .inr (h0 o e)
    · rw [upd_ne nb]
      exact S.kp.go b o e n
end
def compL (p : Pt) (c : Wg Bool) (e : W) (ρw : List Sl) : List D → List D → Nat → (List D → Nat → Prop) → Prop
  | [], acc, t, Q => Q acc t
  | d :: ds, acc, t, Q => ∃ ρ', bindP p d ρw = some ρ' ∧ c ρ' t (fun b ρ1 t1 => ρ1 = ρ' ∧
      if b = true then e ρ' t1 (fun r ρ2 t2 => ρ2 = ρ' ∧ acc.length < sizeLine ∧ compL p c e ρw ds (acc ++ [r.d]) t2 Q) (fun _ _ _ => False) else compL p c e ρw ds acc t1 Q) (fun _ _ _ => False)
@[simp] def compW (wi : Wg (List D)) (vs : List Nat) (p : Pt) (c : Wg Bool) (e : W) : W := fun ρ t Q E => wi ρ t (fun ds ρ1 t1 => compL p c e (wipeR ρ1 vs) ds [] t1 (fun acc t2 => Q (.nw acc) (wipeR ρ1 vs) t2)) E
@[simp] def yesT : Wg Bool := fun ρ t Q _ => Q true ρ t
theorem lk0 {K : KF} {E : XK} {G : Gh} : Lk K (XX.of E) G (fun _ _ _ => False) := ⟨LkE.no fun _ _ _ h => h, trivial⟩
/-- the tests of a clause -/
abbrev DTs (X : Cx) (EX : XX) (ifs : List Expr) (w : Wg Bool) : Prop := PTs X ifs (Go (kX X) EX (RT (kX X)) w)
theorem PTs.imp {X : Cx} {e : List Expr} {t t' : TT} (h : PTs X e t) (i : ∀ σ H Q, t' σ H Q → t σ H Q) : PTs X e t' := ⟨fun pins s σ H Q I q => h.run pins s σ H Q I (i σ H Q q)⟩
theorem dts_nil {X : Cx} {EX : XX} : DTs X EX [] yesT := PTs.imp pts_nil fun σ H Q h => by
  obtain ⟨G, P, ρ, t, Q', E, S, hw, lk, hq⟩ := h
  exact hq _ _ _ _ _ P hw ⟨S, rfl⟩
theorem dts_one {X : Cx} {EX : XX} {c : Expr} {w : Wg Bool} (h : DT X EX c w) : DTs X EX [c] w := pts_one h
mutual
theorem bindP_len : ∀ {p : Pt} {d : D} {ρ ρ' : List Sl}, bindP p d ρ = some ρ' → ρ'.length = ρ.length
  | .nm i, d, ρ, ρ', e => by rw [bindP] at e; cases e; rw [List.length_set]
  | .tp ps, .tup ds, ρ, ρ', e => by rw [bindP] at e; exact bindPs_len e
  | .tp ps, .non, ρ, ρ', e => by simp [bindP] at e
  | .tp ps, .bl _, ρ, ρ', e => by simp [bindP] at e
  | .tp ps, .int _, ρ, ρ', e => by simp [bindP] at e
  | .tp ps, .str _, ρ, ρ', e => by simp [bindP] at e
  | .tp ps, .lst _, ρ, ρ', e => by simp [bindP] at e
  | .tp ps, .pot, ρ, ρ', e => by simp [bindP] at e
  | .tp ps, .scr _, ρ, ρ', e => by simp [bindP] at e
theorem bindPs_len : ∀ {ps : List Pt} {ds : List D} {ρ ρ' : List Sl}, bindPs ps ds ρ = some ρ' → ρ'.length = ρ.length
  | [], [], ρ, ρ', e => by rw [bindPs] at e; cases e; rfl
  | [], _ :: _, ρ, ρ', e => by simp [bindPs] at e
  | _ :: _, [], ρ, ρ', e => by simp [bindPs] at e
  | p :: ps, d :: ds, ρ, ρ', e => by
    rw [bindPs] at e
    split at e
    · rename_i ρ1 e1
      rw [bindPs_len e, bindP_len e1]
    · cases e
end
mutual
theorem bindP_other : ∀ {p : Pt} {d : D} {ρ ρ' : List Sl} {j : Nat}, bindP p d ρ = some ρ' → j ∉ p.ix → ρ'[j]? = ρ[j]?
  | .nm i, d, ρ, ρ', j, e, hj => by
    rw [bindP] at e; cases e
    exact List.getElem?_set_ne fun z => hj (by rw [Pt.ix, z]; exact List.mem_singleton.mpr rfl)
  | .tp ps, .tup ds, ρ, ρ', j, e, hj => by
    rw [bindP] at e
    rw [Pt.ix] at hj
    exact bindPs_other e hj
  | .tp ps, .non, ρ, ρ', _, e, _ => by simp [bindP] at e
  | .tp ps, .bl _, ρ, ρ', _, e, _ => by simp [bindP] at e
  | .tp ps, .int _, ρ, ρ', _, e, _ => by simp [bindP] at e
  | .tp ps, .str _, ρ, ρ', _, e, _ => by simp [bindP] at e
  | .tp ps, .lst _, ρ, ρ', _, e, _ => by simp [bindP] at e
  | .tp ps, .pot, ρ, ρ', _, e, _ => by simp [bindP] at e
  | .tp ps, .scr _, ρ, ρ', _, e, _ => by simp [bindP] at e
theorem bindPs_other : ∀ {ps : List Pt} {ds : List D} {ρ ρ' : List Sl} {j : Nat}, bindPs ps ds ρ = some ρ' → j ∉ Pt.ixs ps → ρ'[j]? = ρ[j]?
  | [], [], ρ, ρ', _, e, _ => by rw [bindPs] at e; cases e; rfl
  | [], _ :: _, ρ, ρ', _, e, _ => by simp [bindPs] at e
  | _ :: _, [], ρ, ρ', _, e, _ => by simp [bindPs] at e
  | p :: ps, d :: ds, ρ, ρ', j, e, hj => by
    rw [Pt.ixs] at hj
    rw [bindPs] at e
    split at e
    · rename_i ρ1 e1
      rw [bindPs_other e (fun z => hj (List.mem_append_right _ z)), bindP_other e1 (fun z => hj (List.mem_append_left _ z))]
    · cases e
end
theorem zip_ra {K : KF} {H : Hp} {P M : PA1} : ∀ {ds : List D} {xs : List V}, ds.length = xs.length → (∀ p ∈ ds.zip xs, Rp K H P M p.1 p.2) → RpA K H P M ds xs
  | [], [], _, _ => .nil
  | [], _ :: _, h, _ => by cases h
  | _ :: _, [], h, _ => by cases h
  | d :: ds, x :: xs, h, g => .cons (g (d, x) List.mem_cons_self) (zip_ra (by simpa using h) fun p hp => g p (List.mem_cons_of_mem _ hp))
section
variable {X : Cx} {EX : XX} {elt tg iter : Expr} {ifs : List Expr} {scope : Scope} {own : List (Str × Nat)} {pos : Pos} {wi : Wg (List D)} {p : Pt} {wc : Wg Bool} {we : W}
theorem comp_read {K : KF} {vs : List Nat} {σ : St} {H : Hp} {Q : VK} (hv : ∀ i ∈ p.ix, i ∈ vs) (h : Go K EX (RS K) (compW wi vs p wc we) σ H Q) :
    tLc (Go K EX (RI K) wi) (GoP K p) (Go K E0 (RT K) wc) (Go K E0 (RS K) we) vs σ H Q := by
  obtain ⟨G, P, ρ, t, Q', E, S, hw, lk, hq⟩ := h
  refine ⟨G, P, ρ, t, _, E, S, hw, lk, fun ds ρ1 t1 J H1 P1 z ri => ?_⟩
  obtain ⟨hs, S1, ok⟩ := ri
  intro L hL
  have z : compL p wc we (wipeR ρ1 vs) ds [] t1 (fun acc t2 => Q' (.nw acc) (wipeR ρ1 vs) t2) := z
  generalize hρw : wipeR ρ1 vs = ρw at z
  have lw : ρw.length = ρ1.length := by rw [← hρw, wipeR_length]
  have hF : ∀ b, G.F b → b ≠ L := fun b hb e => by
    obtain ⟨zs, _, _, e2⟩ := S1.fo b hb
    rw [e, hL] at e2; cases e2
  have h0L : Nw G.H0 L := S1.h0 (nw_of hL)
  have gw : ∀ (j : Nat), ρw[j]? = if j ∈ vs ∧ j < ρ1.length then some .non else ρ1[j]? := fun j => by rw [← hρw, wipeR_get]
  have inh : ∀ (l : List (D × V)) (xs : List V), ∀ q ∈ hs, q ∈ ((G.holds (hs ++ l)).add L (.lst xs)).hd := fun l xs q hq => List.mem_append_left _ (List.mem_append_left _ hq)
  refine ⟨fun i m H => m = ds.length - i ∧ i ≤ ds.length ∧ ∃ P t acc xs, Sat K ((G.holds (hs ++ acc.zip xs)).add L (.lst xs)) P ρw t (wipe σ vs) H ∧ acc.length = xs.length ∧ compL p wc we ρw (ds.drop i) acc t (fun acc t2 => Q' (.nw acc) ρw t2), ⟨ds.length, rfl, Nat.zero_le _, P1, t1, [], [], ?_, rfl, z⟩, ?_⟩
  · have Sa : Sat K (G.holds hs) P1 ρw t1 (wipe σ vs) H1 := S1.agree lw (wipe_length _ _) fun i s e ne => by
      rw [gw] at e
      by_cases hc : i ∈ vs ∧ i < ρ1.length
      · rw [if_pos hc] at e
        cases e
        exact absurd rfl ne
      · rw [if_neg hc] at e
        refine ⟨e, ?_⟩
        rw [wipe_get, if_neg (fun q => hc ⟨q.1, by rw [S1.len]; exact q.2⟩)]
    have := Sa.add (u := .lst []) .l (kp_upd hL) hL upd_same
    simpa using this
  rintro i m H2 ⟨rfl, hi, P2, t2, acc, xs, S2, hlen, q⟩
  obtain ⟨g1, g2, g3⟩ := ok _ _ _ _ _ _ S2 (inh _ _)
  have hHL : ∀ {P ρ t σ H}, Sat K ((G.holds (hs ++ acc.zip xs)).add L (.lst xs)) P ρ t σ H → H L = some (.lst xs) := fun {P ρ t σ H} S' => by
    obtain ⟨zs, _, e1, e2⟩ := S'.fo L (.inr rfl)
    have e1 : upd G.HF L (.lst xs) L = some zs := e1
    rw [upd_same] at e1
    cases e1
    exact e2
  by_cases hlt : i < ds.length
  · refine .inr ⟨g1 i hlt, fun H => ∃ P t acc xs, Sat K ((G.holds (hs ++ acc.zip xs)).add L (.lst xs)) P ρw t (wipe σ vs) H ∧ acc.length = xs.length ∧ compL p wc we ρw (ds.drop (i + 1)) acc t (fun acc t2 => Q' (.nw acc) ρw t2), fun H' n => ⟨ds.length - (i + 1), by omega, rfl, hlt, n⟩, fun x H3 y => ?_⟩
    obtain ⟨k3, d, e1, rp⟩ := g3 i x H3 hlt y
    have ed : ds.drop i = d :: ds.drop (i + 1) := by
      rw [List.drop_eq_getElem_cons hlt]
      rw [List.getElem?_eq_getElem hlt] at e1
      cases e1
      rfl
    rw [ed] at q
    obtain ⟨ρ', eb, q⟩ := q
    refine ⟨_, P2, ρw, t2, d, ρ', S2.grow k3, rp, eb, fun σ4 S4 al => ⟨?_, ?_⟩⟩
    · rw [al vs hv]
      apply List.ext_getElem?
      intro j
      rw [wipe_get, wipe_get, wipe_length]
      by_cases hc : j ∈ vs ∧ j < σ.length
      · rw [if_pos hc, if_pos hc]
      · rw [if_neg hc, if_neg hc]
    · have back : ∀ {G' : Gh} {P t H}, Sat K G' P ρ' t σ4 H → Sat K G' P ρw t (wipe σ vs) H := fun {G' P t H} S' => S'.agree (bindP_len eb).symm (by have h1 := S'.len; have h2 := bindP_len eb; have h3 := S2.len; omega) fun j s e ne => by
        have e' := e
        rw [gw] at e
        by_cases hc : j ∈ vs ∧ j < ρ1.length
        · rw [if_pos hc] at e
          cases e
          exact absurd rfl ne
        · have hj : j < ρ1.length := by
            rw [if_neg hc] at e
            exact (List.getElem?_eq_some_iff.mp e).1
          have hjv : j ∉ vs := fun q => hc ⟨q, hj⟩
          refine ⟨(bindP_other eb fun q => hjv (hv j q)).trans e', ?_⟩
          have a1 := al vs hv
          have a2 := congrArg (fun l : St => l[j]?) a1
          rw [wipe_get, wipe_get, if_neg (fun q => hjv q.1), if_neg (fun q => hjv q.1)] at a2
          exact a2.symm
      refine ⟨_, P2, ρ', t2, _, _, S4, q, lk0, fun b ρ5 t5 b' H5 P5 n5 rs => ?_⟩
      obtain ⟨rfl, n5⟩ := n5
      obtain ⟨S5, rfl⟩ := rs
      cases b with
      | false =>
        rw [if_neg Bool.false_ne_true] at n5 ⊢
        exact ⟨P5, t5, acc, xs, back S5, hlen, n5⟩
      | true =>
        rw [if_pos rfl] at n5 ⊢
        refine ⟨_, P5, ρ5, t5, _, _, S5, n5, lk0, fun r ρ6 t6 yv H6 P6 n6 rs6 => ?_⟩
        obtain ⟨rfl, hz, n6⟩ := n6
        obtain ⟨S6, rp6⟩ := rs6.im
        refine ⟨xs, hHL S6, by rw [← hlen]; exact hz, P6, t6, acc ++ [r.d], xs ++ [yv], ?_, by rw [List.length_append, List.length_append, hlen]; rfl, n6⟩
        have Sh := (back (S6.hold rp6)).updF (G := (G.holds (hs ++ acc.zip xs)).hold r.d yv) (w := .lst (xs ++ [yv])) hF h0L .l
        refine ⟨Sh.len, Sh.im, Sh.ow, Sh.dj, Sh.fo, fun pq hp => ?_, Sh.pt, Sh.p0, Sh.pn, Sh.kp, Sh.fp, Sh.tb⟩
        refine Sh.hd pq ?_
        have hp : pq ∈ (hs ++ (acc ++ [r.d]).zip (xs ++ [yv])) ++ G.hd := hp
        rw [List.zip_append hlen] at hp
        show pq ∈ (r.d, yv) :: ((hs ++ acc.zip xs) ++ G.hd)
        simp only [List.mem_append, List.mem_cons, List.zip_cons_cons, List.zip_nil_right, List.not_mem_nil, or_false] at hp ⊢
        rcases hp with (hp | hp | hp) | hp
        · exact .inr (.inl (.inl hp))
        · exact .inr (.inl (.inr hp))
        · exact .inl hp
        · exact .inr (.inr hp)
  · have e : i = ds.length := by omega
    subst e
    rw [List.drop_length] at q
    refine .inl ⟨g2, ?_⟩
    have S3 : Sat K ((G.holds (hs ++ acc.zip xs)).add L (.lst xs)) P2 ρw t2 σ H2 := S2.agree rfl (by rw [wipe_length]) fun j s e ne => by
      have e' := e
      rw [gw] at e
      by_cases hc : j ∈ vs ∧ j < ρ1.length
      · rw [if_pos hc] at e
        cases e
        exact absurd rfl ne
      · have hj : j < ρ1.length := by
          rw [if_neg hc] at e
          exact (List.getElem?_eq_some_iff.mp e).1
        refine ⟨e', ?_⟩
        rw [wipe_get, if_neg (fun q => hc ⟨q.1, hj⟩)]
    have S3' : Sat K ((G.add L (.lst xs)).holds (hs ++ acc.zip xs)) P2 ρw t2 σ H2 := S3
    obtain ⟨S4, hh⟩ := S3'.unholds
    refine hq _ _ _ _ _ P2 q ⟨L, _, xs, rfl, S4, fun z => ?_, h0L, hHL S3, rfl, zip_ra hlen fun pq hp => hh pq (List.mem_append_right _ hp)⟩
    rcases z with z | z | ⟨j, es, z1, z2⟩
    · exact hF L z rfl
    · exact S4.fp L (.inr rfl) z
    · obtain ⟨b, w, ys, r1, _, _, _, r4, _⟩ := S4.ow j es z1
      rw [z2] at r1
      cases r1
      exact r4 (.inr rfl)
theorem de_comp (hc : X.calm = true) (hN : X.N.Nodup) (hi : DI X EX tg iter wi) (ok : BlkOk X.N X.env.scope scope own) (hv : ∀ i ∈ p.ix, i ∈ own.map (·.2))
    (hg : ∀ (s : Shared) (H : Hp) (C : Addr) (cl : List (Str × Addr)) (fp : List Addr), DP (X.blk s H scope (compEnvC scope cl C X.env) fp) tg p)
    (ht : ∀ (s : Shared) (H : Hp) (C : Addr) (cl : List (Str × Addr)) (fp : List Addr), DTs (X.blk s H scope (compEnvC scope cl C X.env) fp) E0 ifs wc)
    (he : ∀ (s : Shared) (H : Hp) (C : Addr) (cl : List (Str × Addr)) (fp : List Addr), DE (X.blk s H scope (compEnvC scope cl C X.env) fp) E0 elt we) (hs : ∀ x, foldedSetIterable iter X.env x = pure x) :
    DE X EX (.ListComp elt [⟨tg, iter, ifs, 0⟩] scope pos) (compW wi (own.map (·.2)) p wc we) :=
  PE.imp (pe_lc hc hN hi ok hg ht he hs) fun σ H Q h => comp_read hv h
theorem ds_setComp {i : Nat} {y : Str} {py spos : Pos} (hc : X.calm = true) (hN : X.N.Nodup) (hy : X.N[i]? = some y) (hyl : X.env.scope.names.lookup y = some .local)
    (hsw : swapsWith (.ListComp elt [⟨tg, iter, ifs, 0⟩] scope pos) (some (.Name y py)) spos.line X.env = pure true) (hi : DI X EX tg iter wi) (ok : BlkOk X.N X.env.scope scope own) (hv : ∀ i ∈ p.ix, i ∈ own.map (·.2))
    (hg : ∀ (s : Shared) (H : Hp) (C : Addr) (cl : List (Str × Addr)) (fp : List Addr), DP (X.blk s H scope (compEnvC scope cl C X.env) fp) tg p)
    (ht : ∀ (s : Shared) (H : Hp) (C : Addr) (cl : List (Str × Addr)) (fp : List Addr), DTs (X.blk s H scope (compEnvC scope cl C X.env) fp) E0 ifs wc)
    (he : ∀ (s : Shared) (H : Hp) (C : Addr) (cl : List (Str × Addr)) (fp : List Addr), DE (X.blk s H scope (compEnvC scope cl C X.env) fp) E0 elt we) (hs : ∀ x, foldedSetIterable iter X.env x = pure x) :
    DS X EX (.Assign [.Name y py] (.ListComp elt [⟨tg, iter, ifs, 0⟩] scope pos) spos) (setS i (compW wi (own.map (·.2)) p wc we)) :=
  PS.imp (ps_setLc hc hN hy hyl hsw hi ok hg ht he hs) fun D σ H h => comp_read (Q := fun x H1 => D.nx (σ.set i (some x)) H1) hv (set_read h)
end
end NB
set_option Elab.async false
set_option linter.all false
set_option maxRecDepth 100000
set_option maxHeartbeats 4000000
set_option autoImplicit false
/-! Lists of the frame's own; calls; defs. -/
namespace NB
open PySem PySem.Spec PyProof.Rows L2

/-! ### own lists -/
section
variable {K : KF} {G : Gh} {P : PA1} {ρ : List Sl} {t : Nat} {σ : St} {H : Hp}
/-- an own thing's content is another one -/
theorem Sat.own {i : Nat} {ds ds' : Ob} {a : Addr} {w : HO} {ys : List V} (S : Sat K G P ρ t σ H) (e : ρ[i]? = some (.ow ds)) (ea : σ[i]? = some (some (.ref a))) (cu : Cu K a ds' w ys) (ra : RpA K H P (Mx G.F P ρ σ) ds'.ct ys) :
    Sat K G P (ρ.set i (.ow ds')) t σ (upd H a w) ∧ Mo K H (upd H a w) P P (Mx G.F P ρ σ) (Mx G.F P (ρ.set i (.ow ds')) σ) := by
  have hi : i < ρ.length := (List.getElem?_eq_some_iff.mp e).1
  have self : (ρ.set i (.ow ds'))[i]? = some (.ow ds') := List.getElem?_set_self hi
  have other : ∀ j, j ≠ i → (ρ.set i (.ow ds'))[j]? = ρ[j]? := fun j hj => List.getElem?_set_ne (Ne.symm hj)
  obtain ⟨a', u, xs, h1, h2, hc, h3, h4, h5, h6⟩ := S.ow i ds e
  rw [ea] at h1
  cases h1
  have ina : Mx G.F P ρ σ a := .inr (.inr ⟨i, ds, e, ea⟩)
  have sub : ∀ b, Mx G.F P (ρ.set i (.ow ds')) σ b → Mx G.F P ρ σ b := fun b z => by
    rcases z with z | z | ⟨j, es, q1, q2⟩
    · exact .inl z
    · exact .inr (.inl z)
    · by_cases hj : j = i
      · subst hj
        exact .inr (.inr ⟨j, ds, e, q2⟩)
      · rw [other j hj] at q1
        exact .inr (.inr ⟨j, es, q1, q2⟩)
  have k : Kp K (fun b => b = a) H (upd H a w) := .but (fun b z => ⟨u, by rw [z]; exact ⟨h2, hc.mu⟩⟩) fun b o n q => by rw [upd_ne n]; exact q
  have mo : Mo K H (upd H a w) P P (Mx G.F P ρ σ) (Mx G.F P (ρ.set i (.ow ds')) σ) := .of k (fun b z => by subst z; exact ⟨u, h2, hc.mu⟩) (fun b z => by subst z; exact ina) (fun _ z => z) fun b z => .inl (sub b z)
  refine ⟨⟨by rw [List.length_set]; exact S.len, fun j d q => ?_, fun j es q => ?_, fun j l es fs b q1 q2 q3 q4 => ?_, fun b h => ?_, fun p hp => (S.hd p hp).mo mo, fun b h => ?_, S.p0, S.pn, ⟨fun b o q n => ?_, fun t => k.tb (S.kp.tb t)⟩, S.fp, k.tb S.tb⟩, mo⟩
  · by_cases hj : j = i
    · subst hj; rw [self] at q; cases q
    · rw [other j hj] at q
      obtain ⟨v, r1, r2⟩ := S.im j d q
      exact ⟨v, r1, r2.mo mo⟩
  · by_cases hj : j = i
    · subst hj
      rw [self] at q
      cases q
      exact ⟨a, w, ys, ea, upd_same, cu, ra.mo mo, h4, h5, h6⟩
    · rw [other j hj] at q
      obtain ⟨b, v, zs, r1, r2, rc, r3, r4⟩ := S.ow j es q
      have nb : b ≠ a := fun z => by
        subst z
        exact hj (S.dj j i es ds b q e r1 ea)
      exact ⟨b, v, zs, r1, by rw [upd_ne nb]; exact r2, rc, r3.mo mo, r4⟩
  · have back : ∀ (m : Nat) (fs : Ob), (ρ.set i (.ow ds'))[m]? = some (.ow fs) → ∃ gs, ρ[m]? = some (.ow gs) := fun m fs q => by
      by_cases hm : m = i
      · exact ⟨ds, by rw [hm]; exact e⟩
      · rw [other m hm] at q
        exact ⟨fs, q⟩
    obtain ⟨g1, e1⟩ := back j es q1
    obtain ⟨g2, e2⟩ := back l fs q2
    exact S.dj j l g1 g2 b e1 e2 q3 q4
  · obtain ⟨zs, m, e1, e2⟩ := S.fo b h
    have nb : b ≠ a := fun z => by subst z; exact h4 h
    exact ⟨zs, m, e1, by rw [upd_ne nb]; exact e2⟩
  · obtain ⟨i', j, l, q, r⟩ := S.pt b h
    have nb : b ≠ a := fun z => by subst z; exact h5 h
    exact ⟨i', j, l, by rw [upd_ne nb]; exact q, r⟩
  · by_cases nb : b = a
    · rw [nb] at q
      exact .inr (h6 o q)
    · rw [upd_ne nb]
      exact S.kp.go b o q n
end
/-- an operation on a list of the frame's own: its new content, and what it gives -/
def OwnOp (X : Cx) (id : String) (f : List D → List D → Option (List D × D)) : Prop := MtR X id fun x vs H Q => ∃ (a : Addr) (xs : List V) (P M : PA1) (ds es ds' : List D) (r : D),
  x = .ref a ∧ H a = some (.lst xs) ∧ RpA (kX X) H P M ds xs ∧ RpA (kX X) H P M es vs ∧ f ds es = some (ds', r) ∧ ∀ ys z, RpA (kX X) H P M ds' ys → Rp (kX X) H P M r z → Q z (upd H a (.lst ys))
@[simp] def ownW (i : Nat) (a : Wg (List D)) (f : List D → List D → Option (List D × D)) : W := fun ρ t Q E => (∃ ds0, ρ[i]? = some (.ow (.l ds0))) ∧ a ρ t (fun xs ρ1 t1 => ∃ ds ds' r, ρ1[i]? = some (.ow (.l ds)) ∧ f ds xs = some (ds', r) ∧ Q (.im r) (ρ1.set i (.ow (.l ds'))) t1) E
@[simp] def appendF : List D → List D → Option (List D × D)
  | ds, [x] => if ds.length < sizeLine then some (ds ++ [x], .non) else none
  | _, _ => none
@[simp] def extendF : List D → List D → Option (List D × D)
  | ds, [.lst es] => if ds.length + es.length ≤ sizeLine then some (ds ++ es, .non) else none
  | _, _ => none
/-- an index that a machine word holds -/
def ixFits (i : Int) : Bool := decide (-(2 ^ 63) ≤ i) && decide (i < 2 ^ 63)
theorem ixFits_iff {i : Int} : ixFits i = true ↔ -(2 ^ 63) ≤ i ∧ i < 2 ^ 63 := by
  unfold ixFits
  rw [Bool.and_eq_true, decide_eq_true_eq, decide_eq_true_eq]
@[simp] def popAtF : List D → List D → Option (List D × D)
  | ds, [.int i] => match ixFits i, seqIndex? i ds.length with
    | true, some k => (ds[k]?).map fun x => (ds.eraseIdx k, x)
    | _, _ => none
  | _, _ => none
@[simp] def popF : List D → List D → Option (List D × D)
  | ds, [] => (ds[ds.length - 1]?).map fun x => (ds.dropLast, x)
  | _, _ => none
section
variable {X : Cx} {EX : XX}
theorem own_append : OwnOp X "list.append" appendF := by
  intro pins s σ H x vs v us Q I rx rv h
  obtain ⟨a, xs, P, M, ds, es, ds', r, rfl, hH, ra, rb, hf, q⟩ := h
  unfold appendF at hf
  split at hf
  · obtain ⟨y, rfl, h1⟩ := ra_one rb
    split at hf
    · rename_i hz
      cases hf
      exact mt_append pins s σ H _ _ v us Q I rx rv ⟨a, xs, y, rfl, rfl, hH, by rw [← ra.length]; exact hz, q _ _ (ra.append (.cons h1 .nil)) (by rw [Rp])⟩
    · cases hf
  · cases hf
theorem own_extend : OwnOp X "list.extend" extendF := by
  intro pins s σ H x vs v us Q I rx rv h
  obtain ⟨a, xs, P, M, ds, es, ds', r, rfl, hH, ra, rb, hf, q⟩ := h
  unfold extendF at hf
  split at hf
  · obtain ⟨y, rfl, h1⟩ := ra_one rb
    rw [Rp] at h1
    obtain ⟨b, zs, rfl, _, hB, rc⟩ := h1
    split at hf
    · rename_i hz
      cases hf
      exact mt_extend pins s σ H _ _ v us Q I rx rv ⟨a, b, xs, zs, rfl, rfl, hH, hB, by rw [← ra.length, ← rc.length]; exact hz, q _ _ (ra.append rc) (by rw [Rp])⟩
    · cases hf
  · cases hf
theorem own_popAt : OwnOp X "list.pop" popAtF := by
  intro pins s σ H x vs v us Q I rx rv h
  obtain ⟨a, xs, P, M, ds, es, ds', r, rfl, hH, ra, rb, hf, q⟩ := h
  unfold popAtF at hf
  split at hf
  · obtain ⟨y, rfl, h1⟩ := ra_one rb
    rw [Rp] at h1
    subst h1
    split at hf
    · rename_i i _ k hb hk
      obtain ⟨d, e1, e2⟩ := Option.map_eq_some_iff.mp hf
      cases e2
      obtain ⟨z, e3, e4⟩ := ra.get e1
      obtain ⟨b1, b2⟩ := ixFits_iff.mp hb
      exact mt_popAt pins s σ H _ _ v us Q I rx rv ⟨a, xs, _, k, z, rfl, rfl, hH, b1, b2, by rw [← ra.length]; exact hk, e3, q _ _ (ra.eraseIdx k) e4⟩
    · cases hf
  · cases hf
theorem own_pop : OwnOp X "list.pop" popF := by
  intro pins s σ H x vs v us Q I rx rv h
  obtain ⟨a, xs, P, M, ds, es, ds', r, rfl, hH, ra, rb, hf, q⟩ := h
  unfold popF at hf
  split at hf
  · rw [RpA] at rb
    subst rb
    obtain ⟨d, e1, e2⟩ := Option.map_eq_some_iff.mp hf
    cases e2
    rw [ra.length] at e1
    obtain ⟨z, e3, e4⟩ := ra.get e1
    refine mt_pop pins s σ H _ _ v us Q I rx rv ⟨a, xs, z, rfl, rfl, hH, e3, q _ _ ?_ e4⟩
    rw [List.dropLast_eq_take, List.dropLast_eq_take, ra.length]
    exact ra.take _
  · cases hf
theorem own_read {K : KF} {i : Nat} {w : Wg (List D)} {f : List D → List D → Option (List D × D)} {σ : St} {H : Hp} {Q : VK} (h : Go K EX (RS K) (ownW i w f) σ H Q) :
    tVar i σ H fun x H1 => tyV K "list" x H1 ∧ Go K EX (RA K) w σ H1 fun vs H2 => ∃ (a : Addr) (xs : List V) (P M : PA1) (ds es ds' : List D) (r : D),
      x = .ref a ∧ H2 a = some (.lst xs) ∧ RpA K H2 P M ds xs ∧ RpA K H2 P M es vs ∧ f ds es = some (ds', r) ∧ ∀ ys z, RpA K H2 P M ds' ys → Rp K H2 P M r z → Q z (upd H2 a (.lst ys)) := by
  obtain ⟨G, P, ρ, t, Q', E, S, hw, lk, hq⟩ := h
  obtain ⟨⟨ds0, e0⟩, hw⟩ := hw
  obtain ⟨a, u0, xs0, h1, h2, hc, _⟩ := S.ow i _ e0
  obtain rfl : u0 = .lst xs0 := hc
  refine ⟨.ref a, h1, .inl ⟨rfl, xs0, .of h2⟩, G, P, ρ, t, _, E, S, hw, lk, fun es ρ1 t1 vs H1 P1 z rs => ?_⟩
  obtain ⟨ds, ds', r, e1, hf, q⟩ := z
  obtain ⟨S1, rb⟩ := rs
  obtain ⟨a', u1, xs, g1, g2, gc, g3, _⟩ := S1.ow i _ e1
  obtain rfl : u1 = .lst xs := gc
  rw [h1] at g1
  cases g1
  refine ⟨a, xs, P1, Mx G.F P1 ρ1 σ, ds, es, ds', r, rfl, g2, g3, rb, hf, fun ys z r1 r2 => ?_⟩
  obtain ⟨S2, mo⟩ := S1.own (ds' := .l ds') (w := .lst ys) e1 h1 rfl r1
  exact hq _ _ _ _ _ P1 q ⟨S2, r2.mo mo⟩
variable {x name : Str} {p' apos cpos : Pos} {e : Expr} {es : List Expr}
theorem de_own {i : Nat} {id : String} {w : Wg (List D)} {f : List D → List D → Option (List D × D)} (pa : PlainAttrs "list") (slot : Slot "list" name id) (hty : typeOf (.builtin id) = pure (.type "method_descriptor")) (hm : OwnOp X id f) (hv : PE X (.Name x p') (tVar i)) (ha : DA X EX (e :: es) w)
    (hfew : ((backTo cpos (starEach (e :: es) X.env)).all (fun x => !x.1) && (backToKw cpos (keywordEach [] X.env)).all (fun x => x.1.isSome) && decide ((e :: es).length + ([] : List Keyword).length + (if ([] : List Keyword).isEmpty then 0 else 1) < 30)) = true)
    (hline : (apos.endLine == cpos.line) = true) (hs : starEach (e :: es) X.env = (false, eval e X.env) :: starEach es X.env) (hplain : (backTo cpos (starEach es X.env)).any (·.1) = false) :
    DE X EX (.Call (.Attribute (.Name x p') name apos) (e :: es) [] cpos) (ownW i w f) := PE.imp (pe_bm pa slot hty hm hv ha rfl hfew hline hs hplain) fun _ _ _ h => own_read h
theorem de_own0 {i : Nat} {id : String} {f : List D → List D → Option (List D × D)} (pa : PlainAttrs "list") (slot : Slot "list" name id) (hty : typeOf (.builtin id) = pure (.type "method_descriptor")) (hm : OwnOp X id f) (hv : PE X (.Name x p') (tVar i)) (hline : (apos.endLine == cpos.line) = true) :
    DE X EX (.Call (.Attribute (.Name x p') name apos) [] [] cpos) (ownW i nilW f) := PE.imp (pe_bm0 pa slot hty hm hv rfl hline) fun σ H Q h => by
  obtain ⟨v, h1, h2, h3⟩ := own_read h
  obtain ⟨G, P, ρ, t, Q', E, S, hw, lk, hq⟩ := h3
  exact ⟨v, h1, h2, hq _ _ _ _ _ P hw ⟨S, .nil⟩⟩
end

/-! ### calls -/
/-- a def by its data: the arguments, the draws so far, what is wanted -/
abbrev WF := List D → Nat → (R → Nat → Prop) → KX → Prop
@[simp] def callW (F : WF) (a : Wg (List D)) : W := fun ρ t Q E => a ρ t (fun xs ρ1 t1 => F xs t1 (fun r t2 => Q r ρ1 t2) E) E
/-- the ghost of a def's entry -/
def g0 (F P : PA1) (H : Hp) : Gh := ⟨F, H, P, H, []⟩
def spW (K : KF) (n : Nat) (Fw : WF) : Sp := fun vs H Q E => vs.length = n ∧ ∃ (F P : PA1) (t : Nat) (ds : List D) (Q' : R → Nat → Prop) (E' : KX),
  (∀ a, F a → ∃ u, H a = some u ∧ Mu a u) ∧ (∀ a, P a → PotAt H t a) ∧ (∀ a, F a → ¬ P a) ∧ RpA K H P (fun a => F a ∨ P a) ds vs ∧ Tb K H ∧ Fw ds t Q' E' ∧ LkE K E (g0 F P H) E' ∧
  ∀ r t' v H' P', Q' r t' → EndR K (g0 F P H) P' t' H' r v → Q v H'
/-- a def keeps its promise by data; nothing is being shown meanwhile -/
structure FnG (P : Program) (w : World) (K : PySem.W.Frag) (mg : Str → Option Value) (base : Heap) (CX : CXT) (k : Nat) (f : Addr) (fd : FuncData) (ps : List Str) (Fw : WF) : Prop where
  go : ∀ (A : Around) (outer : List Env) (s : Shared) (H : Hp) (args : Args) (us : List Value) (vs : List V) (Q : VK) (E : XK), Room k A → A.guards = some [] → Env0 P w K mg base A outer s H →
    BindsTo s fd args (ps.zip us) → Vals vs us → spW ⟨K, w⟩ ps.length Fw vs H Q E → codeAny (model P w) A (.call (.ref f) args) (CR CX outer P w H s Q E) s
theorem FnG.up {P : Program} {w : World} {K : PySem.W.Frag} {mg : Str → Option Value} {base : Heap} {CX : CXT} {j k : Nat} {f : Addr} {fd : FuncData} {ps : List Str} {Fw : WF} (F : FnG P w K mg base CX j f fd ps Fw) (h : j ≤ k) : FnG P w K mg base CX k f fd ps Fw :=
  ⟨fun A outer s H args us vs Q E hr => F.go A outer s H args us vs Q E (hr.mono h)⟩
section
variable {X : Cx} {EX : XX} {CX : CXT} {k : Nat} {f : Addr} {fd : FuncData} {ps : List Str} {Fw : WF} {x : Str} {p pos : Pos} {e : Expr} {es : List Expr} {w : Wg (List D)}
/-- behind a call the state stands, the value with it -/
theorem Sat.call {K : KF} {G : Gh} {P P' : PA1} {ρ : List Sl} {t t' : Nat} {σ : St} {H H' : Hp} {r : R} {v : V} (S : Sat K G P ρ t σ H) (h : EndR K (g0 (fun a => G.F a ∨ Own ρ σ a) P H) P' t' H' r v) : RS K G P' ρ t' σ H' r v := by
  obtain ⟨⟨pt, p0, pn, kp, tb⟩, rr⟩ := h
  have pn : ∀ a, P' a → P a ∨ Nw H a := pn
  have p0 : ∀ a, P a → P' a := p0
  have kp : Kp K P H H' := kp
  have sub : ∀ a, Mx G.F P' ρ σ a → Mx G.F P ρ σ a ∨ Nw H a := fun a z => by
    rcases z with z | z | z
    · exact .inl (.inl z)
    · rcases pn a z with q | q
      · exact .inl (.inr (.inl q))
      · exact .inr q
    · exact .inl (.inr (.inr z))
  have lp : ∀ a, P a → ∃ u, H a = some u ∧ Mu a u := fun a z => let ⟨i, j, l, e, _⟩ := S.pt a z; ⟨_, e, .l⟩
  have mo : Mo K H H' P P' (Mx G.F P ρ σ) (Mx G.F P' ρ σ) := .of kp lp (fun a z => .inr (.inl z)) p0 sub
  have keep : ∀ a o, H a = some o → ¬ P a → isT o = false → H' a = some o := fun a o e n t => kp.seq e n t
  have S' : Sat K G P' ρ t' σ H' := by
    refine ⟨S.len, fun i d e => ?_, fun i ds e => ?_, S.dj, fun a z => ?_, fun q hq => (S.hd q hq).mo mo, pt, fun a z => p0 a (S.p0 a z), fun a z => ?_, ?_, fun a z q => ?_, tb⟩
    · obtain ⟨u, r1, r2⟩ := S.im i d e
      exact ⟨u, r1, r2.mo mo⟩
    · obtain ⟨a, u, xs, r1, r2, rc, r3, r4, r5, r6⟩ := S.ow i ds e
      refine ⟨a, u, xs, r1, keep a _ r2 r5 rc.mu.noT, rc, r3.mo mo, r4, fun q => ?_, r6⟩
      rcases pn a q with q | q
      · exact r5 q
      · exact (q.no r2 rc.mu.noT).elim
    · obtain ⟨u, m, e1, e2⟩ := S.fo a z
      exact ⟨u, m, e1, keep a _ e2 (S.fp a z) m.noT⟩
    · rcases pn a z with q | q
      · exact S.pn a q
      · exact .inr (S.h0 q)
    · refine S.kp.trans kp fun a o e q => ?_
      rcases S.pn a q with z | z
      · exact .inl z
      · exact .inr (z o e)
    · rcases pn a q with q | q
      · exact S.fp a z q
      · obtain ⟨u, m, _, e2⟩ := S.fo a z
        exact (q.no e2 m.noT).elim
  cases r with
  | im d =>
    refine ⟨S', ?_⟩
    have rr : Rp K H' P' (fun a => (G.F a ∨ Own ρ σ a) ∨ P' a) d v := rr
    exact rr.mo (.less fun a z => by
      rcases z with z | z | z
      · exact .inl (.inl z)
      · exact .inr z
      · exact .inl (.inr z))
  | nw ds =>
    obtain ⟨a, w, xs, rfl, h0, nf, np, e, cu, ra⟩ := rr
    have h0 : Nw H a := h0
    have nf : ¬ (G.F a ∨ Own ρ σ a) := nf
    have ra : RpA K H' P' (fun b => ((G.F b ∨ Own ρ σ b) ∨ P' b) ∨ b = a) ds.ct xs := ra
    have sub2 : ∀ b, Mx (G.add a w).F P' ρ σ b → Mx G.F P ρ σ b ∨ Nw H b := fun b z => by
      rcases z with (z | z) | z | z
      · exact .inl (.inl z)
      · subst z; exact .inr h0
      · exact sub b (.inr (.inl z))
      · exact .inl (.inr (.inr z))
    have mo2 : Mo K H H' P P' (Mx G.F P ρ σ) (Mx (G.add a w).F P' ρ σ) := .of kp lp (fun a z => .inr (.inl z)) p0 sub2
    refine ⟨a, w, xs, rfl, ⟨S.len, fun i d q => ?_, fun i es q => ?_, S.dj, fun b z => ?_, fun q hq => (S.hd q hq).mo mo2, pt, S'.p0, S'.pn, S'.kp, fun b z => ?_, tb⟩, fun z => ?_, S.h0 h0, e, cu, ra.mo (.less fun b z => ?_)⟩
    · obtain ⟨u, r1, r2⟩ := S.im i d q
      exact ⟨u, r1, r2.mo mo2⟩
    · obtain ⟨b, u, ys, r1, r2, rc, r3, r4, r5, r6⟩ := S.ow i es q
      obtain ⟨b', _, _, r1', _, _, _, _, r5', _⟩ := S'.ow i es q
      rw [r1] at r1'
      cases r1'
      refine ⟨b, u, ys, r1, keep b _ r2 r5 rc.mu.noT, rc, r3.mo mo2, fun z => ?_, r5', r6⟩
      rcases z with z | z
      · exact r4 z
      · subst z; exact h0.no r2 rc.mu.noT
    · rcases z with z | z
      · obtain ⟨ys, m, e1, e2⟩ := S'.fo b z
        refine ⟨ys, m, ?_, e2⟩
        show upd G.HF a _ b = _
        rw [upd_ne (fun q : b = a => nf (.inl (q ▸ z)))]
        exact e1
      · subst z
        exact ⟨w, cu.mu, upd_same, e⟩
    · rcases z with z | z
      · exact S'.fp b z
      · subst z; exact np
    · rcases z with z | z | z
      · exact nf (.inl z)
      · exact np z
      · exact nf (.inr z)
    · rcases z with (z | z) | z | z
      · exact .inl (.inl (.inl z))
      · exact .inr z
      · exact .inl (.inr z)
      · exact .inl (.inl (.inr z))
/-- an exception of a call is one of ours -/
theorem Lk.call {K : KF} {EX : XX} {G : Gh} {P : PA1} {ρ : List Sl} {t : Nat} {σ : St} {H : Hp} {E : KX} (h : Lk K EX G E) (S : Sat K G P ρ t σ H) : LkE K EX.ex (g0 (fun a => G.F a ∨ Own ρ σ a) P H) E := fun c v t' P' H' C x y e hc ok hx r => by
  have er : EndR K (g0 (fun a => G.F a ∨ Own ρ σ a) P H) P' t' H' (.im v) y := ⟨ok, r⟩
  have z := (S.call er).endR
  exact h.ek c v t' P' H' C x y e hc z.1 hx z.2
/-- the callee runs -/
theorem run_g {pins : List (Addr × Obj)} {σ : St} {H : Hp} {s : Shared} {Q : VK} {us : List Value} {vs : List V} (F : FnG X.prog X.w X.K X.mg X.base CX k f fd ps Fw) (hr : Room k X.A) (hgd : X.A.guards = some []) (hb : Binds (kX X) fd ps []) (hx : Passes CX X EX.ex)
    (I : Inv X pins σ H s) (r : Vals vs us) (h : spW (kX X) ps.length Fw vs H Q EX.ex) : wpAny (model X.prog X.w) X.A (call (.ref f) us) (EP X pins σ Q) X.xe s := by
  have hl : us.length = ps.length := by rw [← r.length]; exact h.1
  have bd : BindsTo s fd ⟨us, []⟩ (ps.zip us) := by
    have := hb s us I.kIn (by rw [List.append_nil]; exact hl)
    rw [List.append_nil] at this
    exact this
  refine wpAny_call (codeAny_mono (F.go X.A X.stack s H _ us vs Q EX.ex hr hgd I.env0 bd r h) fun res s' hq => ?_)
  match res, hq with
  | .error e, hq => exact hx pins σ H s e s' I hq
  | .ok (.ret u), hq => exact I.after hq
  | .ok .next, hq => exact hq.elim
  | .ok .brk, hq => exact hq.elim
  | .ok .cont, hq => exact hq.elim
theorem call_sp {K : KF} {n : Nat} {σ : St} {H : Hp} {Q : VK} (h : Go K EX (RS K) (callW Fw w) σ H Q) (hn : ∀ ds t Q E, Fw ds t Q E → ds.length = n) : Go K EX (RA K) w σ H fun vs H1 => spW K n Fw vs H1 Q EX.ex := by
  obtain ⟨G, P, ρ, t, Q', E, S, hw, lk, hq⟩ := h
  refine ⟨G, P, ρ, t, _, E, S, hw, lk, fun ds ρ1 t1 vs H1 P1 z rs => ?_⟩
  obtain ⟨S1, ra⟩ := rs
  refine ⟨by rw [← ra.length]; exact hn _ _ _ _ z, fun a => G.F a ∨ Own ρ1 σ a, P1, t1, ds, _, E, fun a q => ?_, S1.pt, fun a q q2 => ?_, ra.mo (.less fun a q => ?_), S1.tb, z, lk.call S1, fun r t' v H' P' q er => hq _ _ _ _ _ P' q (S1.call er)⟩
  · rcases q with q | q
    · exact S1.mlist a (.inl q)
    · exact S1.mlist a (.inr (.inr q))
  · rcases q with q | ⟨i, ds, e1, e2⟩
    · exact S1.fp a q q2
    · obtain ⟨b, u, xs, r1, _, _, _, _, r5, _⟩ := S1.ow i ds e1
      rw [e2] at r1
      cases r1
      exact r5 q2
  · rcases q with (q | q) | q
    · exact .inl q
    · exact .inr (.inr q)
    · exact .inr (.inl q)
theorem de_call (F : FnG X.prog X.w X.K X.mg X.base CX k f fd ps Fw) (hn : ∀ ds t Q E, Fw ds t Q E → ds.length = ps.length) (hr : Room k X.A) (hgd : X.A.guards = some []) (hg : Gl X x) (hm : X.mg x = some (.ref f)) (hk : PySem.W.keepIn (kX X) (.ref f) = true) (hb : Binds (kX X) fd ps []) (hx : Passes CX X EX.ex)
    (ha : DA X EX (e :: es) w) (hdb : (x == ("__debug__" : Str)) = false) (he : starEach (e :: es) X.env = (false, eval e X.env) :: starEach es X.env) (hpl : (backTo pos (starEach es X.env)).any (·.1) = false) :
    DE X EX (.Call (.Name x p) (e :: es) [] pos) (callW Fw w) := by
  refine ⟨fun pins s σ H Q I h => wpAny_Call_Name_kw (ld_glob I hg hm ?_ hdb)⟩
  refine PySem.W.callWith_K (h₀ := X.base) I.ok.mod.kin hk (thn (ha.run pos pins s σ H _ I (call_sp h hn)) fun us s1 ⟨vs, H1, I1, r, q⟩ => ?_) he hpl
  exact ⟨I1.kIn, run_g F hr hgd hb hx I1 r q⟩
theorem de_call0 (F : FnG X.prog X.w X.K X.mg X.base CX k f fd ps Fw) (hn : ∀ ds t Q E, Fw ds t Q E → ds.length = ps.length) (hr : Room k X.A) (hgd : X.A.guards = some []) (hg : Gl X x) (hm : X.mg x = some (.ref f)) (hk : PySem.W.keepIn (kX X) (.ref f) = true) (hb : Binds (kX X) fd ps []) (hx : Passes CX X EX.ex)
    (hdb : (x == ("__debug__" : Str)) = false) : DE X EX (.Call (.Name x p) [] [] pos) (callW Fw nilW) := by
  refine ⟨fun pins s σ H Q I h => wpAny_Call_Name_kw (ld_glob I hg hm ?_ hdb)⟩
  obtain ⟨G, P, ρ, t, Q', E, S, hw, lk, hq⟩ := call_sp h hn
  exact PySem.W.callWith_K0 I.kIn hk (run_g (us := []) F hr hgd hb hx I .nil (hq _ _ _ _ _ P hw ⟨S, .nil⟩))
end

/-! ### defs -/
/-- the slots at the entry -/
@[simp] def slots0 (n : Nat) (ds : List D) : List Sl := ds.map .im ++ List.replicate (n - ds.length) .non
/-- a body as a def: k parameters, n names -/
@[simp] def defW (k n : Nat) (ws : WS) : WF := fun ds t Q E => ds.length = k ∧ ws (slots0 n ds) t { nx := fun _ t' => Q (.im .non) t', rt := Q, bk := fun _ _ => False, ct := fun _ _ => False, ex := E }
theorem start_sat {K : KF} {F P : PA1} {t : Nat} {ds : List D} {vs : List V} {N : List Str} {H : Hp} (h1 : ∀ a, F a → ∃ u, H a = some u ∧ Mu a u) (h2 : ∀ a, P a → PotAt H t a) (h3 : ∀ a, F a → ¬ P a) (ra : RpA K H P (fun a => F a ∨ P a) ds vs) (tb : Tb K H) :
    Sat K (g0 F P H) P (slots0 N.length ds) t (L2.start N vs) H := by
  have hl := ra.length
  have no : ∀ (i : Nat) es, (slots0 N.length ds)[i]? ≠ some (.ow es) := fun i es e => by
    unfold slots0 at e
    by_cases hi : i < ds.length
    · rw [List.getElem?_append_left (by simpa using hi), List.getElem?_map, List.getElem?_eq_getElem hi] at e
      cases e
    · rw [List.getElem?_append_right (by simpa using hi), List.getElem?_replicate] at e
      split at e <;> cases e
  have less : ∀ a, Mx F P (slots0 N.length ds) (L2.start N vs) a → F a ∨ P a := fun a z => by
    rcases z with z | z | ⟨i, es, e, _⟩
    · exact .inl z
    · exact .inr z
    · exact absurd e (no i es)
  refine ⟨by unfold slots0 L2.start; simp [hl], fun i d e => ?_, fun i es e => absurd e (no i es), fun i j es fs a e => absurd e (no i es), fun a z => ?_, fun q hq => absurd (show q ∈ ([] : List (D × V)) from hq) (by simp), h2, fun a z => z, fun a z => .inl z, .refl, h3, tb⟩
  · have hi : i < ds.length := by
      by_cases hi : i < ds.length
      · exact hi
      · unfold slots0 at e
        rw [List.getElem?_append_right (by simpa using hi), List.getElem?_replicate] at e
        split at e <;> cases e
    have e' : ds[i]? = some d := by
      unfold slots0 at e
      rw [List.getElem?_append_left (by simpa using hi), List.getElem?_map] at e
      obtain ⟨x, q1, q2⟩ := Option.map_eq_some_iff.mp e
      cases q2
      exact q1
    obtain ⟨v, q1, q2⟩ := ra.get e'
    refine ⟨v, ?_, q2.mo (.less less)⟩
    unfold L2.start
    rw [List.getElem?_append_left (by rw [List.length_map]; omega), List.getElem?_map, q1]
    rfl
  · obtain ⟨u, e, m⟩ := h1 a z
    exact ⟨u, m, e, e⟩
section
variable {P : Program} {w : World} {K : PySem.W.Frag} {mg : Str → Option Value} {base : Heap} {CX : CXT}
/-- a def of the text by its body -/
theorem fnG_of {k : Nat} {f : Addr} {name qual : Str} {params : Arguments} {body : List Stmt} {scope : Scope} {dV kV doc pm cdv ct oc : Value} {an od : Option Addr} {osl : Array (Option Value)} {N ps : List Str} {ws : WS}
    (lk : K.lookup f = some ⟨oc, od, .func (PySem.W.fnOf name qual params body scope dV kV doc pm an cdv ct), osl⟩) (hcd : PySem.W.codeIn K cdv qual = true) (S : FnScope N ps scope)
    (hbody : ∀ (A : Around) (outer : List Env) (s : Shared) (H : Hp) (E : XK) (F0 P0 : PA1), Room k (A.deeper (envOfC qual scope s.heap.objs.size f cdv)) → A.guards = some [] →
      DSs (cxOf CX P w K mg base N qual scope f cdv A outer s H E) (XX.fr E F0 P0 H) body ws) :
    FnG P w K mg base CX (k + 1) f (PySem.W.fnOf name qual params body scope dV kV doc pm an cdv ct) ps (defW ps.length N.length ws) := by
  constructor
  intro A outer s H args us vs Q E hr hgd e0 hb r hsp
  obtain ⟨hl, F, P0, t, ds, Q', E', h1, h2, h3, ra, tb, hw, lkE, hq⟩ := hsp
  have KX : K.In s.heap := e0.mod.kin.keeps fun b o e => (e0.bs b o e).1
  have nl : s.heap.NoLimit := e0.mod.nolimit.keeps fun b o e => (e0.bs b o e).1
  have kinds : ∀ y ∈ ps.zip us, scope.names.lookup y.1 = some .local ∨ (scope.names.lookup y.1 = some .cell ∧ ((cellsFrom (s.heap.objs.size + 1) scope.names []).lookup y.1).isSome = true) := by
    rintro ⟨n, v⟩ hy
    refine (S.par n (List.of_mem_zip hy).1).imp id fun q => ⟨q, ?_⟩
    exact PySem.W.cellsFrom_some _ _ _ (.inl q)
  refine codeAny_call_function hr.depth (KX _ _ lk) rfl S.co S.gen rfl (PySem.W.codeRec_of KX hcd) (hb _ _ _ _ (wpAny_newFunctionEnv_cells S.kind kinds fun env he s1 x => ?_))
  subst he
  refine ⟨nl.keeps x.toInCall.keep, codeAny_func ?_⟩
  have I := inv_start (E := E) (CX := CX) (P := P) (w := w) (N := N) (f := f) S hr.hd e0 hl r x
  have St0 : Sat ⟨K, w⟩ (g0 F P0 H) P0 (slots0 N.length ds) t (L2.start N vs) H := start_sat h1 h2 h3 ra tb
  have body := (hbody A outer s H E F P0 (hr.deeper _) hgd).run [] s1 (L2.start N vs) H { nx := fun _ H' => Q .non H', rt := Q } I
    ⟨g0 F P0 H, P0, _, t, _, St0, hw.2, ⟨lkE, rfl, rfl, fun _ z => .inl z⟩, fun ρ' t' σ' H' P' z S' => hq _ _ _ _ _ z ⟨S'.endOk, (by show Rp ⟨K, w⟩ H' P' _ .non .non; rw [Rp])⟩, fun _ _ _ _ _ z _ => z.elim, fun _ _ _ _ _ z _ => z.elim, fun r' t' v H' P' z er => hq _ _ _ _ _ z er⟩
  refine wpAny_mono body (fun fl s' hs => ?_) fun _ _ hs => hs
  match fl, hs with
  | .ret u, ⟨v, σ', H', J, rv, q⟩ => exact ⟨v, H', J.os, J.bare, J.base, J.hok, rv, q⟩
  | .next, ⟨σ', H', J, q⟩ => exact ⟨.non, H', J.os, J.bare, J.base, J.hok, rfl, q⟩
  | .brk, ⟨_, _, _, q⟩ => exact q.elim
  | .cont, ⟨_, _, _, q⟩ => exact q.elim
end
end NB
set_option Elab.async false
set_option linter.all false
set_option maxRecDepth 100000
set_option maxHeartbeats 4000000
set_option autoImplicit false
/-! Operations on values, by data. -/
namespace NB
open PySem PySem.Spec PyProof.Rows L2

/-! ### data as the library's -/
mutual
def D.py : D → PyData
  | .non => .none
  | .bl b => .bool b
  | .int i => .int i
  | .str s => .str s
  | .tup xs => .tuple (pyL xs)
  | .lst xs => .list (pyL xs)
  | .pot => .none
  | .scr _ => .none
  | .exc _ _ => .none
  | .fnv _ => .none
  | .clo _ _ => .none
  | .dct _ _ => .none
  | .ins _ _ => .none
def pyL : List D → List PyData
  | [] => []
  | d :: ds => d.py :: pyL ds
end
mutual
/-- compared, shown: no pot, no script within; texts of code points -/
def okD : D → Bool
  | .non => true
  | .bl _ => true
  | .int _ => true
  | .str s => PyData.strOk s
  | .tup xs => okL xs
  | .lst xs => okL xs
  | .pot => false
  | .scr _ => false
  | .exc _ _ => false
  | .fnv _ => false
  | .clo _ _ => false
  | .dct _ _ => false
  | .ins _ _ => false
def okL : List D → Bool
  | [] => true
  | d :: ds => okD d && okL ds
end
mutual
def dpD : D → Nat
  | .tup xs => dpL xs + 1
  | .lst xs => dpL xs + 1
  | .non => 0
  | .bl _ => 0
  | .int _ => 0
  | .str _ => 0
  | .pot => 0
  | .scr _ => 0
  | .exc _ _ => 0
  | .fnv _ => 0
  | .clo _ _ => 0
  | .dct _ _ => 0
  | .ins _ _ => 0
def dpL : List D → Nat
  | [] => 0
  | d :: ds => max (dpD d) (dpL ds)
end
mutual
theorem canLay_py : ∀ {d : D}, okD d = true → d.py.canLay0 = true
  | .non, _ => by simp [D.py, PyData.canLay0]
  | .bl _, _ => by simp [D.py, PyData.canLay0]
  | .int _, _ => by simp [D.py, PyData.canLay0]
  | .str s, h => by rw [okD] at h; rw [D.py, PyData.canLay0]; exact h
  | .tup xs, h => by rw [okD] at h; rw [D.py, PyData.canLay0]; exact canLay_pyL h
  | .lst xs, h => by rw [okD] at h; rw [D.py, PyData.canLay0]; exact canLay_pyL h
  | .pot, h => by simp [okD] at h
  | .scr _, h => by simp [okD] at h
  | .exc _ _, h => by simp [okD] at h
theorem canLay_pyL : ∀ {ds : List D}, okL ds = true → PyData.canLayAll0 (pyL ds) = true
  | [], _ => by simp [pyL, PyData.canLayAll0]
  | d :: ds, h => by
    rw [okL, Bool.and_eq_true] at h
    rw [pyL, PyData.canLayAll0, Bool.and_eq_true]
    exact ⟨canLay_py h.1, canLay_pyL h.2⟩
end
mutual
theorem depth_py : ∀ {d : D}, d.py.depth = dpD d
  | .non => by simp [D.py, PyData.depth, dpD]
  | .bl _ => by simp [D.py, PyData.depth, dpD]
  | .int _ => by simp [D.py, PyData.depth, dpD]
  | .str s => by simp [D.py, PyData.depth, dpD]
  | .tup xs => by rw [D.py, PyData.depth, dpD, depth_pyL]
  | .lst xs => by rw [D.py, PyData.depth, dpD, depth_pyL]
  | .pot => by simp [D.py, PyData.depth, dpD]
  | .scr _ => by simp [D.py, PyData.depth, dpD]
  | .exc _ _ => by simp [D.py, PyData.depth, dpD]
  | .fnv _ => by simp [D.py, PyData.depth, dpD]
  | .clo _ _ => by simp [D.py, PyData.depth, dpD]
  | .dct _ _ => by simp [D.py, PyData.depth, dpD]
  | .ins _ _ => by simp [D.py, PyData.depth, dpD]
theorem depth_pyL : ∀ {ds : List D}, PyData.depthAll (pyL ds) = dpL ds
  | [] => by simp [pyL, PyData.depthAll, dpL]
  | d :: ds => by rw [pyL, PyData.depthAll, dpL, depth_py, depth_pyL]
end
theorem shaped_py {d : D} (h : okD d = true) (h2 : dpD d ≤ 64) : SeqAt.shaped d.py = true := by
  unfold SeqAt.shaped
  rw [Bool.and_eq_true, decide_eq_true_eq, depth_py]
  exact ⟨canLay_py h, h2⟩
mutual
theorem Rp.dp {K : KF} {H : Hp} {P M : PA1} : ∀ {d : D} {v : V}, okD d = true → Rp K H P M d v → Dp K H v d.py
  | .non, v, _, h => by rw [Rp] at h; subst h; rw [D.py]; exact .non
  | .bl _, v, _, h => by rw [Rp] at h; subst h; rw [D.py]; exact .bl _
  | .int _, v, _, h => by rw [Rp] at h; subst h; rw [D.py]; exact .int _
  | .str _, v, _, h => by rw [Rp] at h; subst h; rw [D.py]; exact .str _
  | .tup xs, v, o, h => by
    rw [Rp] at h
    rw [okD] at o
    obtain ⟨a, ys, rfl, h1, h2⟩ := h
    rw [D.py]
    exact .tup h1 (RpA.dp o h2)
  | .lst xs, v, o, h => by
    rw [Rp] at h
    rw [okD] at o
    obtain ⟨a, ys, rfl, _, h1, h2⟩ := h
    rw [D.py]
    exact .lst (.of h1) (RpA.dp o h2)
  | .pot, _, o, _ => by simp [okD] at o
  | .scr _, _, o, _ => by simp [okD] at o
  | .exc _ _, _, o, _ => by simp [okD] at o
  | .fnv _, _, o, _ => by simp [okD] at o
  | .clo _ _, _, o, _ => by simp [okD] at o
  | .dct _ _, _, o, _ => by simp [okD] at o
  | .ins _ _, _, o, _ => by simp [okD] at o
theorem RpA.dp {K : KF} {H : Hp} {P M : PA1} : ∀ {ds : List D} {xs : List V}, okL ds = true → RpA K H P M ds xs → DpAll K H xs (pyL ds)
  | [], xs, _, h => by rw [RpA] at h; subst h; rw [pyL]; exact .nil
  | d :: ds, xs, o, h => by
    obtain ⟨x, r, rfl, h1, h2⟩ := h.cons_inv
    rw [okL, Bool.and_eq_true] at o
    rw [pyL]
    exact .cons (Rp.dp o.1 h1) (RpA.dp o.2 h2)
end
theorem Rs.dp {K : KF} {H : Hp} {P M : PA1} {d : D} {v : V} (o : okD d = true) (h : Rs K H P M d v) : Dp K H v d.py := by
  cases d with
  | lst xs =>
    obtain ⟨a, ys, rfl, h1, h2⟩ := h
    rw [okD] at o
    rw [D.py]
    exact .lst (.of h1) (RpA.dp o h2)
  | dct _ _ => simp [okD] at o
  | _ => exact Rp.dp (P := P) (M := M) o h

/-! ### kinds of values -/
/-- lists as they are read: the script, too -/
@[simp] def D.ls : D → Option (List D)
  | .lst ds => some ds
  | .scr ns => some (ns.map .int)
  | _ => none
theorem ra_ints {K : KF} {H : Hp} {P M : PA1} : ∀ ns : List Int, RpA K H P M (ns.map .int) (ns.map V.int)
  | [] => .nil
  | n :: ns => .cons (by rw [Rp]) (ra_ints ns)
theorem ra_ints_inv {K : KF} {H : Hp} {P M : PA1} : ∀ {ns : List Int} {xs : List V}, RpA K H P M (ns.map .int) xs → xs = ns.map V.int
  | [], xs, h => by rw [List.map_nil, RpA] at h; exact h
  | n :: ns, xs, h => by
    rw [List.map_cons] at h
    obtain ⟨x, r, rfl, h1, h2⟩ := h.cons_inv
    rw [Rp] at h1
    rw [h1, ra_ints_inv h2]
    rfl
theorem ra_bls_inv {K : KF} {H : Hp} {P M : PA1} : ∀ {ns : List Bool} {xs : List V}, RpA K H P M (ns.map .bl) xs → xs = ns.map V.bl
  | [], xs, h => by rw [List.map_nil, RpA] at h; exact h
  | n :: ns, xs, h => by
    rw [List.map_cons] at h
    obtain ⟨x, r, rfl, h1, h2⟩ := h.cons_inv
    rw [Rp] at h1
    rw [h1, ra_bls_inv h2]
    rfl
theorem Rs.ls {K : KF} {H : Hp} {P M : PA1} {d : D} {v : V} {ds : List D} (h : Rs K H P M d v) (e : d.ls = some ds) : ∃ a xs, v = .ref a ∧ SqL K H a xs ∧ RpA K H P M ds xs := by
  cases d with
  | lst es =>
    cases e
    obtain ⟨a, xs, rfl, h1, h2⟩ := h
    exact ⟨a, xs, rfl, .of h1, h2⟩
  | scr ns =>
    cases e
    have g : Rp K H P M (.scr ns) v := h
    rw [Rp] at g
    obtain ⟨a, rfl, g⟩ := g
    have hq : SqL K H a (ns.map V.int) := g.elim (fun ⟨o, z⟩ => .inl (.inr ⟨o, z⟩)) fun z => .inr z
    exact ⟨a, _, rfl, hq, ra_ints ns⟩
  | _ => cases e
theorem Rs.tp {K : KF} {H : Hp} {P M : PA1} {v : V} {ds : List D} (h : Rs K H P M (.tup ds) v) : ∃ a xs, v = .ref a ∧ SqT K H a xs ∧ RpA K H P M ds xs := by
  have h : Rp K H P M (.tup ds) v := h
  rw [Rp] at h
  exact h
theorem Rs.int {K : KF} {H : Hp} {P M : PA1} {v : V} {i : Int} (h : Rs K H P M (.int i) v) : v = .int i := by
  have h : Rp K H P M (.int i) v := h
  rw [Rp] at h
  exact h
theorem Rs.str {K : KF} {H : Hp} {P M : PA1} {v : V} {i : Str} (h : Rs K H P M (.str i) v) : v = .str i := by
  have h : Rp K H P M (.str i) v := h
  rw [Rp] at h
  exact h
theorem Rs.bl {K : KF} {H : Hp} {P M : PA1} {v : V} {i : Bool} (h : Rs K H P M (.bl i) v) : v = .bl i := by
  have h : Rp K H P M (.bl i) v := h
  rw [Rp] at h
  exact h
theorem Rs.non {K : KF} {H : Hp} {P M : PA1} {v : V} (h : Rs K H P M .non v) : v = .non := by
  have h : Rp K H P M .non v := h
  rw [Rp] at h
  exact h
section
variable {K : KF} {H : Hp} {P M : PA1} {Q : VK} {r : Option R}
/-- what is asked, for an answer that is flat -/
theorem Fit.im {d : D} {v : V} (h : Fit K H P M (some (.im d)) Q) (rp : Rp K H P M d v) : Q v H := by
  obtain ⟨r', e, q⟩ := h
  cases e
  exact q v H .refl rp
theorem Fit.tup {ds : List D} {xs : List V} (h : Fit K H P M (some (.im (.tup ds))) Q) (ra : RpA K H P M ds xs) : ∀ p, H p = none → Q (.ref p) (upd H p (.tup xs)) := fun p hp => by
  obtain ⟨r', e, q⟩ := h
  cases e
  refine q _ _ (kp_upd hp) ?_
  show Rp K _ P M (.tup ds) _
  rw [Rp]
  exact ⟨p, xs, rfl, .inl (.inl upd_same), ra.mo (.grow (kp_upd hp))⟩
theorem Fit.lst {ds : List D} {xs : List V} (h : Fit K H P M (some (.nw ds)) Q) (ra : RpA K H P M ds xs) : ∀ p, H p = none → Q (.ref p) (upd H p (.lst xs)) := fun p hp => by
  obtain ⟨r', e, q⟩ := h
  cases e
  exact q _ _ (kp_upd hp) (rz_list hp ra)
theorem Fit.no (h : Fit K H P M none Q) : False := by
  obtain ⟨r', e, _⟩ := h
  cases e
theorem rp_int {i : Int} : Rp K H P M (.int i) (.int i) := by rw [Rp]
theorem rp_str {i : Str} : Rp K H P M (.str i) (.str i) := by rw [Rp]
theorem rp_non : Rp K H P M .non .non := by rw [Rp]
theorem rp_bl' {i : Bool} : Rp K H P M (.bl i) (.bl i) := by rw [Rp]
end

/-! ### arithmetic -/
@[simp] def addD : D → D → Option R
  | .int i, .int j => some (.im (.int (i + j)))
  | .str x, .str y => if x.length + y.length ≤ sizeLine then some (.im (.str (x ++ y))) else none
  | .tup xs, .tup ys => if xs.length + ys.length ≤ sizeLine then some (.im (.tup (xs ++ ys))) else none
  | .lst xs, .lst ys => if xs.length + ys.length ≤ sizeLine then some (.nw (xs ++ ys)) else none
  | _, _ => none
@[simp] def subD : D → D → Option R
  | .int i, .int j => some (.im (.int (i - j)))
  | _, _ => none
/-- the factors: one of a word, or both below half a million bits -/
def mulOk (i j : Int) : Bool := decide (i.natAbs < 2 ^ 64) || decide (j.natAbs < 2 ^ 64)
@[simp] def mulD : D → D → Option R
  | .int i, .int j => if mulOk i j = true then some (.im (.int (i * j))) else none
  | _, _ => none
@[simp] def modD : D → D → Option R
  | .int i, .int j => if 0 < j then some (.im (.int (i % j))) else none
  | _, _ => none
@[simp] def fdivD : D → D → Option R
  | .int i, .int j => if 0 < j ∧ j < 1073741824 then some (.im (.int (i / j))) else none
  | _, _ => none
@[simp] def powD : D → D → Option R
  | .int i, .int j => if 0 ≤ j ∧ j ≤ 1000000 ∧ i.natAbs < 2 ^ 64 then some (.im (.int (i ^ j.toNat))) else none
  | _, _ => none
section
variable {X : Cx}
theorem op_addD : Op2 X (binaryOp .Add) addD := by
  intro pins s σ H x y v u Q I rx ry ⟨P, M, d, e, h1, h2, _, f⟩
  unfold addD at f
  split at f
  · exact op_add pins s σ H x y v u Q I rx ry ⟨_, _, h1.int, h2.int, f.im rp_int⟩
  · split at f
    · exact op_add_str pins s σ H x y v u Q I rx ry ⟨_, _, h1.str, h2.str, by assumption, f.im rp_str⟩
    · exact f.no.elim
  · split at f
    · rename_i xs ys hz
      obtain ⟨a, vs, rfl, ta, ra⟩ := h1.tp
      obtain ⟨b, ws, rfl, tb, rb⟩ := h2.tp
      refine op_catA pins s σ H _ _ v u Q I rx ry ⟨a, b, vs, ws, rfl, rfl, ta, tb, by rw [← ra.length, ← rb.length]; exact hz, fun e => ?_, fun _ e => ?_, fun _ _ => f.tup (ra.append rb)⟩
      · subst e
        have e0 : xs = [] := List.eq_nil_of_length_eq_zero ra.length
        rw [e0, List.nil_append] at f
        refine f.im ?_
        rw [Rp]
        exact ⟨b, ws, rfl, tb, rb⟩
      · subst e
        have e0 : ys = [] := List.eq_nil_of_length_eq_zero rb.length
        rw [e0, List.append_nil] at f
        refine f.im ?_
        rw [Rp]
        exact ⟨a, vs, rfl, ta, ra⟩
    · exact f.no.elim
  · split at f
    · rename_i xs ys hz
      obtain ⟨a, vs, rfl, ta, ra⟩ := h1
      obtain ⟨b, ws, rfl, tb, rb⟩ := h2
      exact op_cat pins s σ H _ _ v u Q I rx ry ⟨a, b, vs, ws, rfl, rfl, ta, tb, by rw [← ra.length, ← rb.length]; exact hz, f.lst (ra.append rb)⟩
    · exact f.no.elim
  · exact f.no.elim
theorem op_subD : Op2 X (binaryOp .Sub) subD := by
  intro pins s σ H x y v u Q I rx ry ⟨P, M, d, e, h1, h2, _, f⟩
  unfold subD at f
  split at f
  · exact op_sub pins s σ H x y v u Q I rx ry ⟨_, _, h1.int, h2.int, f.im rp_int⟩
  · exact f.no.elim
theorem natAbs_word {i : Int} (h : i.natAbs < 2 ^ 64) : -(2 ^ 64) < i ∧ i < 2 ^ 64 := by omega
theorem op_mulD : Op2 X (binaryOp .Mult) mulD := by
  intro pins s σ H x y v u Q I rx ry ⟨P, M, d, e, h1, h2, _, f⟩
  unfold mulD at f
  split at f
  · split at f
    · rename_i hm
      unfold mulOk at hm
      rw [Bool.or_eq_true, decide_eq_true_eq, decide_eq_true_eq] at hm
      exact op_mul pins s σ H x y v u Q I rx ry ⟨_, _, h1.int, h2.int, hm.imp natAbs_word natAbs_word, f.im rp_int⟩
    · exact f.no.elim
  · exact f.no.elim
theorem op_modD : Op2 X (binaryOp .Mod) modD := by
  intro pins s σ H x y v u Q I rx ry ⟨P, M, d, e, h1, h2, _, f⟩
  unfold modD at f
  split at f
  · split at f
    · exact op_mod pins s σ H x y v u Q I rx ry ⟨_, _, h1.int, h2.int, by assumption, f.im rp_int⟩
    · exact f.no.elim
  · exact f.no.elim
theorem op_fdivD : Op2 X (binaryOp .FloorDiv) fdivD := by
  intro pins s σ H x y v u Q I rx ry ⟨P, M, d, e, h1, h2, _, f⟩
  unfold fdivD at f
  split at f
  · split at f
    · exact op_fdiv pins s σ H x y v u Q I rx ry ⟨_, _, h1.int, h2.int, by assumption, f.im rp_int⟩
    · exact f.no.elim
  · exact f.no.elim
theorem op_powD : Op2 X (binaryOp .Pow) powD := by
  intro pins s σ H x y v u Q I rx ry ⟨P, M, d, e, h1, h2, _, f⟩
  unfold powD at f
  split at f
  · split at f
    · exact op_pow pins s σ H x y v u Q I rx ry ⟨_, _, h1.int, h2.int, by assumption, f.im rp_int⟩
    · exact f.no.elim
  · exact f.no.elim
@[simp] def negD : D → Option R
  | .int i => some (.im (.int (-i)))
  | _ => none
theorem op_negD : Op1 X (unaryOp .USub) negD := by
  intro pins s σ H x v Q I rx ⟨P, M, d, h1, _, f⟩
  unfold negD at f
  split at f
  · exact un_neg pins s σ H x v Q I rx ⟨_, h1.int, f.im rp_int⟩
  · exact f.no.elim
end

/-! ### comparisons -/
def D.eqv (d e : D) : Bool := PyData.eqv d.py e.py
def eqOk (d e : D) : Bool := (okD d && okD e) && (decide (dpD d ≤ 64) && decide (dpD e ≤ 64))
@[simp] def eqD : D → D → Option R
  | .int i, .int j => some (.im (.bl (decide (i = j))))
  | .str i, .str j => some (.im (.bl (decide (i = j))))
  | d, e => if eqOk d e = true then some (.im (.bl (D.eqv d e))) else none
@[simp] def neD : D → D → Option R
  | .int i, .int j => some (.im (.bl (!decide (i = j))))
  | .str i, .str j => some (.im (.bl (!decide (i = j))))
  | d, e => if eqOk d e = true then some (.im (.bl (!D.eqv d e))) else none
theorem dec_inj {α β : Type} [DecidableEq α] [DecidableEq β] {f : α → β} (hf : ∀ x y, f x = f y → x = y) {i j : α} : decide (f i = f j) = decide (i = j) := decide_eq_decide.mpr ⟨hf i j, fun h => by rw [h]⟩
theorem eqOk_iff {d e : D} (h : eqOk d e = true) : okD d = true ∧ okD e = true ∧ dpD d ≤ 64 ∧ dpD e ≤ 64 := by
  unfold eqOk at h
  rw [Bool.and_eq_true, Bool.and_eq_true, Bool.and_eq_true, decide_eq_true_eq, decide_eq_true_eq] at h
  exact ⟨h.1.1, h.1.2, h.2.1, h.2.2⟩
def intsD : List D → Option (List Int)
  | [] => some []
  | .int i :: ds => (intsD ds).map fun l => i :: l
  | _ :: _ => none
theorem intsD_some : ∀ {ds : List D} {ns : List Int}, intsD ds = some ns → ds = ns.map .int
  | [], ns, h => by rw [intsD] at h; cases h; rfl
  | .int i :: ds, ns, h => by
    rw [intsD] at h
    obtain ⟨l, h1, h2⟩ := Option.map_eq_some_iff.mp h
    subst h2
    rw [List.map_cons, ← intsD_some h1]
  | .non :: _, _, h => by simp [intsD] at h
  | .bl _ :: _, _, h => by simp [intsD] at h
  | .str _ :: _, _, h => by simp [intsD] at h
  | .tup _ :: _, _, h => by simp [intsD] at h
  | .lst _ :: _, _, h => by simp [intsD] at h
  | .pot :: _, _, h => by simp [intsD] at h
  | .scr _ :: _, _, h => by simp [intsD] at h
  | .exc _ _ :: _, _, h => by simp [intsD] at h
theorem intsD_map : ∀ ns : List Int, intsD (ns.map .int) = some ns
  | [] => rfl
  | n :: ns => by rw [List.map_cons, intsD, intsD_map ns]; rfl
@[simp] def ltD : D → D → Option R
  | .int i, .int j => some (.im (.bl (decide (i < j))))
  | .tup xs, .tup ys => match intsD xs, intsD ys with
    | some ns, some ms => some (.im (.bl (HT.lexLt ns ms)))
    | _, _ => none
  | _, _ => none
@[simp] def leD : D → D → Option R
  | .int i, .int j => some (.im (.bl (decide (i ≤ j))))
  | _, _ => none
@[simp] def gtD : D → D → Option R
  | .int i, .int j => some (.im (.bl (decide (j < i))))
  | _, _ => none
@[simp] def geD : D → D → Option R
  | .int i, .int j => some (.im (.bl (decide (j ≤ i))))
  | _, _ => none
/-- x in xs -/
@[simp] def inB : D → D → Option Bool
  | d, .lst ys => if eqOk d (.lst ys) = true then some (ys.any fun y => D.eqv y d) else none
  | d, .tup ys => if eqOk d (.tup ys) = true then some (ys.any fun y => D.eqv y d) else none
  | .str x, .str y => some (!(Builtin.Str.occurrences y x 0 y.length 1).isEmpty)
  | _, _ => none
@[simp] def inD (d e : D) : Option R := (inB d e).map fun b => .im (.bl b)
@[simp] def notInD (d e : D) : Option R := (inB d e).map fun b => .im (.bl (!b))
theorem any_py (d : D) : ∀ ys : List D, (pyL ys).any (fun y => PyData.eqv y d.py) = ys.any fun y => D.eqv y d
  | [] => rfl
  | y :: ys => by
    rw [pyL, List.any_cons, List.any_cons, any_py d ys]
    rfl
section
variable {X : Cx}
theorem op_eqDD (hu : X.A.units + 64 < cLine) : Op2 X (compareOp .Eq) eqD := by
  intro pins s σ H x y v u Q I rx ry ⟨P, M, d, e, h1, h2, _, f⟩
  unfold eqD at f
  split at f
  · refine op_eq pins s σ H x y v u Q I rx ry ?_
    rw [h1.int, h2.int]
    refine ⟨rfl, f.im ?_⟩
    rw [dec_inj (fun _ _ h => V.int.inj h)]
    exact rp_bl'
  · refine op_eq pins s σ H x y v u Q I rx ry ?_
    rw [h1.str, h2.str]
    refine ⟨rfl, f.im ?_⟩
    rw [dec_inj (fun _ _ h => V.str.inj h)]
    exact rp_bl'
  · split at f
    · rename_i ho
      obtain ⟨o1, o2, o3, o4⟩ := eqOk_iff ho
      exact op_eqD hu pins s σ H x y v u Q I rx ry ⟨_, _, h1.dp o1, h2.dp o2, shaped_py o1 o3, shaped_py o2 o4, f.im rp_bl'⟩
    · exact f.no.elim
theorem op_neDD (hu : X.A.units + 64 < cLine) : Op2 X (compareOp .NotEq) neD := by
  intro pins s σ H x y v u Q I rx ry ⟨P, M, d, e, h1, h2, _, f⟩
  unfold neD at f
  split at f
  · refine op_ne pins s σ H x y v u Q I rx ry ?_
    rw [h1.int, h2.int]
    refine ⟨rfl, f.im ?_⟩
    rw [dec_inj (fun _ _ h => V.int.inj h)]
    exact rp_bl'
  · refine op_ne pins s σ H x y v u Q I rx ry ?_
    rw [h1.str, h2.str]
    refine ⟨rfl, f.im ?_⟩
    rw [dec_inj (fun _ _ h => V.str.inj h)]
    exact rp_bl'
  · split at f
    · rename_i ho
      obtain ⟨o1, o2, o3, o4⟩ := eqOk_iff ho
      exact op_neD hu pins s σ H x y v u Q I rx ry ⟨_, _, h1.dp o1, h2.dp o2, shaped_py o1 o3, shaped_py o2 o4, f.im rp_bl'⟩
    · exact f.no.elim
theorem op_ltDD (hu : X.A.units < cLine) : Op2 X (compareOp .Lt) ltD := by
  intro pins s σ H x y v u Q I rx ry ⟨P, M, d, e, h1, h2, _, f⟩
  unfold ltD at f
  split at f
  · exact op_lt pins s σ H x y v u Q I rx ry ⟨_, _, h1.int, h2.int, f.im rp_bl'⟩
  · split at f
    · rename_i xs ys _ _ ns ms e1 e2
      have e1 := intsD_some e1
      have e2 := intsD_some e2
      subst e1 e2
      obtain ⟨a, vs, rfl, ta, ra⟩ := h1.tp
      obtain ⟨b, ws, rfl, tb, rb⟩ := h2.tp
      rw [ra_ints_inv ra] at ta
      rw [ra_ints_inv rb] at tb
      exact op_ltT hu pins s σ H _ _ v u Q I rx ry ⟨a, b, ns, ms, rfl, rfl, ta, tb, f.im rp_bl'⟩
    · exact f.no.elim
  · exact f.no.elim
theorem op_leDD : Op2 X (compareOp .LtE) leD := by
  intro pins s σ H x y v u Q I rx ry ⟨P, M, d, e, h1, h2, _, f⟩
  unfold leD at f
  split at f
  · exact op_le pins s σ H x y v u Q I rx ry ⟨_, _, h1.int, h2.int, f.im rp_bl'⟩
  · exact f.no.elim
theorem op_gtDD : Op2 X (compareOp .Gt) gtD := by
  intro pins s σ H x y v u Q I rx ry ⟨P, M, d, e, h1, h2, _, f⟩
  unfold gtD at f
  split at f
  · exact op_gt pins s σ H x y v u Q I rx ry ⟨_, _, h1.int, h2.int, f.im rp_bl'⟩
  · exact f.no.elim
theorem op_geDD : Op2 X (compareOp .GtE) geD := by
  intro pins s σ H x y v u Q I rx ry ⟨P, M, d, e, h1, h2, _, f⟩
  unfold geD at f
  split at f
  · exact op_ge pins s σ H x y v u Q I rx ry ⟨_, _, h1.int, h2.int, f.im rp_bl'⟩
  · exact f.no.elim
theorem in_core {pins : List (Addr × Obj)} {s : Shared} {σ : St} {H : Hp} {x y : V} {v u : Value} {P M : PA1} {d e : D} {b : Bool} {QV : Value → Shared → Prop} {E : Value → Shared → Prop} {op : CmpOp} (hu : X.A.units + 65 < cLine) (I : Inv X pins σ H s) (rx : RelV x v) (ry : RelV y u)
    (h1 : Rs (kX X) H P M d x) (h2 : Rs (kX X) H P M e y) (hb : inB d e = some b) (neg : Bool) (ho : op = if neg = true then .NotIn else .In) (q : QV (.bool (b != neg)) s) (qs : ∀ t, QV (.bool (b != neg)) { s with toks := t }) : wpAny (model X.prog X.w) X.A (compareOp op v u) QV E s := by
  unfold inB at hb
  split at hb
  · rename_i ys
    split at hb
    · rename_i hk
      cases hb
      obtain ⟨o1, o2, o3, o4⟩ := eqOk_iff hk
      obtain ⟨as, r1⟩ := Dp.reads I _ x v (h1.dp o1) rx
      obtain ⟨bs, r2⟩ := Dp.reads I _ y u (h2.dp o2) ry
      rw [D.py] at r2
      rw [okD] at o2
      have hd : X.A.units + 1 + min (PyData.depthAll (pyL ys)) d.py.depth < cLine := by
        rw [depth_py]
        omega
      cases neg with
      | true =>
        subst ho
        refine SeqAt.notIn_list_reads r2 r1 (canLay_pyL o2) (canLay_py o1) hd ?_
        rw [any_py]
        simpa using q
      | false =>
        subst ho
        refine SeqAt.in_list_reads r2 r1 (canLay_pyL o2) (canLay_py o1) hd ?_
        rw [any_py]
        simpa using q
    · cases hb
  · rename_i ys
    split at hb
    · rename_i hk
      cases hb
      obtain ⟨o1, o2, o3, o4⟩ := eqOk_iff hk
      obtain ⟨as, r1⟩ := Dp.reads I _ x v (h1.dp o1) rx
      obtain ⟨bs, r2⟩ := Dp.reads I _ y u (h2.dp o2) ry
      rw [D.py] at r2
      rw [okD] at o2
      have hd : X.A.units + 1 + min (PyData.depthAll (pyL ys)) d.py.depth < cLine := by
        rw [depth_py]
        omega
      cases neg with
      | true =>
        subst ho
        refine SeqAt.notIn_tuple_reads r2 r1 (canLay_pyL o2) (canLay_py o1) hd ?_
        rw [any_py]
        simpa using q
      | false =>
        subst ho
        refine SeqAt.in_tuple_reads r2 r1 (canLay_pyL o2) (canLay_py o1) hd ?_
        rw [any_py]
        simpa using q
    · cases hb
  · rename_i i j
    cases hb
    have ex := h1.str
    have ey := h2.str
    subst ex ey
    obtain ⟨t, rfl⟩ := rx
    obtain ⟨t', rfl⟩ := ry
    cases neg with
    | true =>
      subst ho
      exact notIn_str (by simpa using q)
    | false =>
      subst ho
      exact in_str (by simpa using q)
  · cases hb
theorem op_inDD (hu : X.A.units + 65 < cLine) : Op2 X (compareOp .In) inD := by
  intro pins s σ H x y v u Q I rx ry ⟨P, M, d, e, h1, h2, _, f⟩
  unfold inD at f
  cases hb : inB d e with
  | none => rw [hb] at f; exact f.no.elim
  | some b =>
    rw [hb] at f
    have q := f.im (v := .bl b) rp_bl'
    exact in_core hu I rx ry h1 h2 hb false rfl ⟨.bl b, H, I, (by show Value.bool _ = Value.bool _; simp), q⟩ fun t => ⟨.bl b, H, I.tok t, (by show Value.bool _ = Value.bool _; simp), q⟩
theorem op_notInDD (hu : X.A.units + 65 < cLine) : Op2 X (compareOp .NotIn) notInD := by
  intro pins s σ H x y v u Q I rx ry ⟨P, M, d, e, h1, h2, _, f⟩
  unfold notInD at f
  cases hb : inB d e with
  | none => rw [hb] at f; exact f.no.elim
  | some b =>
    rw [hb] at f
    have q := f.im (v := .bl (!b)) rp_bl'
    exact in_core hu I rx ry h1 h2 hb true rfl ⟨.bl (!b), H, I, (by show Value.bool _ = Value.bool _; simp), q⟩ fun t => ⟨.bl (!b), H, I.tok t, (by show Value.bool _ = Value.bool _; simp), q⟩
/-- x is None -/
@[simp] def isNoneD : D → D → Option R
  | d, .non => match d with
    | .non => some (.im (.bl true))
    | _ => some (.im (.bl false))
  | _, _ => none
@[simp] def notNoneD : D → D → Option R
  | d, .non => match d with
    | .non => some (.im (.bl false))
    | _ => some (.im (.bl true))
  | _, _ => none
theorem none_iff {K : KF} {H : Hp} {P M : PA1} {d : D} {x : V} (h : Rs K H P M d x) : x = .non ↔ d = .non := by
  constructor
  · intro e
    subst e
    cases d with
    | non => rfl
    | bl _ => cases h.bl
    | int _ => cases h.int
    | str _ => cases h.str
    | tup _ => obtain ⟨_, _, e, _⟩ := h.tp; cases e
    | lst _ => obtain ⟨_, _, e, _⟩ := h; cases e
    | pot => have h : Rp K H P M .pot .non := h; rw [Rp] at h; obtain ⟨_, e, _⟩ := h; cases e
    | scr ns => have h : Rp K H P M (.scr ns) .non := h; rw [Rp] at h; obtain ⟨_, e, _⟩ := h; cases e
    | exc c v => have h : Rp K H P M (.exc c v) .non := h; rw [Rp] at h; obtain ⟨_, _, _, _, e, _⟩ := h; cases e
    | fnv x => have h : Rp K H P M (.fnv x) .non := h; rw [Rp] at h; obtain ⟨_, e, _⟩ := h; cases e
    | clo n c => have h : Rp K H P M (.clo n c) .non := h; rw [Rp] at h; obtain ⟨_, _, e, _⟩ := h; cases e
    | dct _ _ => obtain ⟨_, _, _, _, e, _⟩ := h; cases e
    | ins c v => have h : Rp K H P M (.ins c v) .non := h; rw [Rp] at h; obtain ⟨_, _, _, e, _⟩ := h; cases e
  · intro e
    subst e
    exact h.non
theorem op_isNone : Op2 X (compareOp .Is) isNoneD := by
  intro pins s σ H x y v u Q I rx ry ⟨P, M, d, e, h1, h2, _, f⟩
  unfold isNoneD at f
  split at f
  · refine op_isN pins s σ H x y v u Q I rx ry ⟨h2.non, ?_⟩
    by_cases hd : d = .non
    · subst hd
      rw [decide_eq_true (h1.non)]
      exact f.im rp_bl'
    · rw [decide_eq_false (fun z => hd ((none_iff h1).mp z))]
      split at f
      · exact absurd rfl hd
      · exact f.im rp_bl'
  · exact f.no.elim
theorem op_notNone : Op2 X (compareOp .IsNot) notNoneD := by
  intro pins s σ H x y v u Q I rx ry ⟨P, M, d, e, h1, h2, _, f⟩
  unfold notNoneD at f
  split at f
  · refine op_notN pins s σ H x y v u Q I rx ry ⟨h2.non, ?_⟩
    by_cases hd : d = .non
    · subst hd
      rw [decide_eq_true (h1.non)]
      exact f.im rp_bl'
    · rw [decide_eq_false (fun z => hd ((none_iff h1).mp z))]
      split at f
      · exact absurd rfl hd
      · exact f.im rp_bl'
  · exact f.no.elim
end

/-! ### items -/
theorem atI_rp {K : KF} {H : Hp} {P M : PA1} {ds : List D} {xs : List V} {i : Int} {d : D} (h : RpA K H P M ds xs) (e : atI ds i = some d) : ∃ v, atI xs i = some v ∧ Rp K H P M d v := by
  unfold atI at e ⊢
  rw [h.length] at e
  cases hj : ixN xs.length i with
  | none => rw [hj] at e; cases e
  | some j =>
    rw [hj] at e
    exact h.get (show ds[j]? = some d from e)
@[simp] def itemD : D → D → Option R
  | .tup ds, .int i => (atI ds i).map .im
  | .str z, .int i => if z.length ≤ sizeLine then (atI z.cps.toList i).map fun c => .im (.str ⟨#[c]⟩) else none
  | d, .int i => (d.ls).bind fun ds => (atI ds i).map .im
  | _, _ => none
section
variable {X : Cx} {EX : XX} {a b : Expr} {pos : Pos} {wa wb : WO}
theorem ix_D : IxR X fun x y H Q => ∃ (P M : PA1) (d e : D), Rs (kX X) H P M d x ∧ Rs (kX X) H P M e y ∧ Ml H M ∧ Fit (kX X) H P M (itemD d e) Q := by
  intro value slice pins s σ H x y v u Q I rx ry ⟨P, M, d, e, h1, h2, _, f⟩ hs
  unfold itemD at f
  split at f
  · rename_i ds i
    obtain ⟨p, xs, rfl, ta, ra⟩ := h1.tp
    cases hd : atI ds i with
    | none => rw [hd] at f; exact f.no.elim
    | some d =>
      rw [hd] at f
      obtain ⟨w, e1, e2⟩ := atI_rp ra hd
      exact ix_tup value slice pins s σ H _ _ v u Q I rx ry ⟨p, xs, i, w, rfl, h2.int, ta, e1, f.im e2⟩ hs
  · rename_i z i
    split at f
    · cases hd : atI z.cps.toList i with
      | none => rw [hd] at f; exact f.no.elim
      | some c =>
        rw [hd] at f
        exact ix_str value slice pins s σ H _ _ v u Q I rx ry ⟨z, i, c, h1.str, h2.int, by assumption, hd, f.im rp_str⟩ hs
    · exact f.no.elim
  · rename_i i _ _
    cases hl : d.ls with
    | none => rw [hl] at f; exact f.no.elim
    | some ds =>
      rw [hl] at f
      obtain ⟨p, xs, rfl, ta, ra⟩ := h1.ls hl
      have f : Fit (kX X) H P M ((atI ds i).map .im) Q := f
      cases hd : atI ds i with
      | none => rw [hd] at f; exact f.no.elim
      | some d' =>
        rw [hd] at f
        obtain ⟨w, e1, e2⟩ := atI_rp ra hd
        exact ix_list value slice pins s σ H _ _ v u Q I rx ry ⟨p, xs, i, w, rfl, h2.int, ta, e1, f.im e2⟩ hs
  · exact f.no.elim
theorem de_item (ha : DO X EX a wa) (hb : DO X EX b wb) (hs : PlainIx b) : DE X EX (.Subscript a b pos) (op2W itemD wa wb) := PE.imp (pe_ix ix_D ha hb hs) fun _ _ _ h => op2_read h
end
end NB
set_option Elab.async false
set_option linter.all false
set_option maxRecDepth 100000
set_option maxHeartbeats 4000000
set_option autoImplicit false
/-! Calls of builtins, slices, by data. -/
namespace NB
open PySem PySem.Spec PyProof.Rows L2

def OpC (X : Cx) (f : Value) (g : RND) : Prop := CallR X f fun vs H Q => ∃ (P M : PA1) (ds : List D), Paired (Rs (kX X) H P M) ds vs ∧ Ml H M ∧ Fit (kX X) H P M (g ds) Q
section
variable {X : Cx} {EX : XX} {e : Expr} {es : List Expr} {p pos : Pos} {x : Str} {id T : String} {g : RND} {w : Wg (List Od)}
theorem de_callB (hc : OpC X (.builtin id) g) (hg : Gl X x) (hm : X.mg x = none) (hv : bootBuiltins x = some (.builtin id)) (ha : DOA X EX (e :: es) w) (hn : x ≠ "__name__" := by decide) (hdb : (x == ("__debug__" : Str)) = false := by decide)
    (he : starEach (e :: es) X.env = (false, eval e X.env) :: starEach es X.env := by rfl) (hpl : (backTo pos (starEach es X.env)).any (·.1) = false := by rfl) : DE X EX (.Call (.Name x p) (e :: es) [] pos) (opNW g w) :=
  PE.imp (pe_callB hc hg hm hv ha hn hdb he hpl) fun _ _ _ h => opN_read h
theorem de_callTy (hc : OpC X (.type T) g) (hg : Gl X x) (hm : X.mg x = none) (hv : bootBuiltins x = some (.type T)) (ha : DOA X EX (e :: es) w) (hn : x ≠ "__name__" := by decide) (hdb : (x == ("__debug__" : Str)) = false := by decide)
    (he : starEach (e :: es) X.env = (false, eval e X.env) :: starEach es X.env := by rfl) (hpl : (backTo pos (starEach es X.env)).any (·.1) = false := by rfl) : DE X EX (.Call (.Name x p) (e :: es) [] pos) (opNW g w) :=
  PE.imp (pe_callTy hc hg hm hv ha hn hdb he hpl) fun _ _ _ h => opN_read h
end
theorem paired1 {α β : Type} {R : α → β → Prop} {d : α} {vs : List β} (h : Paired R [d] vs) : ∃ v, vs = [v] ∧ R d v := by
  cases h with
  | cons a b => cases b; exact ⟨_, rfl, a⟩
theorem paired2 {α β : Type} {R : α → β → Prop} {d e : α} {vs : List β} (h : Paired R [d, e] vs) : ∃ v u, vs = [v, u] ∧ R d v ∧ R e u := by
  cases h with
  | cons a b => obtain ⟨u, rfl, q⟩ := paired1 b; exact ⟨_, _, rfl, a, q⟩
@[simp] def g1 (f : D → Option R) : RND := fun ds => match ds with
  | [d] => f d
  | _ => none
@[simp] def g2 (f : D → D → Option R) : RND := fun ds => match ds with
  | [d, e] => f d e
  | _ => none
section
variable {X : Cx}
theorem opC1 {f : Value} {g : D → Option R} (h : ∀ (pins : List (Addr × Obj)) (s : Shared) (σ : St) (H : Hp) (v : V) (us : List Value) (Q : VK) (P M : PA1) (d : D), Inv X pins σ H s → Vals [v] us → Rs (kX X) H P M d v → Fit (kX X) H P M (g d) Q → wpAny (model X.prog X.w) X.A (call f us) (EP X pins σ Q) X.xe s) : OpC X f (g1 g) := by
  intro pins s σ H xs us Q I r ⟨P, M, ds, pr, _, f⟩
  unfold g1 at f
  split at f
  · obtain ⟨v, rfl, q⟩ := paired1 pr
    exact h pins s σ H v us Q P M _ I r q f
  · exact f.no.elim
theorem opC2 {f : Value} {g : D → D → Option R} (h : ∀ (pins : List (Addr × Obj)) (s : Shared) (σ : St) (H : Hp) (v u : V) (us : List Value) (Q : VK) (P M : PA1) (d e : D), Inv X pins σ H s → Vals [v, u] us → Rs (kX X) H P M d v → Rs (kX X) H P M e u → Fit (kX X) H P M (g d e) Q → wpAny (model X.prog X.w) X.A (call f us) (EP X pins σ Q) X.xe s) : OpC X f (g2 g) := by
  intro pins s σ H xs us Q I r ⟨P, M, ds, pr, _, f⟩
  unfold g2 at f
  split at f
  · obtain ⟨v, u, rfl, q1, q2⟩ := paired2 pr
    exact h pins s σ H v u us Q P M _ _ I r q1 q2 f
  · exact f.no.elim

@[simp] def lenOf : D → Option Nat
  | .str z => if z.length ≤ sizeLine then some z.length else none
  | .tup ds => some ds.length
  | .lst ds => some ds.length
  | .scr ns => some ns.length
  | _ => none
@[simp] def lenD (d : D) : Option R := (lenOf d).map fun n => .im (.int (n : Nat))
theorem oc_len : OpC X (.builtin "len") (g1 lenD) := opC1 fun pins s σ H v us Q P M d I r rd f => by
  unfold lenD at f
  cases hl : lenOf d with
  | none => rw [hl] at f; exact f.no.elim
  | some n =>
    rw [hl] at f
    refine call_len pins s σ H _ us Q I r ⟨v, n, rfl, ?_, f.im rp_int⟩
    cases d with
    | str z =>
      rw [rd.str]
      have hl : (if z.length ≤ sizeLine then some z.length else none) = some n := hl
      by_cases hz : z.length ≤ sizeLine
      · rw [if_pos hz] at hl
        cases hl
        exact ⟨hz, rfl⟩
      · rw [if_neg hz] at hl
        cases hl
    | tup ds =>
      cases hl
      obtain ⟨a, xs, rfl, ta, ra⟩ := rd.tp
      exact .inr ⟨xs, ta, ra.length⟩
    | lst ds =>
      cases hl
      obtain ⟨a, xs, rfl, ta, ra⟩ := rd.ls rfl
      exact .inl ⟨xs, ta, ra.length⟩
    | scr ns =>
      cases hl
      obtain ⟨a, xs, rfl, ta, ra⟩ := rd.ls rfl
      exact .inl ⟨xs, ta, by rw [← ra.length, List.length_map]⟩
    | _ => cases hl
@[simp] def absD : D → Option R
  | .int i => some (.im (.int (if i < 0 then -i else i)))
  | _ => none
theorem oc_abs : OpC X (.builtin "abs") (g1 absD) := opC1 fun pins s σ H v us Q P M d I r rd f => by
  unfold absD at f
  split at f
  · exact call_abs pins s σ H _ us Q I r ⟨_, by rw [rd.int], f.im rp_int⟩
  · exact f.no.elim
@[simp] def intD : D → Option R
  | .int i => some (.im (.int i))
  | .bl k => some (.im (.int (if k then 1 else 0)))
  | _ => none
theorem oc_int : OpC X (.type "int") (g1 intD) := opC1 fun pins s σ H v us Q P M d I r rd f => by
  unfold intD at f
  split at f
  · exact call_int1 pins s σ H _ us Q I r (.inl ⟨_, by rw [rd.int], f.im rp_int⟩)
  · exact call_int1 pins s σ H _ us Q I r (.inr ⟨_, by rw [rd.bl], f.im rp_int⟩)
  · exact f.no.elim
@[simp] def strID : D → Option R
  | .int i => if i.natAbs.log2 < 1920 then some (.im (.str (toString i))) else none
  | _ => none
theorem oc_strI : OpC X (.type "str") (g1 strID) := opC1 fun pins s σ H v us Q P M d I r rd f => by
  unfold strID at f
  split at f
  · split at f
    · exact call_str_int pins s σ H _ us Q I r ⟨_, by rw [rd.int], by assumption, f.im rp_str⟩
    · exact f.no.elim
  · exact f.no.elim
@[simp] def max2D : D → D → Option R
  | .int i, .int j => some (.im (.int (if j > i then j else i)))
  | _, _ => none
@[simp] def min2D : D → D → Option R
  | .int i, .int j => some (.im (.int (if j < i then j else i)))
  | _, _ => none
theorem oc_max2 (hc : X.calm = true) : OpC X (.builtin "max") (g2 max2D) := opC2 fun pins s σ H v u us Q P M d e I r rd re f => by
  unfold max2D at f
  split at f
  · exact call_max2 hc pins s σ H _ us Q I r ⟨_, _, by rw [rd.int, re.int], f.im rp_int⟩
  · exact f.no.elim
theorem oc_min2 (hc : X.calm = true) : OpC X (.builtin "min") (g2 min2D) := opC2 fun pins s σ H v u us Q P M d e I r rd re f => by
  unfold min2D at f
  split at f
  · exact call_min2 hc pins s σ H _ us Q I r ⟨_, _, by rw [rd.int, re.int], f.im rp_int⟩
  · exact f.no.elim
@[simp] def tupOfD : D → Option R
  | .tup ds => some (.im (.tup ds))
  | d => (d.ls).map fun ds => .im (.tup ds)
theorem oc_tuple : OpC X (.type "tuple") (g1 tupOfD) := opC1 fun pins s σ H v us Q P M d I r rd f => by
  unfold tupOfD at f
  split at f
  · obtain ⟨a, xs, rfl, ta, ra⟩ := rd.tp
    refine call_tuple_of pins s σ H _ us Q I r ⟨a, xs, rfl, .inr ⟨ta, f.im ?_⟩⟩
    rw [Rp]
    exact ⟨a, xs, rfl, ta, ra⟩
  · cases hl : d.ls with
    | none => rw [hl] at f; exact f.no.elim
    | some ds =>
      rw [hl] at f
      obtain ⟨a, xs, rfl, ta, ra⟩ := rd.ls hl
      exact call_tuple_of pins s σ H _ us Q I r ⟨a, xs, rfl, .inl ⟨ta, f.tup ra⟩⟩
@[simp] def lstOfD : D → Option R
  | .tup ds => some (.nw ds)
  | d => (d.ls).map fun ds => .nw ds
theorem oc_list : OpC X (.type "list") (g1 lstOfD) := opC1 fun pins s σ H v us Q P M d I r rd f => by
  unfold lstOfD at f
  split at f
  · obtain ⟨a, xs, rfl, ta, ra⟩ := rd.tp
    exact call_list_of pins s σ H _ us Q I r ⟨a, xs, rfl, .inr ta, f.lst ra⟩
  · cases hl : d.ls with
    | none => rw [hl] at f; exact f.no.elim
    | some ds =>
      rw [hl] at f
      obtain ⟨a, xs, rfl, ta, ra⟩ := rd.ls hl
      exact call_list_of pins s σ H _ us Q I r ⟨a, xs, rfl, .inl ta, f.lst ra⟩
def blsD : List D → Option (List Bool)
  | [] => some []
  | .bl i :: ds => (blsD ds).map fun l => i :: l
  | _ :: _ => none
theorem blsD_some : ∀ {ds : List D} {ns : List Bool}, blsD ds = some ns → ds = ns.map .bl
  | [], ns, h => by rw [blsD] at h; cases h; rfl
  | .bl i :: ds, ns, h => by
    rw [blsD] at h
    obtain ⟨l, h1, h2⟩ := Option.map_eq_some_iff.mp h
    subst h2
    rw [List.map_cons, ← blsD_some h1]
  | .non :: _, _, h => by simp [blsD] at h
  | .int _ :: _, _, h => by simp [blsD] at h
  | .str _ :: _, _, h => by simp [blsD] at h
  | .tup _ :: _, _, h => by simp [blsD] at h
  | .lst _ :: _, _, h => by simp [blsD] at h
  | .pot :: _, _, h => by simp [blsD] at h
  | .scr _ :: _, _, h => by simp [blsD] at h
  | .exc _ _ :: _, _, h => by simp [blsD] at h
theorem blsD_map : ∀ ns : List Bool, blsD (ns.map .bl) = some ns
  | [] => rfl
  | n :: ns => by rw [List.map_cons, blsD, blsD_map ns]; rfl
@[simp] def allD (d : D) : Option R := (d.ls).bind fun ds => (blsD ds).map fun bs => .im (.bl (bs.all id))
@[simp] def anyD (d : D) : Option R := (d.ls).bind fun ds => (blsD ds).map fun bs => .im (.bl (bs.any id))
@[simp] def sumD (d : D) : Option R := (d.ls).bind fun ds => (intsD ds).map fun ns => .im (.int ns.sum)
theorem oc_all (hc : X.calm = true) : OpC X (.builtin "all") (g1 allD) := opC1 fun pins s σ H v us Q P M d I r rd f => by
  unfold allD at f
  cases hl : d.ls with
  | none => rw [hl] at f; exact f.no.elim
  | some ds =>
    rw [hl] at f
    obtain ⟨a, xs, rfl, ta, ra⟩ := rd.ls hl
    cases hb : blsD ds with
    | none => rw [Option.bind_some, hb] at f; exact f.no.elim
    | some bs =>
      rw [Option.bind_some, hb] at f
      rw [blsD_some hb] at ra
      rw [ra_bls_inv ra] at ta
      exact cr_all hc pins s σ H _ us Q I r ⟨a, bs, rfl, ta, f.im rp_bl'⟩
theorem oc_any (hc : X.calm = true) : OpC X (.builtin "any") (g1 anyD) := opC1 fun pins s σ H v us Q P M d I r rd f => by
  unfold anyD at f
  cases hl : d.ls with
  | none => rw [hl] at f; exact f.no.elim
  | some ds =>
    rw [hl] at f
    obtain ⟨a, xs, rfl, ta, ra⟩ := rd.ls hl
    cases hb : blsD ds with
    | none => rw [Option.bind_some, hb] at f; exact f.no.elim
    | some bs =>
      rw [Option.bind_some, hb] at f
      rw [blsD_some hb] at ra
      rw [ra_bls_inv ra] at ta
      exact cr_any hc pins s σ H _ us Q I r ⟨a, bs, rfl, ta, f.im rp_bl'⟩
theorem oc_sum (hc : X.calm = true) : OpC X (.builtin "sum") (g1 sumD) := opC1 fun pins s σ H v us Q P M d I r rd f => by
  unfold sumD at f
  cases hl : d.ls with
  | none => rw [hl] at f; exact f.no.elim
  | some ds =>
    rw [hl] at f
    obtain ⟨a, xs, rfl, ta, ra⟩ := rd.ls hl
    cases hb : intsD ds with
    | none => rw [Option.bind_some, hb] at f; exact f.no.elim
    | some bs =>
      rw [Option.bind_some, hb] at f
      rw [intsD_some hb] at ra
      rw [ra_ints_inv ra] at ta
      exact cr_sum hc pins s σ H _ us Q I r ⟨a, bs, rfl, ta, f.im rp_int⟩
/-- the greatest, the least -/
def IsMax (ns : List Int) (m : Int) : Prop := m ∈ ns ∧ ∀ y ∈ ns, y ≤ m
def IsMin (ns : List Int) (m : Int) : Prop := m ∈ ns ∧ ∀ y ∈ ns, m ≤ y

/-! ### repr -/
def showOk (d : D) : Bool := ((okD d && d.py.showable) && decide (dpD d ≤ 64)) && decide (d.py.shown.length ≤ sizeLine)
@[simp] def reprD (d : D) : Option R := if showOk d = true then some (.im (.str d.py.shown)) else none
theorem oc_repr (hg : X.A.guards = some []) (hu : X.A.units + 66 < cLine) : OpC X (.builtin "repr") (g1 reprD) := opC1 fun pins s σ H v us Q P M d I r rd f => by
  unfold reprD at f
  split at f
  · rename_i hs
    unfold showOk at hs
    rw [Bool.and_eq_true, Bool.and_eq_true, Bool.and_eq_true, decide_eq_true_eq, decide_eq_true_eq] at hs
    obtain ⟨⟨⟨h1, h2⟩, h3⟩, h4⟩ := hs
    obtain ⟨u, rfl, rv⟩ := vals1 r
    have q := f.im (v := .str d.py.shown) rp_str
    obtain ⟨as, rd'⟩ := Dp.reads I _ v u (rd.dp h1) rv
    have big : ∀ {a : Addr}, u = .ref a → wpAny (model X.prog X.w) X.A (call (.builtin "repr") [u]) (EP X pins σ Q) X.xe s := fun {a} e => by
      subst e
      exact repr_of_reads' rd' h2 (PyData.noDict_hsm (PyData.hasDict_of_canLay _ (canLay_py h1))) hg (by rw [depth_py]; omega) (fun _ _ e => e) (fun h' u tk k => ⟨.str _, H, I.kept k, ⟨_, rfl⟩, q⟩) h4
    cases d with
    | non =>
      rw [rd.non] at rv
      cases rv
      exact PySem.P.repr_of_none ⟨.str _, H, I.tok _, ⟨_, rfl⟩, q⟩
    | bl b =>
      rw [rd.bl] at rv
      cases rv
      refine PySem.P.repr_of_bool ⟨.str _, H, I.tok _, ⟨_, rfl⟩, ?_⟩
      exact q
    | int i =>
      rw [rd.int] at rv
      obtain ⟨t, rfl⟩ := rv
      exact PySem.P.repr_of_int (by simpa [D.py, PyData.showable] using h2) ⟨.str _, H, I.tok _, ⟨_, rfl⟩, q⟩
    | str z =>
      rw [rd.str] at rv
      obtain ⟨t, rfl⟩ := rv
      exact PySem.P.repr_of_str ⟨.str _, H, I.tok _, ⟨_, rfl⟩, q⟩ h4
    | tup ds =>
      obtain ⟨a, xs, rfl, _⟩ := rd.tp
      exact big rv
    | lst ds =>
      obtain ⟨a, xs, rfl, _⟩ := rd.ls rfl
      exact big rv
    | pot => simp [okD] at h1
    | scr _ => simp [okD] at h1
    | exc _ _ => simp [okD] at h1
    | fnv _ => simp [okD] at h1
    | clo _ _ => simp [okD] at h1
    | dct _ _ => simp [okD] at h1
    | ins _ _ => simp [okD] at h1
  · exact f.no.elim

/-! ### isinstance -/
inductive Tc where
  | tuple | int | bool | str | list | dict
def Tc.nm : Tc → String
  | .tuple => "tuple" | .int => "int" | .bool => "bool" | .str => "str" | .list => "list" | .dict => "dict"
/-- keys that are numbers or texts, one at least -/
def flatK : List D → Bool
  | [] => false
  | .int _ :: _ => true
  | .str _ :: _ => true
  | _ :: _ => false
theorem IsD.flat {K : KF} {a : Addr} {ks : List D} {u : HO} {xs ys : List V} (h : IsD K a ks u xs ys) (f : flatK ks = true) : ∃ zs : List Key, zs.length = ys.length ∧ zs.Nodup ∧ ks = zs.map keyD ∧ xs = zs.map kV ∧ u = .dK (zs.zip ys) := by
  rcases h with h | ⟨ns, as, h1, _, _, h2, rfl, h3, _⟩
  · exact h
  · cases ns with
    | nil => cases f
    | cons n ns =>
      obtain ⟨_, l, rfl⟩ := h3 n List.mem_cons_self
      simp [nkDs, nkD, flatK] at f
def tyD : D → Option String
  | .non => some "NoneType" | .bl _ => some "bool" | .int _ => some "int" | .str _ => some "str" | .tup _ => some "tuple" | .lst _ => some "list" | .scr _ => some "list"
  | .pot => none
  | .exc _ _ => none
  | .fnv _ => none
  | .clo _ _ => none
  | .ins _ _ => none
  | .dct ks _ => if flatK ks = true then some "dict" else none
@[simp] def isB : Tc → D → Option Bool
  | _, .pot => none
  | _, .exc _ _ => none
  | _, .fnv _ => none
  | _, .clo _ _ => none
  | _, .ins _ _ => none
  | .dict, .dct ks _ => if flatK ks = true then some true else none
  | _, .dct ks _ => if flatK ks = true then some false else none
  | .tuple, .tup _ => some true
  | .int, .int _ => some true
  | .int, .bl _ => some true
  | .bool, .bl _ => some true
  | .str, .str _ => some true
  | .list, .lst _ => some true
  | .list, .scr _ => some true
  | _, _ => some false
theorem isB_kit {c : Tc} {d : D} {b : Bool} (h : isB c d = some b) : ∃ T, tyD d = some T ∧ kitB T c.nm = some b := by
  cases d with
  | dct ks vs =>
    cases hf : flatK ks with
    | false => cases c <;> simp [isB, hf] at h
    | true => cases c <;> (simp [isB, hf] at h; subst h; exact ⟨"dict", by simp only [tyD, hf, if_true], by decide +kernel⟩)
  | _ => cases c <;> first | (cases h; exact ⟨_, rfl, by decide +kernel⟩) | cases h
theorem Rs.tyx {K : KF} {H : Hp} {P M : PA1} {d : D} {v : V} {T : String} (h : Rs K H P M d v) (e : tyD d = some T) : TyX K H v (.type T) := by
  cases d with
  | non => rw [h.non]; cases e; exact .base .non
  | bl b => rw [h.bl]; cases e; exact .base (.bl _)
  | int i => rw [h.int]; cases e; exact .base (.int _)
  | str z => rw [h.str]; cases e; exact .base (.str _)
  | tup ds =>
    cases e
    obtain ⟨a, xs, rfl, ta, _⟩ := h.tp
    rcases ta with (ta | ⟨o, ta⟩) | ⟨o, its, n, l, c, _⟩
    · exact .base (.tup ta)
    · exact .fTuple ta
    · exact .kTuple l c
  | lst ds =>
    cases e
    obtain ⟨a, xs, rfl, ta, _⟩ := h
    exact .base (.lst ta)
  | scr ns =>
    cases e
    obtain ⟨a, xs, rfl, ta, _⟩ := h.ls rfl
    rcases ta with (ta | ⟨o, ta⟩) | ⟨o, its, n, l, c, _⟩
    · exact .base (.lst ta)
    · exact .base (.frz ta)
    · exact .kList l c
  | pot => cases e
  | exc _ _ => cases e
  | fnv _ => cases e
  | clo _ _ => cases e
  | ins _ _ => cases e
  | dct ks vs =>
    have e : (if flatK ks = true then some "dict" else none) = some T := e
    split at e
    · rename_i hf
      cases e
      obtain ⟨a, u, xs, ys, rfl, hu, hd, _⟩ := h
      obtain ⟨zs, _, _, _, _, rfl⟩ := hd.flat hf
      exact .base (.dK hu)
    · cases e
@[simp] def isiW (c : Tc) (a : WO) : W := fun ρ t Q E => a ρ t (fun x ρ1 t1 => ∃ d b, rsv ρ1 x = some d ∧ isB c d = some b ∧ Q (.im (.bl b)) ρ1 t1) E
end
section
variable {X : Cx} {EX : XX} {e : Expr} {p p2 pos : Pos} {wa : WO} {c : Tc} {xn : Str}
theorem de_isi (hg : Gl X "isinstance") (hm : X.mg "isinstance" = none) (ht : PE X (.Name xn p2) (tC (V.ty c.nm))) (ha : DO X EX e wa)
    (he : starEach [e, .Name xn p2] X.env = (false, eval e X.env) :: starEach [.Name xn p2] X.env := by rfl) (he2 : starEach [.Name xn p2] X.env = (false, eval (.Name xn p2) X.env) :: starEach [] X.env := by rfl) (hpl : (backTo pos (starEach [.Name xn p2] X.env)).any (·.1) = false := by rfl) :
    DE X EX (.Call (.Name "isinstance" p) [e, .Name xn p2] [] pos) (isiW c wa) :=
  PE.imp (pe_callB call_isi hg hm PyProof.Rows.boot_isinstance (pa_cons ha (pa_cons ht pa_nil he2) he) (by decide) (by decide) he hpl) fun σ H Q h => by
    obtain ⟨G, P, ρ, t, Q', E, S, hw, lk, hq⟩ := h
    refine ⟨G, P, ρ, t, _, E, S, hw, lk, fun o ρ1 t1 x H1 P1 h1 r1 => ?_⟩
    obtain ⟨d, b, e1, e2, q⟩ := h1
    obtain ⟨T, e3, e4⟩ := isB_kit e2
    have S1 := r1.sat
    exact ⟨x, _, _, _, b, rfl, .ty _, (rsv_ok S1 r1 e1).tyx e3, kit_ty e4, hq _ _ _ _ _ P1 q ⟨S1, rp_bl'⟩⟩
end
end NB
set_option Elab.async false
set_option linter.all false
set_option maxRecDepth 100000
set_option maxHeartbeats 4000000
set_option autoImplicit false
/-! Slices, list(range), sorted, two names at once, methods without arguments. -/
namespace NB
open PySem PySem.Spec PyProof.Rows L2

/-! ### names of types -/
section
variable {X : Cx} {p : Pos}
theorem ty_tuple (hg : Gl X "tuple") (hm : X.mg "tuple" = none) : PE X (.Name "tuple" p) (tC (V.ty Tc.tuple.nm)) := pe_bltn hg hm PyProof.Rows.boot_tuple rfl
theorem ty_int (hg : Gl X "int") (hm : X.mg "int" = none) : PE X (.Name "int" p) (tC (V.ty Tc.int.nm)) := pe_bltn (u := .type "int") hg hm (by decide +kernel) rfl
theorem ty_bool (hg : Gl X "bool") (hm : X.mg "bool" = none) : PE X (.Name "bool" p) (tC (V.ty Tc.bool.nm)) := pe_bltn (u := .type "bool") hg hm (by decide +kernel) rfl
theorem ty_str (hg : Gl X "str") (hm : X.mg "str" = none) : PE X (.Name "str" p) (tC (V.ty Tc.str.nm)) := pe_bltn (u := .type "str") hg hm (by decide +kernel) rfl
theorem ty_list (hg : Gl X "list") (hm : X.mg "list" = none) : PE X (.Name "list" p) (tC (V.ty Tc.list.nm)) := pe_bltn (u := .type "list") hg hm (by decide +kernel) rfl
theorem ty_dict (hg : Gl X "dict") (hm : X.mg "dict" = none) : PE X (.Name "dict" p) (tC (V.ty Tc.dict.nm)) := pe_bltn (u := .type "dict") hg hm (by decide +kernel) rfl
end

/-! ### list(range(..)) -/
@[simp] def lstRgW (w : W) : W := fun ρ t Q E => w ρ t (fun r ρ1 t1 => ∃ n : Int, r = .im (.int n) ∧ 0 ≤ n ∧ n ≤ 16777216 ∧ Q (.nw (rangeD 0 n.toNat)) ρ1 t1) E
theorem ra_range {K : KF} {H : Hp} {P M : PA1} (lo : Int) : ∀ (l : List Nat), RpA K H P M (l.map fun i => D.int (lo + (i : Nat))) (l.map fun i => V.int (lo + (i : Nat)))
  | [] => .nil
  | i :: l => .cons rp_int (ra_range lo l)
section
variable {X : Cx} {EX : XX} {e : Expr} {w : W} {p p1 pos pos1 : Pos}
theorem de_lstRg (hc : X.calm = true) (hg : Gl X "list") (hm : X.mg "list" = none) (hg1 : Gl X "range") (hm1 : X.mg "range" = none) (he : DE X EX e w) (na : starEach [e] X.env = (false, eval e X.env) :: starEach [] X.env := by rfl)
    (na2 : starEach [.Call (.Name "range" p1) [e] [] pos1] X.env = (false, eval (.Call (.Name "range" p1) [e] [] pos1) X.env) :: starEach [] X.env := by rfl) : DE X EX (.Call (.Name "list" p) [.Call (.Name "range" p1) [e] [] pos1] [] pos) (lstRgW w) :=
  PE.imp (pe_listRg hc hg hm (prg_1 hg1 hm1 he na) na2) fun σ H Q h => by
    obtain ⟨G, P, ρ, t, Q', E, S, hw, lk, hq⟩ := h
    refine ⟨G, P, ρ, t, _, E, S, hw, lk, fun r ρ1 t1 x H1 P1 z rs => ?_⟩
    obtain ⟨n, rfl, h0, h1, q⟩ := z
    obtain ⟨S1, rp⟩ := rs
    rw [Rp] at rp
    refine ⟨n, rp, .of_le (Int.le_refl _) h1 (by omega) h0, fun a ha => hq _ _ _ _ _ P1 q (rz_rs S1 (kp_upd ha) (rz_list ha ?_))⟩
    unfold rangeD rgV
    rw [Int.sub_zero]
    exact ra_range 0 _
end

/-! ### slices -/
def RPt (K : KF) : Rel (Option Int) (Option Int) := fun G P ρ t σ H r v => Sat K G P ρ t σ H ∧ r = v
abbrev DPO (X : Cx) (EX : XX) (e : Option Expr) (w : Wg (Option Int)) : Prop := PO X e (Go (kX X) EX (RPt (kX X)) w)
theorem PO.imp {X : Cx} {e : Option Expr} {t t' : TO} (h : PO X e t) (i : ∀ σ H Q, t' σ H Q → t σ H Q) : PO X e t' := ⟨fun pins s σ H Q I q => h.run pins s σ H Q I (i σ H Q q)⟩
@[simp] def noneP : Wg (Option Int) := fun ρ t Q _ => Q none ρ t
@[simp] def someP (w : W) : Wg (Option Int) := fun ρ t Q E => w ρ t (fun r ρ1 t1 => ∃ i, r = .im (.int i) ∧ Q (some i) ρ1 t1) E
def cutD (ds : List D) (lo hi : Option Int) : List D := (ds.drop (HT.sIx ds.length 0 lo)).take (HT.sIx ds.length ds.length hi - HT.sIx ds.length 0 lo)
@[simp] def sliceD (d : D) (lo hi : Option Int) : Option R := match d with
  | .tup ds => some (.im (.tup (cutD ds lo hi)))
  | .str z => if z.length ≤ sizeLine then some (.im (.str (cutS z lo hi))) else none
  | d => (d.ls).map fun ds => .nw (cutD ds lo hi)
@[simp] def sliceW (a : WO) (lo hi : Wg (Option Int)) : W := fun ρ t Q E => a ρ t (fun x ρ1 t1 => lo ρ1 t1 (fun l ρ2 t2 => hi ρ2 t2 (fun h ρ3 t3 => ∃ d r, rsv ρ3 x = some d ∧ sliceD d l h = some r ∧ Q r ρ3 t3) E) E) E
section
variable {X : Cx} {EX : XX} {e : Expr} {lo hi : Option Expr} {w : W} {wa : WO} {wl wh : Wg (Option Int)} {p p2 pos : Pos}
theorem dpo_none : DPO X EX none noneP := PO.imp po_none fun σ H Q h => by
  obtain ⟨G, P, ρ, t, Q', E, S, hw, lk, hq⟩ := h
  exact hq _ _ _ _ _ P hw ⟨S, rfl⟩
theorem dpo_some (h : DE X EX e w) : DPO X EX (some e) (someP w) := PO.imp (po_some h) fun σ H Q h => by
  obtain ⟨G, P, ρ, t, Q', E, S, hw, lk, hq⟩ := h
  refine ⟨G, P, ρ, t, _, E, S, hw, lk, fun r ρ1 t1 x H1 P1 z rs => ?_⟩
  obtain ⟨i, rfl, q⟩ := z
  obtain ⟨S1, rp⟩ := rs
  rw [Rp] at rp
  exact ⟨i, rp, hq _ _ _ _ _ P1 q ⟨S1, rfl⟩⟩
theorem ra_cut {lo' hi' : Option Int} {K : KF} {H : Hp} {P M : PA1} {ds : List D} {xs : List V} (h : RpA K H P M ds xs) : RpA K H P M (cutD ds lo' hi') (cutV xs lo' hi') := by
  unfold cutD cutV
  rw [h.length]
  exact (h.drop _).take _
theorem cut_whole {α : Type} {xs : List α} {n : Nat} {lo hi : Option Int} (hn : n = xs.length) (h : HT.sIx n 0 lo = 0 ∧ HT.sIx n n hi = n) : (xs.drop (HT.sIx n 0 lo)).take (HT.sIx n n hi - HT.sIx n 0 lo) = xs := by
  rw [h.1, h.2, List.drop_zero, Nat.sub_zero, hn, List.take_length]
theorem sl_D : SlR X fun x lo hi H Q => ∃ (P M : PA1) (d : D), Rs (kX X) H P M d x ∧ Ml H M ∧ Fit (kX X) H P M (sliceD d lo hi) Q := by
  intro pins s σ H x v vl vu lo hi sl Q I rx hs pl pu ⟨P, M, d, rd, _, f⟩
  unfold sliceD at f
  split at f
  · rename_i ds
    obtain ⟨a, xs, rfl, ta, ra⟩ := rd.tp
    refine sl_tupA pins s σ H _ v vl vu lo hi sl Q I rx hs pl pu ⟨a, xs, rfl, ta, fun hw => f.im ?_, fun _ => f.tup (ra_cut ra)⟩
    rw [Rp]
    have e : cutD ds lo hi = ds := by
      unfold cutD
      rw [← ra.length] at hw
      exact cut_whole rfl hw
    rw [e]
    exact ⟨a, xs, rfl, ta, ra⟩
  · rename_i z
    split at f
    · exact sl_str pins s σ H _ v vl vu lo hi sl Q I rx hs pl pu ⟨z, rd.str, by assumption, f.im rp_str⟩
    · exact f.no.elim
  · cases hl : d.ls with
    | none => rw [hl] at f; exact f.no.elim
    | some ds =>
      rw [hl] at f
      obtain ⟨a, xs, rfl, ta, ra⟩ := rd.ls hl
      exact sl_list pins s σ H _ v vl vu lo hi sl Q I rx hs pl pu ⟨a, xs, rfl, ta, f.lst (ra_cut ra)⟩
theorem de_slice (ha : DO X EX e wa) (hl : DPO X EX lo wl) (hh : DPO X EX hi wh) : DE X EX (.Subscript e (.Slice lo hi none p2) pos) (sliceW wa wl wh) := PE.imp (pe_slice sl_D ha hl hh) fun σ H Q h => by
  obtain ⟨G, P, ρ, t, Q', E, S, hw, lk, hq⟩ := h
  refine ⟨G, P, ρ, t, _, E, S, hw, lk, fun o ρ1 t1 x H1 P1 h1 r1 => ?_⟩
  refine ⟨holdO G o x, P1, ρ1, t1, _, E, r1.hold, h1, lk.holdO, fun l ρ2 t2 l' H2 P2 h2 r2 => ?_⟩
  obtain ⟨S2, rfl⟩ := r2
  refine ⟨holdO G o x, P2, ρ2, t2, _, E, S2, h2, lk.holdO, fun u ρ3 t3 u' H3 P3 h3 r3 => ?_⟩
  obtain ⟨S3, rfl⟩ := r3
  obtain ⟨d, r, e1, e2, q⟩ := h3
  obtain ⟨S4, q1⟩ := r1.back S3
  exact ⟨P3, Mx G.F P3 ρ3 σ, d, rsv_ok S4 q1 e1, S4.mlist, r, e2, fun z H' k rz => hq r ρ3 t3 z H' P3 q (rz_rs S4 k rz)⟩
end

/-! ### xs.m() of a text -/
def m0W (g : D → Option R) (a : WO) : W := op1W g a
@[simp] def upperD : D → Option R
  | .str z => if z.length ≤ 5592405 then some (.im (.str (Txt.upper z))) else none
  | _ => none
def lowerD : D → Option R
  | .str z => if z.length ≤ 5592405 then some (.im (.str (Txt.lower z))) else none
  | _ => none
section
variable {X : Cx} {EX : XX} {e : Expr} {wa : WO} {p apos cpos : Pos}
theorem de_upper (ha : DO X EX e wa) (hbase : attributeBase e "upper" X.env (eval e X.env) = eval e X.env := by rfl) (hline : (apos.endLine == cpos.line) = true := by rfl) :
    DE X EX (.Call (.Attribute e "upper" apos) [] [] cpos) (op1W upperD wa) := PE.imp (pe_bm0 PySem.F.plainAttrs_str PySem.F.slot_str_upper PySem.F.type_str_upper mt_upper ha hbase hline) fun σ H Q h => by
  obtain ⟨G, P, ρ, t, Q', E, S, hw, lk, hq⟩ := op1_read h
  refine ⟨G, P, ρ, t, Q', E, S, hw, lk, fun o ρ1 t1 x H1 P1 h1 r1 => ?_⟩
  obtain ⟨P2, M, d, rd, _, f⟩ := hq o ρ1 t1 x H1 P1 h1 r1
  unfold upperD at f
  split at f
  · split at f
    · rw [rd.str]
      exact ⟨rfl, _, rfl, rfl, by assumption, f.im rp_str⟩
    · exact f.no.elim
  · exact f.no.elim
end

/-! ### two names at once -/
/-- what a value needs to stay: a ghost that holds it -/
theorem RS.keep {K : KF} {G : Gh} {P : PA1} {ρ : List Sl} {t : Nat} {σ : St} {H : Hp} {r : R} {v : V} (h : RS K G P ρ t σ H r v) :
    ∃ G1 : Gh, Sat K G1 P ρ t σ H ∧ (∀ (P' : PA1) (ρ' : List Sl) (t' : Nat) (σ' : St) (H' : Hp), Sat K G1 P' ρ' t' σ' H' → RS K G P' ρ' t' σ' H' r v) ∧ ∀ EX E, Lk K EX G E → Lk K EX G1 E := by
  cases r with
  | im d =>
    refine ⟨G.hold d v, h.1.hold h.2, fun P' ρ' t' σ' H' S => ?_, fun _ _ h => h.hold⟩
    obtain ⟨S1, q⟩ := S.unhold
    exact ⟨S1, q⟩
  | nw ds =>
    obtain ⟨a, u, xs, rfl, S, nm, h0, e, cu, ra⟩ := h
    refine ⟨(G.add a u).holds (ds.ct.zip xs), S.holds fun p hp => ?_, fun P' ρ' t' σ' H' S' => ?_, fun _ _ h => (h.add h0).holds⟩
    · obtain ⟨i, hi⟩ := List.getElem?_of_mem hp
      rw [List.getElem?_zip_eq_some] at hi
      obtain ⟨y, g1, g2⟩ := ra.get hi.1
      rw [hi.2] at g1; cases g1
      exact g2
    · obtain ⟨S1, hh⟩ := S'.unholds
      have nF : ¬ G.F a := fun z => nm (.inl z)
      refine ⟨a, u, xs, rfl, S1, fun z => ?_, h0, ?_, cu, zip_ra ra.length hh⟩
      · rcases z with z | z | ⟨i, es, e1, e2⟩
        · exact nF z
        · exact S1.fp a (.inr rfl) z
        · obtain ⟨b, w, ys, r1, _, _, _, r4, _⟩ := S1.ow i es e1
          rw [e2] at r1
          cases r1
          exact r4 (.inr rfl)
      · obtain ⟨ys, _, e1, e2⟩ := S1.fo a (.inr rfl)
        have e1 : upd G.HF a u a = some ys := e1
        rw [upd_same] at e1
        cases e1
        exact e2
@[simp] def parS (i j : Nat) (a b : W) : WS := fun ρ t k => a ρ t (fun r ρ1 t1 => b ρ1 t1 (fun q ρ2 t2 => k.nx ((ρ2.set j (slOf q)).set i (slOf r)) t2) k.ex) k.ex
section
variable {X : Cx} {EX : XX} {a b : Expr} {wa wb : W} {i j : Nat} {x y : Str} {px py pt pos : Pos} {kt k2 : Nat} {pt2 : Pos}
theorem ds_par (hc : X.calm = true) (hN : X.N.Nodup) (hi : X.N[i]? = some x) (hj : X.N[j]? = some y) (hij : i ≠ j) (hx : X.env.scope.names.lookup x = some .local) (hy : X.env.scope.names.lookup y = some .local)
    (ha : DE X EX a wa) (hb : DE X EX b wb) (hs1 : starEach [a, b] X.env = (false, eval a X.env) :: starEach [b] X.env) (hs2 : starEach [b] X.env = (false, eval b X.env) :: starEach [] X.env)
    (hw : swappedStores [.Tuple [.Name x px, .Name y py] kt pt] (.Tuple [a, b] k2 pt2) X.env = pure (some [x, y]))
    (hs : swapsWithSole [.Tuple [.Name x px, .Name y py] kt pt] (.Tuple [a, b] k2 pt2) pos.line X.env = pure false := by rfl) :
    DS X EX (.Assign [.Tuple [.Name x px, .Name y py] kt pt] (.Tuple [a, b] k2 pt2) pos) (parS i j wa wb) := PS.imp (ps_par hc hN hi hj hij hx hy (pa_cons ha (pa_cons hb pa_nil hs2) hs1) hw hs) fun D σ H h => by
  obtain ⟨G, P, ρ, t, k, S, hw, lk, hn, hb, hc, hr⟩ := h
  refine ⟨G, P, ρ, t, _, k.ex, S, hw, lk, fun r ρ1 t1 v H1 P1 h1 r1 => ?_⟩
  obtain ⟨G1, S1, back, lk1⟩ := r1.keep
  refine ⟨G1, P1, ρ1, t1, _, k.ex, S1, h1, lk1 _ _ lk, fun q ρ2 t2 u H2 P2 h2 r2 => ?_⟩
  refine ⟨v, u, rfl, ?_⟩
  rw [List.set_comm _ _ hij]
  exact hn _ _ _ _ P2 h2 (back _ _ _ _ _ r2.set).set
end

/-! ### sorted -/
structure SortOk (ds : List D) : Prop where
  ok : okL ds = true
  dp : ∀ d ∈ ds, dpD d ≤ 60
  al : PySem.W.AllAlike (ds.map D.py)
  so : PySem.W.Sortable (ds.map D.py)
  ln : ds.length ≤ sizeLine
def srt (ds : List D) : List D := ds.mergeSort (PySem.W.dataLe false D.py)
@[simp] def sortW (a : WO) : W := fun ρ t Q E => a ρ t (fun x ρ1 t1 => ∃ d ds, rsv ρ1 x = some d ∧ d.ls = some ds ∧ SortOk ds ∧ Q (.nw (srt ds)) ρ1 t1) E
theorem okL_mem : ∀ {ds : List D}, okL ds = true → ∀ d ∈ ds, okD d = true
  | [], _, _, h => nomatch h
  | e :: ds, h, d, hd => by
    rw [okL, Bool.and_eq_true] at h
    rcases List.mem_cons.mp hd with e' | e'
    · rw [e']; exact h.1
    · exact okL_mem h.2 d e'
theorem each_of {K : KF} {H : Hp} {P M : PA1} : ∀ {ds : List D} {xs : List V} {us : List Value}, RpA K H P M ds xs → Vals xs us → PySem.W.EachIs (fun v d => ∃ x, RelV x v ∧ Rp K H P M d x) us ds
  | [], xs, us, h, r => by rw [RpA] at h; subst h; cases r; exact .nil
  | d :: ds, xs, us, h, r => by
    obtain ⟨x, xs', rfl, h1, h2⟩ := h.cons_inv
    cases r with
    | cons r1 r2 => exact .cons ⟨x, r1, h1⟩ (each_of h2 r2)
theorem each_back {K : KF} {H : Hp} {P M : PA1} : ∀ {ds : List D} {us : List Value}, PySem.W.EachIs (fun v d => ∃ x, RelV x v ∧ Rp K H P M d x) us ds → ∃ xs, Vals xs us ∧ RpA K H P M ds xs
  | _, _, .nil => ⟨[], .nil, .nil⟩
  | _, _, .cons ⟨x, r, h⟩ t => by
    obtain ⟨xs, h1, h2⟩ := each_back t
    exact ⟨x :: xs, .cons r h1, .cons h h2⟩
theorem each_and {α β : Type} {R S : α → β → Prop} : ∀ {as : List α} {bs : List β}, PySem.W.EachIs R as bs → (∀ a b, b ∈ bs → R a b → S a b) → PySem.W.EachIs S as bs
  | _, _, .nil, _ => .nil
  | _, _, .cons h t, g => .cons (g _ _ List.mem_cons_self h) (each_and t fun a b hb => g a b (List.mem_cons_of_mem _ hb))
section
variable {X : Cx}
theorem cr_sortD (hu : X.A.units + 64 < cLine) : CallR X (.builtin "sorted") (fun vs H Q => ∃ (P M : PA1) (v : V) (d : D) (ds : List D), vs = [v] ∧ Rs (kX X) H P M d v ∧ d.ls = some ds ∧ SortOk ds ∧ Fit (kX X) H P M (some (.nw (srt ds))) Q) := by
  intro pins s σ H vs us Q I r h
  obtain ⟨P, M, v, d, ds, rfl, rd, hl, ok, f⟩ := h
  obtain ⟨a, xs, rfl, ta, ra⟩ := rd.ls hl
  obtain ⟨its, rv, pl, hz⟩ := I.list ta
  rw [Vals.ref1 r]
  have e := each_of ra rv
  refine PySem.W.sorted_data (R := fun v d => ∃ x, RelV x v ∧ Rp (kX X) H P M d x) (enc := D.py) pl.isList e ?_ ok.al ok.so ok.ln (fun b hb => ?_) fun out ho eo => ?_
  · exact each_and e fun v d hd ⟨x, r1, h1⟩ => Dp.reads I _ x v (h1.dp (okL_mem ok.ok d hd)) r1
  · rw [depth_py]
    have := ok.dp b hb
    omega
  · obtain ⟨ys, r1, ra2⟩ := each_back eo
    obtain ⟨c, hc⟩ := sortedAll_at s.heap its out.toArray
    have hlen : ys.length ≤ sizeLine := by rw [r1.length, ho]; exact ok.ln
    have J : Inv X pins σ (upd H (s.heap.objs.size + 1) (.lst ys)) { s with heap := sortedAll s.heap its (List.toArray out) } :=
      I.laid (t' := s.toks) (fun b o q => sortedAll_old q) (Nat.le_succ _) (show ObjOk X.prog X.w _ _ _ (.lst ys) from ⟨hlen, out, c, r1, hc⟩)
    exact ⟨.ref _, _, J, rfl, f.lst ra2 _ (I.hok.fresh (Nat.le_succ _))⟩
end
section
variable {X : Cx} {EX : XX} {e : Expr} {wa : WO} {p pos : Pos}
theorem de_sorted (hu : X.A.units + 64 < cLine) (hg : Gl X "sorted") (hm : X.mg "sorted" = none) (ha : DO X EX e wa) (he : starEach [e] X.env = (false, eval e X.env) :: starEach [] X.env := by rfl) (hpl : (backTo pos (starEach [] X.env)).any (·.1) = false := by rfl) :
    DE X EX (.Call (.Name "sorted" p) [e] [] pos) (sortW wa) :=
  PE.imp (pe_callB (cr_sortD hu) hg hm PyProof.Rows.boot_sorted (pa_cons ha pa_nil he) (by decide) (by decide) he hpl) fun σ H Q h => by
    obtain ⟨G, P, ρ, t, Q', E, S, hw, lk, hq⟩ := h
    refine ⟨G, P, ρ, t, _, E, S, hw, lk, fun o ρ1 t1 x H1 P1 h1 r1 => ?_⟩
    obtain ⟨d, ds, e1, e2, ok, q⟩ := h1
    have S1 := r1.sat
    exact ⟨P1, Mx G.F P1 ρ1 σ, x, d, ds, rfl, rsv_ok S1 r1 e1, e2, ok, _, rfl, fun z H' k rz => hq _ ρ1 t1 z H' P1 q (rz_rs S1 k rz)⟩
end
end NB
set_option Elab.async false
set_option linter.all false
set_option maxRecDepth 100000
set_option maxHeartbeats 4000000
set_option autoImplicit false
/-! Tuples turned round; sorted(set(..)) of tuples of ints. -/
namespace NB
open PySem PySem.Spec PyProof.Rows L2

/-! ### t[::-1] -/
section
variable {prog : Program} {w : World} {A : Around} {E : Value → Shared → Prop} {s : Shared}
theorem back_places (n : Nat) : Builtin.Slice.slicePlaces ((n : Int) - 1) (-1) (-1) = n := by
  unfold Builtin.Slice.slicePlaces
  have h : ¬ ((-1 : Int) > 0) := by omega
  rw [if_neg h]
  by_cases hn : (n : Int) - 1 > -1
  · rw [if_pos hn, show (-(-1) : Int) = 1 by omega, Int.ediv_one]
    omega
  · rw [if_neg hn]
    omega
theorem back_applied {sl : Addr} {n : Nat} {tk : Tok} {Q : Int × Int × Nat → Shared → Prop} (hs : s.heap.IsSliceOf sl .none .none (.int (-1) tk)) (h : Q ((n : Int) - 1, -1, n) s) :
    wpAny (model prog w) A (Builtin.Slice.sliceApplied (.ref sl) (pure (n : Int))) Q E s := by
  obtain ⟨os, hos, hcs, hds⟩ := hs
  unfold Builtin.Slice.sliceApplied Builtin.Slice.sliceFields
  refine wpAny_bind (wpAny_bind (wpAny_field hos hds (x := .none) rfl (wpAny_bind (wpAny_field hos hds (x := .none) rfl (wpAny_bind (wpAny_field hos hds (x := .int (-1) tk) rfl (wpAny_pure ?_)))))))
  refine wpAny_bind (slicePart_int ?_)
  show wpAny _ _ (if ((-1 : Int) == 0) = true then _ else _) _ _ s
  rw [if_neg (by decide)]
  refine wpAny_bind (slicePart_none (wpAny_bind (slicePart_none (wpAny_bind (wpAny_pure ?_)))))
  have e : Builtin.Slice.slicePlaces ((n : Int) - 1) (-1) (-1) = n := back_places n
  show wpAny _ _ (pure ((n : Int) - 1, (-1 : Int), Builtin.Slice.slicePlaces ((n : Int) - 1) (-1) (-1))) _ _ s
  rw [e]
  exact wpAny_pure h
theorem back_pick (xs : List Value) : (List.range xs.length).filterMap (fun (k : Nat) => xs.toArray[(((xs.length : Int) - 1) + (k : Int) * (-1)).toNat]?) = xs.reverse := by
  have key : ∀ (ys : List Value) (m : Nat), m ≤ ys.length → (List.range m).filterMap (fun (k : Nat) => ys.toArray[(((m : Int) - 1) + (k : Int) * (-1)).toNat]?) = (ys.take m).reverse := by
    intro ys m
    induction m with
    | zero => intro _; rfl
    | succ m ih =>
      intro hm
      rw [List.range_succ_eq_map, List.filterMap_cons, List.filterMap_map]
      have e0 : ((((m + 1 : Nat) : Int) - 1) + ((0 : Nat) : Int) * (-1)).toNat = m := by omega
      rw [e0]
      have e1 : ys.toArray[m]? = some ys[m] := by
        rw [List.getElem?_toArray]
        exact List.getElem?_eq_getElem (by omega)
      rw [e1]
      have e2 : ((fun (k : Nat) => ys.toArray[((((m + 1 : Nat) : Int) - 1) + (k : Int) * (-1)).toNat]?) ∘ Nat.succ) = fun (k : Nat) => ys.toArray[(((m : Int) - 1) + (k : Int) * (-1)).toNat]? := by
        funext k
        show ys.toArray[((((m + 1 : Nat) : Int) - 1) + ((k + 1 : Nat) : Int) * (-1)).toNat]? = _
        rw [show ((((m + 1 : Nat) : Int) - 1) + ((k + 1 : Nat) : Int) * (-1)).toNat = (((m : Int) - 1) + (k : Int) * (-1)).toNat by omega]
      rw [e2, ih (by omega)]
      have e3 : ys.take (m + 1) = ys.take m ++ [ys[m]] := by
        rw [List.take_add_one, List.getElem?_eq_getElem (by omega)]
        rfl
      rw [e3, List.reverse_append]
      rfl
  have := key xs xs.length (Nat.le_refl _)
  rw [List.take_length] at this
  exact this
theorem back_item {t sl : Addr} {its : List Value} {tk : Tok} {Q : Value → Shared → Prop} (ht : IsTup s.heap t its.toArray) (hs : s.heap.IsSliceOf sl .none .none (.int (-1) tk)) (hz : its.length ≤ sizeLine)
    (h : Q (.ref s.heap.objs.size) { s with heap := s.heap.push { cls := .type "tuple", data := .seq its.reverse.toArray } }) : wpAny (model prog w) A (getItem (.ref t) (.ref sl)) Q E s := by
  obtain ⟨os, hos, hcs, hds⟩ := id hs
  have hT : s.TypeIs (.ref sl) "slice" := ⟨os, hos, hcs⟩
  unfold getItem
  try with_reducible refine wpAny_holding ?_
  first | refine wpAny_bind (wpAny_pure ?_) | skip
  refine wpAny_bind (wpAny_sequenceKey ht.typeIs (by decide) ?_)
  refine wpAny_bind (wpAny_callSpecial?_slot (name := Str.ofString "__getitem__") ht.typeIs PyProof.Rows.slot_tuple_getitem (wpAny_call_entry PyProof.Rows.slot_tuple_getitem ht.typeIs entry_tuple_getitem ?_ (args_tuple_getitem _ _)))
  show wpAny _ _ (Builtin.Tuple.tupleItemsOf (.ref t) >>= _) _ _ s
  refine wpAny_bind (tupleItemsOf_ ht (wpAny_bind (wpAny_typeOf hT ?_)))
  rw [if_pos (by decide)]
  have e1 : (its.toArray.size : Int) = ((its.length : Nat) : Int) := by rw [List.size_toArray]
  rw [e1]
  refine wpAny_bind (back_applied hs ?_)
  have no : ¬ ((((its.length : Int) - 1) == 0 && (-1 : Int) == 1 && its.length == its.toArray.size) = true) := by
    intro q
    rw [Bool.and_eq_true, Bool.and_eq_true] at q
    exact absurd q.1.2 (by decide)
  show wpAny _ _ (if (((its.length : Int) - 1) == 0 && (-1 : Int) == 1 && its.length == its.toArray.size) = true then _ else _) _ _ s
  rw [if_neg no, back_pick]
  have hsz : sizeOk (.seq its.reverse.toArray) := by
    show its.reverse.toArray.size ≤ sizeLine
    rw [List.size_toArray, List.length_reverse]
    exact hz
  first
    | exact wpAny_bind (m := Builtin.Tuple.tupleExact _) (wpAny_newObj_type (wpAny_pure ⟨_, rfl, wpAny_pure h⟩) hsz)
    | exact wpAny_bind (m := Builtin.Tuple.tupleExact _) (wpAny_newObj_type (wpAny_bind (wpAny_pure (wpAny_pure ⟨_, rfl, wpAny_pure h⟩))) hsz)
    | exact wpAny_bind (wpAny_bind (m := Builtin.Tuple.tupleExact _) (wpAny_newObj_type (wpAny_pure (wpAny_pure ⟨_, rfl, wpAny_pure h⟩)) hsz))
    | exact wpAny_bind (wpAny_bind (m := Builtin.Tuple.tupleExact _) (wpAny_newObj_type (wpAny_pure ⟨_, rfl, wpAny_pure h⟩) hsz))
end
@[simp] def backD : D → Option R
  | .tup ds => some (.im (.tup ds.reverse))
  | _ => none
section
variable {X : Cx} {EX : XX} {e : Expr} {wa : WO} {k : Nat} {p1 p2 p3 pos : Pos}
theorem pe_back {te : TE} (he : PE X e te) : PE X (.Subscript e (.Slice none none (some (.UnaryOp .USub (.Constant (.int 1) k p1) p2)) p3) pos) (fun σ H Q => te σ H fun x H1 => ∃ a xs, x = .ref a ∧ SqT (kX X) H1 a xs ∧ ∀ q, H1 q = none → Q (.ref q) (upd H1 q (.tup xs.reverse))) := by
  constructor
  intro pins s σ H Q I h
  refine Subscript_ (thn (he.run pins s σ H _ I h) ?_)
  rintro v s1 ⟨x, H1, I1, r1, a, xs, rfl, hx, q⟩
  obtain rfl : v = .ref a := r1
  have hst : PO X (some (.UnaryOp .USub (.Constant (.int 1) k p1) p2)) (tPart (tUn (rU fun i => .int (-i)) (tC (.int 1)))) := po_some (pe_un un_neg pe_int)
  refine wpAny_Slice (thn (po_none.run pins s1 σ H1 (fun o H2 => o = none ∧ H2 = H1) I1 ⟨rfl, rfl⟩) ?_)
  rintro vl s2 ⟨l, H2, I2, pl, rfl, rfl⟩
  refine thn (po_none.run pins s2 σ H2 (fun o H3 => o = none ∧ H3 = H2) I2 ⟨rfl, rfl⟩) ?_
  rintro vu s3 ⟨u, H3, I3, pu, rfl, rfl⟩
  refine thn (hst.run pins s3 σ H3 (fun o H4 => o = some (-1) ∧ H4 = H3) I3 ⟨1, rfl, -1, rfl, rfl, rfl⟩) ?_
  rintro vs s4 ⟨o, H4, I4, ps, rfl, rfl⟩
  cases pl
  cases pu
  cases ps with
  | int _ tk =>
  have I5 : Inv X pins σ H4 { s4 with heap := s4.heap.push { cls := .type "slice", data := .fields #[.none, .none, .int (-1) tk] } } := I4.kept (t' := s4.toks) fun b ob q => Heap.get?_push_of_some _ q
  obtain ⟨its, r, ht, hz⟩ := I5.tuple hx
  have hlen := r.length
  show wpAny (model X.prog X.w) X.A (subscriptTail e (.Slice none none (some (.UnaryOp .USub (.Constant (.int 1) k p1) p2)) p3) (.ref a) (.ref s4.heap.objs.size)) (EP X pins σ Q) X.xe { s4 with heap := s4.heap.push { cls := .type "slice", data := .fields #[.none, .none, .int (-1) tk] } }
  refine tail_any (ops := [.ref a, .ref s4.heap.objs.size]) ht.typeIs PyProof.Rows.slot_tuple_getitem.lookup (back_item ht (Heap.IsSliceOf.new ..) (by omega) ?_) (by with_unfolding_all rfl)
  refine ⟨.ref _, _, I5.laid (t' := s4.toks) (o := .tup xs.reverse) (fun b ob q => Heap.get?_push_of_some _ q) (Nat.le_refl _) ?_, rfl, q _ (I5.hok.fresh (Nat.le_refl _))⟩
  exact ⟨by rw [List.length_reverse]; exact hz, _, r.reverse, IsTup.new _ _⟩
theorem de_back (ha : DO X EX e wa) : DE X EX (.Subscript e (.Slice none none (some (.UnaryOp .USub (.Constant (.int 1) k p1) p2)) p3) pos) (op1W backD wa) := PE.imp (pe_back ha) fun σ H Q h => by
  obtain ⟨G, P, ρ, t, Q', E, S, hw, lk, hq⟩ := op1_read h
  refine ⟨G, P, ρ, t, Q', E, S, hw, lk, fun o ρ1 t1 x H1 P1 h1 r1 => ?_⟩
  obtain ⟨P2, M, d, rd, _, f⟩ := hq o ρ1 t1 x H1 P1 h1 r1
  unfold backD at f
  split at f
  · obtain ⟨a, xs, rfl, ta, ra⟩ := rd.tp
    exact ⟨a, xs, rfl, ta, f.tup ra.reverse⟩
  · exact f.no.elim
end
end NB
set_option Elab.async false
set_option linter.all false
set_option maxRecDepth 100000
set_option maxHeartbeats 4000000
set_option autoImplicit false
/-! sorted(set(t)) of tuples of ints. -/
namespace NB
open PySem PySem.Spec PyProof.Rows L2

section
variable {P : Program} {w : World} {A : Around} {E : Value → Shared → Prop} {s : Shared}
abbrev set0 (w : World) : Obj := { cls := .type "set", dict := none, data := .set #[] 0 (.fresh 0 0 (!w.params.followText "set-order")) }
/-- a set of the items of a tuple -/
theorem setOf_tuple {l : Addr} {its : Array Value} (ks : List (Addr × List Int)) {Q : Value → Shared → Prop} (hh : A.handled = none) (hl : s.heap.IsTuple l its) (hit : its.toList = ks.map fun p => Value.ref p.1)
    (hk : ∀ p ∈ ks, IsT P w s.heap p.2 p.1) (few : ks.length < 64) (hu : A.units + 3 < cLine)
    (h : ∀ (h' : Heap) (tk : Nat) L es ep t, SetTR P w h' s.heap.objs.size L es ep t → Got ks ks.length L → (∀ b o, s.heap.get? b = some o → h'.get? b = some o) → Q (.ref s.heap.objs.size) { s with heap := h', toks := tk }) :
    wpAny (model P w) A (call (.type "set") [.ref l]) Q E s := by
  have len : its.size = ks.length := by
    have q := congrArg List.length hit
    rwa [Array.length_toList, List.length_map] at q
  obtain ⟨c, tl, mro⟩ := F.called_set.mro
  have made := F.called_set.made
  have sub := F.called_set.sub
  have f1 := F.called_set.notType
  have f2 := F.called_set.canCreate
  have f3 := F.typeCall_set_1 (.ref l)
  refine wpAny_call (codeAny_of_tree ?_)
  show wpAny _ _ (callAny (.type "set") _) _ _ _
  refine wpAny_pure ⟨Code.quiet_builtin _ (by decide +kernel), codeAny_builtin F.entry_type_call ?_⟩
  rw [Around.under_plain (weight_type_call_type "set" [.ref l] []) rfl]
  repeat (any_goals (first | assumption | wp_step))
  refine codeAny_mono (code_set_led1 (.ref l) (E := E) (Q₁ := fun z s1 => z = .ref s.heap.objs.size ∧ s1 = { s with heap := s.heap.push (set0 w) }) ⟨rfl, rfl⟩) ?_
  intro r s1 hr
  match r, hr with
  | .error _, hr => exact hr
  | .ok .next, hr => exact hr.elim
  | .ok .brk, hr => exact hr.elim
  | .ok .cont, hr => exact hr.elim
  | .ok (.ret z), hr =>
    obtain ⟨rfl, rfl⟩ := hr
    have gS : (s.heap.push (set0 w)).get? s.heap.objs.size = some (set0 w) := Heap.get?_push_size _ rfl
    have tS : Shared.TypeIs { s with heap := s.heap.push (set0 w) } (.ref s.heap.objs.size) "set" := ⟨_, gS, rfl⟩
    have i1 := F.called_set.init.lookup
    have i2 := F.called_set.init.bind (.ref s.heap.objs.size)
    repeat (any_goals (first | assumption | wp_step))
    refine codeAny_mono (codeAny_call_builtin (R := wants (fun z s2 => z = .none ∧ ∃ h' tk L es ep t, s2 = { s with heap := h', toks := tk } ∧ SetTR P w h' s.heap.objs.size L es ep t ∧ Got ks ks.length L ∧ (∀ b o, s.heap.get? b = some o → h'.get? b = some o)) E)
      F.called_set.init.plain F.entry_set_init (check_set_init_1 tS ?_)) ?_
    · obtain ⟨⟨oc, od, odt, os⟩, gl, hc, n, hd⟩ := hl
      simp only at hc hd
      subst hc
      subst hd
      have gl' : (s.heap.push (set0 w)).get? l = some { cls := .type "tuple", dict := od, data := .seq its n, slots := os } := Heap.get?_push_of_some _ gl
      have n1 := F.sub_tuple_set
      have n2 := F.sub_tuple_frozenset
      have n3 : (Value.type "tuple" == Value.type "dict") = false := by decide
      have tl1 : (s.heap.push (set0 w)).IsTuple l its := ⟨_, gl', rfl, n, rfl⟩
      unfold Builtin.«set.__init__» noKeywords Builtin.Frozenset.updateFrom
      generalize hPI : pyIter = PI
      wp_walk
      subst hPI
      refine wpAny_pyIter_tuple tl1 (wpAny_bind (wpAny_runValue ?_))
      have lt : l < s.heap.objs.size := Heap.lt_size gl
      have h3 : A.in1.in1.in1.handled = none := by simp [hh]
      have ne1 : l ≠ (s.heap.push (set0 w)).objs.size := by
        rw [Heap.size_push]
        exact Nat.ne_of_lt (Nat.lt_succ_of_lt lt)
      have ne2 : s.heap.objs.size ∉ [(s.heap.push (set0 w)).objs.size, l] := by
        rw [Heap.size_push]
        intro q
        rcases List.mem_cons.mp q with q | q
        · exact absurd q (Nat.ne_of_lt (Nat.lt_succ_self _))
        · exact absurd (List.mem_singleton.mp q) (Nat.ne_of_gt lt)
      have at_ : ∀ (i : Nat) (v : Value), its[i]? = some v → ∃ p, ks[i]? = some p ∧ v = .ref p.1 := fun i v hv => by
        rw [← Array.getElem?_toList, hit, List.getElem?_map] at hv
        obtain ⟨p, e1, e2⟩ := Option.map_eq_some_iff.mp hv
        exact ⟨p, e1, e2.symm⟩
      have free : ∀ b, s.heap.objs.size ≤ b → s.heap.get? b = none := fun b hb => by
        cases q : s.heap.get? b with
        | none => rfl
        | some o => exact absurd (Heap.lt_size q) (Nat.not_lt_of_le hb)
      refine set_update_tups ((Walks.tuple h3 _ l ne1 its).toS) s.heap.objs.size ne2 ks len few at_ s.heap hk (free _ (Nat.le_refl _)) (fun b hb => free b ?w0) hu (its.size - 0) 0 _ (by omega) (Nat.zero_le _)
        ⟨⟨_, Heap.get?_push_size _ rfl, rfl, rfl⟩, tl1.push _⟩ (fun b o e => Heap.get?_push_of_some _ (Heap.get?_push_of_some _ e)) ?w1 ?w2
      case w0 =>
        rw [List.mem_singleton.mp hb, Heap.size_push]
        exact Nat.le_succ _
      case w1 => exact ⟨[], #[], 0, _, setTR_fresh (Heap.get?_push_of_some _ gS), Got.zero ks⟩
      case w2 =>
        intro s' L es ep t hm hS' g' hkp
        obtain ⟨h', gens', d', tk', os'⟩ := s'
        obtain rfl : gens' = s.gens := hm.gens
        obtain rfl : d' = s.drawn := hm.drawn
        obtain rfl : os' = s.os := hm.os
        rw [len] at g'
        show wpAny _ _ _ _ _ _
        refine wpAny_pure ?_
        show wpAny _ _ (ret Value.none) _ _ _
        exact wpAny_pure ⟨rfl, h', tk', L, es, ep, t, rfl, hS', g', hkp⟩
    · intro r2 s2 hr2
      match r2, hr2 with
      | .error _, hr2 => exact hr2
      | .ok .next, hr2 => exact hr2.elim
      | .ok .brk, hr2 => exact hr2.elim
      | .ok .cont, hr2 => exact hr2.elim
      | .ok (.ret z), hr2 =>
        obtain ⟨rfl, h', tk, L, es, ep, t, rfl, hS', g', hk'⟩ := hr2
        repeat (any_goals (first | assumption | wp_step))
        exact h _ _ _ _ _ _ hS' g' hk'
end
end NB
set_option Elab.async false
set_option linter.all false
set_option maxRecDepth 100000
set_option maxHeartbeats 4000000
set_option autoImplicit false
/-! sorted(set(xs)) by data. -/
namespace NB
open PySem PySem.Spec PyProof.Rows L2

def tI (ks : List Int) : D := .tup (ks.map .int)
theorem SqT.kp {K : KF} {H H' : Hp} {a : Addr} {xs : List V} (h : SqT K H a xs) (k : Kp K (fun _ => False) H H') : SqT K H' a xs := by
  rcases h with (h | ⟨o, h⟩) | h
  · exact .inl (.inl (k.seq h id rfl))
  · exact .inl (.inr ⟨o, k.seq h id rfl⟩)
  · exact .inr h
theorem ks_of {K : KF} {H : Hp} {P M : PA1} : ∀ {kss : List (List Int)} {xs : List V}, RpA K H P M (kss.map tI) xs → ∃ ks : List (Addr × List Int), xs = (ks.map fun p => V.ref p.1) ∧ ks.map (·.2) = kss ∧ ∀ p ∈ ks, SqT K H p.1 (p.2.map V.int)
  | [], xs, h => by
    rw [List.map_nil, RpA] at h
    exact ⟨[], h, rfl, fun _ z => nomatch z⟩
  | k :: kss, xs, h => by
    rw [List.map_cons] at h
    obtain ⟨x, r, rfl, h1, h2⟩ := h.cons_inv
    obtain ⟨ks, rfl, e2, e3⟩ := ks_of h2
    rw [tI, Rp] at h1
    obtain ⟨a, ys, rfl, ta, ra⟩ := h1
    rw [ra_ints_inv ra] at ta
    refine ⟨(a, k) :: ks, rfl, by rw [List.map_cons, e2], fun p hp => ?_⟩
    rcases List.mem_cons.mp hp with e | e
    · rw [e]; exact ta
    · exact e3 p e
theorem ra_ks {K : KF} {H : Hp} {P M : PA1} : ∀ {ks : List (Addr × List Int)}, (∀ p ∈ ks, SqT K H p.1 (p.2.map V.int)) → RpA K H P M (ks.map fun p => tI p.2) (ks.map fun p => V.ref p.1)
  | [], _ => .nil
  | p :: ks, h => .cons (by
      show Rp K H P M (.tup _) _
      rw [Rp]
      exact ⟨p.1, _, rfl, h p List.mem_cons_self, ra_ints _⟩) (ra_ks fun q hq => h q (List.mem_cons_of_mem _ hq))
def rSetQ (K : KF) (Pr : Program) (w : World) : List V → Hp → VK → Prop := fun vs H Q => ∃ (l : Addr) (ks : List (Addr × List Int)), vs = [V.ref l] ∧ (SqL K H l (ks.map fun p => V.ref p.1) ∨ SqT K H l (ks.map fun p => V.ref p.1)) ∧ (∀ p ∈ ks, SqT K H p.1 (p.2.map V.int)) ∧ ks.length < 64 ∧
  ∀ a L, H a = none → (∀ p ∈ L, p ∈ ks) → (∀ p ∈ ks, p.2 ∈ L.map (·.2)) → Q (.ref a) (upd H a (SetTO Pr w a L))
theorem cr_setQ {X : Cx} (hc : X.calm = true) (hu : X.A.units + 64 < cLine) : CallR X (.type "set") (rSetQ (kX X) X.prog X.w) := by
  intro pins s σ H vs us Q I r h
  obtain ⟨l, ks, rfl, hl, hk, few, q⟩ := h
  rcases hl with hl | hl
  · exact cr_setOfT hc hu pins s σ H _ us Q I r ⟨l, ks, rfl, hl, hk, few, q⟩
  · rw [Vals.ref1 r]
    obtain ⟨its, rv, pl, hz⟩ := I.tuple hl
    refine setOf_tuple (P := X.prog) (w := X.w) ks (I.ok.hd hc) pl (by simpa using refs_of_vals rv) (fun p hp => I.isT (hk p hp)) few (by omega) ?_
    intro h' tk L es ep t R g k
    exact ⟨.ref s.heap.objs.size, _, I.laid (t' := tk) k (Nat.le_refl _) (setTO_new R.t0), rfl, q _ L (I.hok.fresh (Nat.le_refl _)) (fun p hp => List.mem_of_mem_take (g.sub p hp)) fun p hp => g.all p (by rw [List.take_length]; exact hp)⟩
@[simp] def sortSetW (a : WO) : W := fun ρ t Q E => a ρ t (fun x ρ1 t1 => ∃ (dd : D) (kss : List (List Int)) (d : Nat) (B : Int), rsv ρ1 x = some dd ∧ (dd = .tup (kss.map tI) ∨ dd.ls = some (kss.map tI)) ∧ kss.length < 64 ∧ 1 ≤ d ∧ (∀ ks ∈ kss, ks.length = d ∧ TS.Bd B ks) ∧
  ∀ es : List (List Int), (∀ e, e ∈ es ↔ e ∈ kss) → es.Nodup → es.Pairwise (fun a b => TS.code B a ≤ TS.code B b) → Q (.nw (es.map tI)) ρ1 t1) E
section
variable {X : Cx} {EX : XX} {e : Expr} {wa : WO} {p p1 pos pos1 : Pos}
theorem de_sortSet (hc : X.calm = true) (hu : X.A.units + 64 < cLine) (hg : Gl X "sorted") (hm : X.mg "sorted" = none) (hg1 : Gl X "set") (hm1 : X.mg "set" = none) (ha : DO X EX e wa) (he : starEach [e] X.env = (false, eval e X.env) :: starEach [] X.env := by rfl)
    (he1 : starEach [.Call (.Name "set" p1) [e] [] pos1] X.env = (false, eval (.Call (.Name "set" p1) [e] [] pos1) X.env) :: starEach [] X.env := by rfl) (hpl : ∀ q, (backTo q (starEach [] X.env)).any (·.1) = false := by intro; rfl) :
    DE X EX (.Call (.Name "sorted" p) [.Call (.Name "set" p1) [e] [] pos1] [] pos) (sortSetW wa) :=
  PE.imp (pe_callB (cr_sortedT hc) hg hm PyProof.Rows.boot_sorted (pa_cons (pe_callTy (cr_setQ hc hu) hg1 hm1 PyProof.Rows.boot_set (pa_cons ha pa_nil he) (by decide) (by decide) he (hpl _)) pa_nil he1) (by decide) (by decide) he1 (hpl _)) fun σ H Q h => by
    obtain ⟨G, P, ρ, t, Q', E, S, hw, lk, hq⟩ := h
    refine ⟨G, P, ρ, t, _, E, S, hw, lk, fun o ρ1 t1 x H1 P1 h1 r1 => ?_⟩
    obtain ⟨dd, kss, d, B, e1, e2, few, hd, hB, q⟩ := h1
    have S1 := r1.sat
    have rd := rsv_ok S1 r1 e1
    have main : ∀ (l : Addr) (xs : List V), x = .ref l → (SqL (kX X) H1 l xs ∨ SqT (kX X) H1 l xs) → RpA (kX X) H1 P1 (Mx G.F P1 ρ1 σ) (kss.map tI) xs → rSetQ (kX X) X.prog X.w [x] H1 fun z H2 => rSortedT (kX X) X.prog X.w [z] H2 Q := by
      intro l xs ex sq ra
      obtain ⟨ks, rfl, rfl, hk⟩ := ks_of ra
      refine ⟨l, ks, by rw [ex], sq, hk, by simpa using few, fun a L na s1 s2 => ?_⟩
      have k1 : Kp (kX X) (fun _ => False) H1 (upd H1 a (SetTO X.prog X.w a L)) := kp_upd na
      refine ⟨a, L, d, B, rfl, upd_same, fun p hp => SqT.kp (hk p (s1 p hp)) k1, hd, fun p hp => hB p.2 (List.mem_map.mpr ⟨p, s1 p hp, rfl⟩), fun L' b pm nd _ pw nb => ?_⟩
      have k2 := k1.trans (kp_upd (o := .lst (L'.map fun q => V.ref q.1)) nb) fun _ _ _ z => z.elim
      have nb1 : H1 b = none := by
        by_cases hb : b = a
        · rw [hb]; exact na
        · rw [upd_ne hb] at nb; exact nb
      have q1 := q (L'.map (·.2)) (fun e => ⟨fun he => ?_, fun he => ?_⟩) nd (List.pairwise_map.mpr pw)
      · refine hq _ ρ1 t1 _ _ P1 q1 (rz_rs S1 k2 ⟨b, _, _, rfl, nb1, upd_same, rfl, ?_⟩)
        rw [List.map_map]
        exact ra_ks fun p hp => SqT.kp (hk p (s1 p (pm.mem_iff.mp hp))) k2
      · obtain ⟨p, hp, rfl⟩ := List.mem_map.mp he
        exact List.mem_map.mpr ⟨p, s1 p (pm.mem_iff.mp hp), rfl⟩
      · obtain ⟨p, hp, rfl⟩ := List.mem_map.mp he
        obtain ⟨p', hp', ep⟩ := List.mem_map.mp (s2 p hp)
        exact List.mem_map.mpr ⟨p', pm.mem_iff.mpr hp', ep⟩
    have fin : ∃ (l : Addr) (xs : List V), x = .ref l ∧ (SqL (kX X) H1 l xs ∨ SqT (kX X) H1 l xs) ∧ RpA (kX X) H1 P1 (Mx G.F P1 ρ1 σ) (kss.map tI) xs := by
      rcases e2 with e2 | e2
      · subst e2
        obtain ⟨l, xs, ex, ta, ra⟩ := rd.tp
        exact ⟨l, xs, ex, .inr ta, ra⟩
      · obtain ⟨l, xs, ex, ta, ra⟩ := rd.ls e2
        exact ⟨l, xs, ex, .inl ta, ra⟩
    obtain ⟨l, xs, ex, sq, ra⟩ := fin
    exact main l xs ex sq ra
end
end NB
set_option Elab.async false
set_option linter.all false
set_option maxRecDepth 100000
set_option maxHeartbeats 4000000
set_option autoImplicit false
/-! Defs by the text; the law's draws. -/
namespace NB
open PySem PySem.Spec PyProof.Rows L2

section
variable {Pr : Program} {w : World} {K : PySem.W.Frag} {mg : Str → Option Value} {base : Heap}
/-- a def that stands in the text, unshadowed -/
structure Df (K : PySem.W.Frag) (mg : Str → Option Value) (x : Str) (st : Stmt) (ps : List Str) : Prop where
  ex : ∃ (f : Addr) (fd : FuncData), Fun K x x st f fd ∧ mg x = some (.ref f) ∧ Binds K fd ps []
/-- what a def lets out: an exception -/
abbrev CXE (Pr : Program) (w : World) : CXT := L2.CX Pr w
theorem FnG.up0 {k : Nat} {f : Addr} {fd : FuncData} {ps : List Str} {Fw : WF} (F : FnG Pr w K mg base CX0 k f fd ps Fw) : FnG Pr w K mg base (CXE Pr w) k f fd ps Fw := ⟨fun A outer s H args us vs Q E hr hg e0 hb r h => codeAny_mono (F.go A outer s H args us vs Q E hr hg e0 hb r h) fun res s' q => by
  cases res with
  | error e => exact q.elim
  | ok fl => cases fl <;> exact q⟩
/-- a def that may be called, by its data -/
structure Cl (Pr : Program) (w : World) (K : PySem.W.Frag) (mg : Str → Option Value) (base : Heap) (k : Nat) (x : Str) (n : Nat) (Fw : WF) : Prop where
  ex : ∃ (f : Addr) (fd : FuncData) (ps : List Str), ps.length = n ∧ FnG Pr w K mg base (CXE Pr w) k f fd ps Fw ∧ mg x = some (.ref f) ∧ PySem.W.keepIn K (.ref f) = true ∧ Binds K fd ps []
theorem Cl.up {j k n : Nat} {x : Str} {Fw : WF} (C : Cl Pr w K mg base j x n Fw) (h : j ≤ k) : Cl Pr w K mg base k x n Fw := by
  obtain ⟨f, fd, ps, hn, F, r⟩ := C.ex
  exact ⟨f, fd, ps, hn, F.up h, r⟩
def Ar (n : Nat) (Fw : WF) : Prop := ∀ ds t Q E, Fw ds t Q E → ds.length = n
theorem ar_def {k n : Nat} {ws : WS} : Ar k (defW k n ws) := fun _ _ _ _ h => h.1
/-- exceptions may leave a context: as EX wants it -/
structure Lv (X : Cx) (EX : XX) : Prop where
  tk : Takes X fun cls d _ H => EX.ex cls d H
  hp : PassesOwn (model X.prog X.w) X.A X.env X.xe
theorem Lv.px {X : Cx} {EX : XX} (h : Lv X EX) : Passes (CXE X.prog X.w) X EX.ex := passes_call h.tk fun _ _ _ _ h => h
theorem passE0 {X : Cx} : Passes (CXE X.prog X.w) X E0 := fun _ _ _ _ _ _ _ h => by
  obtain ⟨_, _, _, _, _, _, _, _, _, _, _, _, z⟩ := h
  exact z.elim
theorem lv_cx {N : List Str} {x : Str} {scope : Scope} {f : Addr} {cdv : Value} {A : Around} {outer : List Env} {s : Shared} {H : Hp} {E : XK} {F0 P0 : PA1} : Lv (cxOf (CXE Pr w) Pr w K mg base N x scope f cdv A outer s H E) (XX.fr E F0 P0 H) := ⟨takes_of rfl rfl rfl rfl, passes_of rfl⟩
/-- a def by its body -/
theorem cl_of {x : Str} {st : Stmt} {ps N : List Str} {k : Nat} {ws : WS} (D : Df K mg x st ps) (S : FnScope N ps (defScope st))
    (hbody : ∀ (f : Addr) (cdv : Value) (A : Around) (outer : List Env) (s : Shared) (H : Hp) (E : XK) (F0 P0 : PA1), Room k (A.deeper (envOfC x (defScope st) s.heap.objs.size f cdv)) → A.guards = some [] →
      Lv (cxOf (CXE Pr w) Pr w K mg base N x (defScope st) f cdv A outer s H E) (XX.fr E F0 P0 H) → Passes (CXE Pr w) (cxOf (CXE Pr w) Pr w K mg base N x (defScope st) f cdv A outer s H E) E →
      DSs (cxOf (CXE Pr w) Pr w K mg base N x (defScope st) f cdv A outer s H E) (XX.fr E F0 P0 H) (defBody st) ws) : Cl Pr w K mg base (k + 1) x ps.length (defW ps.length N.length ws) := by
  obtain ⟨f, fd, F, hm, hb⟩ := D.ex
  obtain ⟨oc, od, kV, doc, pm, an, cdv, ct, osl, rfl, lk, hcd⟩ := F.ex
  exact ⟨f, _, ps, rfl, fnG_of lk hcd S fun A outer s H E F0 P0 hr hg => hbody f cdv A outer s H E F0 P0 hr hg lv_cx (lv_cx (F0 := F0) (P0 := P0)).px, hm, F.kp, hb⟩
/-- .. that is shown by values -/
theorem cl_raw {x : Str} {st : Stmt} {ps N : List Str} {k : Nat} {Fw : WF} (D : Df K mg x st ps) (S : FnScope N ps (defScope st))
    (hbody : ∀ (f : Addr) (cdv : Value) (A : Around) (outer : List Env) (s : Shared) (H : Hp) (vs : List V) (Q : VK) (E : XK), Room k (A.deeper (envOfC x (defScope st) s.heap.objs.size f cdv)) → spW ⟨K, w⟩ ps.length Fw vs H Q E →
      ∃ t, PSs (cxOf CX0 Pr w K mg base N x (defScope st) f cdv A outer s H E).nox (defBody st) t ∧ t { nx := fun _ H' => Q .non H', rt := Q } (L2.start N vs) H) : Cl Pr w K mg base (k + 1) x ps.length Fw := by
  obtain ⟨f, fd, F, hm, hb⟩ := D.ex
  have FO : FnOk Pr w K mg base CX0 (k + 1) f fd ps (spW ⟨K, w⟩ ps.length Fw) := F.ok S (fun vs H Q E h => h.1) fun cdv A outer s H vs Q E hr h => hbody f cdv A outer s H vs Q E hr h
  exact ⟨f, fd, ps, rfl, FnG.up0 ⟨fun A outer s H args us vs Q E hr _ e0 hb r h => FO.run A outer s H args us vs Q E hr e0 hb r h⟩, hm, F.kp, hb⟩
end
section
variable {X : Cx} {EX : XX} {k n : Nat} {x : Str} {Fw : WF} {p pos : Pos} {e : Expr} {es : List Expr} {w : Wg (List D)}
theorem de_cl (C : Cl X.prog X.w X.K X.mg X.base k x n Fw) (hn : Ar n Fw) (hr : Room k X.A) (hgd : X.A.guards = some []) (hg : Gl X x) (ha : DA X EX (e :: es) w) (hx : Passes (CXE X.prog X.w) X EX.ex := by first | exact passE0 | assumption) (hdb : (x == ("__debug__" : Str)) = false := by decide)
    (he : starEach (e :: es) X.env = (false, eval e X.env) :: starEach es X.env := by rfl) (hpl : (backTo pos (starEach es X.env)).any (·.1) = false := by rfl) : DE X EX (.Call (.Name x p) (e :: es) [] pos) (callW Fw w) := by
  obtain ⟨f, fd, ps, rfl, F, hm, hk, hb⟩ := C.ex
  exact de_call F hn hr hgd hg hm hk hb hx ha hdb he hpl
theorem de_cl0 (C : Cl X.prog X.w X.K X.mg X.base k x n Fw) (hn : Ar n Fw) (hr : Room k X.A) (hgd : X.A.guards = some []) (hg : Gl X x) (hx : Passes (CXE X.prog X.w) X EX.ex := by first | exact passE0 | assumption) (hdb : (x == ("__debug__" : Str)) = false := by decide) : DE X EX (.Call (.Name x p) [] [] pos) (callW Fw nilW) := by
  obtain ⟨f, fd, ps, rfl, F, hm, hk, hb⟩ := C.ex
  exact de_call0 F hn hr hgd hg hm hk hb hx hdb
end

/-! ### powers of wider numbers -/
@[simp] def pwrD : D → D → Option R
  | .int i, .int j => if 0 ≤ j ∧ (Builtin.Int.intBits i : Int) * j ≤ 2 ^ 27 then some (.im (.int (i ^ j.toNat))) else none
  | _, _ => none
theorem op_powW {X : Cx} : OpR X (binaryOp .Pow) (rI (fun i j => 0 ≤ j ∧ (Builtin.Int.intBits i : Int) * j ≤ 2 ^ 27) fun i j => .int (i ^ j.toNat)) := opI fun _ _ _ _ _ _ _ hc q => pow_int hc.1 hc.2 q
theorem op_pwrD {X : Cx} : Op2 X (binaryOp .Pow) pwrD := by
  intro pins s σ H x y v u Q I rx ry ⟨P, M, d, e, h1, h2, _, f⟩
  unfold pwrD at f
  split at f
  · split at f
    · exact op_powW pins s σ H x y v u Q I rx ry ⟨_, _, h1.int, h2.int, by assumption, f.im rp_int⟩
    · exact f.no.elim
  · exact f.no.elim

/-! ### draws -/
def takeW : WF := fun ds t Q _ => ∃ n : Int, ds = [.pot, .int n] ∧ 0 < n ∧ n < 2 ^ 30 ∧ t < 2000000 ∧ ∀ k : Int, 0 ≤ k → k < n → Q (.im (.int k)) (t + 1)
def potW : WF := fun ds t Q _ => ∃ (ns : List Int) (i : Nat), ds = [.scr ns, .int (i : Nat)] ∧ i < 2 ^ 20 ∧ ns.length < 2 ^ 20 ∧ Q (.im .pot) t
theorem ar_take : Ar 2 takeW := fun _ _ _ _ ⟨_, h, _⟩ => by rw [h]; rfl
theorem ar_pot : Ar 2 potW := fun _ _ _ _ ⟨_, _, h, _⟩ => by rw [h]; rfl
def tInt (te : TE) : TE := tCB (fun xs H Q => (∃ i, xs = [.int i] ∧ Q (.int i) H) ∨ ∃ k, xs = [.bl k] ∧ Q (.int (if k then 1 else 0)) H) (tCons te tNil)
def tAbs (te : TE) : TE := tCB (fun xs H Q => ∃ i, xs = [.int i] ∧ Q (.int (if i < 0 then -i else i)) H) (tCons te tNil)
def tIx (K : KF) (c : Int) : TE := tOp (rIxL K) (tVar 0) (tC (.int c))
def rAdd : R2 := rI0 fun i j => .int (i + j)
def rMod : R2 := rI (fun _ j => 0 < j) fun i j => .int (i % j)
def rMul : R2 := rI CMul fun i j => .int (i * j)
def rDiv : R2 := rI CDiv fun i j => .int (i / j)
/-- the body of the drawing -/
def tTake (K : KF) (c1 c2 c3 c4 c5 : Int) : TS :=
  tSeq (tIfS (tTest (tOp (rI0 fun i j => .bl (decide (i > j))) (tIx K 0) (tC (.int 0))))
    (tSeq (tAsg (tOp rMod (tInt (tIx K 0)) (tVar 1)) (gName 2)) (tSeq (tAsg (tOp rDiv (tIx K 0) (tVar 1)) (gSub (tVar 0) (tC (.int 0)) rSetL)) (tRet (tVar 2)))) tNext)
  (tSeq (tAsg (tOp rAdd (tIx K 2) (tC (.int 1))) (gSub (tVar 0) (tC (.int 2)) rSetL))
  (tSeq (tAsg (tOp (rIxL K) (tLst (tCons (tC (.int 2147483647)) (tCons (tC (.int 2147483629)) (tCons (tC (.int 2147483587)) (tCons (tC (.int 2147483579)) (tCons (tC (.int 2147483563)) tNil)))))) (tOp rMod (tInt (tIx K 2)) (tC (.int 5)))) (gName 3))
  (tSeq (tAsg (tOp rMod (tInt (tOp (rI CPow fun i j => .int (i ^ j.toNat)) (tInt (tOp rAdd (tOp rAdd (tIx K 1) (tOp rMul (tOp rMul (tC (.int c1)) (tIx K 2)) (tIx K 2))) (tC (.int c2)))) (tC (.int 3)))) (tVar 3)) (gName 4))
  (tSeq (tAsg (tOp rMod (tInt (tOp rMul (tVar 4) (tOp rAdd (tOp rMod (tInt (tVar 4)) (tC (.int c3))) (tOp rMul (tC (.int c4)) (tIx K 2))))) (tC (.int 2305843009213693907))) (gName 4))
  (tRet (tOp rMod (tInt (tOp rDiv (tVar 4) (tC (.int c5)))) (tVar 1)))))))
theorem fin_take {K : KF} {F P : PA1} {t : Nat} {H H' : Hp} {a : Addr} {k i j l : Int} (tb : Tb K H) (hP : P a) (hpt : ∀ b, P b → PotAt H t b) (hk : ∀ b, b ≠ a → ∀ o, H b = some o → H' b = some o) (ha : H' a = some (.lst [.int i, .int j, .int l])) (h1 : 0 ≤ i) (h2 : i < 10 ^ 300) (h3 : 0 ≤ j) (h4 : j < 2 ^ 61) (h5 : 0 ≤ l) (h6 : l ≤ t + 1) :
    EndR K (g0 F P H) P (t + 1) H' (.im (.int k)) (.int k) := by
  have kp : Kp K P H H' := .but (fun b hb => let ⟨i, j, l, e, _⟩ := hpt b hb; ⟨_, e, .l⟩) fun b o n e => hk b (fun z => n (z ▸ hP)) o e
  refine ⟨⟨fun b hb => ?_, fun b hb => hb, fun b hb => .inl hb, kp, kp.tb tb⟩, (by show Rp K H' P _ (.int k) (.int k); rw [Rp])⟩
  by_cases hba : b = a
  · subst hba
    exact ⟨i, j, l, ha, h1, h2, h3, h4, h5, by omega⟩
  · obtain ⟨i', j', l', e, r⟩ := (hpt b hb).mono (Nat.le_succ t)
    exact ⟨i', j', l', hk b hba _ e, r⟩
theorem take_read {K : KF} {c1 c2 c3 c4 c5 : Int} (b1 : 0 ≤ c1 ∧ c1 < 1000000) (b2 : 0 ≤ c2 ∧ c2 < 1000000) (b3 : 0 < c3) (b4 : 0 ≤ c4 ∧ c4 < 1000000) (b5 : 0 < c5 ∧ c5 < 1000000) {N : List Str} (hN : N.length = 5) {vs : List V} {H : Hp} {Q : VK} {E : XK} (h : spW K 2 takeW vs H Q E) :
    tTake K c1 c2 c3 c4 c5 { nx := fun _ H' => Q .non H', rt := Q } (L2.start N vs) H := by
  obtain ⟨hl, F, P, t, ds, Q', E', hF, hpt, hFP, ra, tb, hw, _, hq⟩ := h
  obtain ⟨n, rfl, n0, n1, ht, hk⟩ := hw
  obtain ⟨v0, v1, rfl, r0, r1⟩ := ra_two ra
  have r0 : ∃ a, v0 = V.ref a ∧ P a := by rw [Rp] at r0; exact r0
  have r1 : v1 = V.int n := by rw [Rp] at r1; exact r1
  obtain ⟨a, rfl, hPa⟩ := r0
  subst r1
  obtain ⟨i, j, l, ea, i0, i1, j0, j1, l0, l1⟩ := hpt a hPa
  have est : L2.start N [V.ref a, V.int n] = [some (V.ref a), some (V.int n), none, none, none] := by
    unfold L2.start
    rw [hN]
    rfl
  rw [est]
  have ix0 : ∀ {x y z : V} {H : Hp} {Q : VK} {rest : List (Option V)}, H a = some (.lst [x, y, z]) → Q x H → tIx K 0 (some (V.ref a) :: rest) H Q := fun e q => ⟨_, rfl, _, _, _, _, rfl, rfl, .of e, rfl, q⟩
  have ix1 : ∀ {x y z : V} {H : Hp} {Q : VK} {rest : List (Option V)}, H a = some (.lst [x, y, z]) → Q y H → tIx K 1 (some (V.ref a) :: rest) H Q := fun e q => ⟨_, rfl, _, _, _, _, rfl, rfl, .of e, rfl, q⟩
  have ix2 : ∀ {x y z : V} {H : Hp} {Q : VK} {rest : List (Option V)}, H a = some (.lst [x, y, z]) → Q z H → tIx K 2 (some (V.ref a) :: rest) H Q := fun e q => ⟨_, rfl, _, _, _, _, rfl, rfl, .of e, rfl, q⟩
  have off : ∀ {H1 : Hp} {ys : List V}, ∀ b, b ≠ a → ∀ o, H1 b = some o → (upd H1 a (.lst ys)) b = some o := fun b hb o e => by rw [upd_ne hb]; exact e
  refine ix0 ea ⟨i, 0, rfl, rfl, _, rfl, ?_⟩
  refine ite2 (fun hd => ?_) (fun hd => ?_)
  · have hi : i > 0 := of_decide_eq_true hd
    refine ix0 ea (.inl ⟨i, rfl, _, rfl, i, n, rfl, rfl, n0, ?_⟩)
    refine ix0 ea ⟨_, rfl, i, n, rfl, rfl, ⟨n0, by omega⟩, _, rfl, a, _, 0, 0, rfl, rfl, ea, rfl, ?_⟩
    refine ⟨_, rfl, hq _ (t + 1) _ _ P (hk (i % n) (Int.emod_nonneg _ (by omega)) (Int.emod_lt_of_pos _ n0)) ?_⟩
    refine fin_take tb hPa hpt (off) (i := i / n) (j := j) (l := l) upd_same (Int.ediv_nonneg i0 (by omega)) ?_ j0 j1 l0 (by omega)
    exact Int.lt_of_le_of_lt (Int.ediv_le_self _ i0) i1
  · refine ix2 ea ⟨l, 1, rfl, rfl, _, rfl, a, _, 2, 2, rfl, rfl, ea, rfl, ?_⟩
    have e1 : (upd H a (.lst [V.int i, V.int j, V.int (l + 1)])) a = some (.lst [V.int i, V.int j, V.int (l + 1)]) := upd_same
    show tSeq _ _ _ _ (upd H a (.lst [V.int i, V.int j, V.int (l + 1)]))
    generalize hH1 : upd H a (.lst [V.int i, V.int j, V.int (l + 1)]) = H1 at e1 ⊢
    have off1 : ∀ b, b ≠ a → ∀ o, H b = some o → H1 b = some o := by rw [← hH1]; exact off
    refine ⟨by decide, fun q nq => ?_⟩
    have naq : a ≠ q := ne_of_none e1 nq
    have e2 : (upd H1 q (.lst [.int 2147483647, .int 2147483629, .int 2147483587, .int 2147483579, .int 2147483563])) a = some (.lst [V.int i, V.int j, V.int (l + 1)]) := by rw [upd_ne naq]; exact e1
    have e3 : (upd H1 q (.lst [.int 2147483647, .int 2147483629, .int 2147483587, .int 2147483579, .int 2147483563])) q = some (.lst [.int 2147483647, .int 2147483629, .int 2147483587, .int 2147483579, .int 2147483563]) := upd_same
    generalize hH2 : upd H1 q (.lst [.int 2147483647, .int 2147483629, .int 2147483587, .int 2147483579, .int 2147483563]) = H2 at e2 e3 ⊢
    have off2 : ∀ b, b ≠ a → ∀ o, H b = some o → H2 b = some o := fun b hb o e => by
      have e' := off1 b hb o e
      rw [← hH2, upd_ne (ne_of_none e' nq)]
      exact e'
    have m0 : 0 ≤ (l + 1) % 5 := Int.emod_nonneg _ (by omega)
    have m5 : (l + 1) % 5 < 5 := Int.emod_lt_of_pos _ (by omega)
    have pr : ∃ p : Int, atI [V.int 2147483647, V.int 2147483629, V.int 2147483587, V.int 2147483579, V.int 2147483563] ((l + 1) % 5) = some (.int p) ∧ 0 < p ∧ p < 2147483648 := by
      generalize (l + 1) % 5 = m at m0 m5
      have : m = 0 ∨ m = 1 ∨ m = 2 ∨ m = 3 ∨ m = 4 := by omega
      rcases this with rfl | rfl | rfl | rfl | rfl
      · exact ⟨_, rfl, by decide, by decide⟩
      · exact ⟨_, rfl, by decide, by decide⟩
      · exact ⟨_, rfl, by decide, by decide⟩
      · exact ⟨_, rfl, by decide, by decide⟩
      · exact ⟨_, rfl, by decide, by decide⟩
    obtain ⟨p, ep, p0, p1⟩ := pr
    refine ix2 e2 (.inl ⟨_, rfl, l + 1, 5, rfl, rfl, (by show (0 : Int) < 5; decide), q, _, _, _, rfl, rfl, .of e3, ep, ?_⟩)
    have l2 : l + 1 ≤ 2000000 := by omega
    refine ix1 e2 (ix2 e2 ⟨c1, l + 1, rfl, rfl, .inl ⟨by omega, by omega⟩, ix2 e2 ⟨_, l + 1, rfl, rfl, .inr ⟨by omega, by omega⟩, _, _, rfl, rfl, _, c2, rfl, rfl, .inl ⟨_, rfl, _, 3, rfl, rfl, ⟨by decide, by decide, ?_⟩, .inl ⟨_, rfl, _, rfl, _, p, rfl, rfl, p0, ?_⟩⟩⟩⟩)
    · have a1 : 0 ≤ c1 * (l + 1) := Int.mul_nonneg b1.1 (by omega)
      have a2 : c1 * (l + 1) ≤ 1000000 * 2000000 := Int.mul_le_mul (by omega) l2 (by omega) (by omega)
      have a3 : 0 ≤ c1 * (l + 1) * (l + 1) := Int.mul_nonneg a1 (by omega)
      have a4 : c1 * (l + 1) * (l + 1) ≤ 1000000 * 2000000 * 2000000 := Int.mul_le_mul a2 l2 (by omega) (by omega)
      omega
    · have z0 : ∀ x : Int, 0 ≤ x % p := fun x => Int.emod_nonneg _ (by omega)
      have z1 : ∀ x : Int, x % p < p := fun x => Int.emod_lt_of_pos _ p0
      have y0 := z0 ((j + c1 * (l + 1) * (l + 1) + c2) ^ (3 : Int).toNat)
      have y1 := z1 ((j + c1 * (l + 1) * (l + 1) + c2) ^ (3 : Int).toNat)
      refine ⟨_, rfl, _, rfl, .inl ⟨_, rfl, _, c3, rfl, rfl, b3, ix2 e2 ⟨c4, l + 1, rfl, rfl, .inl ⟨by omega, by omega⟩, _, _, rfl, rfl, _, _, rfl, rfl, .inl ⟨Int.lt_of_lt_of_le (by decide) y0, Int.lt_trans y1 (Int.lt_trans p1 (by decide))⟩, .inl ⟨_, rfl, _, _, rfl, rfl, (by show (0 : Int) < 2305843009213693907; decide), ?_⟩⟩⟩⟩
      have done : ∀ m : Int, Q (.int (m % n)) H2 := fun m => hq _ (t + 1) _ _ P (hk (m % n) (Int.emod_nonneg _ (by omega)) (Int.emod_lt_of_pos _ n0)) (fin_take tb hPa hpt off2 (i := i) (j := j) (l := l + 1) e2 i0 i1 j0 j1 (by omega) (by omega))
      exact ⟨_, rfl, _, c5, rfl, rfl, ⟨b5.1, by omega⟩, .inl ⟨_, rfl, _, rfl, _, n, rfl, rfl, n0, done _⟩⟩
end NB
set_option Elab.async false
set_option linter.all false
set_option maxRecDepth 100000
set_option maxHeartbeats 4000000
set_option autoImplicit false
set_option exponentiation.threshold 2000
/-! The law's draws: how they begin. -/
namespace NB
open PySem PySem.Spec PyProof.Rows L2

def rPow : R2 := rI CPow fun i j => .int (i ^ j.toNat)
def rPowW : R2 := rI (fun i j => 0 ≤ j ∧ (Builtin.Int.intBits i : Int) * j ≤ 2 ^ 27) fun i j => .int (i ^ j.toNat)
def tLenS (K : KF) (te : TE) : TE := tCB (fun xs H Q => ∃ p ys, xs = [.ref p] ∧ (SqL K H p ys ∨ SqT K H p ys) ∧ Q (.int ys.length) H) (tCons te tNil)
def tPot (K : KF) (c1 c2 c3 c4 c5 : Int) : TS :=
  tSeq (tAsg (tIf (tTest (tOp (rI0 fun i j => .bl (decide (i < j))) (tVar 1) (tLenS K (tVar 0)))) (tOp (rIxL K) (tVar 0) (tVar 1))
    (tOp rAdd (tOp rAdd (tOp rMod (tCB (rSum K) (tCons (tSl (rSlL K) (tVar 0) tNoPart (tPart (tC (.int 1)))) tNil)) (tC (.int 1000003))) (tOp rMul (tC (.int c1)) (tVar 1))) (tC (.int c2)))) (gName 2))
  (tSeq (tAsg (tOp rMul (tOp rMod (tInt (tAbs (tVar 2))) (tOp rPowW (tOp rPow (tC (.int 10)) (tC (.int 60))) (tC (.int 5)))) (tInt (tOp (rI0 fun i j => .bl (decide (i ≥ j))) (tAbs (tVar 2)) (tOp rPow (tC (.int 10)) (tC (.int 18)))))) (gName 3))
  (tSeq (tAsg (tOp rMod (tInt (tVar 2)) (tC (.int 2305843009213693951))) (gName 4))
  (tRet (tLst (tCons (tVar 3) (tCons (tOp rMod (tInt (tOp rAdd (tOp rAdd (tOp rMul (tVar 4) (tC (.int c3))) (tOp rMul (tOp rMul (tC (.int c4)) (tVar 1)) (tVar 1))) (tC (.int c5)))) (tC (.int 2305843009213693921))) (tCons (tC (.int 0)) tNil)))))))
theorem pot_end {K : KF} {F P : PA1} {t : Nat} {H H1 : Hp} {p : Addr} {i j : Int} (tb : Tb K H) (hpt : ∀ b, P b → PotAt H t b) (hk : ∀ b o, H b = some o → H1 b = some o) (hp : H1 p = none) (h1 : 0 ≤ i) (h2 : i < 10 ^ 300) (h3 : 0 ≤ j) (h4 : j < 2 ^ 61) :
    EndR K (g0 F P H) (fun b => P b ∨ b = p) t (upd H1 p (.lst [.int i, .int j, .int 0])) (.im .pot) (.ref p) := by
  have hk2 : ∀ b o, H b = some o → (upd H1 p (.lst [V.int i, V.int j, V.int 0])) b = some o := fun b o e => by
    have e' := hk b o e
    rw [upd_ne (ne_of_none e' hp)]
    exact e'
  have hn : H p = none := by
    cases e : H p with
    | none => rfl
    | some o => rw [hk p o e] at hp; cases hp
  refine ⟨⟨fun b hb => ?_, fun b hb => .inl hb, fun b hb => ?_, .of hk2, LamX.Tabs.ext tb hk2⟩, ?_⟩
  · rcases hb with hb | rfl
    · obtain ⟨i', j', l', e, r⟩ := hpt b hb
      exact ⟨i', j', l', hk2 b _ e, r⟩
    · exact ⟨i, j, 0, upd_same, h1, h2, h3, h4, Int.le_refl _, by omega⟩
  · rcases hb with hb | rfl
    · exact .inl hb
    · exact .inr (nw_of hn)
  · show Rp K _ _ _ .pot _
    rw [Rp]
    exact ⟨p, rfl, .inr rfl⟩
theorem b01 (b : Bool) : -(2 ^ 64) < (if b then (1 : Int) else 0) ∧ (if b then (1 : Int) else 0) < 2 ^ 64 := by cases b <;> decide
theorem pot_read {K : KF} {c1 c2 c3 c4 c5 : Int} (b1 : 0 ≤ c1 ∧ c1 < 1000000) (b3 : 0 ≤ c3 ∧ c3 < 1000000) (b4 : 0 ≤ c4 ∧ c4 < 1000000) {N : List Str} (hN : N.length = 5) {vs : List V} {H : Hp} {Q : VK} {E : XK} (h : spW K 2 potW vs H Q E) :
    tPot K c1 c2 c3 c4 c5 { nx := fun _ H' => Q .non H', rt := Q } (L2.start N vs) H := by
  obtain ⟨hl, F, P, t, ds, Q', E', hF, hpt, hFP, ra, tb, hw, _, hq⟩ := h
  obtain ⟨ns, i, rfl, i0, n0, hk⟩ := hw
  obtain ⟨v0, v1, rfl, r0, r1⟩ := ra_two ra
  obtain ⟨a, xs, rfl, sq, rx⟩ := r0.rs.ls (ds := ns.map .int) rfl
  rw [ra_ints_inv rx] at sq
  have r1 : v1 = V.int (i : Nat) := by rw [Rp] at r1; exact r1
  subst r1
  have est : L2.start N [V.ref a, V.int (i : Nat)] = [some (V.ref a), some (V.int (i : Nat)), none, none, none] := by
    unfold L2.start
    rw [hN]
    rfl
  rw [est]
  have tail : ∀ (c : Int) (H1 : Hp), (∀ b o, H b = some o → H1 b = some o) → tSeq (tAsg (tOp rMul (tOp rMod (tInt (tAbs (tVar 2))) (tOp rPowW (tOp rPow (tC (.int 10)) (tC (.int 60))) (tC (.int 5)))) (tInt (tOp (rI0 fun i j => .bl (decide (i ≥ j))) (tAbs (tVar 2)) (tOp rPow (tC (.int 10)) (tC (.int 18)))))) (gName 3))
      (tSeq (tAsg (tOp rMod (tInt (tVar 2)) (tC (.int 2305843009213693951))) (gName 4))
      (tRet (tLst (tCons (tVar 3) (tCons (tOp rMod (tInt (tOp rAdd (tOp rAdd (tOp rMul (tVar 4) (tC (.int c3))) (tOp rMul (tOp rMul (tC (.int c4)) (tVar 1)) (tVar 1))) (tC (.int c5)))) (tC (.int 2305843009213693921))) (tCons (tC (.int 0)) tNil))))))
      { nx := fun _ H' => Q .non H', rt := Q } [some (V.ref a), some (V.int (i : Nat)), some (V.int c), none, none] H1 := by
    intro c H1 k1
    generalize hy : (if c < 0 then -c else c) = y
    have y0 : 0 ≤ y := by
      rw [← hy]
      by_cases hc : c < 0
      · rw [if_pos hc]; omega
      · rw [if_neg hc]; omega
    have big : (0 : Int) < (10 ^ (60 : Int).toNat) ^ (5 : Int).toNat := by decide
    have e300 : ((10 : Int) ^ (60 : Int).toNat) ^ (5 : Int).toNat = 10 ^ 300 := by decide
    have fin : ∀ (own z : Int), 0 ≤ own → own < 10 ^ 300 → 0 ≤ z → z < 2305843009213693951 → tRet (tLst (tCons (tVar 3) (tCons (tOp rMod (tInt (tOp rAdd (tOp rAdd (tOp rMul (tVar 4) (tC (.int c3))) (tOp rMul (tOp rMul (tC (.int c4)) (tVar 1)) (tVar 1))) (tC (.int c5)))) (tC (.int 2305843009213693921))) (tCons (tC (.int 0)) tNil))))
        { nx := fun _ H' => Q .non H', rt := Q } [some (V.ref a), some (V.int (i : Nat)), some (V.int c), some (V.int own), some (V.int z)] H1 := by
      intro own z o0 o1 z0 z1
      have ret : ∀ (m : Int) (p : Addr), H1 p = none → Q (.ref p) (upd H1 p (.lst [.int own, .int (m % 2305843009213693921), .int 0])) := fun m p hp =>
        hq _ t _ _ _ hk (pot_end tb hpt k1 hp o0 o1 (Int.emod_nonneg _ (by decide)) (Int.lt_trans (Int.emod_lt_of_pos _ (by decide)) (by decide)))
      exact ⟨_, rfl, _, rfl, _, c3, rfl, rfl, .inr ⟨by omega, by omega⟩, _, rfl, c4, _, rfl, rfl, .inl ⟨by omega, by omega⟩, _, rfl, _, _, rfl, rfl, .inr ⟨by omega, by omega⟩, _, _, rfl, rfl, _, c5, rfl, rfl, .inl ⟨_, rfl, _, _, rfl, rfl, (by show (0 : Int) < 2305843009213693921; decide), (by show 3 ≤ sizeLine; decide), ret _⟩⟩
    have mid : ∀ (own : Int), 0 ≤ own → own < 10 ^ 300 → tSeq (tAsg (tOp rMod (tInt (tVar 2)) (tC (.int 2305843009213693951))) (gName 4)) (tRet (tLst (tCons (tVar 3) (tCons (tOp rMod (tInt (tOp rAdd (tOp rAdd (tOp rMul (tVar 4) (tC (.int c3))) (tOp rMul (tOp rMul (tC (.int c4)) (tVar 1)) (tVar 1))) (tC (.int c5)))) (tC (.int 2305843009213693921))) (tCons (tC (.int 0)) tNil)))))
        { nx := fun _ H' => Q .non H', rt := Q } [some (V.ref a), some (V.int (i : Nat)), some (V.int c), some (V.int own), none] H1 := fun own o0 o1 =>
      ⟨_, rfl, .inl ⟨_, rfl, _, _, rfl, rfl, (by show (0 : Int) < 2305843009213693951; decide), fin own (c % 2305843009213693951) o0 o1 (Int.emod_nonneg _ (by decide)) (Int.emod_lt_of_pos _ (by decide))⟩⟩
    have own : ∀ b : Bool, 0 ≤ (y % ((10 ^ (60 : Int).toNat) ^ (5 : Int).toNat)) * (if b then 1 else 0) ∧ (y % ((10 ^ (60 : Int).toNat) ^ (5 : Int).toNat)) * (if b then 1 else 0) < 10 ^ 300 := fun b => by
      have q1 := Int.emod_nonneg y (Int.ne_of_gt big)
      have q2 := Int.emod_lt_of_pos y big
      rw [e300] at q1 q2 ⊢
      cases b with
      | true => rw [if_pos rfl, Int.mul_one]; exact ⟨q1, q2⟩
      | false => rw [if_neg Bool.false_ne_true, Int.mul_zero]; exact ⟨Int.le_refl _, by decide⟩
    refine ⟨_, rfl, c, rfl, .inl ⟨_, rfl, 10, 60, rfl, rfl, ⟨by decide, by decide, by decide⟩, _, 5, rfl, rfl, ⟨by decide, by decide⟩, _, _, rfl, rfl, big, ?_⟩⟩
    refine ⟨_, rfl, c, rfl, 10, 18, rfl, rfl, ⟨by decide, by decide, by decide⟩, _, _, rfl, rfl, .inr ⟨_, rfl, _, _, rfl, rfl, .inr ?_, ?_⟩⟩
    · exact b01 _
    · rw [hy]
      exact mid _ (own _).1 (own _).2
  have hlen : (ns.map V.int).length = ns.length := List.length_map _
  refine ⟨_, rfl, _, rfl, a, _, rfl, .inl sq, (i : Nat), ((ns.map V.int).length : Nat), rfl, rfl, _, rfl, ite2 (fun hd => ?_) (fun hd => ?_)⟩
  · have hi : i < ns.length := by
      have := of_decide_eq_true hd
      rw [hlen] at this
      omega
    refine ⟨_, rfl, _, rfl, a, _, (i : Nat), .int ns[i], rfl, rfl, sq, atI_nat (by rw [List.getElem?_map, List.getElem?_eq_getElem hi]; rfl), ?_⟩
    exact tail _ H fun _ _ e => e
  · refine ⟨_, rfl, 1, rfl, a, _, rfl, sq, fun q hqn => ?_⟩
    have k1 : ∀ b o, H b = some o → (upd H q (.lst (cutV (ns.map V.int) none (some 1)))) b = some o := fun b o e => by
      rw [upd_ne (ne_of_none e hqn)]
      exact e
    have ec : cutV (ns.map V.int) none (some 1) = (ns.take 1).map V.int := by
      cases ns with
      | nil => rfl
      | cons n ns =>
        unfold cutV
        rw [HT.sIx_none, show HT.sIx ((n :: ns).map V.int).length ((n :: ns).map V.int).length (some 1) = min 1 ((n :: ns).map V.int).length from HT.sIx_nat _ _ 1, List.length_map, List.length_cons, show min 1 (ns.length + 1) - 0 = 1 by omega]
        rfl
    refine ⟨q, ns.take 1, rfl, .of (by rw [← ec]; exact upd_same), _, _, rfl, rfl, (by show (0 : Int) < 1000003; decide), _, rfl, c1, _, rfl, rfl, .inl ⟨by omega, by omega⟩, _, _, rfl, rfl, _, c2, rfl, rfl, ?_⟩
    exact tail _ _ k1
end NB
set_option Elab.async false
set_option linter.all false
set_option maxRecDepth 100000
set_option maxHeartbeats 4000000
set_option autoImplicit false
/-! The law itself is called. -/
namespace NB
open PySem PySem.Spec PyProof.Rows L2

/-- what the law's call is to end in -/
abbrev Told (s : Shared) : Result → Shared → Prop := fun r s' => r = .ok (.ret (.bool true)) ∧ OldK s.heap s'.heap ∧ s'.os = s.os ∧ AllBare s'.gens
section
variable {Pr : Program} {w : World} {K : PySem.W.Frag} {mg mb : Str → Option Value} {k : Nat} {fa a : Addr} {fd : FuncData} {x : Str} {Fw : WF} {s : Shared} {vs : List Value} {ns : List Int}
/-- a law, by its data -/
def LawW (Fw : WF) (n : Nat) : Prop := ∀ ns : List Int, ns.length ≤ n → Fw [.scr ns] 0 (fun r _ => r = .im (.bl true)) fun _ _ _ => False
/-- what a def that makes lambdas asks of the text -/
def TabsB (K : PySem.W.Frag) (mg : Str → Option Value) (base : Heap) : Prop := ∀ x ∈ lamNames, ∀ c P, PySem.W.tabIn K x = some (c, P) → LamX.TabB base mg c P
theorem tab_mem {K : PySem.W.Frag} {P : Addr} : P ∈ (tabsOf K).map (·.1) ↔ ∃ x ∈ lamNames, ∃ c, PySem.W.tabIn K x = some (c, P) := by
  unfold tabsOf
  constructor
  · intro h
    obtain ⟨p, hp, rfl⟩ := List.mem_map.mp h
    obtain ⟨x, hx, e⟩ := List.mem_filterMap.mp hp
    obtain ⟨cP, h1, h2⟩ := Option.map_eq_some_iff.mp e
    subst h2
    exact ⟨x, hx, cP.1, h1⟩
  · rintro ⟨x, hx, c, e⟩
    exact List.mem_map.mpr ⟨(P, lamQ x), List.mem_filterMap.mpr ⟨x, hx, by rw [e]; rfl⟩, rfl⟩
theorem law_from {H : Hp} (F : FnG Pr w K mg (hidT s.heap H) (CXE Pr w) k fa fd [x] Fw) (hr : Room k callerA) (hbind : ∀ (s : Shared) (u : Value), BindsTo s fd ⟨[u], []⟩ [(x, u)]) (hM : Mod K mg (hidT s.heap H)) (hok : HOk Pr w H s.heap) (hg : s.gens = #[])
    (hS : Rp ⟨K, w⟩ H (fun _ => False) (fun _ => False) (.scr ns) (.ref a)) (tb : Tb K H) (hl : ns.length ≤ 63) (law : LawW Fw 63) :
    codeAny (model Pr w) callerA (.call (.ref fa) ⟨[.ref a], []⟩) (fun r s' => r = .ok (.ret (.bool true)) ∧ s'.os = s.os ∧ AllBare s'.gens ∧ ∃ H', Un [] [] H H' s.heap s'.heap ∧ HOk Pr w H' s'.heap) s := by
  have e0 : Env0 Pr w K mg (hidT s.heap H) callerA [] s H := ⟨rfl, hM, fun _ _ e => of_hidT e, Nat.le_of_eq (hidT_size _ _), trivial, (fun _ hb => nomatch hb), hok, .of_eq hg⟩
  have sp : spW ⟨K, w⟩ 1 Fw [.ref a] H (fun v _ => v = .bl true) fun _ _ _ => False := by
    refine ⟨rfl, fun _ => False, fun _ => False, 0, [.scr ns], fun r _ => r = .im (.bl true), fun _ _ _ => False, fun _ z => z.elim, fun _ z => z.elim, fun _ z => z.elim, .cons (hS.mo (.less fun _ z => z.elim id id)) .nil, tb, law ns hl, .no fun _ _ _ z => z, fun r t' v H' P' e er => ?_⟩
    subst e
    have q : Rp ⟨K, w⟩ H' P' _ (.bl true) v := er.2
    rw [Rp] at q
    exact q
  refine codeAny_mono (F.go callerA [] s H ⟨[.ref a], []⟩ [.ref a] [.ref a] _ _ hr rfl e0 (hbind s (.ref a)) (.cons rfl .nil) sp) ?_
  intro r s' h
  match r, h with
  | .error _, h =>
    obtain ⟨_, _, _, _, _, _, _, _, _, _, _, _, z⟩ := h
    exact z.elim
  | .ok .next, h => exact h.elim
  | .ok .brk, h => exact h.elim
  | .ok .cont, h => exact h.elim
  | .ok (.ret u), ⟨v, H', os, bare, un, hok', rv, ev⟩ =>
    have ev : v = .bl true := ev
    subst ev
    obtain rfl : u = .bool true := rv
    exact ⟨rfl, os, bare, H', un, hok'⟩
/-- from the heap behind the top -/
theorem law_run (KX : K.In s.heap) (hns : s.heap.Ns mainGlobals mg) (hb : s.heap.Ns builtinsNs mb) (hbb : ∀ x : Str, x ≠ "__name__" → mb x = bootBuiltins x) (hlim : s.heap.NoLimit) (hg : s.gens = #[])
    (hbm : ∃ (bm : Addr) (ob : Obj), mg "__builtins__" = some (.ref bm) ∧ bm ≠ builtinsNs ∧ s.heap.get? bm = some ob ∧ ob.cls = .type "module" ∧ ob.dict = some builtinsNs ∧ ob.data = .plain)
    (hT : ∀ x ∈ lamNames, ∀ c P, PySem.W.tabIn K x = some (c, P) → (PySem.W.CodeHd s.heap c P ∧ s.heap.get? P = some { cls := .none, data := .fields #[] }) ∧ K.lookup P = none)
    (ha : s.heap.get? a = some { cls := .type "list", data := .seq vs.toArray }) (hi : IntsAre vs ns) (hl : ns.length ≤ 63) (hr : Room k callerA)
    (F : ∀ base : Heap, K.In base → base.Ns mainGlobals mg → TabsB K mg base → FnG Pr w K mg base (CXE Pr w) k fa fd [x] Fw) (hbind : ∀ (s : Shared) (u : Value), BindsTo s fd ⟨[u], []⟩ [(x, u)]) (law : LawW Fw 63) :
    codeAny (model Pr w) callerA (.call (.ref fa) ⟨[.ref a], []⟩) (Told s) s := by
  have rv : Vals (ns.map V.int) vs := vals_ints hi
  have hz : ns.length ≤ sizeLine := Nat.le_trans hl (by decide)
  let Ps : List Addr := (tabsOf K).map (·.1)
  have pT : ∀ b, b ∈ Ps → s.heap.get? b = some { cls := .none, data := .fields #[] } ∧ K.lookup b = none := fun b hb => by
    obtain ⟨x, hx, c, e⟩ := tab_mem.mp hb
    exact ⟨(hT x hx c b e).1.2, (hT x hx c b e).2⟩
  have aP : a ∉ Ps := fun z => by
    have q := (pT a z).1
    rw [ha] at q
    have q : Data.seq vs.toArray _ = Data.fields #[] := congrArg Obj.data (Option.some.inj q)
    cases q
  /- the script, perhaps, and the tables are tracked -/
  have go : ∀ H : Hp, (∀ b, H b ≠ none → (b = a ∧ K.lookup a = none) ∨ b ∈ Ps) → (∀ b, b ∈ Ps → H b = some (.tbl #[])) → (∀ b, b ∉ Ps → H b = none ∨ ∃ o xs, H b = some (.frz o (.lst xs))) → HOk Pr w H s.heap → Rp ⟨K, w⟩ H (fun _ => False) (fun _ => False) (.scr ns) (.ref a) →
      codeAny (model Pr w) callerA (.call (.ref fa) ⟨[.ref a], []⟩) (Told s) s := by
    intro H only tabs hO hok hS
    have free : ∀ {b : Addr} {o : Obj}, s.heap.get? b = some o → (b = a → K.lookup a ≠ none) → o.data ≠ .fields #[] → H b = none := fun {b o} e h1 h2 => Classical.byContradiction fun z => by
      rcases only b z with q | q
      · exact h1 q.1 q.2
      · rw [(pT b q).1] at e
        cases e
        exact h2 rfl
    have keep : ∀ {b : Addr} {o : Obj}, s.heap.get? b = some o → H b = none → (hidT s.heap H).get? b = some o := fun e n => hidT_get e n
    have dicts : ∀ {b : Addr} {o : Obj} {es : Array DictEntry} {ep : Nat}, s.heap.get? b = some o → o.data = .dict es ep → H b = none := fun {b o es ep} e d => by
      refine free e (fun z => ?_) fun z => ?_
      · rw [z, ha] at e
        cases e
        cases (show Data.seq vs.toArray _ = Data.dict es ep from d)
      · rw [d] at z
        cases z
    have ns' : ∀ {b : Addr} {m : Str → Option Value}, s.heap.Ns b m → (hidT s.heap H).Ns b m := fun ⟨o, es, ep, e, d, r⟩ => ⟨o, es, ep, keep e (dicts e d), d, r⟩
    have kb : K.In (hidT s.heap H) := fun b o e => keep (KX b o e) (Classical.byContradiction fun z => by
      rcases only b z with q | q
      · rw [q.1, q.2] at e
        cases e
      · rw [(pT b q).2] at e
        cases e)
    have TB : TabsB K mg (hidT s.heap H) := fun x hx c P e => by
      obtain ⟨⟨C, tP⟩, _⟩ := hT x hx c P e
      refine ⟨?_, ?_, fun z => ?_⟩
      · obtain ⟨o, us, f1, f2, f3, f4, f5, f6, f7, e1, r1, r2, r3, r⟩ := C
        refine ⟨o, us, f1, f2, f3, f4, f5, f6, f7, keep e1 (free e1 (fun z => ?_) fun z => ?_), r1, r2, r3, r⟩
        · rw [z, ha] at e1
          cases e1
          exact absurd (Value.type.inj r1) (by decide)
        · rw [r2] at z
          cases z
          simp at r3
      · obtain ⟨bm, ob, b1, b2, b3, b4, b5, b6⟩ := hbm
        have n1 : bm ≠ mainGlobals := fun q => by
          obtain ⟨o, es, ep, e, hd, _⟩ := hns
          rw [q, e] at b3
          cases b3
          rw [hd] at b6
          cases b6
        have n2 : bm ≠ P := fun q => by
          rw [q, tP] at b3
          cases b3
          cases b6
        refine ⟨bm, ob, b1, b2, n1, n2, keep b3 (free b3 (fun z => ?_) fun z => ?_), b4, b5, b6⟩
        · rw [z, ha] at b3
          cases b3
          cases b6
        · rw [b6] at z
          cases z
      · obtain ⟨o, es, ep, e, hd, _⟩ := hns
        rw [z, tP] at e
        cases e
        cases hd
    have tb : Tb K H := fun p hp => LamX.TabS.nil (tabs p.1 (List.mem_map.mpr ⟨p, hp, rfl⟩))
    obtain ⟨mc, l1, l2⟩ := hlim
    refine codeAny_mono (law_from (F _ kb (ns' hns) TB) hr hbind ⟨kb, ns' hns, ⟨mb, ns' hb, hbb⟩, mc, ns' l1, l2⟩ hok hg hS tb hl law) fun r s' h => ?_
    obtain ⟨rfl, os, bare, H', un, hok'⟩ := h
    have old : ∀ b o, b ∉ Ps → s.heap.get? b = some o → s'.heap.get? b = some o := fun b o nb e => by
      rcases hO b nb with z | ⟨ob, xs, z⟩
      · exact un.keep b o e z (fun y => nomatch y) (fun y => nomatch y)
      · obtain ⟨g1, _⟩ := hok b _ z
        obtain ⟨g2, _⟩ := hok' b _ (un.frzs b ob _ z)
        rw [g1] at e
        cases e
        exact g2
    have new : ∀ b, b ∈ Ps → ∃ more : Array Value, s'.heap.get? b = some { cls := .none, data := .fields more } := fun b hb => by
      obtain ⟨more, z⟩ := un.tbls b #[] (tabs b hb)
      exact ⟨_, hok' b _ z⟩
    refine ⟨rfl, ⟨fun b o e => ?_, fun b o e => ?_⟩, os, bare⟩
    · by_cases hb : b ∈ Ps
      · obtain ⟨more, hm⟩ := new b hb
        obtain ⟨x, hx, c, ec⟩ := tab_mem.mp hb
        obtain ⟨⟨C, tP⟩, _⟩ := hT x hx c b ec
        rw [tP] at e
        cases e
        exact .inr (.inl ⟨(C.tab tP).isCodeTable, rfl, #[], more, rfl, by rw [Array.empty_append]; exact hm⟩)
      · exact .inl (old b o hb e)
    · by_cases hb : b ∈ Ps
      · obtain ⟨more, hm⟩ := new b hb
        exact ⟨_, hm⟩
      · exact ⟨o, old b o hb e⟩
  let o0 : Obj := { cls := .type "list", data := .seq vs.toArray }
  cases hk : K.lookup a with
  | some o =>
    have e := KX a o hk
    rw [ha] at e
    cases e
    refine go (fun b => if b ∈ Ps then some (.tbl #[]) else none) (fun b z => .inr (Classical.byContradiction fun q => z (if_neg q))) (fun b hb => if_pos hb) (fun b hb => .inl (if_neg hb)) (fun b u z => ?_) ?_
    · by_cases hb : b ∈ Ps
      · have z := (if_pos hb).symm.trans z
        cases z
        exact (pT b hb).1
      · have z := (if_neg hb).symm.trans z
        cases z
    · rw [Rp]
      refine ⟨a, rfl, .inr ⟨_, vs.toArray, _, hk, rfl, rfl, rfl, ?_, by simpa using rv⟩⟩
      rw [List.size_toArray, hi.length]
      exact hz
  | none =>
    let H0 : Hp := fun b => if b = a then some (.frz o0 (.lst (ns.map V.int))) else if b ∈ Ps then some (.tbl #[]) else none
    have at0 : H0 a = some (.frz o0 (.lst (ns.map V.int))) := if_pos rfl
    have off : ∀ b, b ≠ a → H0 b = if b ∈ Ps then some (.tbl #[]) else none := fun b hb => if_neg hb
    have atP : ∀ b, b ∈ Ps → H0 b = some (.tbl #[]) := fun b hb => by
      rw [off b fun z => aP (z ▸ hb), if_pos hb]
    refine go H0 (fun b z => ?_) atP (fun b hb => ?_) (fun b u z => ?_) ?_
    · by_cases hb : b = a
      · exact .inl ⟨hb, hk⟩
      · refine .inr (Classical.byContradiction fun q => z ?_)
        rw [off b hb, if_neg q]
    · by_cases hb2 : b = a
      · exact .inr ⟨o0, _, by rw [hb2]; exact at0⟩
      · exact .inl (by rw [off b hb2, if_neg hb])
    · by_cases hb : b = a
      · subst hb
        rw [at0] at z
        cases z
        exact ⟨ha, by rw [List.length_map]; exact hz, vs, _, rv, ha⟩
      · by_cases hb2 : b ∈ Ps
        · rw [atP b hb2] at z
          cases z
          exact (pT b hb2).1
        · rw [off b hb, if_neg hb2] at z
          cases z
    · rw [Rp]
      exact ⟨a, rfl, .inl ⟨o0, at0⟩⟩
end
/-- what the head leaves -/
theorem walk_ofG {l : PySem.W.OpenLaw} {k : Nat} {q : Program} {loose : List Str} {XP : (Str → Option Value) → Heap → Prop} {YP : World → Heap → Prop} {d : DefRec} {K : Params → PySem.W.Frag} {Fw : WF} {x : Str}
    (hn : l.most = some 63) (hdf : d.params.defaults = []) (hr : Room k callerA) (hY : ∀ (w : World) (h : Heap), YP w h → (K w.params).In h)
    (hR : ∀ x ∈ lamNames, ∃ d, (recsOf q).find? (fun e => e.name == x) = some d)
    (F : ∀ (w : World) (mg : Str → Option Value) (fa : Addr) (h : Heap), (K w.params).In h → h.Ns mainGlobals mg → mg d.name = some (.ref fa) →
      (∀ x ∈ lamNames, ∀ c P, PySem.W.tabIn (K w.params) x = some (c, P) → (K w.params).lookup P = none) ∧
      ∃ fd : FuncData, (∀ (s : Shared) (u : Value), BindsTo s fd ⟨[u], []⟩ [(x, u)]) ∧ ∀ base : Heap, (K w.params).In base → base.Ns mainGlobals mg → TabsB (K w.params) mg base → FnG l.prog w (K w.params) mg base (CXE l.prog w) k fa fd [x] Fw)
    (law : LawW Fw 63) : PySem.W.WalkO q loose XP YP l.row.toRowW d [] (fun f vs => PySem.call f vs) := by
  refine Att.attach_call hn hdf fun w s0 s1 mg mb fa o pm cd doc a vs ns G Y ho hd hcd hmg hobj hints hlen hg => ?_
  obtain ⟨nT, fd, hb, hF⟩ := F w mg fa _ (hY w _ Y) G.T.g hmg
  refine law_run (hY w _ Y) G.T.g G.T.b G.T.builtins G.T.nolimit hg G.T.bmain (fun x hx c P e => ?_) hobj hints hlen hr hF hb law
  obtain ⟨d', hd'⟩ := hR x hx
  exact ⟨PySem.W.tab_of G.T (hY w _ Y) hd' e, nT x hx c P e⟩
end NB
set_option Elab.async false
set_option linter.all false
set_option maxRecDepth 100000
set_option maxHeartbeats 4000000
set_option autoImplicit false
/-! Small words for printed walks. -/
namespace NB
open PySem PySem.Spec PyProof.Rows L2

theorem bt_len : bootBuiltins "len" = some (.builtin "len") := by decide +kernel
theorem bt_abs : bootBuiltins "abs" = some (.builtin "abs") := by decide +kernel
theorem bt_int : bootBuiltins "int" = some (.type "int") := by decide +kernel
theorem bt_str : bootBuiltins "str" = some (.type "str") := by decide +kernel
theorem bt_tuple : bootBuiltins "tuple" = some (.type "tuple") := by decide +kernel
theorem bt_list : bootBuiltins "list" = some (.type "list") := by decide +kernel
theorem bt_max : bootBuiltins "max" = some (.builtin "max") := by decide +kernel
theorem bt_min : bootBuiltins "min" = some (.builtin "min") := by decide +kernel
theorem bt_all : bootBuiltins "all" = some (.builtin "all") := by decide +kernel
theorem bt_any : bootBuiltins "any" = some (.builtin "any") := by decide +kernel
theorem bt_sum : bootBuiltins "sum" = some (.builtin "sum") := by decide +kernel
theorem bt_repr : bootBuiltins "repr" = some (.builtin "repr") := by decide +kernel
theorem u65 {k : Nat} {A : Around} (r : Room k A) : A.units + 65 < cLine := by have := r.un; omega
theorem u66 {k : Nat} {A : Around} (r : Room k A) : A.units + 66 < cLine := by have := r.un; omega
section
variable {X : Cx} {EX : XX} {x : Str} {i : Int} {pos : Pos} {j : Nat}
theorem de_gint (hg : Gl X x) (h : ∃ t, X.mg x = some (.int i t)) (hd : (x == ("__debug__" : Str)) = false := by decide) : DE X EX (.Name x pos) (pureW (.im (.int i))) := by
  obtain ⟨t, h⟩ := h
  exact de_const (pe_glob (v := .int i) hg h ⟨t, rfl⟩ hd) fun _ _ _ => rp_int
theorem de_i : DE X EX (.Constant (.int i) j pos) (pureW (.im (.int i))) := de_const pe_int fun _ _ _ => rp_int
theorem de_s {z : Str} : DE X EX (.Constant (.str z) j pos) (pureW (.im (.str z))) := de_const pe_str fun _ _ _ => rp_str
theorem de_b {b : Bool} : DE X EX (.Constant (.bool b) j pos) (pureW (.im (.bl b))) := de_const pe_bl fun _ _ _ => rp_bl'
theorem de_n : DE X EX (.Constant .none j pos) (pureW (.im .non)) := de_const pe_non fun _ _ _ => rp_non
/-- a def without a promise -/
theorem cl_none {Pr : Program} {w : World} {K : KF} {mg : Str → Option Value} {base : Heap} {k : Nat} {st : Stmt} {ps : List Str} (D : Df K mg x st ps) : Cl Pr w K mg base k x ps.length (fun _ _ _ _ => False) := by
  obtain ⟨f, fd, F, hm, hb⟩ := D.ex
  refine ⟨f, fd, ps, rfl, ⟨fun A outer s H args us vs Q E hr _ e0 hb r h => ?_⟩, hm, F.kp, hb⟩
  obtain ⟨_, _, _, _, _, _, _, _, _, _, _, _, z, _⟩ := h
  exact z.elim
theorem dt_v {e : Expr} {w : W} (h : DE X EX e w) (he : ∀ whole, isTrue e X.env whole = (do let v ← whole; standAt e.pos; holding [v] (truthy v)) := by intro _; rfl) : DT X EX e (testW w) := dt_val h he
end
end NB
set_option Elab.async false
set_option linter.all false
set_option maxRecDepth 100000
set_option maxHeartbeats 4000000
set_option autoImplicit false
/-! Plain laws about what is printed: loops, comprehensions. -/
namespace NB
open PySem PySem.Spec PyProof.Rows L2

@[simp] theorem R_im (d : D) : (R.im d).d = d := rfl
@[simp] theorem R_nw (ds : List D) : (R.nw ds).d = .lst ds := rfl
/-- a def gives r -/
def Gives (F : WF) (ds : List D) (r : R) : Prop := ∀ t Q E, Q r t → F ds t Q E
/-- a def gives, behind at most n draws, what post says -/
def GivesT (F : WF) (ds : List D) (n : Nat) (post : R → Prop) : Prop := ∀ t Q E, t + n ≤ 2000000 → (∀ r t', t' ≤ t + n → post r → Q r t') → F ds t Q E
theorem compL_iff {p : Pt} {c : Wg Bool} {e : W} {ρw : List Sl} {cf : D → Bool} {f : D → D} {t : Nat} {Q : List D → Nat → Prop} : ∀ {ds acc : List D},
    (∀ d ∈ ds, ∃ ρ', bindP p d ρw = some ρ' ∧ (∀ Q' E, c ρ' t Q' E ↔ Q' (cf d) ρ' t) ∧ (cf d = true → ∃ r : R, r.d = f d ∧ ∀ Q' E, e ρ' t Q' E ↔ Q' r ρ' t)) → acc.length + ds.length ≤ sizeLine →
    (compL p c e ρw ds acc t Q ↔ Q (acc ++ (ds.filter cf).map f) t)
  | [], acc, _, _ => by simp [compL]
  | d :: ds, acc, h, hl => by
    obtain ⟨ρ', h1, h2, h3⟩ := h d List.mem_cons_self
    rw [compL]
    simp only [h1, Option.some.injEq, exists_eq_left', h2, true_and]
    rw [List.length_cons] at hl
    cases hc : cf d with
    | false =>
      rw [if_neg Bool.false_ne_true, compL_iff (fun d hd => h d (List.mem_cons_of_mem _ hd)) (by omega), List.filter_cons_of_neg (by rw [hc]; exact Bool.false_ne_true)]
    | true =>
      obtain ⟨r, e1, e2⟩ := h3 hc
      rw [if_pos rfl, e2, compL_iff (fun d hd => h d (List.mem_cons_of_mem _ hd)) (by rw [List.length_append, List.length_singleton]; omega), List.filter_cons_of_pos hc, e1, List.map_cons, List.append_assoc]
      simp only [true_and, List.singleton_append, and_iff_right_iff_imp]
      intro _
      omega
/-- elements that are drawn -/
theorem compL_draw {p : Pt} {e : W} {ρw : List Sl} {post : D → Prop} {n : Nat} {Q : List D → Nat → Prop} : ∀ {ds acc : List D} {t : Nat},
    (∀ d ∈ ds, ∃ ρ', bindP p d ρw = some ρ' ∧ ∀ t Q' E, t + n ≤ 2000000 → (∀ r t', t' ≤ t + n → post r.d → Q' r ρ' t') → e ρ' t Q' E) → acc.length + ds.length ≤ sizeLine → t + n * ds.length ≤ 2000000 →
    (∀ xs t', t' ≤ t + n * ds.length → (∀ x ∈ xs, post x) → xs.length = ds.length → Q (acc ++ xs) t') → compL p yesT e ρw ds acc t Q
  | [], acc, t, _, _, _, q => by
    rw [compL]
    have := q [] t (by simp) (fun _ h => nomatch h) rfl
    simpa using this
  | d :: ds, acc, t, h, hl, ht, q => by
    obtain ⟨ρ', h1, h2⟩ := h d List.mem_cons_self
    rw [compL]
    refine ⟨ρ', h1, rfl, ?_⟩
    rw [if_pos rfl]
    rw [List.length_cons, Nat.mul_succ] at ht
    rw [List.length_cons] at hl
    refine h2 t _ _ (by omega) fun r t1 l1 pr => ⟨rfl, by omega, ?_⟩
    refine compL_draw (fun d hd => h d (List.mem_cons_of_mem _ hd)) (by rw [List.length_append, List.length_singleton]; omega) (by omega) fun xs t' l2 px le => ?_
    rw [List.append_assoc]
    refine q (r.d :: xs) t' ?_ (fun x hx => ?_) (by rw [List.length_cons, List.length_cons, le])
    · rw [List.length_cons, Nat.mul_succ]; omega
    · rcases List.mem_cons.mp hx with e | e
      · rw [e]; exact pr
      · exact px x e
theorem forL_inv {b : D → WS} {k : KS} (I : Nat → List Sl → Nat → Prop) : ∀ {ds : List D} {j : Nat} {ρ : List Sl} {t : Nat}, I j ρ t →
    (∀ i d ρ t nx, ds[i]? = some d → I (j + i) ρ t → (∀ ρ' t', I (j + i + 1) ρ' t' → nx ρ' t') → b d ρ t { k with nx := nx, ct := nx, bk := k.nx }) → (∀ ρ t, I (j + ds.length) ρ t → k.nx ρ t) → forL b ds ρ t k
  | [], j, ρ, t, h0, _, hend => hend ρ t h0
  | d :: ds, j, ρ, t, h0, step, hend => by
    rw [forL]
    refine step 0 d ρ t _ rfl h0 fun ρ' t' h1 => ?_
    refine forL_inv I (j := j + 1) h1 (fun i d ρ t nx hd hi hn => ?_) fun ρ t h => hend ρ t ?_
    · refine step (i + 1) d ρ t nx hd ?_ ?_
      · rw [show j + (i + 1) = j + 1 + i by omega]; exact hi
      · rw [show j + (i + 1) + 1 = j + 1 + i + 1 by omega]; exact hn
    · rw [List.length_cons, show j + (ds.length + 1) = j + 1 + ds.length by omega] at *
      exact h
theorem rangeD_mem {n : Nat} {d : D} (h : d ∈ rangeD 0 n) : ∃ i : Nat, i < n ∧ d = .int (i : Nat) := by
  unfold rangeD at h
  obtain ⟨i, hi, rfl⟩ := List.mem_map.mp h
  exact ⟨i, List.mem_range.mp hi, by rw [Int.zero_add]⟩
theorem rangeD_len (lo : Int) (n : Nat) : (rangeD lo n).length = n := by unfold rangeD; rw [List.length_map, List.length_range]
theorem rangeD_get {n i : Nat} {d : D} (h : (rangeD 0 n)[i]? = some d) : i < n ∧ d = .int (i : Nat) := by
  have hi : i < n := by
    have := (List.getElem?_eq_some_iff.mp h).1
    rwa [rangeD_len] at this
  refine ⟨hi, ?_⟩
  unfold rangeD at h
  rw [List.getElem?_map, List.getElem?_range hi] at h
  have h : D.int (0 + (i : Nat)) = d := Option.some.inj h
  rw [← h, Int.zero_add]
theorem ok_pot {d : D} (h : okD d = true) : d ≠ .pot := fun e => by rw [e] at h; simp [okD] at h
end NB
namespace NB
open PySem PySem.Spec PyProof.Rows L2
@[simp] theorem bindP_nm {i : Nat} {d : D} {ρ : List Sl} : bindP (.nm i) d ρ = some (ρ.set i (.im d)) := by rw [bindP]
@[simp] theorem bindP_tp {ps : List Pt} {ds : List D} {ρ : List Sl} : bindP (.tp ps) (.tup ds) ρ = bindPs ps ds ρ := by rw [bindP]
@[simp] theorem bindPs_nil {ρ : List Sl} : bindPs [] [] ρ = some ρ := by rw [bindPs]
@[simp] theorem bindPs_cons {p : Pt} {ps : List Pt} {d : D} {ds : List D} {ρ ρ' : List Sl} (h : bindP p d ρ = some ρ') : bindPs (p :: ps) (d :: ds) ρ = bindPs ps ds ρ' := by rw [bindPs, h]
@[simp] theorem bindPs_nm {i : Nat} {ps : List Pt} {d : D} {ds : List D} {ρ : List Sl} : bindPs (.nm i :: ps) (d :: ds) ρ = bindPs ps ds (ρ.set i (.im d)) := bindPs_cons bindP_nm
section
variable {α : Type} {a b c d : α} {l : List α}
@[simp] theorem atI_c0 : atI (a :: l) 0 = some a := atI_nat (j := 0) rfl
@[simp] theorem atI_c1 : atI (a :: b :: l) 1 = some b := atI_nat (j := 1) rfl
@[simp] theorem atI_c2 : atI (a :: b :: c :: l) 2 = some c := atI_nat (j := 2) rfl
@[simp] theorem atI_c3 : atI (a :: b :: c :: d :: l) 3 = some d := atI_nat (j := 3) rfl
end
end NB
set_option Elab.async false
set_option linter.all false
set_option maxRecDepth 100000
set_option maxHeartbeats 4000000
set_option autoImplicit false
/-! Methods with one argument (split, count), tuples of the module, tuple * int. -/
namespace NB
open PySem PySem.Spec PyProof.Rows L2

/-! ### tuples that stand in the written part -/
/-- texts -/
theorem ra_strs {K : KF} {H : Hp} {P M : PA1} : ∀ zs : List Str, RpA K H P M (zs.map .str) (zs.map V.str)
  | [] => .nil
  | z :: zs => .cons rp_str (ra_strs zs)
def TupK (K : PySem.W.Frag) (u : Value) (xs : List V) : Prop := ∃ (a : Addr) (o : Obj) (its : Array Value) (n : Nat), u = .ref a ∧ K.lookup a = some o ∧ o.cls = .type "tuple" ∧ o.data = .seq its n ∧ its.size ≤ sizeLine ∧ Vals xs its.toList
section
variable {X : Cx} {EX : XX} {x : Str} {pos : Pos}
theorem de_gtup {zs : List Str} (hg : Gl X x) (h : ∃ u, X.mg x = some u ∧ TupK (kX X) u (zs.map V.str)) (hd : (x == ("__debug__" : Str)) = false := by decide) : DE X EX (.Name x pos) (pureW (.im (.tup (zs.map .str)))) := by
  obtain ⟨u, h, a, o, its, n, rfl, l, c, d, z, v⟩ := h
  refine de_const (pe_glob (v := .ref a) hg h rfl hd) fun H P M => ?_
  rw [Rp]
  exact ⟨a, _, rfl, .inr ⟨o, its, n, l, c, d, z, v⟩, ra_strs zs⟩
end

/-! ### products: of numbers, of a tuple and a number -/
@[simp] def mulAD : D → D → Option R
  | .tup xs, .int k => if (xs ≠ [] ∧ xs.length ≤ 1000) ∧ 2 ≤ k ∧ k ≤ 1000 then some (.im (.tup (List.replicate k.toNat xs).flatten)) else none
  | d, e => mulD d e
theorem ra_rep {K : KF} {H : Hp} {P M : PA1} {ds : List D} {xs : List V} (h : RpA K H P M ds xs) : ∀ n : Nat, RpA K H P M (List.replicate n ds).flatten (List.replicate n xs).flatten
  | 0 => .nil
  | n + 1 => by
    rw [List.replicate_succ, List.replicate_succ, List.flatten_cons, List.flatten_cons]
    exact h.append (ra_rep h n)
theorem op_mulAD {X : Cx} : Op2 X (binaryOp .Mult) mulAD := by
  intro pins s σ H x y v u Q I rx ry ⟨P, M, d, e, h1, h2, m, f⟩
  unfold mulAD at f
  split at f
  · split at f
    · rename_i xs k hk
      obtain ⟨a, ys, rfl, ta, ra⟩ := h1.tp
      refine op_repT pins s σ H _ _ v u Q I rx ry ⟨a, k, ys, rfl, h2.int, ta, fun z => hk.1.1 ?_, hk.2.1, hk.2.2, by rw [← ra.length]; exact hk.1.2, f.tup (ra_rep ra _)⟩
      subst z
      exact List.eq_nil_of_length_eq_zero ra.length
    · exact f.no.elim
  · exact op_mulD pins s σ H x y v u Q I rx ry ⟨P, M, d, e, h1, h2, m, f⟩

/-! ### methods with one argument -/
def kindV : String → D → Prop
  | "str", .str _ => True
  | "list", .lst _ => True
  | _, _ => False
/-- a.m(b) -/
def m1W (T : String) (g : R2D) (a b : WO) : W := fun ρ t Q E => a ρ t (fun x ρ1 t1 => (∃ d, rsv ρ1 x = some d ∧ kindV T d) ∧ b ρ1 t1 (fun y ρ2 t2 => ∃ d e r, rsv ρ2 x = some d ∧ rsv ρ2 y = some e ∧ g d e = some r ∧ Q r ρ2 t2) E) E
def Mt1 (X : Cx) (id : String) (g : R2D) : Prop := MtR X id fun x xs H Q => ∃ (P M : PA1) (d e : D) (y : V), xs = [y] ∧ Rs (kX X) H P M d x ∧ Rs (kX X) H P M e y ∧ Ml H M ∧ Fit (kX X) H P M (g d e) Q
theorem tyV_kind {K : KF} {H : Hp} {P M : PA1} {T : String} {d : D} {x : V} (h : Rs K H P M d x) (k : kindV T d) : tyV K T x H := by
  unfold kindV at k
  split at k
  · rw [h.str]; rfl
  · obtain ⟨a, xs, rfl, ta, _⟩ := h.ls rfl
    exact .inl ⟨rfl, xs, ta⟩
  · exact k.elim
section
variable {X : Cx} {EX : XX} {o e : Expr} {wa wb : WO} {name : Str} {apos cpos : Pos} {T id : String} {g : R2D}
theorem de_m1 (pa : PlainAttrs T) (slot : Slot T name id) (hty : typeOf (.builtin id) = pure (.type "method_descriptor")) (hm : Mt1 X id g) (ho : DO X EX o wa) (he : DO X EX e wb)
    (hbase : attributeBase o name X.env (eval o X.env) = eval o X.env := by rfl)
    (hfew : ((backTo cpos (starEach [e] X.env)).all (fun x => !x.1) && (backToKw cpos (keywordEach [] X.env)).all (fun x => x.1.isSome) && decide ([e].length + ([] : List Keyword).length + (if ([] : List Keyword).isEmpty then 0 else 1) < 30)) = true := by rfl)
    (hline : (apos.endLine == cpos.line) = true := by rfl) (hs : starEach [e] X.env = (false, eval e X.env) :: starEach [] X.env := by rfl) (hplain : (backTo cpos (starEach [] X.env)).any (·.1) = false := by rfl) :
    DE X EX (.Call (.Attribute o name apos) [e] [] cpos) (m1W T g wa wb) := PE.imp (pe_bm pa slot hty hm ho (pa_cons he pa_nil hs) hbase hfew hline hs hplain) fun σ H Q h => by
  obtain ⟨G, P, ρ, t, Q', E, S, hw, lk, hq⟩ := h
  refine ⟨G, P, ρ, t, _, E, S, hw, lk, fun o ρ1 t1 x H1 P1 h1 r1 => ?_⟩
  obtain ⟨⟨d0, e0, k0⟩, h1⟩ := h1
  refine ⟨tyV_kind (rsv_ok r1.sat r1 e0) k0, holdO G o x, P1, ρ1, t1, _, E, r1.hold, h1, lk.holdO, fun o2 ρ2 t2 y H2 P2 h2 r2 => ?_⟩
  obtain ⟨d, e, r, e1, e2, e3, q⟩ := h2
  obtain ⟨S2, q1, q2⟩ := r1.back2 r2
  exact ⟨P2, Mx G.F P2 ρ2 σ, d, e, y, rfl, rsv_ok S2 q1 e1, rsv_ok S2 q2 e2, S2.mlist, r, e3, fun z H' k rz => hq r ρ2 t2 z H' P2 q (rz_rs S2 k rz)⟩
@[simp] def splitD : D → D → Option R
  | .str a, .str b => if ((b.length == 0) = false) ∧ a.length + 2 ≤ sizeLine then some (.nw (.l ((Txt.split a b).map .str))) else none
  | _, _ => none
theorem mt_splitD : Mt1 X "str.split" splitD := by
  intro pins s σ H x xs v us Q I rx rxs ⟨P, M, d, e, y, exs, h1, h2, _, f⟩
  unfold splitD at f
  split at f
  · split at f
    · rename_i hk
      rw [h2.str] at exs
      exact mt_split pins s σ H x xs v us Q I rx rxs ⟨_, _, h1.str, exs, hk.1, hk.2, f.lst (ra_strs _)⟩
    · exact f.no.elim
  · exact f.no.elim
@[simp] def countD : D → D → Option R
  | .lst ys, e => if eqOk e (.lst ys) = true then some (.im (.int ((ys.countP fun y => D.eqv y e : Nat) : Int))) else none
  | _, _ => none
theorem count_py (e : D) : ∀ ys : List D, (pyL ys).countP (fun y => PyData.eqv y e.py) = ys.countP fun y => D.eqv y e
  | [] => rfl
  | y :: ys => by
    rw [pyL, List.countP_cons, List.countP_cons, count_py e ys]
    rfl
theorem mt_countD (hu : X.A.units + 65 < cLine) : Mt1 X "list.count" countD := by
  intro pins s σ H x xs v us Q I rx rxs ⟨P, M, d, e, y, exs, h1, h2, _, f⟩
  unfold countD at f
  split at f
  · rename_i ys
    split at f
    · rename_i hk
      subst exs
      obtain ⟨o1, o2, o3, o4⟩ := eqOk_iff hk
      obtain ⟨u, rfl, ru⟩ := rxs.one
      obtain ⟨as, r1⟩ := Dp.reads I _ x v (h1.dp o2) rx
      obtain ⟨bs, r2⟩ := Dp.reads I _ y u (h2.dp o1) ru
      rw [D.py] at r1
      rw [okD] at o2
      rw [dpD] at o4
      cases r1 with
      | @list a o vs n _ _ g1 g2 g3 g4 =>
        obtain ⟨cls, dd, data, sl⟩ := o
        simp only at g2 g3
        subst g2 g3
        have hd : X.A.units + 1 + min (PyData.depthAll (pyL ys)) e.py.depth < cLine := by
          rw [depth_py]
          omega
        refine call_meets PySem.F.slot_list_count ⟨_, g1, rfl⟩ PySem.F.entry_list_count (PySem.F.args_list_count_2 _ _)
          (SeqAt.list_countAt a vs n dd sl u _) ⟨g1, SeqAt.items_eqAt g4 r2 (canLay_pyL o2) (canLay_py o1) hd, ?_⟩
        have ec : vs.toList.countP (fun z => PyData.eqv (SeqAt.readOf s.heap z) e.py) = ys.countP fun z => D.eqv z e := by
          rw [← count_py, ← SeqAt.readsAll_map _ _ _ (canLay_pyL o2) g4, List.countP_map]
          rfl
        refine ⟨.int ((ys.countP fun z => D.eqv z e : Nat) : Int), H, I.tok _, ⟨s.toks, ?_⟩, f.im rp_int⟩
        rw [ec]
    · exact f.no.elim
  · exact f.no.elim
end
end NB
set_option Elab.async false
set_option linter.all false
set_option maxRecDepth 100000
set_option maxHeartbeats 4000000
set_option autoImplicit false
/-! Two items of an own list exchanged. -/
namespace NB
open PySem PySem.Spec PyProof.Rows L2

/-- xs[a], xs[b] = (xs[b], xs[a]), slots -/
def swapS (i a b : Nat) : WS := fun ρ t k => ∃ (ds : List D) (x y : Int) (j l : Nat) (u v : D), ρ[i]? = some (.ow ds) ∧ ρ[a]? = some (.im (.int x)) ∧ ρ[b]? = some (.im (.int y)) ∧ ixN ds.length x = some j ∧ ixN ds.length y = some l ∧ ds[j]? = some u ∧ ds[l]? = some v ∧ k.nx (ρ.set i (.ow ((ds.set j v).set l u))) t
theorem set_len {α : Type} (xs : List α) (j : Nat) (v : α) : (xs.set j v).length = xs.length := List.length_set
section
variable {X : Cx} {EX : XX} {i a b : Nat} {stm : Stmt}
theorem ds_swap (hia : i ≠ a) (hib : i ≠ b) (core : PS X stm (tAsg (tTup (tCons (tOp (rIxL (kX X)) (tVar i) (tVar b)) (tCons (tOp (rIxL (kX X)) (tVar i) (tVar a)) tNil))) (gTup (kX X) 2 (gCons (gSub (tVar i) (tVar a) rSetL) (gCons (gSub (tVar i) (tVar b) rSetL) gNil))))) :
    DS X EX stm (swapS i a b) := PS.imp core fun D σ H h => by
  obtain ⟨G, P, ρ, t, k, S, hw, lk, hn, _⟩ := h
  obtain ⟨ds, x, y, j, l, u, v, e1, e2, e3, e4, e5, e6, e7, q⟩ := hw
  obtain ⟨p, u0, xs, f1, f2, c0, ra, _⟩ := S.ow i _ e1
  obtain rfl : u0 = .lst xs := c0
  have ra : RpA (kX X) H P (Mx G.F P ρ σ) ds xs := ra
  obtain ⟨vx, g1, g2⟩ := S.im a _ e2
  obtain ⟨vy, g3, g4⟩ := S.im b _ e3
  rw [Rp] at g2 g4
  subst g2 g4
  rw [ra.length] at e4 e5
  obtain ⟨u', r1, r2⟩ := ra.get e6
  obtain ⟨v', r3, r4⟩ := ra.get e7
  have a1 : atI xs x = some u' := by unfold atI; rw [e4]; exact r1
  have a2 : atI xs y = some v' := by unfold atI; rw [e5]; exact r3
  refine ⟨_, f1, _, g3, p, xs, y, v', rfl, rfl, .of f2, a2, _, f1, _, g1, p, xs, x, u', rfl, rfl, .of f2, a1, (by show 2 ≤ sizeLine; decide), fun T nT => ?_⟩
  have S1 := S.grow (kp_upd (o := .tup [v', u']) nT)
  have pT : p ≠ T := ne_of_none f2 nT
  have f3 : (upd H T (.tup [v', u'])) p = some (.lst xs) := by rw [upd_ne pT]; exact f2
  have ra1 : RpA (kX X) (upd H T (.tup [v', u'])) P (Mx G.F P ρ σ) ds xs := ra.mo (.grow (kp_upd nT))
  have w1 := r2.mo (.grow (kp_upd (o := .tup [v', u']) nT))
  have w2 := r4.mo (.grow (kp_upd (o := .tup [v', u']) nT))
  obtain ⟨S2, m2⟩ := S1.own (ds' := .l (ds.set j v)) (w := .lst (xs.set j v')) e1 f1 rfl (ra1.set j w2)
  have hi : i < ρ.length := (List.getElem?_eq_some_iff.mp e1).1
  have s2 : (ρ.set i (.ow (.l (ds.set j v))))[i]? = some (.ow (.l (ds.set j v))) := List.getElem?_set_self hi
  have ra2 : RpA (kX X) _ P (Mx G.F P (ρ.set i (.ow (.l (ds.set j v)))) σ) (ds.set j v) (xs.set j v') := (ra1.set j w2).mo m2
  obtain ⟨S3, _⟩ := S2.own (ds' := .l ((ds.set j v).set l u)) (w := .lst ((xs.set j v').set l u')) s2 f1 rfl (ra2.set l (w1.mo m2))
  rw [List.set_set] at S3
  have ub : upd (upd (upd H T (.tup [v', u'])) p (.lst (xs.set j v'))) p (.lst ((xs.set j v').set l u')) = upd (upd (upd H T (.tup [v', u'])) p (.lst (xs.set j v'))) p (.lst ((xs.set j v').set l u')) := rfl
  exact ⟨T, [v', u'], rfl, .of upd_same, rfl, v', [u'], rfl, _, f1, _, g1, p, xs, x, j, rfl, rfl, f3, e4, u', [], rfl, _, f1, _, g3, p, xs.set j v', y, l, rfl, rfl, upd_same, by rw [set_len]; exact e5, rfl, hn _ _ _ _ P q S3⟩
end
end NB
set_option Elab.async false
set_option linter.all false
set_option maxRecDepth 100000
set_option maxHeartbeats 4000000
set_option autoImplicit false
/-! len(set(xs)) of texts. -/
namespace NB
open PySem PySem.Spec PyProof.Rows L2

/-- how many different ones among the first -/
def dn (zs : List Str) : Nat → Nat
  | 0 => 0
  | i + 1 => if (zs.getD i Str.empty) ∈ zs.take i then dn zs i else dn zs i + 1
theorem dn_le (zs : List Str) : ∀ i, dn zs i ≤ i
  | 0 => Nat.le_refl _
  | i + 1 => by
    have := dn_le zs i
    rw [dn]
    split <;> omega
section
variable {P : Program} {w : World} {A : Around} {E : Value → Shared → Prop} {s : Shared}
theorem strs_loop {I : Addr} {fp wr : List Addr} {G : Array GenState → Array GenState → Prop} {n : Nat} {Pv : Nat → Value → Prop} {St : Nat → Shared → Prop} {R : Result → Shared → Prop}
    (W : WalksS P w A.in1 I fp wr G n Pv St) (T : Addr) (hT : T ∉ fp) (zs : List Str) (hn : n = zs.length) (few : n + 1 < scanBound) (hval : ∀ i v, Pv i v → ∃ t, v = .str (zs.getD i Str.empty) t) :
    ∀ (k i : Nat) (s : Shared), n - i = k → i ≤ n → St i s → s.heap.SetOf (PySem.strKind P w) T (fun z => decide (z ∈ zs.take i)) (dn zs i) →
      (∀ s', Moved (T :: wr) G s s' → s'.heap.SetOf (PySem.strKind P w) T (fun z => decide (z ∈ zs.take n)) (dn zs n) → R (.ok (.ret .none)) s') →
      codeAny (model P w) A (.builtin "set.update.loop" ⟨[.ref T, .ref I], []⟩) R s := by
  have tw : T ∉ wr := fun h => hT (W.sub _ h)
  have more : ∀ b ∈ wr, b ∈ T :: wr := fun b hb => List.mem_cons_of_mem _ hb
  intro k
  induction k with
  | zero =>
    intro i s e1 e2 st hS hR
    obtain rfl : i = n := by omega
    refine codeAny_builtin PyProof.Rows.F.entry_set_update_loop ?_
    rw [Around.under_plainId PyProof.Rows.F.plain_set_update_loop _]
    show wpAny _ A.in1 (pyNext (.ref I) >>= _) _ _ s
    refine wpAny_bind (W.done s _ _ st fun s' hm => ?_)
    show wpAny _ A.in1 (ret Value.none) _ _ s'
    obtain ⟨o, es, ep, t, ho, rest⟩ := hS
    exact wpAny_pure (hR s' (hm.mono more) ⟨o, es, ep, t, hm.heap T _ tw ho, rest⟩)
  | succ k ih =>
    intro i s e1 e2 st hS hR
    have lt : i < n := by omega
    refine codeAny_builtin PyProof.Rows.F.entry_set_update_loop ?_
    rw [Around.under_plainId PyProof.Rows.F.plain_set_update_loop _]
    show wpAny _ A.in1 (pyNext (.ref I) >>= _) _ _ s
    refine wpAny_bind (W.item i s _ _ lt st fun v s' hP st' hm => ?_)
    obtain ⟨t, rfl⟩ := hval i v hP
    obtain ⟨o, es, ep, tb, ho, rest⟩ := hS
    have hS' : s'.heap.SetOf (PySem.strKind P w) T (fun z => decide (z ∈ zs.take i)) (dn zs i) := ⟨o, es, ep, tb, hm.heap T _ tw ho, rest⟩
    show wpAny _ A.in1 (holding [Value.str (zs.getD i Str.empty) t] (setAdd T (.str (zs.getD i Str.empty) t)) >>= _) _ _ s'
    refine wpAny_bind (wpAny_holding ?_)
    unfold setAdd
    refine wpAny_holding ?_
    refine wpAny_bind ((PySem.strKind P w).pyHash (k := zs.getD i Str.empty) (strKind_is _ _ _ _) ?_)
    have room : dn zs i + 1 < scanBound := by have := dn_le zs i; omega
    refine wpAny_setAddHashed_of (knd := PySem.strKind P w) (s := { s' with toks := s'.toks + 1 }) (strKind_is _ _ _ _) rfl hS' room fun h' sb hS2 => ?_
    have iz : i < zs.length := by omega
    have tk : zs.take (i + 1) = zs.take i ++ [zs.getD i Str.empty] := by
      rw [List.take_add_one, List.getD_eq_getElem?_getD, List.getElem?_eq_getElem iz]
      rfl
    have hS3 : h'.SetOf (PySem.strKind P w) T (fun z => decide (z ∈ zs.take (i + 1))) (dn zs (i + 1)) := by
      refine PyProof.Rows.SetOf_congr hS2 (fun z => ?_) ?_
      · rw [tk]
        by_cases h1 : z ∈ zs.take i <;> by_cases h2 : z = zs.getD i Str.empty <;> simp [h1, h2]
      · rw [dn]
        by_cases h1 : zs.getD i Str.empty ∈ zs.take i <;> simp [h1]
    refine wpAny_pure ⟨plainId_quiet PyProof.Rows.F.plain_set_update_loop _, ih (i + 1) _ (by omega) lt (W.frame _ s' _ _ st' (Nat.le_add_right _ _) fun b hb o e => ?_) hS3 fun s'' hm2 hS4 => hR s'' (Moved.trans W.gtrans ((hm.mono more).then_heap (Nat.le_add_right _ _) fun b o hb e => ?_) hm2) hS4⟩
    · rw [sb.2 b (fun h : b = T => hT (h ▸ hb))]; exact e
    · rw [sb.2 b (fun h : b = T => hb (h ▸ List.mem_cons_self))]; exact e
end
end NB
set_option Elab.async false
set_option linter.all false
set_option maxRecDepth 100000
set_option maxHeartbeats 4000000
set_option autoImplicit false
/-! len(set(xs)) of a list of texts. -/
namespace NB
open PySem PySem.Spec PyProof.Rows L2

section
variable {P : Program} {w : World} {A : Around} {E : Value → Shared → Prop} {s : Shared}
/-- a set of the texts of a list -/
theorem setOf_texts {l : Addr} {its : Array Value} (zs : List Str) {Q : Value → Shared → Prop} (hh : A.handled = none) (hl : s.heap.IsList l its) (hit : StrsAre its.toList zs) (few : zs.length ≤ 1000)
    (h : ∀ (h' : Heap) (tk : Nat), h'.SetOf (PySem.strKind P w) s.heap.objs.size (fun z => decide (z ∈ zs.take zs.length)) (dn zs zs.length) → (∀ b o, s.heap.get? b = some o → h'.get? b = some o) → Q (.ref s.heap.objs.size) { s with heap := h', toks := tk }) :
    wpAny (model P w) A (call (.type "set") [.ref l]) Q E s := by
  have len : its.size = zs.length := by
    rw [← PyProof.Rows.strs_len_eq hit, Array.length_toList]
  obtain ⟨c, tl, mro⟩ := F.called_set.mro
  have made := F.called_set.made
  have sub := F.called_set.sub
  have f1 := F.called_set.notType
  have f2 := F.called_set.canCreate
  have f3 := F.typeCall_set_1 (.ref l)
  refine wpAny_call (codeAny_of_tree ?_)
  show wpAny _ _ (callAny (.type "set") _) _ _ _
  refine wpAny_pure ⟨Code.quiet_builtin _ (by decide +kernel), codeAny_builtin F.entry_type_call ?_⟩
  rw [Around.under_plain (weight_type_call_type "set" [.ref l] []) rfl]
  repeat (any_goals (first | assumption | wp_step))
  refine codeAny_mono (code_set_led1 (.ref l) (E := E) (Q₁ := fun z s1 => z = .ref s.heap.objs.size ∧ s1 = { s with heap := s.heap.push (set0 w) }) ⟨rfl, rfl⟩) ?_
  intro r s1 hr
  match r, hr with
  | .error _, hr => exact hr
  | .ok .next, hr => exact hr.elim
  | .ok .brk, hr => exact hr.elim
  | .ok .cont, hr => exact hr.elim
  | .ok (.ret z), hr =>
    obtain ⟨rfl, rfl⟩ := hr
    have gS : (s.heap.push (set0 w)).get? s.heap.objs.size = some (set0 w) := Heap.get?_push_size _ rfl
    have tS : Shared.TypeIs { s with heap := s.heap.push (set0 w) } (.ref s.heap.objs.size) "set" := ⟨_, gS, rfl⟩
    have i1 := F.called_set.init.lookup
    have i2 := F.called_set.init.bind (.ref s.heap.objs.size)
    repeat (any_goals (first | assumption | wp_step))
    refine codeAny_mono (codeAny_call_builtin (R := wants (fun z s2 => z = .none ∧ ∃ h' tk, s2 = { s with heap := h', toks := tk } ∧ h'.SetOf (PySem.strKind P w) s.heap.objs.size (fun z => decide (z ∈ zs.take zs.length)) (dn zs zs.length) ∧ (∀ b o, s.heap.get? b = some o → h'.get? b = some o)) E)
      F.called_set.init.plain F.entry_set_init (check_set_init_1 tS ?_)) ?_
    · obtain ⟨⟨oc, od, odt, os⟩, gl, hc, n, hd⟩ := hl
      simp only at hc hd
      subst hc
      subst hd
      have gl' : (s.heap.push (set0 w)).get? l = some { cls := .type "list", dict := od, data := .seq its n, slots := os } := Heap.get?_push_of_some _ gl
      have n1 := F.sub_list_set
      have n2 := F.sub_list_frozenset
      have n3 : (Value.type "list" == Value.type "dict") = false := by decide
      have tl1 : (s.heap.push (set0 w)).IsList l its := ⟨_, gl', rfl, n, rfl⟩
      unfold Builtin.«set.__init__» noKeywords Builtin.Frozenset.updateFrom
      generalize hPI : pyIter = PI
      wp_walk
      subst hPI
      refine wpAny_pyIter_list tl1 (wpAny_bind (wpAny_runValue ?_))
      have lt : l < s.heap.objs.size := Heap.lt_size gl
      have h3 : A.in1.in1.in1.handled = none := by simp [hh]
      have ne1 : l ≠ (s.heap.push (set0 w)).objs.size := by
        rw [Heap.size_push]
        exact Nat.ne_of_lt (Nat.lt_succ_of_lt lt)
      have ne2 : s.heap.objs.size ∉ [(s.heap.push (set0 w)).objs.size, l] := by
        rw [Heap.size_push]
        intro q
        rcases List.mem_cons.mp q with q | q
        · exact absurd q (Nat.ne_of_lt (Nat.lt_succ_self _))
        · exact absurd (List.mem_singleton.mp q) (Nat.ne_of_gt lt)
      have at_ : ∀ (i : Nat) (v : Value), its[i]? = some v → ∃ t, v = .str (zs.getD i Str.empty) t := fun i v hv => SS.strs_at hit i v (by rw [Array.getElem?_toList]; exact hv)
      have lim : its.size + 1 < scanBound := by
        rw [len]
        unfold scanBound
        omega
      refine strs_loop ((Walks.list h3 _ l ne1 its).toS) s.heap.objs.size ne2 zs len lim at_ (its.size - 0) 0 _ (by omega) (Nat.zero_le _) ⟨⟨_, Heap.get?_push_size _ rfl, rfl, rfl⟩, tl1.push _⟩ ?w1 ?w2
      case w1 => exact PyProof.Rows.SetOf_congr ((PyProof.Rows.setObjOf_fresh (knd := PySem.strKind P w) (!w.params.followText "set-order")).setOf (Heap.get?_push_of_some _ gS) (by unfold scanBound; omega)) (fun _ => rfl) rfl
      case w2 =>
        intro s' hm hS'
        obtain ⟨h', gens', d', tk', os'⟩ := s'
        obtain rfl : gens' = s.gens := hm.gens
        obtain rfl : d' = s.drawn := hm.drawn
        obtain rfl : os' = s.os := hm.os
        rw [len] at hS'
        show wpAny _ _ _ _ _ _
        refine wpAny_pure ?_
        show wpAny _ _ (ret Value.none) _ _ _
        refine wpAny_pure ⟨rfl, h', tk', rfl, hS', fun b o e => ?_⟩
        have b0 := Heap.lt_size e
        refine hm.heap b o (fun q => ?_) (Heap.get?_push_of_some _ (Heap.get?_push_of_some _ e))
        rcases List.mem_cons.mp q with q | q
        · exact absurd q (Nat.ne_of_lt b0)
        · have q := List.mem_singleton.mp q
          rw [Heap.size_push] at q
          exact absurd q (Nat.ne_of_lt (Nat.lt_succ_of_lt b0))
    · intro r2 s2 hr2
      match r2, hr2 with
      | .error _, hr2 => exact hr2
      | .ok .next, hr2 => exact hr2.elim
      | .ok .brk, hr2 => exact hr2.elim
      | .ok .cont, hr2 => exact hr2.elim
      | .ok (.ret z), hr2 =>
        obtain ⟨rfl, h', tk, rfl, hS', hk'⟩ := hr2
        repeat (any_goals (first | assumption | wp_step))
        exact h _ _ hS' hk'
end
/-- texts alone -/
def strsD : List D → Option (List Str)
  | [] => some []
  | .str z :: ds => (strsD ds).map fun zs => z :: zs
  | _ :: _ => none
theorem strsD_some : ∀ {ds : List D} {zs : List Str}, strsD ds = some zs → ds = zs.map .str
  | [], zs, h => by rw [strsD] at h; cases h; rfl
  | .str z :: ds, zs, h => by
    rw [strsD] at h
    obtain ⟨l, h1, h2⟩ := Option.map_eq_some_iff.mp h
    subst h2
    rw [List.map_cons, ← strsD_some h1]
  | .non :: _, _, h => by simp [strsD] at h
  | .bl _ :: _, _, h => by simp [strsD] at h
  | .int _ :: _, _, h => by simp [strsD] at h
  | .tup _ :: _, _, h => by simp [strsD] at h
  | .lst _ :: _, _, h => by simp [strsD] at h
  | .pot :: _, _, h => by simp [strsD] at h
  | .scr _ :: _, _, h => by simp [strsD] at h
  | .exc _ _ :: _, _, h => by simp [strsD] at h
theorem ra_strs_inv {K : KF} {H : Hp} {P M : PA1} : ∀ {zs : List Str} {xs : List V}, RpA K H P M (zs.map .str) xs → xs = zs.map V.str
  | [], xs, h => by rw [List.map_nil, RpA] at h; exact h
  | z :: zs, xs, h => by
    rw [List.map_cons] at h
    obtain ⟨x, r, rfl, h1, h2⟩ := h.cons_inv
    rw [Rp] at h1
    rw [h1, ra_strs_inv h2]
    rfl
def lenSetW (a : WO) : W := fun ρ t Q E => a ρ t (fun x ρ1 t1 => ∃ d ds zs, rsv ρ1 x = some d ∧ d.ls = some ds ∧ strsD ds = some zs ∧ zs.length ≤ 1000 ∧ Q (.im (.int (dn zs zs.length : Nat))) ρ1 t1) E
def tLenSetS (K : KF) (ta : TE) : TE := fun σ H Q => ta σ H fun x H1 => ∃ (l : Addr) (zs : List Str), x = .ref l ∧ SqL K H1 l (zs.map V.str) ∧ zs.length ≤ 1000 ∧ Q (.int (dn zs zs.length : Nat)) H1
section
variable {X : Cx} {EX : XX} {e : Expr} {ta : TE} {wa : WO} {p p1 pos pos1 : Pos}
theorem pe_lenSetS (hc : X.calm = true) (hg : Gl X "len") (hm : X.mg "len" = none) (hg1 : Gl X "set") (hm1 : X.mg "set" = none) (ha : PE X e ta) (he : starEach [e] X.env = (false, eval e X.env) :: starEach [] X.env := by rfl) :
    PE X (.Call (.Name "len" p) [.Call (.Name "set" p1) [e] [] pos1] [] pos) (tLenSetS (kX X) ta) := by
  constructor
  intro pins s σ H Q I h
  refine Call_ (ld_blt I hg hm PySem.boot_len ?_)
  refine PyProof.Rows.callWith_builtin1 (PyProof.Rows.args_cons ?_ rfl) rfl rfl
  refine Call_ (ld_blt I hg1 hm1 PyProof.Rows.boot_set ?_)
  refine PyProof.Rows.callWith_type1 (PyProof.Rows.args_cons (thn (ha.run pins s σ H _ I h) ?_) he) he rfl
  rintro v s1 ⟨x, H1, I1, r1, l, zs, rfl, sq, few, q⟩
  obtain rfl : v = .ref l := r1
  refine PyProof.Rows.args_nil ?_
  obtain ⟨its, rv, pl, hz⟩ := I1.list sq
  refine setOf_texts (P := X.prog) (w := X.w) zs (I1.ok.hd hc) pl.isList (by simpa using strsAre_of rv) few fun h' tk hS hk => PyProof.Rows.args_nil ?_
  obtain ⟨o, es, ep, t, ho, hex, hd, _, _, _, hf, hn⟩ := hS
  have I2 : Inv X pins σ H1 { s1 with heap := h', toks := tk } := I1.kept hk
  have dl := dn_le zs zs.length
  exact call_len_set ho hex hd hf (by rw [hn]; omega) ⟨.int (dn zs zs.length : Nat), H1, I2.tok _, ⟨_, by rw [hn]⟩, q⟩
theorem de_lenSet (hc : X.calm = true) (hg : Gl X "len") (hm : X.mg "len" = none) (hg1 : Gl X "set") (hm1 : X.mg "set" = none) (ha : DO X EX e wa) (he : starEach [e] X.env = (false, eval e X.env) :: starEach [] X.env := by rfl) :
    DE X EX (.Call (.Name "len" p) [.Call (.Name "set" p1) [e] [] pos1] [] pos) (lenSetW wa) := PE.imp (pe_lenSetS hc hg hm hg1 hm1 ha he) fun σ H Q h => by
  obtain ⟨G, P, ρ, t, Q', E, S, hw, lk, hq⟩ := h
  refine ⟨G, P, ρ, t, _, E, S, hw, lk, fun o ρ1 t1 x H1 P1 h1 r1 => ?_⟩
  obtain ⟨d, ds, zs, e1, e2, e3, few, q⟩ := h1
  have S1 := r1.sat
  obtain ⟨l, xs, rfl, sq, ra⟩ := (rsv_ok S1 r1 e1).ls e2
  rw [strsD_some e3] at ra
  rw [ra_strs_inv ra] at sq
  exact ⟨l, zs, rfl, sq, few, hq _ _ _ _ _ P1 q ⟨S1, rp_int⟩⟩
end
end NB
set_option Elab.async false
set_option linter.all false
set_option maxRecDepth 100000
set_option maxHeartbeats 4000000
set_option autoImplicit false
/-! Exceptions of the package: an exception that is kept behind its except clause. -/
namespace NB
open PySem PySem.Spec PyProof.Rows L2

section
variable {X : Cx} {pins : List (Addr × Obj)} {σ : St} {H : Hp} {s : Shared}
/-- an object that is held is tracked from now on -/
theorem inv_track {a : Addr} {oe : Obj} {o : HO} (I : Inv X ((a, oe) :: pins) σ H s) (h0 : X.s_0.heap.get? a = none) (hp : ∀ p ∈ X.pn ++ pins, p.1 ≠ a) (new : ObjOk X.prog X.w (upd H a o) s.heap a o) : Inv X pins σ (upd H a o) s := by
  obtain ⟨ga, na, nl, nf, nc⟩ := I.pin (a, oe) (List.mem_append_right _ List.mem_cons_self)
  have off : ∀ {b : Addr} {u : HO}, H b = some u → b ≠ a := fun {b u} e z => by
    rw [z, show H a = none from na] at e
    cases e
  refine ⟨I.ok, I.os, I.bare, ⟨I.base.keep, I.base.slot, fun b u e n hx => ?_, I.base.there, fun b xs e => ?_, fun b u v e => ?_, fun b ps e => ?_⟩, I.loc, I.cell, ?_, fun y c e => ?_, fun p h => ?_, fun b u e => ?_, I.len⟩
  · rw [upd_ne fun z => by rw [z, h0] at e; cases e]
    exact I.base.free b u e n hx
  · have q := I.base.tups b xs e
    rw [upd_ne (off q)]
    exact q
  · have q := I.base.frzs b u v e
    rw [upd_ne (off q)]
    exact q
  · obtain ⟨m, q⟩ := I.base.tbls b ps e
    exact ⟨m, by rw [upd_ne (off q)]; exact q⟩
  · rw [upd_ne (Ne.symm nl)]
    exact I.free
  · rw [upd_ne fun z => ?_]
    · exact I.freeC y c e
    · obtain ⟨v, oc, g, d⟩ := I.cell y c e
      rw [z, show s.heap.get? a = some oe from ga] at g
      cases g
      exact nc v d
  · have hm : p ∈ X.pn ++ (a, oe) :: pins := by
      rcases List.mem_append.mp h with q | q
      · exact List.mem_append_left _ q
      · exact List.mem_append_right _ (List.mem_cons_of_mem _ q)
    obtain ⟨q1, q2, q3⟩ := I.pin p hm
    exact ⟨q1, by rw [upd_ne (hp p h)]; exact q2, q3⟩
  · by_cases hb : b = a
    · subst hb
      rw [upd_same] at e
      cases e
      exact new
    · rw [upd_ne hb] at e
      exact (I.hok b u e).stay (fun _ _ _ q => q) (fun c q => by rw [upd_ne (off q)]; exact q) fun c xs q => by rw [upd_ne (off q)]; exact q
/-- behind the suite the exception is still held -/
theorem inv_unsuite {a : Addr} {q : Addr × Obj} (I : Inv (X.suite a (q :: (X.pn ++ pins))) [] σ H s) (ok : X.Ok) : Inv X (q :: pins) σ H s :=
  ⟨ok, I.os, I.bare, I.base, I.loc, I.cell, I.free, I.freeC, fun p hp => by
    refine I.pin p (List.mem_append_left _ ?_)
    rcases List.mem_append.mp hp with h | h
    · exact List.mem_cons_of_mem _ (List.mem_append_left _ h)
    · rcases List.mem_cons.mp h with e | h
      · rw [e]; exact List.mem_cons_self
      · exact List.mem_cons_of_mem _ (List.mem_append_right _ h), I.hok, I.len⟩
end
theorem exV_ok {P : Program} {w : World} {H : Hp} {h : Heap} {a C x : Addr} {oe : Obj} {vs : Array Value} (e : h.get? a = some oe) (z : Zc (.ref C) (some x) oe) (d : oe.data = .fields vs) : ObjOk P w H h a (ExV C x a) :=
  ⟨⟨oe, vs, e, z, d⟩, ⟨oe, e⟩, fun _ _ ⟨o, v, q, r⟩ k => ⟨o, v, k o q, r⟩⟩
/-- what «except x as n: suite» wishes, the exception kept by the suite -/
def wKeep (K : PySem.W.Frag) (c : Value) (i : Nat) (ts : Addr → Value → Option Addr → TS) (D : Ends) : WX := fun cls d σ H =>
  PySem.W.exmOne K cls c = some true ∧ ∃ C x : Addr, cls = .ref C ∧ d = some x ∧ ∀ a, H a = none →
    ts a cls d { nx := fun σ' H' => H' a = none ∧ D.nx (σ'.set i none) (upd H' a (ExV C x a)), rt := fun _ _ => False, bk := fun _ _ => False, ct := fun _ _ => False } (σ.set i (some (.ref a))) H
section
variable {X : Cx} {x n : Str} {c : Value} {i : Nat} {body suite : List Stmt} {b0 : Stmt} {np pos pos' : Pos} {tb : WX → TS} {ts : Addr → Value → Option Addr → TS}
theorem ps_try_keep (hs : X.stack = X.env :: X.outer) (hf : X.env.frame = some X.env.locals) (hN : X.N.Nodup) (hi : X.N[i]? = some n) (hln : X.env.kindOf n = some .local) (hc : Names X x c) (hex : X.ex = [])
    (hb : ∀ (W : WX) (pn : List (Addr × Obj)) (xe : Value → Shared → Prop), Takes (X.tr pn xe) W → PassesOwn (model X.prog X.w) X.A X.env xe → PSs (X.tr pn xe) body (tb W))
    (hsu : ∀ (a : Addr) (oe : Obj) (cls : Value) (d : Option Addr) (pn : List (Addr × Obj)), Zc cls d oe → (∃ vs, oe.data = .fields vs) → PSs (X.suite a ((a, oe) :: pn)) (b0 :: suite) (ts a cls d)) :
    PS X (.Try body [.ExceptHandler (some (.Name x np)) (some n) (b0 :: suite) pos'] [] [] pos) (fun D σ H => tb (wKeep X.K c i ts D) D σ H) := by
  constructor
  intro pins s0 σ0 H0 D I0 want
  have ok := I0.ok
  have frames : X.A.frames = some (X.env :: X.outer) := ok.frames.trans (congrArg some hs)
  let landing : Value → Shared → Prop := fun e s1 => wpAny (model X.prog X.w) X.A (noteFrame e X.env) (fun _ s2 => wpAny (model X.prog X.w) X.A (setFlight e none) (fun _ s3 =>
    wpAny (model X.prog X.w) X.A (handleBy e X.env [.ExceptHandler (some (.Name x np)) (some n) (b0 :: suite) pos']) (SP X pins D) X.xe s3) X.xe s2) X.xe s1
  have caught : Takes (X.tr (X.pn ++ pins) landing) (wKeep X.K c i ts D) := by
    rintro u s1 ⟨a, B, sI, pins1, σ1, H1, cls, d, rfl, J0, inB, up, sky, na, os1, ag1, hm, C, dx, rfl, rfl, go⟩
    have J : Inv X pins σ1 H1 sI := J0.ofTry ok
    have sky' : Sky B (X.env :: X.outer) a (Zc (.ref C) (some dx)) X.env.locals s1.heap := hs ▸ sky
    show wpAny (model X.prog X.w) X.A (noteFrame (.ref a) X.env) _ _ _
    refine Sky.land Zc.steady frames hf sky' fun hA flA upA => ?_
    have JA : Inv X pins σ1 H1 { s1 with heap := hA } := J.landed inB flA.1 (up.trans upA) os1 ag1
    obtain ⟨oA, vA, gA, zA, dA⟩ := flA.there
    have away : ∀ {h : Heap} {o : Obj} {vs : Array Value}, h.FunFrames B (X.env :: X.outer) → h.get? a = some o → o.data = .fields vs → a ∉ frs (X.env :: X.outer) := fun {h o vs} ff g dd hm => by
      obtain ⟨_, o2, g2, no⟩ := ff.mem hm
      rw [g] at g2
      cases g2
      exact no _ dd
    have naFr := away flA.2.2.1 gA dA
    have nL : a ≠ X.env.locals := fun z => naFr (List.mem_filterMap.mpr ⟨X.env, List.mem_cons_self, hf.trans (congrArg some z.symm)⟩)
    have nF : a ∉ X.fs := fun hm => by
      obtain ⟨e, he, q⟩ := List.mem_filterMap.mp hm
      exact naFr (List.mem_filterMap.mpr ⟨e, List.mem_cons_of_mem _ he, q⟩)
    have nB : B.get? a = none := flA.2.1
    /- what stood at the entry, and what is held, is no exception of now -/
    have n0 : X.s_0.heap.get? a = none := by
      cases e : X.s_0.heap.get? a with
      | none => rfl
      | some o =>
        obtain ⟨o2, e2⟩ := J.base.there a o e (by rw [hex]; exact fun z => nomatch z)
        have := inB a o2 e2 (by rw [hs]; exact naFr)
        rw [nB] at this
        cases this
    have nP : ∀ p ∈ X.pn ++ pins, p.1 ≠ a := fun p hp z => by
      obtain ⟨q1, _⟩ := J.pin p hp
      have := inB p.1 p.2 q1 (by rw [hs, z]; exact naFr)
      rw [z, nB] at this
      cases this
    have SA := JA.suite gA dA na nL nF
    refine wpAny_handleBy_cons (codeAny_handlers_test ?_) (by intro q; cases q)
    have LT : PySem.W.Looks (model X.prog X.w) hA (typeOf (.ref a)) (.ref C) := fun A' Q' E' s' k q => wpAny_typeOf_ref (k _ _ gA) (by rw [zA.1]; exact q)
    have LM := PySem.W.exm_one (M := model X.prog X.w) JA.kIn LT hm
    have test : ∀ {Q' : Value → Shared → Prop} {E' : Value → Shared → Prop}, Q' c { s1 with heap := hA } → wpAny (model X.prog X.w) (X.A.mark (some (.ref a))) (eval (.Name x np) X.env) Q' E' { s1 with heap := hA } := fun {Q' E'} q => by
      obtain ⟨g1, g2, g3 | ⟨g3, g4, g5⟩⟩ := hc
      · exact ld_glob (X := X.suite a ((a, oA) :: (X.pn ++ pins))) SA g1 g3 q g2
      · exact ld_blt (X := X.suite a ((a, oA) :: (X.pn ++ pins))) SA g1 g3 g4 q g5 g2
    refine test (LM.here (codeAny_handlers_suite_as (HandSPX.lands_againZ flA fun hB flB upB => ?_)))
    have JB : Inv X pins σ1 H1 { s1 with heap := hB } := J.landed inB flB.1 ((up.trans upA).trans upB) os1 ag1
    obtain ⟨oB, vB, gB, zB, dB⟩ := flB.there
    have SB := JB.suite gB dB na nL nF
    refine store_ok (X := X.suite a ((a, oB) :: (X.pn ++ pins))) (v := .ref a) SB hN hi (.inl hln) rfl (fun s5 S5 => ?_) (.inr hln)
    refine wpAny_mono ((hsu a oB (.ref C) (some dx) (X.pn ++ pins) zB ⟨_, dB⟩).run [] s5 _ H1 _ S5 (go a na)) (fun f s6 hsp => ?_) (fun _ _ z => False.elim z)
    cases f with
    | next =>
      obtain ⟨σ6, H6, S6, n6, q6⟩ := hsp
      refine gone_ok (inv_unsuite S6 ok) hN hi hln fun s7 J7 => ⟨_, _, inv_track J7 n0 nP ?_, q6⟩
      obtain ⟨g7, _⟩ := J7.pin (a, oB) (List.mem_append_right _ List.mem_cons_self)
      exact exV_ok g7 zB dB
    | brk =>
      obtain ⟨_, _, _, z⟩ := hsp
      exact z.elim
    | cont =>
      obtain ⟨_, _, _, z⟩ := hsp
      exact z.elim
    | ret u =>
      obtain ⟨_, _, _, _, _, z⟩ := hsp
      exact z.elim
  refine wpAny_Try_except (wpAny_mono ((hb (wKeep X.K c i ts D) (X.pn ++ pins) landing caught PassesOwn.looking).run [] s0 σ0 H0 D (I0.toTry _) want) (fun f s1 hsp => ?_) fun e s1 he => he)
  cases f with
  | next =>
    obtain ⟨σ1, H1, J1, q⟩ := hsp
    exact wpAny_execs_nil ⟨σ1, H1, J1.ofTry ok, q⟩
  | brk =>
    obtain ⟨σ1, H1, J1, q⟩ := hsp
    exact ⟨σ1, H1, J1.ofTry ok, q⟩
  | cont =>
    obtain ⟨σ1, H1, J1, q⟩ := hsp
    exact ⟨σ1, H1, J1.ofTry ok, q⟩
  | ret u =>
    obtain ⟨v, σ1, H1, J1, r, q⟩ := hsp
    exact ⟨v, σ1, H1, J1.ofTry ok, r, q⟩
end
end NB
set_option Elab.async false
set_option linter.all false
set_option maxRecDepth 100000
set_option maxHeartbeats 4000000
set_option autoImplicit false
/-! A lambda without parameters that is heard: what it raises is kept. -/
namespace NB
open PySem PySem.Spec PyProof.Rows L2

/-- the context of the def that got the lambda -/
abbrev hCx (X : Cx) (Ng : List Str) (x : Str) (sg : Scope) (g : Addr) (cdg : Value) (s : Shared) (H : Hp) : Cx := cxOf CX0 X.prog X.w X.K X.mg X.base Ng x sg g cdg X.A X.stack s H E0
section
variable {X : Cx} {pins : List (Addr × Obj)} {σ : St} {H : Hp} {s : Shared}
/-- the call of the lambda in that def; its exceptions are wished at the very slots -/
theorem pe_actK {Ng : List Str} {xg : Str} {sg : Scope} {g f c' : Addr} {cdg pm ctv : Value} {params : Arguments} {body : Expr} {scope : Scope} {k i : Nat} {a : Str} {pn : List (Addr × Obj)} {xe : Value → Shared → Prop} {W : WX} {t : XK → TE} {p1 p2 : Pos}
    (I : Inv X pins σ H s) (L : LamX.LamS X.env.scope scope) (hf : s.heap.get? f = some (PySem.W.kla_obj "<lambda>" (X.env.qual ++ "<lambda>") params body scope (cloFrom X.env.cells scope.names []) pm c' ctv)) (hfn : H f = none) (hfr : f ∉ frs X.stack)
    (hbind : bindArgs (PySem.W.kla_fn "<lambda>" (X.env.qual ++ "<lambda>") params body scope (cloFrom X.env.cells scope.names []) pm (.ref c') ctv) ⟨[], []⟩ = pure [])
    (tk : Takes ((hCx X Ng xg sg g cdg s H).tr pn xe) W) (hr : Room (k + 1) (X.A.deeper (envOfC xg sg s.heap.objs.size g cdg)))
    (hbody : ∀ (A : Around) (outer : List Env) (s : Shared) (H : Hp) (E : XK), Room k (A.deeper (LamX.lamEnv X scope s.heap.objs.size f c')) → A.guards = X.A.guards → PE (LamX.lamCx X A outer s H E scope f c') body (t E))
    (hN : Ng[i]? = some a) (hv : Vis sg a) (hd : (a == ("__debug__" : Str)) = false) (hcd : (a == ("__classdict__" : Str)) = false) :
    PE ((hCx X Ng xg sg g cdg s H).tr pn xe) (.Call (.Name a p1) [] [] p2)
      (fun σZ HZ Q => σZ[i]? = some (some (.ref f)) ∧ HZ c' = some (LamX.CodeO c' (X.env.qual ++ "<lambda>")) ∧ ∃ (E : XK) (Q' : VK), (∀ v H', Q' v H' → Q v H') ∧ (∀ cls d H', E cls d H' → W cls d σZ H') ∧ t E σ HZ Q') := by
  constructor
  rintro pz sz σZ HZ Q0 IZ ⟨at_, co, E, Q, hQ, hW, ht⟩
  refine wpAny_mono (Q := EP ((hCx X Ng xg sg g cdg s H).tr pn xe) pz σZ Q) ?_ (fun u s1 ⟨v, H1, I1, r1, q⟩ => ⟨v, H1, I1, r1, hQ _ _ q⟩) fun _ _ z => z
  refine wpAny_Call_Name_kw (thn ((pe_var (pos := p1) (i := i) hN hv hd hcd).run pz sz σZ HZ (fun v H1 => v = .ref f ∧ H1 = HZ) IZ ⟨.ref f, at_, rfl, rfl⟩) fun u s1 got => ?_)
  obtain ⟨v, H1, I1, r1, ev, eH⟩ := got
  subst ev eH
  cases (show u = Value.ref f from r1)
  have fun_ : s1.heap.get? f = some (PySem.W.kla_obj "<lambda>" (X.env.qual ++ "<lambda>") params body scope (cloFrom X.env.cells scope.names []) pm c' ctv) := I1.base.keep f _ hf hfn hfr fun z => nomatch (show f ∈ ([] : List Addr) from z)
  obtain ⟨⟨oc, us, tt, g1, g2, g3⟩, _, _⟩ := I1.hok c' _ co
  have un : Un (frs X.stack) [] H H1 s.heap s1.heap := I1.base
  have run : codeAny (model X.prog X.w) (X.A.deeper (envOfC xg sg s.heap.objs.size g cdg)) (.call (.ref f) ⟨[], []⟩) (CR (L2.CX X.prog X.w) (envOfC xg sg s.heap.objs.size g cdg :: X.stack) X.prog X.w H1 s1 Q E) s1 := by
    refine PySem.W.kla_callFunE hr.depth fun_ rfl L.co L.gen rfl ⟨c', oc, us, tt, rfl, g1, g2, g3⟩ ?_
    rw [hbind]
    refine wpAny_pure (wpAny_newFunctionEnv (fun y hy => (L.own y hy).2) (fun y hy => absurd hy (by simp)) (fun h1 ns1 same => ⟨I1.nolimit.fresh _ same, ?_⟩) L.kind)
    have stays : ∀ b o, s1.heap.get? b = some o → h1.get? b = some o := fun b o e => same.extBut b o (Nat.ne_of_lt (Heap.lt_size e)) (Heap.get?_push_of_some _ e)
    have J : Inv (LamX.lamCx X (X.A.deeper (envOfC xg sg s.heap.objs.size g cdg)) (envOfC xg sg s.heap.objs.size g cdg :: X.stack) s1 H1 E scope f c') [] σ H1 { s1 with heap := h1, toks := s1.toks + ([] : List (Str × Value)).length } :=
      LamX.lam_start2 I L I1.env0 hr.hd un ns1 stays
    refine PySem.W.kla_codeExpr (wpAny_mono ((hbody _ _ s1 H1 E (hr.deeper _) rfl).run [] _ _ H1 Q J ht) (fun v s2 got => ?_) fun e s2 z => z)
    obtain ⟨y, H2, J2, rv, q⟩ := got
    exact ⟨y, H2, J2.os, J2.bare, J2.base, J2.hok, rv, q⟩
  refine PySem.W.callWith_F0 ⟨_, _, _, _, fun_⟩ (wpAny_call (codeAny_mono run fun r s2 got => ?_))
  cases r with
  | error e => exact tk e s2 (XE.of_call I1 hW got)
  | ok fl =>
    cases fl with
    | ret u => exact I1.after got
    | next => exact got.elim
    | brk => exact got.elim
    | cont => exact got.elim
end
/-- the def that hears: what it makes of the lambda's reading -/
def HearsK (X : Cx) (Ng : List Str) (x : Str) (sg : Scope) (g : Addr) (cdg : Value) (bg : List Stmt) (a q : Str) (TT : (XK → Hp → VK → Prop) → Hp → VK → Prop) : Prop :=
  ∀ (f c' : Addr) (s : Shared) (H : Hp) (Q : VK) (tl : XK → Hp → VK → Prop),
    (∀ (W : WX) (pn : List (Addr × Obj)) (xe : Value → Shared → Prop) (p1 p2 : Pos), Takes ((hCx X Ng x sg g cdg s H).tr pn xe) W →
      PE ((hCx X Ng x sg g cdg s H).tr pn xe) (.Call (.Name a p1) [] [] p2) (fun σZ HZ Q => σZ[0]? = some (some (.ref f)) ∧ HZ c' = some (LamX.CodeO c' q) ∧ ∃ (E : XK) (Q' : VK), (∀ v H', Q' v H' → Q v H') ∧ (∀ cls d H', E cls d H' → W cls d σZ H') ∧ tl E HZ Q')) →
    H c' = some (LamX.CodeO c' q) → TT tl H Q →
    ∃ t, PSs (hCx X Ng x sg g cdg s H).nox bg t ∧ t { nx := fun _ H' => Q .non H', rt := Q } (L2.start Ng [.ref f]) H
section
variable {X : Cx}
theorem pe_lamK {T : List (Addr × Str)} {TT : (XK → Hp → VK → Prop) → Hp → VK → Prop} {x a : Str} {g c P : Addr} {k : Nat} {pg : Arguments} {bg : List Stmt} {sg : Scope} {dV kV doc pm cdv ct oc : Value} {an od : Option Addr} {osl : Array (Option Value)} {Ng : List Str}
    {params : Arguments} {body : Expr} {scope : Scope} {t : XK → TE} {p lpos pos : Pos} (hg : Gl X x) (hm : X.mg x = some (.ref g)) (hk : PySem.W.keepIn X.K (.ref g) = true)
    (lk : X.K.lookup g = some ⟨oc, od, .func (PySem.W.fnOf x x pg bg sg dV kV doc pm an cdv ct), osl⟩) (hcg : PySem.W.codeIn X.K cdv x = true) (hb : L2.Binds X.K (PySem.W.fnOf x x pg bg sg dV kV doc pm an cdv ct) [a] []) (Sg : FnScope Ng [a] sg) (hNg : Ng[0]? = some a) (hva : Vis sg a)
    (hG : HearsK X Ng x sg g cdv bg a (X.env.qual ++ "<lambda>") TT) (TB : LamX.TabB X.base X.mg c P) (hcode : X.env.code = .ref c) (hmT : (P, X.env.qual ++ "<lambda>") ∈ T) (hu : ∀ p ∈ T, p.1 = P → p.2 = X.env.qual ++ "<lambda>") (hr : Room (k + 2) X.A) (L : LamX.LamS X.env.scope scope)
    (hdef : defaultsOf params X.env = ([], [])) (hbind : ∀ (q : Str) (cl : List (Str × Addr)) (pm cv ctv : Value), bindArgs (PySem.W.kla_fn "<lambda>" q params body scope cl pm cv ctv) ⟨[], []⟩ = pure [])
    (hbody : ∀ (A : Around) (outer : List Env) (s : Shared) (H : Hp) (E : XK) (f c' : Addr), Room k (A.deeper (LamX.lamEnv X scope s.heap.objs.size f c')) → A.guards = X.A.guards → PE (LamX.lamCx X A outer s H E scope f c') body (t E))
    (hdb : (x == ("__debug__" : Str)) = false := by decide) (hd : (a == ("__debug__" : Str)) = false := by decide) (hcd : (a == ("__classdict__" : Str)) = false := by decide) :
    PE X (.Call (.Name x p) [.Lambda params body scope lpos] [] pos) (LamX.tLam T TT t) := by
  constructor
  rintro pins s σ H Q I ⟨hT, want⟩
  refine wpAny_Call_Name_kw (ld_glob I hg hm (PySem.W.callWith_K (h₀ := X.base) I.ok.mod.kin hk ?_ (by rfl) (by rfl)) hdb)
  show wpAny _ _ (spliced ((false, eval (.Lambda params body scope lpos) X.env) :: backTo pos (starEach [] X.env))) _ _ s
  refine Calls.spliced_cons (LamX.lam_make2 I TB hcode hmT hu hT hdef (L.has I.ok) fun f c' pm' ctv H1 s1 I1 eN T1 hf hfn hfr co => Calls.spliced_nil ⟨I1.kIn, ?_⟩)
  have told : codeAny (model X.prog X.w) X.A (.call (.ref g) ⟨[.ref f], []⟩) (CR CX0 X.stack X.prog X.w H1 s1 Q E0) s1 := by
    refine LamX.run_ofS (N := Ng) (ps := [a]) (us := [.ref f]) (vs := [.ref f]) lk hcg Sg hr I1.env0 (hb s1 [.ref f] I1.kIn rfl) (.cons rfl .nil) rfl fun hr2 => ?_
    obtain ⟨t2, p2, q2⟩ := hG f c' s1 H1 Q (fun E H' Q' => t E σ H' Q') (fun W pn xe p1 p2 tk => pe_actK (i := 0) I1 L hf hfn hfr (hbind _ _ _ _ _) tk hr2 (fun A outer s H E hr3 gd => hbody A outer s H E f c' hr3 gd) hNg hva hd hcd) co (want H1 eN T1)
    exact ⟨t2, p2.nox, q2⟩
  refine wpAny_call (codeAny_mono told fun r s2 got => ?_)
  cases r with
  | error e => exact (show False from got).elim
  | ok fl =>
    cases fl with
    | ret u => exact I1.after got
    | next => exact got.elim
    | brk => exact got.elim
    | cont => exact got.elim
end
/-- try: back = call() / except LiftError as error: caught = error; (caught, back) -/
def TTheard (K : PySem.W.Frag) (CS : Addr) : (XK → Hp → VK → Prop) → Hp → VK → Prop := fun tl H Q =>
  ∀ T, H T = none → tl (fun cls d H' => PySem.W.exmOne K cls (.ref CS) = some true ∧ ∃ C x : Addr, cls = .ref C ∧ d = some x ∧ ∀ a, H' a = none → ∀ p, (upd H' a (ExV C x a)) p = none → Q (.ref p) (upd (upd H' a (ExV C x a)) p (.tup [.ref a, .non]))) (upd H T (.tup [.non, .non]))
    fun v H' => ∀ p, H' p = none → Q (.ref p) (upd H' p (.tup [.non, v]))
theorem heard_read {K : PySem.W.Frag} {CS f c' : Addr} {q : Str} {tl : XK → Hp → VK → Prop} {H : Hp} {Q : VK} (hc : H c' = some (LamX.CodeO c' q)) (h : TTheard K CS tl H Q) :
    tSeq (tAsg (tTup (tCons (tC .non) (tCons (tC .non) tNil))) (gTup K 2 (gCons (gName 1) (gCons (gName 2) gNil))))
      (tSeq (fun D σ H => tAsg (fun σZ HZ Q => σZ[0]? = some (some (.ref f)) ∧ HZ c' = some (LamX.CodeO c' q) ∧ ∃ (E : XK) (Q' : VK), (∀ v H', Q' v H' → Q v H') ∧ (∀ cls d H', E cls d H' → wKeep K (.ref CS) 3 (fun _ _ _ => tAsg (tVar 3) (gName 1)) D cls d σZ H') ∧ tl E HZ Q') (gName 2) D σ H)
        (tRet (tTup (tCons (tVar 1) (tCons (tVar 2) tNil))))) { nx := fun _ H' => Q .non H', rt := Q } [some (.ref f), none, none, none] H := by
  refine ⟨by show 2 ≤ sizeLine; decide, fun T nT => ⟨T, _, rfl, .of upd_same, rfl, .non, _, rfl, .non, _, rfl, rfl, rfl, ?_, _, _, fun v H' h2 => ?_, ?_, h T nT⟩⟩
  · rw [upd_ne (ne_of_none hc nT)]
    exact hc
  · exact ⟨_, rfl, _, rfl, by show 2 ≤ sizeLine; decide, h2⟩
  · rintro cls d H' ⟨e1, C, x, rfl, rfl, go⟩
    refine ⟨e1, C, x, rfl, rfl, fun a na => ⟨_, rfl, na, _, rfl, _, rfl, by show 2 ≤ sizeLine; decide, go a na⟩⟩
end NB
set_option Elab.async false
set_option linter.all false
set_option maxRecDepth 100000
set_option maxHeartbeats 4000000
set_option autoImplicit false
/-! Exceptions by data: raise, heard, value, isinstance. -/
namespace NB
open PySem PySem.Spec PyProof.Rows L2

/-! ### slots without own lists -/
def frzS : Sl → Sl
  | .ow o => .im o.dat
  | s => s
@[simp] theorem frzS_im (d : D) : frzS (.im d) = .im d := rfl
@[simp] theorem frzS_ow (o : Ob) : frzS (.ow o) = .im o.dat := rfl
@[simp] theorem frzS_non : frzS .non = .non := rfl
@[simp] def frzR (ρ : List Sl) : List Sl := ρ.map frzS
theorem set_same {α : Type} {l : List α} {n : Nat} {x : α} (h : l[n]? = some x) : l.set n x = l := by
  apply List.ext_getElem?
  intro j
  by_cases hj : n = j
  · subst hj
    rw [List.getElem?_set_self (List.getElem?_eq_some_iff.mp h).1, h]
  · rw [List.getElem?_set_ne hj]
section
variable {K : KF} {G : Gh} {P : PA1} {ρ : List Sl} {t : Nat} {σ : St} {H : Hp}
theorem Sat.frzTo (S : Sat K G P ρ t σ H) : ∀ n, Sat K G P (frzR (ρ.take n) ++ ρ.drop n) t σ H
  | 0 => by simpa using S
  | n + 1 => by
    have ih := Sat.frzTo S n
    by_cases hn : n < ρ.length
    · have e1 : ρ.drop n = ρ[n] :: ρ.drop (n + 1) := List.drop_eq_getElem_cons hn
      have e2 : ρ.take (n + 1) = ρ.take n ++ [ρ[n]] := by rw [List.take_add_one, List.getElem?_eq_getElem hn]; rfl
      rw [e1] at ih
      have l : (frzR (ρ.take n)).length = n := by simp; omega
      have e3 : frzR (ρ.take (n + 1)) ++ ρ.drop (n + 1) = (frzR (ρ.take n) ++ ρ[n] :: ρ.drop (n + 1)).set n (frzS ρ[n]) := by
        rw [e2, frzR, List.map_append, List.append_assoc, List.set_append_right _ _ (by rw [l]; exact Nat.le_refl _), l, Nat.sub_self]
        rfl
      rw [e3]
      have at_ : (frzR (ρ.take n) ++ ρ[n] :: ρ.drop (n + 1))[n]? = some ρ[n] := by
        rw [List.getElem?_append_right (by rw [l]; exact Nat.le_refl _), l, Nat.sub_self]
        rfl
      cases hs : ρ[n] with
      | ow ds =>
        rw [hs] at ih at_
        exact (ih.freeze at_).1
      | im d =>
        rw [hs] at ih at_
        rw [frzS_im, set_same at_]
        exact ih
      | non =>
        rw [hs] at ih at_
        rw [frzS_non, set_same at_]
        exact ih
    · rw [List.take_of_length_le (by omega), List.drop_eq_nil_of_le (by omega)] at ih ⊢
      exact ih
theorem Sat.frz (S : Sat K G P ρ t σ H) : Sat K G P (frzR ρ) t σ H := by
  have := S.frzTo ρ.length
  simpa using this
theorem frz_no {i : Nat} {ds : Ob} : (frzR ρ)[i]? ≠ some (.ow ds) := fun e => by
  rw [frzR, List.getElem?_map] at e
  obtain ⟨s, _, h⟩ := Option.map_eq_some_iff.mp e
  cases s <;> cases h
/-- a part that is run like a call: the frame's state is its entry -/
theorem Sat.enter (S : Sat K G P ρ t σ H) (no : ∀ (i : Nat) (ds : Ob), ρ[i]? ≠ some (.ow ds)) : Sat K (g0 (fun a => G.F a ∨ Own ρ σ a) P H) P ρ t σ H := by
  have none_ : ∀ a, ¬ Own ρ σ a := fun a ⟨i, ds, e, _⟩ => no i ds e
  have mo : Mo K H H P P (Mx G.F P ρ σ) (Mx (g0 (fun a => G.F a ∨ Own ρ σ a) P H).F P ρ σ) := .less fun a z => by
    rcases z with (z | z) | z | z
    · exact .inl z
    · exact absurd z (none_ a)
    · exact .inr (.inl z)
    · exact absurd z (none_ a)
  refine ⟨S.len, fun i d e => ?_, fun i ds e => absurd e (no i ds), fun i j ds es a e => absurd e (no i ds), fun a z => ?_, fun q hq => absurd (show q ∈ ([] : List (D × V)) from hq) (by simp), S.pt, fun a z => z, fun a z => .inl z, .refl, fun a z => ?_, S.tb⟩
  · obtain ⟨v, h1, h2⟩ := S.im i d e
    exact ⟨v, h1, h2.mo mo⟩
  · obtain ⟨u, e, m⟩ := S.mlist a (z.elim .inl fun z => .inr (.inr z))
    exact ⟨u, m, e, e⟩
  · rcases z with z | z
    · exact S.fp a z
    · exact absurd z (none_ a)
end
/-- what a lambda that is heard gives: (None, what it returns), or (the exception, None) -/
@[simp] def heardW (cs : List Str) (w : W) : W := fun ρ t Q E => w (frzR ρ) t (fun r _ t1 => Q (.im (.tup [.non, r.d])) (frzR ρ) t1) (fun c v t1 => c ∈ cs ∧ Q (.im (.tup [.exc c v, .non])) (frzR ρ) t1)
theorem kp_ext {K : KF} {H H1 : Hp} (e : LamX.ExtN H H1) (t : Tb K H1) : Kp K (fun _ => False) H H1 := ⟨fun a o h _ => by
  cases ht : isT o with
  | true => exact .inr rfl
  | false => exact .inl (e a o h fun ps z => by rw [z] at ht; cases ht), fun _ => t⟩
theorem heard_tell {K : KF} {EX : XX} {CS : Addr} {cs : List Str} {w : W} {σ : St} {H : Hp} {Q : VK} (hE : ∀ c ∈ cs, ∀ C, ClsAt K c C → PySem.W.exmOne K (.ref C) (.ref CS) = some true) (h : Go K EX (RS K) (heardW cs w) σ H Q) :
    LamX.tLam (tabsOf K) (TTheard K CS) (fun E => Go K (XX.of E) (RS K) w) σ H Q := by
  obtain ⟨G, P, ρ, t, Q', E, S, hw, lk, hq⟩ := h
  refine ⟨S.tb, fun H1 eN t1 T nT => ?_⟩
  have S2 := (S.frz.grow (kp_ext eN t1)).grow (kp_upd (o := .tup [V.non, V.non]) nT)
  generalize upd H1 T (.tup [V.non, V.non]) = H2 at S2
  refine ⟨_, P, frzR ρ, t, _, _, S2.enter fun _ _ => frz_no, hw, ?_, fun r ρ1 t2 v H' P' q rs p np => ?_⟩
  · refine ⟨?_, trivial⟩
    rintro c v t2 P' H' C x y ⟨hc, q⟩ at_ ok hx rp
    have er : EndR K (g0 (fun a => G.F a ∨ Own (frzR ρ) σ a) P H2) P' t2 H' (.im v) y := ⟨ok, rp⟩
    obtain ⟨S3, r3⟩ := S2.call er
    refine ⟨hE c hc C at_, C, x, rfl, rfl, fun a na p np => ?_⟩
    have k4 : Kp K (fun _ => False) H' (upd H' a (ExV C x a)) := kp_upd na
    have r4 : Rp K (upd H' a (ExV C x a)) P' (Mx G.F P' (frzR ρ) σ) (.exc c v) (.ref a) := by
      rw [Rp]
      refine ⟨a, C, x, y, rfl, fun z => ?_, at_, upd_same, by rw [upd_ne (ne_of_none hx na)]; exact hx, r3.mo (.grow k4)⟩
      obtain ⟨u, e, _⟩ := S3.mlist a z
      rw [na] at e
      cases e
    have k5 : Kp K (fun _ => False) (upd H' a (ExV C x a)) (upd (upd H' a (ExV C x a)) p (.tup [.ref a, .non])) := kp_upd np
    refine hq _ _ _ _ _ P' q ⟨(S3.grow k4).grow k5, ?_⟩
    rw [Rp]
    exact ⟨p, _, rfl, .inl (.inl upd_same), .cons (r4.mo (.grow k5)) (.cons (by rw [Rp]) .nil)⟩
  · obtain ⟨S3, r3⟩ := (S2.call rs.endR).im
    have k5 : Kp K (fun _ => False) H' (upd H' p (.tup [.non, v])) := kp_upd np
    refine hq _ _ _ _ _ P' q ⟨S3.grow k5, ?_⟩
    rw [Rp]
    exact ⟨p, _, rfl, .inl (.inl upd_same), .cons (by rw [Rp]) (.cons (r3.mo (.grow k5)) .nil)⟩
end NB
set_option Elab.async false
set_option linter.all false
set_option maxRecDepth 100000
set_option maxHeartbeats 4000000
set_option autoImplicit false
/-! Defs that make lambdas; the rules for raise, heard, value, isinstance. -/
namespace NB
open PySem PySem.Spec PyProof.Rows L2

section
variable {Pr : Program} {w : World} {K : PySem.W.Frag} {mg : Str → Option Value} {base : Heap}
/-- a def that makes lambdas: its code object and its table are known -/
structure DfL (K : PySem.W.Frag) (mg : Str → Option Value) (x : Str) (st : Stmt) (ps : List Str) : Prop where
  ex : ∃ (f : Addr) (oc : Value) (od : Option Addr) (kV doc pm : Value) (an : Option Addr) (cdv ct : Value) (osl : Array (Option Value)) (c P : Addr),
    K.lookup f = some ⟨oc, od, .func (PySem.W.fnOf x x (defArgs st) (defBody st) (defScope st) .none kV doc pm an cdv ct), osl⟩ ∧ PySem.W.codeIn K cdv x = true ∧ PySem.W.keepIn K (.ref f) = true ∧ mg x = some (.ref f) ∧
      Binds K (PySem.W.fnOf x x (defArgs st) (defBody st) (defScope st) .none kV doc pm an cdv ct) ps [] ∧ cdv = .ref c ∧ PySem.W.tabIn K x = some (c, P)
theorem cl_ofL {x : Str} {st : Stmt} {ps N : List Str} {k : Nat} {ws : WS} (D : DfL K mg x st ps) (S : FnScope N ps (defScope st))
    (hbody : ∀ (c P : Addr), PySem.W.tabIn K x = some (c, P) → ∀ (f : Addr) (A : Around) (outer : List Env) (s : Shared) (H : Hp) (E : XK) (F0 P0 : PA1), Room k (A.deeper (envOfC x (defScope st) s.heap.objs.size f (.ref c))) → A.guards = some [] →
      Lv (cxOf (CXE Pr w) Pr w K mg base N x (defScope st) f (.ref c) A outer s H E) (XX.fr E F0 P0 H) → Passes (CXE Pr w) (cxOf (CXE Pr w) Pr w K mg base N x (defScope st) f (.ref c) A outer s H E) E →
      DSs (cxOf (CXE Pr w) Pr w K mg base N x (defScope st) f (.ref c) A outer s H E) (XX.fr E F0 P0 H) (defBody st) ws) : Cl Pr w K mg base (k + 1) x ps.length (defW ps.length N.length ws) := by
  obtain ⟨f, oc, od, kV, doc, pm, an, cdv, ct, osl, c, P, lk, hcd, hk, hm, hb, rfl, tp⟩ := D.ex
  exact ⟨f, _, ps, rfl, fnG_of lk hcd S fun A outer s H E F0 P0 hr hg => hbody c P tp f A outer s H E F0 P0 hr hg lv_cx (lv_cx (F0 := F0) (P0 := P0)).px, hm, hk, hb⟩
theorem tab_in {x : Str} {c P : Addr} (hx : x ∈ lamNames) (tp : PySem.W.tabIn K x = some (c, P)) : (P, lamQ x) ∈ tabsOf K := List.mem_filterMap.mpr ⟨x, hx, by rw [tp]; rfl⟩
/-- each table is one def's -/
def TabU (K : PySem.W.Frag) : Prop := ∀ x ∈ lamNames, ∀ y ∈ lamNames, ∀ (c c' P : Addr), PySem.W.tabIn K x = some (c, P) → PySem.W.tabIn K y = some (c', P) → x = y
theorem tab_one {x : Str} {c P : Addr} (U : TabU K) (hx : x ∈ lamNames) (tp : PySem.W.tabIn K x = some (c, P)) : ∀ p ∈ tabsOf K, p.1 = P → p.2 = lamQ x := fun p hp e => by
  obtain ⟨y, hy, h⟩ := List.mem_filterMap.mp hp
  obtain ⟨cP, h1, h2⟩ := Option.map_eq_some_iff.mp h
  subst h2
  have e : cP.2 = P := e
  subst e
  rw [U x hx y hy c cP.1 cP.2 tp h1]
/-- the lambda's own context lets exceptions out, too -/
theorem lv_lam {X : Cx} {A : Around} {outer : List Env} {s : Shared} {H : Hp} {E : XK} {scope : Scope} {f c' : Addr} : Lv (LamX.lamCx X A outer s H E scope f c') (XX.of E) := ⟨takes_of rfl rfl rfl rfl, passes_of rfl⟩
end
section
variable {X : Cx} {EX : XX} {k : Nat} {x : Str} {c P : Addr} {cs : List Str} {CS : Addr} {w : W} {st : Stmt} {params : Arguments} {body : Expr} {scope : Scope} {p lpos pos : Pos} {Ng : List Str}
theorem de_heard (D : Df X.K X.mg "_law_heard" st ["call"]) (Sg : FnScope Ng ["call"] (defScope st)) (hNg : Ng[0]? = some ("call" : Str)) (hva : Vis (defScope st) "call")
    (hG : ∀ (g : Addr) (cdg : Value) (q : Str), HearsK X Ng "_law_heard" (defScope st) g cdg (defBody st) "call" q (TTheard X.K CS)) (hE : ∀ c ∈ cs, ∀ C, ClsAt X.K c C → PySem.W.exmOne X.K (.ref C) (.ref CS) = some true)
    (U : TabU X.K) (TB : TabsB X.K X.mg X.base) (hx : x ∈ lamNames) (tp : PySem.W.tabIn X.K x = some (c, P)) (hcode : X.env.code = .ref c) (hq : X.env.qual ++ "<lambda>" = lamQ x) (hr : Room (k + 2) X.A) (hgd : X.A.guards = some []) (hg : Gl X "_law_heard") (L : LamX.LamS X.env.scope scope)
    (hdef : defaultsOf params X.env = ([], [])) (hbind : ∀ (q : Str) (cl : List (Str × Addr)) (pm cv ctv : Value), bindArgs (PySem.W.kla_fn "<lambda>" q params body scope cl pm cv ctv) ⟨[], []⟩ = pure [])
    (hbody : ∀ (A : Around) (outer : List Env) (s : Shared) (H : Hp) (E : XK) (f c' : Addr), Room k (A.deeper (LamX.lamEnv X scope s.heap.objs.size f c')) → A.guards = some [] →
      Lv (LamX.lamCx X A outer s H E scope f c') (XX.of E) → Passes (CXE X.prog X.w) (LamX.lamCx X A outer s H E scope f c') E → DE (LamX.lamCx X A outer s H E scope f c') (XX.of E) body w) :
    DE X EX (.Call (.Name "_law_heard" p) [.Lambda params body scope lpos] [] pos) (heardW cs w) := by
  obtain ⟨g, fd, F, hm, hb⟩ := D.ex
  obtain ⟨oc, od, kV, doc, pm, an, cdv, ct, osl, rfl, lk, hcd⟩ := F.ex
  refine PE.imp (pe_lamK (T := tabsOf X.K) hg hm F.kp lk hcd hb Sg hNg hva (hG g cdv _) (TB x hx c P tp) hcode ?_ ?_ hr L hdef hbind fun A outer s H E f c' hr2 gd => hbody A outer s H E f c' hr2 (gd.trans hgd) lv_lam lv_lam.px) fun _ _ _ h => heard_tell hE h
  · rw [hq]; exact tab_in hx tp
  · rw [hq]; exact tab_one U hx tp
end

/-! ### raise -/
/-- what the text says of an exception class, at C -/
structure ExcT (K : PySem.W.Frag) (C : Addr) : Prop where
  oex : OexC K C
  xf : XfC K C
  nov : PySem.W.findIn K (.ref C) "value" = some none
  hcl : (PySem.W.clsIn K C).isSome = true
  hcc : PySem.W.findIn K (.ref C) "__class__" = some (some (.builtin "object.__class__"))
  hsp : PySem.W.specialIn K (.builtin "object.__class__") "__get__" = some (some (.builtin "getset_descriptor.__get__"))
  htk : PySem.W.takesIn K (.builtin "object.__class__") = some true
  hmo : PySem.W.mroIn K C (.type "object") = some true
/-- the class's __init__ -/
def spInit (K : PySem.W.Frag) : Sp := fun vs H Q _ => ∃ (a C : Addr) (y : V), vs = [.ref a, y] ∧ OexC K C ∧ PySem.W.findIn K (.ref C) "value" = some none ∧ H a = some (exo a C none) ∧
  ∀ d, H d = none → d ≠ a → Q .non (upd (upd H d (exd d [("value", y)])) a (exo a C (some d)))
theorem init_read {K : PySem.W.Frag} {vs : List V} {H : Hp} {Q : VK} {E : XK} (h : spInit K vs H Q E) :
    tSeq (tDrop (tVeI K (tCons (tVar 0) (tCons (tVar 1) tNil)))) (tOst K "value" (tVar 0) (tVar 1)) { nx := fun _ H' => Q .non H', rt := Q } (L2.start ["self", "value"] vs) H := by
  obtain ⟨a, C, y, rfl, T, nv, e, q⟩ := h
  exact ⟨_, rfl, _, rfl, a, C, [y], rfl, (by show 1 ≤ 1000; decide), T, e, _, rfl, _, rfl, a, C, rfl, T, nv, .inl ⟨e, fun dx n ne => q dx n ne⟩⟩
/-- raise c(e) -/
@[simp] def raiseS (c : Str) (w : W) : WS := fun ρ t k => w ρ t (fun r _ t' => k.ex c r.d t') k.ex
/-- the classes of exceptions of the text, at ad; their __init__ at fI -/
structure ExcS (K : PySem.W.Frag) (mg : Str → Option Value) (cs : List Str) (fI CS : Addr) (ad : Str → Addr) : Prop where
  lift : mg "LiftError" = some (.ref CS)
  cat : ∀ c ∈ cs, ClsAt K c (ad c)
  g : ∀ c ∈ cs, mg c = some (.ref (ad c))
  txt : ∀ c ∈ cs, ExcT K (ad c)
  ini : ∀ c ∈ cs, PySem.W.findIn K (.ref (ad c)) "__init__" = some (some (.ref fI)) ∧ PySem.W.typeIn K (.ref fI) = some (.type "function")
  exm : ∀ c ∈ cs, PySem.W.exmOne K (.ref (ad c)) (.ref CS) = some true
  kit : ∀ c ∈ cs, ∀ d ∈ cs, PySem.W.kitOne K (.ref (ad c)) (.ref (ad d)) = some (decide (c = d))
theorem ExcS.exm' {K : PySem.W.Frag} {mg : Str → Option Value} {cs : List Str} {fI CS : Addr} {ad : Str → Addr} (h : ExcS K mg cs fI CS ad) : ∀ c ∈ cs, ∀ C, ClsAt K c C → PySem.W.exmOne K (.ref C) (.ref CS) = some true := fun c hc C at_ => by
  have e := h.cat c hc
  unfold ClsAt at e at_
  rw [e] at at_
  cases at_
  exact h.exm c hc
section
variable {X : Cx} {EX : XX} {c : Str} {cs : List Str} {fI CS : Addr} {ad : Str → Addr} {fd : FuncData} {k : Nat} {e : Expr} {w : W} {p pos pos' : Pos}
theorem ds_raise (V : ExcS X.K X.mg cs fI CS ad) (hc : c ∈ cs) (F : FnOk X.prog X.w X.K X.mg X.base CX0 1 fI fd ["self", "value"] (spInit X.K)) (hb : Binds X.K fd ["self", "value"] []) (lv : Lv X EX) (hcalm : X.calm = true) (hr : Room 2 X.A) (hg : Gl X c) (he : DE X EX e w)
    (hdb : (c == ("__debug__" : Str)) = false := by decide) (hs : starEach [e] X.env = (false, eval e X.env) :: starEach [] X.env := by rfl) (hpl : (backTo pos (starEach [] X.env)).any (·.1) = false := by rfl) :
    DS X EX (.Raise (some (.Call (.Name c p) [e] [] pos)) none pos') (raiseS c w) := by
  refine PS.imp (ps_raise hcalm lv.tk (pmk_oex (V.txt c hc).oex (V.ini c hc).1 (V.ini c hc).2 F hr hb .nil pass0 hg (V.g c hc) (da_cons he da_nil hs) hdb hs hpl)) fun D σ H h => ?_
  obtain ⟨G, P, ρ, t, kk, S, hw, lk, _⟩ := h
  refine ⟨G, P, ρ, t, fun ds _ t' => match ds with | [d] => kk.ex c d t' | _ => False, kk.ex, S, hw, lk, fun ds ρ1 t1 vs H1 P1 z rs => ?_⟩
  obtain ⟨S1, ra⟩ := rs
  match ds, z, ra with
  | [d], z, ra =>
    obtain ⟨v, rfl, rp⟩ := ra_one ra
    refine ⟨by show 1 ≤ 1000; decide, fun a na => ⟨a, ad c, v, rfl, (V.txt c hc).oex, (V.txt c hc).nov, upd_same, fun dx nd ne => ⟨rfl, dx, [("value", v)], upd_same, ?_, ?_, ?_⟩⟩⟩
    · rw [upd_ne ne, upd_same]
    · rw [upd_ne ne] at nd
      exact nd
    · have nd1 : H1 dx = none := by rw [upd_ne ne] at nd; exact nd
      have keep : ∀ b o, H1 b = some o → (upd (del (upd (upd (upd H1 a (exo a (ad c) none)) dx (exd dx [("value", v)])) a (exo a (ad c) (some dx))) a) dx (.xd [("value", v)])) b = some o := fun b o eb => by
        have ba := ne_of_none eb na
        have bd := ne_of_none eb nd1
        rw [upd_ne bd, del_ne ba, upd_ne ba, upd_ne bd, upd_ne ba]
        exact eb
      have k1 : Kp (kX X) (fun _ => False) H1 _ := Kp.of keep
      exact lk.ek c d t1 P1 _ (ad c) dx v z (V.cat c hc) (S1.grow k1).endOk upd_same ((rp.mo (.grow k1)).mo (.less fun b z => z.elim .inl fun z => .inr (.inl z)))
end

/-! ### the exception's value -/
@[simp] def excVD (cs : List Str) : D → Option R
  | .exc c v => if c ∈ cs then some (.im v) else none
  | _ => none
section
variable {X : Cx} {EX : XX} {c : Str} {cs : List Str} {fI CS : Addr} {ad : Str → Addr} {e : Expr} {wa : WO} {pos : Pos}
theorem de_value (V : ExcS X.K X.mg cs fI CS ad) (ha : DO X EX e wa) (hb : attributeBase e "value" X.env (eval e X.env) = eval e X.env := by rfl) :
    DE X EX (.Attribute e "value" pos) (op1W (excVD cs) wa) := by
  refine ⟨fun pins s σ H Q I h => attr_of hb (thn (ha.run pins s σ H _ I (op1_read h)) fun u s1 got => ?_)⟩
  obtain ⟨x, H1, I1, rx, P, M, d, rd, _, f⟩ := got
  obtain ⟨r, hr, f⟩ := f
  cases d with
  | exc c v =>
    by_cases hc : c ∈ cs
    · have hr : (if c ∈ cs then some (R.im v) else none) = some r := hr
      rw [if_pos hc] at hr
      cases hr
      have rd : Rp (kX X) H1 P M (.exc c v) x := rd
      rw [Rp] at rd
      obtain ⟨a, C, dx, y, rfl, _, at_, ea, ed, ry⟩ := rd
      obtain rfl : u = Value.ref a := rx
      have e1 := V.cat c hc
      unfold ClsAt at e1 at_
      rw [e1] at at_
      cases at_
      obtain ⟨⟨oe, vs, ga, z, dd⟩, _, _⟩ := I1.hok a _ ea
      have hx : ObjOk X.prog X.w H1 s1.heap dx (.xd [("value", y)]) := I1.hok dx _ ed
      obtain ⟨mA, hns, rel⟩ := hx
      obtain ⟨od, ho, hl⟩ := lookIn_ns hns
      have lk : List.lookup ("value" : Str) [(("value" : Str), y)] = some y := by simp [List.lookup]
      obtain ⟨u2, hu, ru⟩ := RelO.some_of (v := y) (o := mA "value") (by rw [← lk]; exact rel "value")
      have T := (V.txt c hc).xf
      have J : PySem.W.InstAt s1.heap a oe (ad c) (some od) := ⟨ga, z.1, by unfold PySem.W.notCls; rw [dd] <;> rfl, by rw [z.2]; exact ho⟩
      exact HandSPX.exc_get I1.kIn J T.ga T.gg T.exC (PySem.W.findObj_own T.hdC (V.txt c hc).nov rfl (by rw [hl, hu])) (handed_of ru) ⟨y, H1, I1.tok _, ru, f y H1 .refl ry⟩
    · have hr : (if c ∈ cs then some (R.im v) else none) = some r := hr
      rw [if_neg hc] at hr
      cases hr
  | _ => cases hr
end

/-! ### isinstance of an exception class -/
/-- is it of the class c? -/
@[simp] def isE (cs : List Str) (c : Str) : D → Option Bool
  | .exc c' _ => if c' ∈ cs then some (decide (c' = c)) else none
  | .non => some false
  | _ => none
@[simp] def isEW (cs : List Str) (c : Str) (a : WO) : W := fun ρ t Q E => a ρ t (fun x ρ1 t1 => ∃ d b, rsv ρ1 x = some d ∧ isE cs c d = some b ∧ Q (.im (.bl b)) ρ1 t1) E
def rIsE (K : KF) (cs : List Str) (c : Str) (C : Addr) : List V → Hp → VK → Prop := fun xs H Q => ∃ (x : V) (P M : PA1) (d : D) (b : Bool), xs = [x, .ref C] ∧ Rs K H P M d x ∧ isE cs c d = some b ∧ Q (.bl b) H
theorem call_isE {X : Cx} {c : Str} {cs : List Str} {fI CS : Addr} {ad : Str → Addr} (V : ExcS X.K X.mg cs fI CS ad) (hc : c ∈ cs) (hn : PySem.W.kitOne X.K (.type "NoneType") (.ref (ad c)) = some false) : CallR X (.builtin "isinstance") (rIsE (kX X) cs c (ad c)) := by
  intro pins s σ H xs us Q I r h
  obtain ⟨x, P, M, d, b, rfl, rd, e, q⟩ := h
  obtain ⟨u1, u2, rfl, r1, r2⟩ := vals2 r
  obtain rfl : u2 = Value.ref (ad c) := r2
  cases d with
  | non =>
    cases e
    have r1 := (rd.non) ▸ r1
    cases (show u1 = Value.none from r1)
    exact PySem.W.kia_one PySem.W.kitx_none I.kIn True.intro hn (fun z => nomatch z) fun tk => ⟨.bl false, H, I.tok tk, rfl, q⟩
  | exc c' v =>
    by_cases hc' : c' ∈ cs
    · have e : (if c' ∈ cs then some (decide (c' = c)) else none) = some b := e
      rw [if_pos hc'] at e
      cases e
      have rd : Rp (kX X) H P M (.exc c' v) x := rd
      rw [Rp] at rd
      obtain ⟨a, C, dx, y, rfl, _, at_, ea, ed, ry⟩ := rd
      cases (show u1 = Value.ref a from r1)
      have e1 := V.cat c' hc'
      unfold ClsAt at e1 at_
      rw [e1] at at_
      cases at_
      obtain ⟨⟨oe, vs, ga, z, dd⟩, _, _⟩ := I.hok a _ ea
      have hx : ObjOk X.prog X.w H s.heap dx (.xd [("value", y)]) := I.hok dx _ ed
      obtain ⟨mA, hns, rel⟩ := hx
      obtain ⟨od, ho, hl⟩ := lookIn_ns hns
      have T := V.txt c' hc'
      have J : PySem.W.InstAt s.heap a oe (ad c') (some od) := ⟨ga, z.1, by unfold PySem.W.notCls; rw [dd] <;> rfl, by rw [z.2]; exact ho⟩
      exact PySem.W.kia_one (PySem.W.kitx_exc T.hcl T.xf.ga T.xf.gg T.xf.exC T.hcc T.hsp T.htk T.hmo) I.kIn J (V.kit c' hc' c hc) (fun z => nomatch z) fun tk => ⟨.bl _, H, I.tok tk, rfl, q⟩
    · have e : (if c' ∈ cs then some (decide (c' = c)) else none) = some b := e
      rw [if_neg hc'] at e
      cases e
  | _ => cases e
section
variable {X : Cx} {EX : XX} {c : Str} {cs : List Str} {fI CS : Addr} {ad : Str → Addr} {e : Expr} {wa : WO} {p p2 pos : Pos}
theorem de_isE (V : ExcS X.K X.mg cs fI CS ad) (hc : c ∈ cs) (hn : PySem.W.kitOne X.K (.type "NoneType") (.ref (ad c)) = some false) (hgi : Gl X "isinstance") (hm : X.mg "isinstance" = none) (hg : Gl X c) (ha : DO X EX e wa) (hd : (c == ("__debug__" : Str)) = false := by decide)
    (he : starEach [e, .Name c p2] X.env = (false, eval e X.env) :: starEach [.Name c p2] X.env := by rfl) (he2 : starEach [.Name c p2] X.env = (false, eval (.Name c p2) X.env) :: starEach [] X.env := by rfl) (hpl : (backTo pos (starEach [.Name c p2] X.env)).any (·.1) = false := by rfl) :
    DE X EX (.Call (.Name "isinstance" p) [e, .Name c p2] [] pos) (isEW cs c wa) :=
  PE.imp (pe_callB (call_isE V hc hn) hgi hm PyProof.Rows.boot_isinstance (pa_cons ha (pa_cons (pe_glob (v := .ref (ad c)) hg (V.g c hc) rfl hd) pa_nil he2) he) (by decide) (by decide) he hpl) fun σ H Q h => by
    obtain ⟨G, P, ρ, t, Q', E, S, hw, lk, hq⟩ := h
    refine ⟨G, P, ρ, t, _, E, S, hw, lk, fun o ρ1 t1 x H1 P1 h1 r1 => ?_⟩
    obtain ⟨d, b, e1, e2, q⟩ := h1
    have S1 := r1.sat
    exact ⟨x, P1, Mx G.F P1 ρ1 σ, d, b, rfl, rsv_ok S1 r1 e1, e2, hq _ _ _ _ _ P1 q ⟨S1, rp_bl'⟩⟩
end
/-- what the walks of a law with exceptions ask of the text -/
structure Ec (Pr : Program) (w : World) (K : PySem.W.Frag) (mg : Str → Option Value) (base : Heap) (cs : List Str) (fI CS : Addr) (ad : Str → Addr) (fd : FuncData) : Prop where
  es : ExcS K mg cs fI CS ad
  io : FnOk Pr w K mg base CX0 1 fI fd ["self", "value"] (spInit K)
  bi : Binds K fd ["self", "value"] []
  kn : ∀ d ∈ cs, PySem.W.kitOne K (.type "NoneType") (.ref (ad d)) = some false
  tb : TabsB K mg base
  tu : TabU K
/-- a method of a class statement -/
def methS (st : Stmt) (j : Nat) : Stmt := match st with
  | .ClassDef (body := b) .. => b.getD j (.Pass ⟨0, 0, 0, 0⟩)
  | s => s
section
variable {X : Cx} {EX : XX} {x : Str} {pos : Pos} {z : Str}
theorem de_gstr (hg : Gl X x) (h : ∃ t, X.mg x = some (.str z t)) (hd : (x == ("__debug__" : Str)) = false := by decide) : DE X EX (.Name x pos) (pureW (.im (.str z))) := by
  obtain ⟨t, h⟩ := h
  exact de_const (pe_glob (v := .str z) hg h ⟨t, rfl⟩ hd) fun _ _ _ => rp_str
end
end NB
set_option Elab.async false
set_option linter.all false
set_option maxRecDepth 100000
set_option maxHeartbeats 4000000
set_option autoImplicit false
/-! sorted(set(t)) of a tuple of plain ints. -/
namespace NB
open PySem PySem.Spec PyProof.Rows L2

theorem nodup_le : ∀ {xs ys : List Int}, xs.Nodup → (∀ x ∈ xs, x ∈ ys) → xs.length ≤ ys.length
  | [], ys, _, _ => Nat.zero_le _
  | x :: xs, ys, h, g => by
    obtain ⟨h1, h2⟩ := List.nodup_cons.mp h
    have hx := g x List.mem_cons_self
    have := nodup_le (ys := ys.erase x) h2 fun y hy => (List.mem_erase_of_ne (fun e => h1 (by rw [← e]; exact hy))).mpr (g y (List.mem_cons_of_mem _ hy))
    rw [List.length_erase_of_mem hx] at this
    have := List.length_pos_of_mem hx
    rw [List.length_cons]
    omega
theorem setR_few {w : World} {h : Heap} {a : Addr} {ks M : List Int} {c : Nat} (R : SetR w h a (fun j => decide (j ∈ ks)) c) (hM : ∀ k ∈ ks, k ∈ M) : c ≤ M.length := by
  obtain ⟨o, es, ep, t, _, _, _, _, nd, hm, _, _, hn, _⟩ := R
  have := nodup_le nd fun x hx => hM x (of_decide_eq_true ((hm x).mpr hx))
  rw [List.length_map, Array.length_toList] at this
  omega
def rSetI (K : KF) (w : World) : List V → Hp → VK → Prop := fun vs H Q => ∃ (l : Addr) (ks M : List Int), vs = [V.ref l] ∧ SqT K H l (ks.map V.int) ∧ ks.length ≤ 4000 ∧ (∀ k ∈ ks, k ∈ M) ∧
  ∀ a c, H a = none → c ≤ M.length → Q (.ref a) (upd H a (SetO w a (fun j => decide (j ∈ ks)) c))
theorem cr_setI {X : Cx} (hc : X.calm = true) : CallR X (.type "set") (rSetI (kX X) X.w) := by
  intro pins s σ H vs us Q I r h
  obtain ⟨l, ks, M, rfl, hl, few, hM, q⟩ := h
  rw [Vals.ref1 r]
  obtain ⟨its, rv, pl, hz⟩ := I.tuple hl
  refine call_set_tupI ks (I.ok.hd hc) (show s.heap.IsTuple l its.toArray from pl) (by simpa using intsAre_of rv) (by unfold scanBound; omega) ?_
  intro h' tk c R hcn k
  exact ⟨.ref s.heap.objs.size, _, I.laid (t' := tk) k (Nat.le_refl _) (setO_new R), rfl, q _ c (I.hok.fresh (Nat.le_refl _)) (setR_few R hM)⟩
/-- sorted(set(t)): rising, the same members -/
@[simp] def sortSetIW (a : WO) : W := fun ρ t Q E => a ρ t (fun x ρ1 t1 => ∃ (ds : List D) (ks M : List Int), rsv ρ1 x = some (.tup ds) ∧ intsD ds = some ks ∧ ks.length ≤ 4000 ∧ (∀ k ∈ ks, k ∈ M) ∧ M.length < 64 ∧
  ∀ es : List Int, (∀ e, e ∈ es ↔ e ∈ ks) → es.Pairwise (· < ·) → Q (.nw (.l (es.map .int))) ρ1 t1) E
section
variable {X : Cx} {EX : XX} {e : Expr} {wa : WO} {p p1 pos pos1 : Pos}
theorem de_sortSetI (hc : X.calm = true) (hg : Gl X "sorted") (hm : X.mg "sorted" = none) (hg1 : Gl X "set") (hm1 : X.mg "set" = none) (ha : DO X EX e wa) (he : starEach [e] X.env = (false, eval e X.env) :: starEach [] X.env := by rfl)
    (he1 : starEach [.Call (.Name "set" p1) [e] [] pos1] X.env = (false, eval (.Call (.Name "set" p1) [e] [] pos1) X.env) :: starEach [] X.env := by rfl) (hpl : ∀ q, (backTo q (starEach [] X.env)).any (·.1) = false := by intro; rfl) :
    DE X EX (.Call (.Name "sorted" p) [.Call (.Name "set" p1) [e] [] pos1] [] pos) (sortSetIW wa) :=
  PE.imp (pe_callB (cr_sortedSet hc) hg hm PyProof.Rows.boot_sorted (pa_cons (pe_callTy (cr_setI hc) hg1 hm1 PyProof.Rows.boot_set (pa_cons ha pa_nil he) (by decide) (by decide) he (hpl _)) pa_nil he1) (by decide) (by decide) he1 (hpl _)) fun σ H Q h => by
    obtain ⟨G, P, ρ, t, Q', E, S, hw, lk, hq⟩ := h
    refine ⟨G, P, ρ, t, _, E, S, hw, lk, fun o ρ1 t1 x H1 P1 h1 r1 => ?_⟩
    obtain ⟨ds, ks, M, e1, e2, few, hM, h64, q⟩ := h1
    have S1 := r1.sat
    obtain ⟨l, xs, rfl, ta, ra⟩ := (rsv_ok S1 r1 e1).tp
    rw [intsD_some e2] at ra
    rw [ra_ints_inv ra] at ta
    refine ⟨l, ks, M, rfl, ta, few, hM, fun a c na hcn => ?_⟩
    have k1 : Kp (kX X) (fun _ => False) H1 (upd H1 a (SetO X.w a (fun j => decide (j ∈ ks)) c)) := kp_upd na
    refine ⟨a, _, c, rfl, upd_same, by omega, fun es b pw mem _ nb => ?_⟩
    have k2 := k1.trans (kp_upd (o := .lst (es.map V.int)) nb) fun _ _ _ z => z.elim
    have nb1 : H1 b = none := by
      by_cases hb : b = a
      · rw [hb]; exact na
      · rw [upd_ne hb] at nb; exact nb
    refine hq _ ρ1 t1 _ _ P1 (q es (fun e => by rw [mem e]; simp) pw) (rz_rs S1 k2 ⟨b, _, _, rfl, nb1, upd_same, rfl, ra_ints es⟩)
end
/-! ### sorted(xs) of a tuple -/
section
variable {prog : Program} {w : World} {A : Around} {E : Value → Shared → Prop} {s : Shared}
theorem collect_tup {l : Addr} {vs : List Value} {Q : List Value → Shared → Prop} (hl : s.heap.IsTuple l vs.toArray)
    (h : Q vs { s with heap := (s.heap.push (seqObj "list" #[] 0)).update s.heap.objs.size (Obj.mapSeq (· ++ vs.toArray)) }) (hsz : vs.length ≤ sizeLine) :
    wpAny (model prog w) A (collect (.ref l)) Q E s := by
  obtain ⟨o, ho, hc, n, hd⟩ := id hl
  unfold collect
  refine wpAny_bind (wpAny_runValue (codeAny_builtin entry_proto_collect' ?_))
  show wpAny _ _ (do again (.builtin "list.__iadd__" ⟨[← newList [], .ref l], []⟩)) _ _ s
  refine wpAny_bind (wpAny_newList (wpAny_pure ⟨Code.quiet_builtin _ (by decide +kernel), codeAny_builtin entry_list_iadd' ?_⟩))
  show wpAny _ _ (Builtin.List.listExtendWith (.ref s.heap.objs.size) (.ref l) (.ref s.heap.objs.size)) _ _ { s with heap := s.heap.push (seqObj "list" #[] 0) }
  unfold Builtin.List.listExtendWith
  have ho' : (s.heap.push (seqObj "list" #[] 0)).get? l = some o := Heap.get?_push_of_some _ ho
  refine wpAny_bind (wpAny_typeOf (T := "tuple") ⟨o, ho', hc⟩ ?_)
  have ht : (Value.type "tuple" == Value.type "tuple") = true := by rfl
  rw [if_pos (by rw [ht]; simp)]
  refine wpAny_bind (listItems_at ho' hd ?_)
  refine wpAny_bind (listItems_at (xs := #[]) (n := 0) (Heap.get?_push_size _ rfl) rfl ?_)
  rw [if_neg (by simp)]
  refine wpAny_bind (listUpdate_at (xs := #[]) (n := 0) (Heap.get?_push_size _ rfl) rfl ?_ (Nat.zero_le _) (by show (#[] ++ vs.toArray).size ≤ sizeLine + 1; simp only [Array.size_append, List.size_toArray, List.length_nil]; omega))
  refine wpAny_pure ?_
  show wpAny (model prog w) A (do
      let o ← load s.heap.objs.size
      match o.data with
      | .seq xs _ => pure xs.toList
      | _ => unsupported "internal:collect") Q E { s with heap := (s.heap.push (seqObj "list" #[] 0)).update s.heap.objs.size (Obj.mapSeq (· ++ vs.toArray)) }
  refine wpAny_bind (wpAny_load (get?_update_seq (Heap.get?_push_size _ rfl) _) ?_)
  show wpAny _ _ (pure ((#[] : Array Value) ++ vs.toArray).toList) Q E _
  rw [show ((#[] : Array Value) ++ vs.toArray).toList = vs by simp]
  exact wpAny_pure h
theorem sorted_of_tup {l : Addr} {vs : List Value} {Q : Value → Shared → Prop} (hl : s.heap.IsTuple l vs.toArray) (hL : vs.length ≤ sizeLine)
    (body : ∀ E' : Value → Shared → Prop, wpAny (model prog w) A.in1.in1 (Builtin.«list.sort» ⟨[.ref (s.heap.objs.size + 1)], []⟩) (fun f s' => f = .done (.ret .none) ∧ Q (.ref (s.heap.objs.size + 1)) s') E' { s with heap := PySem.W.copyHeap s.heap vs }) :
    wpAny (model prog w) A (call (.builtin "sorted") [.ref l] []) Q E s := by
  refine call_function_entry_kw kind_sorted plain_sorted entry_sorted (args_sorted1 _) ?_
  unfold Builtin.«sorted»
  refine wpAny_bind (m := checkCount "sorted" 1 1 _) (wpAny_pure ?_)
  refine wpAny_bind (collect_tup hl ?_ hL)
  refine wpAny_bind (wpAny_newList ?_ hL)
  have hsz : ((s.heap.push (seqObj "list" #[] 0)).update s.heap.objs.size (Obj.mapSeq (· ++ vs.toArray))).objs.size = s.heap.objs.size + 1 := by
    rw [Heap.size_update, size_push']
  show wpAny _ _ _ _ _ { s with heap := PySem.W.copyHeap s.heap vs }
  rw [hsz]
  refine wpAny_bind (wpAny_holding (wpAny_call_entry_kw slot_list_sort ⟨_, PySem.W.copyHeap_at s.heap vs, rfl⟩ entry_list_sort ?body (args_list_sort _)))
  case body =>
    show wpAny (model prog w) A.in1.in1 (Builtin.«list.sort» ⟨[.ref (s.heap.objs.size + 1)], []⟩) _ _ _
    refine wpAny_mono (body _) (fun f s' hf => ?_) fun _ _ e => e
    obtain ⟨rfl, hq⟩ := hf
    exact ⟨_, rfl, wpAny_pure ⟨_, rfl, hq⟩⟩
open PySem.W in
theorem sorted_dataT {β : Type} {vs : List Value} {bs : List β} {enc : β → PyData} {R : Value → β → Prop} {l : Addr} {Q : Value → Shared → Prop} (hl : s.heap.IsTuple l vs.toArray) (e : EachIs R vs bs) (er : EachIs (fun v b => ∃ as, Reads s.heap v (enc b) as) vs bs) (hal : AllAlike (bs.map enc)) (hk : Sortable (bs.map enc)) (hL : bs.length ≤ sizeLine)
    (hu : ∀ b, b ∈ bs → A.units + 2 + (enc b).depth < cLine) (h : ∀ out, out.length = bs.length → EachIs R out (bs.mergeSort (dataLe false enc)) → Q (.ref (s.heap.objs.size + 1)) { s with heap := sortedAll s.heap vs (List.toArray out) }) :
    wpAny (model prog w) A (call (.builtin "sorted") [.ref l]) Q E s := by
  have er' : EachIs (fun v b => ∃ as, Reads (sortingHeap (copyHeap s.heap vs) (s.heap.objs.size + 1) vs) v (enc b) as) vs bs := er.mono fun _ _ ⟨as, r⟩ => ⟨as, PyProof.Rows.Reads.keeps (fun _ _ => sorting_copy_old) r⟩
  exact sorted_of_tup hl (by rw [e.length]; exact hL) fun _ => list_sort_vals (s := { s with heap := copyHeap s.heap vs }) (copyHeap_at s.heap vs) (SortsAt.data (s := { s with heap := sortingHeap (copyHeap s.heap vs) (s.heap.objs.size + 1) vs }) (each_map (R := fun v d => ∃ as, Reads (sortingHeap (copyHeap s.heap vs) (s.heap.objs.size + 1) vs) v d as) enc er') hal hk (bound_map hu)) (by rw [e.length]; exact hL)
    ⟨rfl, h _ (by rw [sortVals_length false rfl]; exact e.length) (sortVals_data false e er' hal)⟩
end
section
variable {X : Cx}
theorem cr_sortDT (hu : X.A.units + 64 < cLine) : CallR X (.builtin "sorted") (fun vs H Q => ∃ (P M : PA1) (v : V) (ds : List D), vs = [v] ∧ Rs (kX X) H P M (.tup ds) v ∧ SortOk ds ∧ Fit (kX X) H P M (some (.nw (srt ds))) Q) := by
  intro pins s σ H vs us Q I r h
  obtain ⟨P, M, v, ds, rfl, rd, ok, f⟩ := h
  obtain ⟨a, xs, rfl, ta, ra⟩ := rd.tp
  obtain ⟨its, rv, pl, hz⟩ := I.tuple ta
  rw [Vals.ref1 r]
  have e := each_of ra rv
  refine sorted_dataT (R := fun v d => ∃ x, RelV x v ∧ Rp (kX X) H P M d x) (enc := D.py) (show s.heap.IsTuple a its.toArray from pl) e ?_ ok.al ok.so ok.ln (fun b hb => ?_) fun out ho eo => ?_
  · exact each_and e fun v d hd ⟨x, r1, h1⟩ => Dp.reads I _ x v (h1.dp (okL_mem ok.ok d hd)) r1
  · rw [depth_py]
    have := ok.dp b hb
    omega
  · obtain ⟨ys, r1, ra2⟩ := each_back eo
    obtain ⟨c, hc⟩ := sortedAll_at s.heap its out.toArray
    have hlen : ys.length ≤ sizeLine := by rw [r1.length, ho]; exact ok.ln
    have J : Inv X pins σ (upd H (s.heap.objs.size + 1) (.lst ys)) { s with heap := sortedAll s.heap its (List.toArray out) } :=
      I.laid (t' := s.toks) (fun b o q => sortedAll_old q) (Nat.le_succ _) (show ObjOk X.prog X.w _ _ _ (.lst ys) from ⟨hlen, out, c, r1, hc⟩)
    exact ⟨.ref _, _, J, rfl, f.lst ra2 _ (I.hok.fresh (Nat.le_succ _))⟩
end
@[simp] def sortTW (a : WO) : W := fun ρ t Q E => a ρ t (fun x ρ1 t1 => ∃ ds, rsv ρ1 x = some (.tup ds) ∧ SortOk ds ∧ Q (.nw (srt ds)) ρ1 t1) E
section
variable {X : Cx} {EX : XX} {e : Expr} {wa : WO} {p pos : Pos}
theorem de_sortedT (hu : X.A.units + 64 < cLine) (hg : Gl X "sorted") (hm : X.mg "sorted" = none) (ha : DO X EX e wa) (he : starEach [e] X.env = (false, eval e X.env) :: starEach [] X.env := by rfl) (hpl : (backTo pos (starEach [] X.env)).any (·.1) = false := by rfl) :
    DE X EX (.Call (.Name "sorted" p) [e] [] pos) (sortTW wa) :=
  PE.imp (pe_callB (cr_sortDT hu) hg hm PyProof.Rows.boot_sorted (pa_cons ha pa_nil he) (by decide) (by decide) he hpl) fun σ H Q h => by
    obtain ⟨G, P, ρ, t, Q', E, S, hw, lk, hq⟩ := h
    refine ⟨G, P, ρ, t, _, E, S, hw, lk, fun o ρ1 t1 x H1 P1 h1 r1 => ?_⟩
    obtain ⟨ds, e1, ok, q⟩ := h1
    have S1 := r1.sat
    exact ⟨P1, Mx G.F P1 ρ1 σ, x, ds, rfl, rsv_ok S1 r1 e1, ok, _, rfl, fun z H' k rz => hq _ ρ1 t1 z H' P1 q (rz_rs S1 k rz)⟩
end
/-! ### a list that is kept as data from the time it is set -/
@[simp] def frzI (i : Nat) (ρ : List Sl) : List Sl := match ρ[i]? with
  | some (.ow o) => ρ.set i (.im o.dat)
  | _ => ρ
@[simp] def thenF (i : Nat) (a : WS) : WS := fun ρ t k => a ρ t { k with nx := fun ρ' t' => k.nx (frzI i ρ') t' }
theorem ds_thenF {X : Cx} {EX : XX} {st : Stmt} {i : Nat} {a : WS} (h : DS X EX st a) : DS X EX st (thenF i a) := PS.imp h fun D σ H h => by
  obtain ⟨G, P, ρ, t, k, S, hw, lk, hn, hb, hc, hr⟩ := h
  refine ⟨G, P, ρ, t, _, S, hw, lk, fun ρ' t' σ' H' P' z S' => ?_, hb, hc, hr⟩
  have z : k.nx (frzI i ρ') t' := z
  unfold frzI at z
  split at z
  · rename_i ds e
    exact hn _ _ _ _ P' z (S'.freeze e).1
  · exact hn _ _ _ _ P' z S'
end NB
set_option Elab.async false
set_option linter.all false
set_option maxRecDepth 100000
set_option maxHeartbeats 4000000
set_option autoImplicit false
/-! What the text behind the top says, gathered. -/
namespace NB
open PySem PySem.Spec PyProof.Rows L2

section
variable {K : PySem.W.Frag} {h : Heap} {mg : Str → Option Value}
/-- where a def stands -/
def At (K : PySem.W.Frag) (x : Str) (st : Stmt) : Prop := ∃ (f : Addr) (oc : Value) (od : Option Addr) (kV doc pm : Value) (an : Option Addr) (cd ct : Value) (sl : Array (Option Value)), PySem.W.nsIn K mainGlobals x = some (some (.ref f)) ∧ K.lookup f = some ⟨oc, od, .func (PySem.W.fnOf x x (defArgs st) (defBody st) (defScope st) .none kV doc pm an cd ct), sl⟩ ∧ PySem.W.codeIn K cd x = true ∧ PySem.W.keepIn K (.ref f) = true
theorem at_mk {x : Str} {st : Stmt} {f : Addr} {oc : Value} {od : Option Addr} {kV doc pm : Value} {an : Option Addr} {cd ct : Value} {sl : Array (Option Value)} (a : PySem.W.nsIn K mainGlobals x = some (some (.ref f)))
    (l : K.lookup f = some ⟨oc, od, .func (PySem.W.fnOf x x (defArgs st) (defBody st) (defScope st) .none kV doc pm an cd ct), sl⟩) (c : PySem.W.codeIn K cd x = true) (k : PySem.W.keepIn K (.ref f) = true) : At K x st := ⟨_, _, _, _, _, _, _, _, _, _, a, l, c, k⟩
theorem df_of (X : K.In h) (G : h.Ns mainGlobals mg) {x : Str} {st : Stmt} {ps : List Str} (a : At K x st)
    (hb : ∀ (kV doc pm : Value) (an : Option Addr) (cdv ct : Value) (us : List Value), us.length = ps.length → bindArgs (PySem.W.fnOf x x (defArgs st) (defBody st) (defScope st) .none kV doc pm an cdv ct) ⟨us, []⟩ = pure (ps.zip us)) : Df K mg x st ps := by
  obtain ⟨f, oc, od, kV, doc, pm, an, cd, ct, sl, a1, l1, c1, k1⟩ := a
  exact ⟨f, _, fun_mk l1 c1 k1, PySem.W.mg_of X G a1, (fun_mk l1 c1 k1).binds hb⟩
/-- where a def that makes lambdas stands -/
def AtL (K : PySem.W.Frag) (x : Str) (st : Stmt) : Prop := ∃ (f : Addr) (oc : Value) (od : Option Addr) (kV doc pm : Value) (an : Option Addr) (c : Addr) (ct : Value) (sl : Array (Option Value)), PySem.W.nsIn K mainGlobals x = some (some (.ref f)) ∧ K.lookup f = some ⟨oc, od, .func (PySem.W.fnOf x x (defArgs st) (defBody st) (defScope st) .none kV doc pm an (.ref c) ct), sl⟩ ∧ PySem.W.codeIn K (.ref c) x = true ∧ PySem.W.keepIn K (.ref f) = true ∧
  (PySem.W.tabIn K x).map (·.1) = some c
theorem at_mkL {x : Str} {st : Stmt} {f : Addr} {oc : Value} {od : Option Addr} {kV doc pm : Value} {an : Option Addr} {c : Addr} {ct : Value} {sl : Array (Option Value)} (a : PySem.W.nsIn K mainGlobals x = some (some (.ref f)))
    (l : K.lookup f = some ⟨oc, od, .func (PySem.W.fnOf x x (defArgs st) (defBody st) (defScope st) .none kV doc pm an (.ref c) ct), sl⟩) (d : PySem.W.codeIn K (.ref c) x = true) (k : PySem.W.keepIn K (.ref f) = true) (t : (PySem.W.tabIn K x).map (·.1) = some c) : AtL K x st := ⟨_, _, _, _, _, _, _, _, _, _, a, l, d, k, t⟩
theorem dfl_of (X : K.In h) (G : h.Ns mainGlobals mg) {x : Str} {st : Stmt} {ps : List Str} (a : AtL K x st)
    (hb : ∀ (kV doc pm : Value) (an : Option Addr) (cdv ct : Value) (us : List Value), us.length = ps.length → bindArgs (PySem.W.fnOf x x (defArgs st) (defBody st) (defScope st) .none kV doc pm an cdv ct) ⟨us, []⟩ = pure (ps.zip us)) : DfL K mg x st ps := by
  obtain ⟨f, oc, od, kV, doc, pm, an, c, ct, sl, a1, l1, c1, k1, t1⟩ := a
  obtain ⟨⟨c', P⟩, t2, t3⟩ := Option.map_eq_some_iff.mp t1
  have t3 : c' = c := t3
  subst t3
  exact ⟨f, oc, od, kV, doc, pm, an, _, ct, sl, c', P, l1, c1, k1, PySem.W.mg_of X G a1, (fun_mk l1 c1 k1).binds hb, rfl, t2⟩
/-- where a tuple of texts stands -/
def AtT (K : PySem.W.Frag) (x : Str) (xs : List Str) : Prop := ∃ (a : Addr) (od : Option Addr) (its : Array Value) (n : Nat) (sl : Array (Option Value)), PySem.W.nsIn K mainGlobals x = some (some (.ref a)) ∧ K.lookup a = some ⟨.type "tuple", od, .seq its n, sl⟩ ∧ its.size ≤ sizeLine ∧ Vals (xs.map V.str) its.toList
theorem at_mkT {x : Str} {xs : List Str} {a : Addr} {od : Option Addr} {its : Array Value} {n : Nat} {sl : Array (Option Value)} (h : PySem.W.nsIn K mainGlobals x = some (some (.ref a))) (l : K.lookup a = some ⟨.type "tuple", od, .seq its n, sl⟩)
    (s : its.size ≤ sizeLine) (v : Vals (xs.map V.str) its.toList) : AtT K x xs := ⟨_, _, _, _, _, h, l, s, v⟩
theorem gt_of (X : K.In h) (G : h.Ns mainGlobals mg) {x : Str} {xs : List Str} (t : AtT K x xs) : ∃ u, mg x = some u ∧ TupK K u (xs.map V.str) := by
  obtain ⟨a, od, its, n, sl, h1, h2, h3, h4⟩ := t
  exact ⟨_, PySem.W.mg_of X G h1, a, _, its, n, rfl, h2, rfl, rfl, h3, h4⟩
theorem gi_of (X : K.In h) (G : h.Ns mainGlobals mg) {x : Str} {i : Int} {t : Nat} (a : PySem.W.nsIn K mainGlobals x = some (some (.int i t))) : ∃ t, mg x = some (.int i t) := ⟨_, PySem.W.mg_of X G a⟩
theorem gs_of (X : K.In h) (G : h.Ns mainGlobals mg) {x : Str} {z : Str} {t : Nat} (a : PySem.W.nsIn K mainGlobals x = some (some (.str z t))) : ∃ t, mg x = some (.str z t) := ⟨_, PySem.W.mg_of X G a⟩

/-! ### exceptions -/
/-- a class of exceptions -/
structure ExcN (K : PySem.W.Frag) (c : Str) (C fI CS : Addr) : Prop where
  at_ : PySem.W.nsIn K mainGlobals c = some (some (.ref C))
  txt : ExcT K C
  ini : PySem.W.findIn K (.ref C) "__init__" = some (some (.ref fI))
  exm : PySem.W.exmOne K (.ref C) (.ref CS) = some true
  kn : PySem.W.kitOne K (.type "NoneType") (.ref C) = some false
theorem exc_mk {c : Str} {C fI CS : Addr} {nm q N bs bm sn sub ab col dd k0 k1 k2 k3 k5} (a : PySem.W.nsIn K mainGlobals c = some (some (.ref C))) (l : K.lookup C = some (excClassObj nm q C N bs bm true sn sub ab col dd k0 k1 k2 k3 k5 "ValueError.__new__")) (rv : PySem.HandSPX.refsVE bm = true)
    (sa : PySem.W.findIn K (.ref C) "__setattr__" = some (some (.builtin "object.__setattr__"))) (exC : PySem.W.subIn K (.ref C) (.type "BaseException") = some true) (tyC : PySem.W.typeIn K (.ref C) = some (.type "type")) (kC : PySem.W.keepIn K (.ref C) = true)
    (ga : PySem.W.findIn K (.ref C) "__getattribute__" = some (some (.builtin "BaseException.__getattribute__"))) (gg : PySem.W.findIn K (.ref C) "__getattr__" = some none) (hd : PySem.W.hasDictIn K C = true) (nov : PySem.W.findIn K (.ref C) "value" = some none) (hcl : (PySem.W.clsIn K C).isSome = true)
    (hcc : PySem.W.findIn K (.ref C) "__class__" = some (some (.builtin "object.__class__"))) (hsp : PySem.W.specialIn K (.builtin "object.__class__") "__get__" = some (some (.builtin "getset_descriptor.__get__"))) (htk : PySem.W.takesIn K (.builtin "object.__class__") = some true) (hmo : PySem.W.mroIn K C (.type "object") = some true)
    (ini : PySem.W.findIn K (.ref C) "__init__" = some (some (.ref fI))) (exm : PySem.W.exmOne K (.ref C) (.ref CS) = some true) (kn : PySem.W.kitOne K (.type "NoneType") (.ref C) = some false) : ExcN K c C fI CS :=
  ⟨a, ⟨⟨⟨nm, q, N, bs, bm, sn, sub, ab, col, dd, k0, k1, k2, k3, k5, l, rv⟩, sa, exC, tyC, kC⟩, ⟨ga, gg, exC, hd⟩, nov, hcl, hcc, hsp, htk, hmo⟩, ini, exm, kn⟩
theorem excS_of (X : K.In h) (G : h.Ns mainGlobals mg) {cs : List Str} {fI CS : Addr} {ad : Str → Addr} (l : PySem.W.nsIn K mainGlobals "LiftError" = some (some (.ref CS))) (tf : PySem.W.typeIn K (.ref fI) = some (.type "function")) (E : ∀ c ∈ cs, ExcN K c (ad c) fI CS)
    (kit : ∀ c ∈ cs, ∀ d ∈ cs, PySem.W.kitOne K (.ref (ad c)) (.ref (ad d)) = some (decide (c = d))) : ExcS K mg cs fI CS ad :=
  ⟨PySem.W.mg_of X G l, fun c hc => (E c hc).at_, fun c hc => PySem.W.mg_of X G (E c hc).at_, fun c hc => (E c hc).txt, fun c hc => ⟨(E c hc).ini, tf⟩, fun c hc => (E c hc).exm, kit⟩
/-- where LiftError.__init__ stands, and what it needs -/
structure AtI (K : PySem.W.Frag) (st : Stmt) (fI : Addr) : Prop where
  ex : ∃ (oc : Value) (od : Option Addr) (kV doc pm : Value) (an : Option Addr) (cd ct : Value) (sl : Array (Option Value)), K.lookup fI = some ⟨oc, od, .func (PySem.W.fnOf "__init__" "LiftError.__init__" (defArgs st) (defBody st) (defScope st) .none kV doc pm an cd ct), sl⟩ ∧ PySem.W.codeIn K cd "LiftError.__init__" = true ∧ PySem.W.keepIn K (.ref fI) = true
  ve : PySem.W.findCls K (.type "ValueError") (.type "type") "__init__" = some (.val (.builtin "ValueError.__init__"))
theorem at_mkI {st : Stmt} {f : Addr} {oc : Value} {od : Option Addr} {kV doc pm : Value} {an : Option Addr} {cd ct : Value} {sl : Array (Option Value)}
    (l : K.lookup f = some ⟨oc, od, .func (PySem.W.fnOf "__init__" "LiftError.__init__" (defArgs st) (defBody st) (defScope st) .none kV doc pm an cd ct), sl⟩) (c : PySem.W.codeIn K cd "LiftError.__init__" = true) (k : PySem.W.keepIn K (.ref f) = true)
    (ve : PySem.W.findCls K (.type "ValueError") (.type "type") "__init__" = some (.val (.builtin "ValueError.__init__"))) : AtI K st f := ⟨⟨_, _, _, _, _, _, _, _, _, l, c, k⟩, ve⟩
/-- the same def for all bases -/
structure InitS (Pr : Program) (w : World) (K : PySem.W.Frag) (mg : Str → Option Value) (fI : Addr) (fd : FuncData) : Prop where
  io : ∀ base : Heap, FnOk Pr w K mg base CX0 1 fI fd ["self", "value"] (spInit K)
  bi : Binds K fd ["self", "value"] []

/-! ### tables -/
def tabUB (K : PySem.W.Frag) : Bool := lamNames.all fun x => lamNames.all fun y => (x == y) || !((PySem.W.tabIn K x).map (·.2) == (PySem.W.tabIn K y).map (·.2)) || (PySem.W.tabIn K x).isNone
theorem tabU_of (h : tabUB K = true) : TabU K := fun x hx y hy c c' P e e' => by
  have h := List.all_eq_true.mp (List.all_eq_true.mp h x hx) y hy
  rw [e, e'] at h
  simpa using h
def tabNB (K : PySem.W.Frag) : Bool := lamNames.all fun x => ((PySem.W.tabIn K x).bind fun p => K.lookup p.2).isNone
theorem tabN_of (h : tabNB K = true) : ∀ x ∈ lamNames, ∀ c P, PySem.W.tabIn K x = some (c, P) → K.lookup P = none := fun x hx c P e => by
  have h := List.all_eq_true.mp h x hx
  rw [e] at h
  simpa using h
theorem recs_of {q : Program} (h : (lamNames.all fun x => ((recsOf q).find? (fun e => e.name == x)).isSome) = true) : ∀ x ∈ lamNames, ∃ d, (recsOf q).find? (fun e => e.name == x) = some d := fun x hx => Option.isSome_iff_exists.mp (List.all_eq_true.mp h x hx)
end
end NB
set_option Elab.async false
set_option linter.all false
set_option maxRecDepth 100000
set_option maxHeartbeats 4000000
set_option autoImplicit false
/-! str.join, starred displays, int of a text, `is True`, three names at once. -/
namespace NB
open PySem PySem.Spec PyProof.Rows L2

section
variable {X : Cx} {EX : XX} {e a b c : Expr} {es : List Expr} {p pos : Pos} {w wa wb wc : W} {r : Wg (List D)}
/-- the items of a list or a tuple -/
@[simp] def itsD : D → Option (List D)
  | .tup ds => some ds
  | d => d.ls
theorem its_ok {K : KF} {H : Hp} {P M : PA1} {d : D} {v : V} {ds : List D} (h : Rs K H P M d v) (e : itsD d = some ds) : ∃ q xs, v = V.ref q ∧ (SqT K H q xs ∨ SqL K H q xs) ∧ RpA K H P M ds xs := by
  cases d with
  | tup es =>
    cases e
    obtain ⟨q, xs, rfl, ta, ra⟩ := h.tp
    exact ⟨q, xs, rfl, .inl ta, ra⟩
  | lst es =>
    obtain ⟨q, xs, rfl, ta, ra⟩ := h.ls (show (D.lst es).ls = some ds from e)
    exact ⟨q, xs, rfl, .inr ta, ra⟩
  | scr ns =>
    obtain ⟨q, xs, rfl, ta, ra⟩ := h.ls (show (D.scr ns).ls = some ds from e)
    exact ⟨q, xs, rfl, .inr ta, ra⟩
  | _ => cases e
@[simp] def starD (w : W) (r : Wg (List D)) : Wg (List D) := fun ρ t Q E => w ρ t (fun x ρ1 t1 => ∃ ds, itsD x.d = some ds ∧ r ρ1 t1 (fun xs ρ2 t2 => Q (ds ++ xs) ρ2 t2) E) E
theorem da_star (he : DE X EX e w) (hr : DA X EX es r) (hs : starEach (.Starred e p :: es) X.env = (true, eval e X.env) :: starEach es X.env := by rfl) : DA X EX (.Starred e p :: es) (starD w r) := PA.imp (StX.pa_star he hr hs) fun σ H Q h => by
  obtain ⟨G, P, ρ, t, Q', E, S, hw, lk, hq⟩ := h
  refine ⟨G, P, ρ, t, _, E, S, hw, lk, fun o ρ1 t1 x H1 P1 h1 r1 => ?_⟩
  obtain ⟨ds, e1, h1⟩ := h1
  obtain ⟨S1, p1⟩ := r1.im
  obtain ⟨q, xs, rfl, tq, ra⟩ := its_ok p1.rs e1
  refine ⟨q, xs, rfl, tq, G.holds (ds.zip xs), P1, ρ1, t1, _, E, S1.holds fun p hp => ?_, h1, lk.holds, fun os ρ2 t2 ys H2 P2 h2 r2 => ?_⟩
  · obtain ⟨i, hi⟩ := List.getElem?_of_mem hp
    rw [List.getElem?_zip_eq_some] at hi
    obtain ⟨y, g1, g2⟩ := ra.get hi.1
    rw [hi.2] at g1; cases g1
    exact g2
  · obtain ⟨S2, p2⟩ := r2
    obtain ⟨S3, hh⟩ := S2.unholds
    exact hq _ _ _ _ _ P2 h2 ⟨S3, (zip_ra ra.length hh).append p2⟩

/-! ### join -/
@[simp] def joinD : D → D → Option R
  | .str a, d => (itsD d).bind fun ds => (strsD ds).bind fun zs => if (zs.map (·.length)).sum + zs.length * a.length ≤ 16777216 then some (.im (.str (Txt.join a zs))) else none
  | _, _ => none
theorem mt_joinD : Mt1 X "str.join" joinD := by
  intro pins s σ H x xs v us Q I rx rxs ⟨P, M, d, e, y, exs, h1, h2, _, f⟩
  unfold joinD at f
  split at f
  · rename_i a
    cases e1 : itsD e with
    | none => rw [e1] at f; exact f.no.elim
    | some ds =>
      cases e2 : strsD ds with
      | none => rw [e1] at f; simp only [Option.bind_some, e2, Option.bind_none] at f; exact f.no.elim
      | some zs =>
        rw [e1] at f
        simp only [Option.bind_some, e2] at f
        split at f
        · rename_i hk
          obtain ⟨q, ys, rfl, tq, ra⟩ := its_ok h2 e1
          rw [strsD_some e2] at ra
          rw [ra_strs_inv ra] at tq
          exact mt_join pins s σ H x xs v us Q I rx rxs ⟨a, q, zs, h1.str, exs, tq.symm, hk, f.im rp_str⟩
        · exact f.no.elim
  · exact f.no.elim

/-! ### is True, is False -/
@[simp] def isBlD : D → D → Option R
  | .bl a, .bl b => some (.im (.bl (decide (a = b))))
  | _, _ => none
theorem op_isBl : Op2 X (compareOp .Is) isBlD := by
  intro pins s σ H x y v u Q I rx ry ⟨P, M, d, e, h1, h2, _, f⟩
  unfold isBlD at f
  split at f
  · rename_i a b
    have e1 := h1.bl
    have e2 := h2.bl
    subst e1 e2
    cases (show v = Value.bool a from rx)
    cases (show u = Value.bool b from ry)
    refine wpAny_is_plain rfl (fin_bl (k := decide (a = b)) I (f.im rp_bl') ?_)
    cases a <;> cases b <;> rfl
  · exact f.no.elim

/-! ### three names at once -/
@[simp] def par3S (i j l : Nat) (a b c : W) : WS := fun ρ t k => a ρ t (fun r ρ1 t1 => b ρ1 t1 (fun q ρ2 t2 => c ρ2 t2 (fun s ρ3 t3 => k.nx (((ρ3.set l (.im s.d)).set j (.im q.d)).set i (.im r.d)) t3) k.ex) k.ex) k.ex
theorem ds_par3 {i j l : Nat} {x y z : Str} {px py pz pt : Pos} {kt k2 : Nat} {pt2 : Pos} (hc : X.calm = true) (hN : X.N.Nodup) (hi : X.N[i]? = some x) (hj : X.N[j]? = some y) (hl : X.N[l]? = some z) (hij : i ≠ j) (hil : i ≠ l) (hjl : j ≠ l)
    (hx : X.env.scope.names.lookup x = some .local) (hy : X.env.scope.names.lookup y = some .local) (hz : X.env.scope.names.lookup z = some .local) (ha : DE X EX a wa) (hb : DE X EX b wb) (hcc : DE X EX c wc)
    (hs1 : starEach [a, b, c] X.env = (false, eval a X.env) :: starEach [b, c] X.env) (hs2 : starEach [b, c] X.env = (false, eval b X.env) :: starEach [c] X.env) (hs3 : starEach [c] X.env = (false, eval c X.env) :: starEach [] X.env)
    (hw : swappedStores [.Tuple [.Name x px, .Name y py, .Name z pz] kt pt] (.Tuple [a, b, c] k2 pt2) X.env = pure (some [x, y, z]))
    (hs : swapsWithSole [.Tuple [.Name x px, .Name y py, .Name z pz] kt pt] (.Tuple [a, b, c] k2 pt2) pos.line X.env = pure false := by rfl) :
    DS X EX (.Assign [.Tuple [.Name x px, .Name y py, .Name z pz] kt pt] (.Tuple [a, b, c] k2 pt2) pos) (par3S i j l wa wb wc) := PS.imp (ps_par3 hc hN hi hj hl hij hil hjl hx hy hz (pa_cons ha (pa_cons hb (pa_cons hcc pa_nil hs3) hs2) hs1) hw hs) fun D σ H h => by
  obtain ⟨G, P, ρ, t, k, S, hw, lk, hn, hb, hc, hr⟩ := h
  refine ⟨G, P, ρ, t, _, k.ex, S, hw, lk, fun r ρ1 t1 v H1 P1 h1 r1 => ?_⟩
  obtain ⟨S1, p1⟩ := r1.im
  refine ⟨G.hold r.d v, P1, ρ1, t1, _, k.ex, S1.hold p1, h1, lk.hold, fun q ρ2 t2 u H2 P2 h2 r2 => ?_⟩
  obtain ⟨S2, p2⟩ := r2.im
  refine ⟨(G.hold r.d v).hold q.d u, P2, ρ2, t2, _, k.ex, S2.hold p2, h2, lk.hold.hold, fun s ρ3 t3 y H3 P3 h3 r3 => ?_⟩
  obtain ⟨S3, p3⟩ := r3.im
  obtain ⟨S4, q2⟩ := (S3.setIm (i := l) p3).unhold
  obtain ⟨S5, q1⟩ := (S4.setIm (i := j) q2).unhold
  refine ⟨v, u, y, rfl, ?_⟩
  rw [List.set_comm _ _ hij, List.set_comm _ _ hil, List.set_comm _ _ hjl]
  exact hn _ _ _ _ P3 h3 (S5.setIm q1)
end

/-! ### int of a text -/
@[simp] def intTD : D → Option R
  | .str z => match PySem.intText? z with
    | some n => if z.length ≤ 640 then some (.im (.int n)) else none
    | none => none
  | d => intD d
theorem oc_intT {X : Cx} : OpC X (.type "int") (g1 intTD) := opC1 fun pins s σ H v us Q P M d I r rd f => by
  unfold intTD at f
  split at f
  · rename_i z
    split at f
    · split at f
      · exact call_int_str pins s σ H _ us Q I r ⟨_, _, by rw [rd.str], by assumption, by assumption, f.im rp_int⟩
      · exact f.no.elim
    · exact f.no.elim
  · unfold intD at f
    split at f
    · exact call_int1 pins s σ H _ us Q I r (.inl ⟨_, by rw [rd.int], f.im rp_int⟩)
    · exact call_int1 pins s σ H _ us Q I r (.inr ⟨_, by rw [rd.bl], f.im rp_int⟩)
    · exact f.no.elim
/-! ### a list turned about -/
@[simp] def backLD (d : D) : Option R := d.ls.map fun ds => .nw ds.reverse
theorem de_backL {X : Cx} {EX : XX} {e : Expr} {wa : WO} {k : Nat} {p1 p2 p3 pos : Pos} (ha : DO X EX e wa) : DE X EX (.Subscript e (.Slice none none (some (.UnaryOp .USub (.Constant (.int 1) k p1) p2)) p3) pos) (op1W backLD wa) := PE.imp (pe_revL ha) fun σ H Q h => by
  obtain ⟨G, P, ρ, t, Q', E, S, hw, lk, hq⟩ := op1_read h
  refine ⟨G, P, ρ, t, Q', E, S, hw, lk, fun o ρ1 t1 x H1 P1 h1 r1 => ?_⟩
  obtain ⟨P2, M, d, rd, _, f⟩ := hq o ρ1 t1 x H1 P1 h1 r1
  unfold backLD at f
  cases e1 : d.ls with
  | none => rw [e1] at f; exact f.no.elim
  | some ds =>
    rw [e1] at f
    obtain ⟨a, xs, rfl, ta, ra⟩ := rd.ls e1
    exact ⟨a, xs, rfl, ta, fun q nq => f.lst ra.reverse q nq⟩
end NB
set_option Elab.async false
set_option linter.all false
set_option maxRecDepth 100000
set_option maxHeartbeats 4000000
set_option autoImplicit false
/-! str.find, a list times a number, dicts of texts of the module. -/
namespace NB
open PySem PySem.Spec PyProof.Rows L2

/-! ### find -/
@[simp] def findD : D → D → Option R
  | .str a, .str b => some (.im (.int (Txt.find a b)))
  | _, _ => none
theorem mt_findD {X : Cx} : Mt1 X "str.find" findD := by
  intro pins s σ H x xs v us Q I rx rxs ⟨P, M, d, e, y, exs, h1, h2, _, f⟩
  unfold findD at f
  split at f
  · rw [h2.str] at exs
    exact mt_find pins s σ H x xs v us Q I rx rxs ⟨_, _, h1.str, exs, f.im rp_int⟩
  · exact f.no.elim

/-! ### list * int -/
@[simp] def mulLD : D → D → Option R
  | .lst xs, .int k => if xs.length ≤ 1000 ∧ 0 ≤ k ∧ k ≤ 1000 then some (.nw (.l (List.replicate k.toNat xs).flatten)) else none
  | d, e => mulAD d e
theorem op_mulLD {X : Cx} : Op2 X (binaryOp .Mult) mulLD := by
  intro pins s σ H x y v u Q I rx ry ⟨P, M, d, e, h1, h2, m, f⟩
  unfold mulLD at f
  split at f
  · split at f
    · rename_i xs k hk
      obtain ⟨a, ys, rfl, ta, ra⟩ := h1
      have hz : sizeLine = 16777216 := sizeLine_eq
      have hm : ys.length * k.toNat ≤ 1000 * 1000 := Nat.mul_le_mul (by rw [← ra.length]; exact hk.1) (by omega)
      exact op_rep pins s σ H _ _ v u Q I rx ry ⟨a, k, ys, rfl, h2.int, ta, by omega, by omega, by omega, f.lst (ra_rep ra _)⟩
    · exact f.no.elim
  · exact op_mulAD pins s σ H x y v u Q I rx ry ⟨P, M, d, e, h1, h2, m, f⟩

/-! ### dicts of texts of the module -/
/-- the entries of such a dict -/
def DicS (P : Params) : List DictEntry → List (Str × Str) → Prop
  | [], [] => True
  | e :: es, kv :: tab => (∃ t u, e.key = .str kv.1 t ∧ e.hash = PyData.keyHash P kv.1 ∧ e.val = .str kv.2 u) ∧ DicS P es tab
  | _, _ => False
theorem DicS.lit {P : Params} : ∀ {es : List DictEntry} {tab : List (Str × Str)}, DicS P es tab → PySem.W.KeysLit P es
  | [], _, _ => True.intro
  | e :: es, kv :: tab, ⟨⟨t, u, h1, h2, _⟩, r⟩ => ⟨⟨kv.1, t, h1, h2⟩, r.lit⟩
theorem DicS.find {P : Params} (z : Str) : ∀ {es : List DictEntry} {tab : List (Str × Str)}, DicS P es tab →
    match tab.lookup z with
    | some v => ∃ e u, es.find? (·.key.isStr z) = some e ∧ e.val = .str v u
    | none => es.find? (·.key.isStr z) = none ∧ es.any (·.refKey) = false
  | [], [], _ => ⟨rfl, rfl⟩
  | e :: es, (k, v) :: tab, ⟨⟨t, u, h1, _, h3⟩, r⟩ => by
    have ih := r.find z
    have e1 : e.key.isStr z = (k == z) := by rw [h1]; rfl
    have e2 : e.refKey = false := by unfold DictEntry.refKey; rw [h1]
    rw [List.lookup_cons]
    by_cases hz : z = k
    · subst hz
      simp only [beq_self_eq_true]
      exact ⟨e, u, by rw [List.find?_cons, e1, beq_self_eq_true], h3⟩
    · have h4 : (z == k) = false := by simpa using hz
      have h5 : (k == z) = false := by simpa using fun q => hz q.symm
      rw [h4]
      simp only
      cases hl : tab.lookup z with
      | some v' =>
        rw [hl] at ih
        obtain ⟨e', u', f1, f2⟩ := ih
        exact ⟨e', u', by rw [List.find?_cons, e1, h5]; exact f1, f2⟩
      | none =>
        rw [hl] at ih
        exact ⟨by rw [List.find?_cons, e1, h5]; exact ih.1, by rw [List.any_cons, e2, ih.2]; rfl⟩
/-- the dict at the module's name x -/
def KTab (K : PySem.W.Frag) (w : World) (mg : Str → Option Value) (x : Str) (tab : List (Str × Str)) : Prop :=
  ∃ (d : Addr) (es : Array DictEntry) (n : Nat), mg x = some (.ref d) ∧ K.lookup d = some ⟨.type "dict", none, .dict es n, #[]⟩ ∧ DicS w.params es.toList tab ∧ (d == sysModules) = false
theorem KTab.ns {K : PySem.W.Frag} {w : World} {d : Addr} {es : Array DictEntry} {n : Nat} {tab : List (Str × Str)} (hl : K.lookup d = some ⟨.type "dict", none, .dict es n, #[]⟩) (h : DicS w.params es.toList tab) (z : Str) :
    ∃ r, PySem.W.nsIn K d z = some r ∧ match tab.lookup z with | some v => ∃ u, r = some (.str v u) | none => r = none := by
  have f := h.find z
  unfold PySem.W.nsIn
  rw [hl]
  cases e : tab.lookup z with
  | some v =>
    rw [e] at f
    obtain ⟨e', u, f1, f2⟩ := f
    exact ⟨some e'.val, by simp only [f1], u, by rw [f2]⟩
  | none =>
    rw [e] at f
    exact ⟨none, by simp only [f.1, f.2]; rfl, rfl⟩
@[simp] def inTab (tab : List (Str × Str)) : D → Option R
  | .str z => some (.im (.bl (tab.lookup z).isSome))
  | _ => none
@[simp] def notInTab (tab : List (Str × Str)) : D → Option R
  | .str z => some (.im (.bl (!(tab.lookup z).isSome)))
  | _ => none
@[simp] def ofTab (tab : List (Str × Str)) : D → Option R
  | .str z => (tab.lookup z).map fun v => .im (.str v)
  | _ => none
section
variable {X : Cx} {EX : XX} {e : Expr} {wa : WO} {x : Str} {p pos : Pos} {tab : List (Str × Str)}
theorem tab_some {K : PySem.W.Frag} {w : World} {d : Addr} {es : Array DictEntry} {n : Nat} {tab : List (Str × Str)} (hl : K.lookup d = some ⟨.type "dict", none, .dict es n, #[]⟩) (h : DicS w.params es.toList tab) (z : Str) :
    ∃ r, PySem.W.nsIn K d z = some r ∧ r.isSome = (tab.lookup z).isSome := by
  obtain ⟨r, h1, h2⟩ := KTab.ns hl h z
  refine ⟨r, h1, ?_⟩
  cases e : tab.lookup z with
  | some v => rw [e] at h2; obtain ⟨u, rfl⟩ := h2; rfl
  | none => rw [e] at h2; rw [h2]; rfl
theorem notIn_tell {σ : St} {H : Hp} {Q : VK} {d : Addr} {es : Array DictEntry} {n : Nat} (hl : X.K.lookup d = some ⟨.type "dict", none, .dict es n, #[]⟩) (hs : DicS X.w.params es.toList tab) (h : Go (kX X) EX (RS (kX X)) (op1W (notInTab tab) wa) σ H Q) :
    Go (kX X) EX (RO (kX X)) wa σ H fun x H1 => ∃ (z : Str) (r : Option Value), x = .str z ∧ V.ref d = .ref d ∧ PySem.W.nsIn (kX X) d z = some r ∧ Q (.bl (!r.isSome)) H1 := by
  obtain ⟨G, P, ρ, t, Q', E, S, hw, lk, hq⟩ := op1_read h
  refine ⟨G, P, ρ, t, Q', E, S, hw, lk, fun o ρ1 t1 x H1 P1 h1 r1 => ?_⟩
  obtain ⟨P2, M, dd, rd, _, f⟩ := hq o ρ1 t1 x H1 P1 h1 r1
  unfold notInTab at f
  split at f
  · rename_i z
    obtain ⟨r, e1, e2⟩ := tab_some hl hs z
    exact ⟨z, r, rd.str, rfl, e1, by rw [e2]; exact f.im rp_bl'⟩
  · exact f.no.elim
theorem de_notInTab (hg : Gl X x) (h : KTab X.K X.w X.mg x tab) (ha : DO X EX e wa) (hd : (x == ("__debug__" : Str)) = false := by decide) (hm : behindInMarks .NotIn (.Name x p) = false := by rfl) :
    DE X EX (.Compare e [.NotIn] [.Name x p] pos) (op1W (notInTab tab) wa) := by
  obtain ⟨d, es, n, h1, hl, hs, hy⟩ := h
  exact PE.imp (pe_cmpR (op_notIn_kd ⟨hl, hs.lit, hy⟩) ha (pe_glob (v := .ref d) hg h1 rfl hd) hm) fun σ H Q h => notIn_tell hl hs h
theorem dt_notInTab (hg : Gl X x) (h : KTab X.K X.w X.mg x tab) (ha : DO X EX e wa) (hd : (x == ("__debug__" : Str)) = false := by decide) (hm : behindInMarks .NotIn (.Name x p) = false := by rfl) :
    DT X EX (.Compare e [.NotIn] [.Name x p] pos) (testW (op1W (notInTab tab) wa)) := by
  obtain ⟨d, es, n, h1, hl, hs, hy⟩ := h
  exact PT.imp (pt_cmpR (op_notIn_kd ⟨hl, hs.lit, hy⟩) ha (pe_glob (v := .ref d) hg h1 rfl hd) hm) fun σ H Q h => notIn_tell hl hs (test_read h)
theorem de_ofTab (hg : Gl X x) (h : KTab X.K X.w X.mg x tab) (ha : DO X EX e wa) (hd : (x == ("__debug__" : Str)) = false := by decide) (hs' : PlainIx e := by exact fun _ _ => rfl) :
    DE X EX (.Subscript (.Name x p) e pos) (op1W (ofTab tab) wa) := by
  obtain ⟨d, es, n, h1, hl, hs, hy⟩ := h
  refine PE.imp (pe_ix ix_kdict (pe_glob (v := .ref d) hg h1 rfl hd) ha hs') fun σ H Q h => ?_
  obtain ⟨G, P, ρ, t, Q', E, S, hw, lk, hq⟩ := op1_read h
  refine ⟨G, P, ρ, t, Q', E, S, hw, lk, fun o ρ1 t1 x H1 P1 h1 r1 => ?_⟩
  obtain ⟨P2, M, dd, rd, _, f⟩ := hq o ρ1 t1 x H1 P1 h1 r1
  unfold ofTab at f
  split at f
  · rename_i z
    obtain ⟨r, e1, e2⟩ := KTab.ns hl hs z
    cases el : tab.lookup z with
    | none => rw [el] at f; exact f.no.elim
    | some v =>
      rw [el] at f e2
      obtain ⟨u, rfl⟩ := e2
      exact ⟨d, z, .str v, rfl, rd.str, ⟨es, n, _, hl, hs.lit, e1, u, rfl⟩, f.im rp_str⟩
  · exact f.no.elim
theorem ktab_of {K : PySem.W.Frag} {h : Heap} {mg : Str → Option Value} {w : World} (X : K.In h) (G : h.Ns mainGlobals mg) {x : Str} {d : Addr} {es : Array DictEntry} {n : Nat} {tab : List (Str × Str)} (a : PySem.W.nsIn K mainGlobals x = some (some (.ref d))) (hl : K.lookup d = some ⟨.type "dict", none, .dict es n, #[]⟩)
    (hs : DicS w.params es.toList tab) (hy : (d == sysModules) = false) : KTab K w mg x tab := ⟨d, es, n, PySem.W.mg_of X G a, hl, hs, hy⟩
end
end NB
set_option Elab.async false
set_option linter.all false
set_option maxRecDepth 100000
set_option maxHeartbeats 4000000
set_option autoImplicit false
/-! dict(zip(a, b)) of two tuples. -/
namespace NB
open PySem PySem.Spec PyProof.Rows L2
open PySem.Sem (wp)
section
variable {prog : Program} {w : World} {A : Around} {E : Value → Shared → Prop} {s : Shared} {z TI TO T i1 i2 l1 l2 : Addr} {f : Bool} {oT : Obj} {k1 k2 : Nat} {xs ys : Array Value}
/-- the walk's state: the tuple given out last is still held -/
structure ZH (h : Heap) (z TI TO T i1 i2 l1 l2 : Addr) (f : Bool) (oT : Obj) (k1 k2 : Nat) (xs ys : Array Value) : Prop where
  hz : IsZipHeld h z TI TO T f
  hT : h.get? T = some oT
  ti : IsPair h TI (.ref i1) (.ref i2)
  a1 : h.IsTupleIter i1 l1 k1
  a2 : h.IsTupleIter i2 l2 k2
  b1 : h.IsTuple l1 xs
  b2 : h.IsTuple l2 ys
theorem zh_item {x y : Value} {Q : Option Value → Shared → Prop} (D : ZipApart z TI TO i1 i2 l1 l2) (Z : ZH s.heap z TI TO T i1 i2 l1 l2 f oT k1 k2 xs ys) (hx : xs[k1]? = some x) (hy : ys[k2]? = some y)
    (q : ∀ h', IsZipHeld h' z TI TO T true → h'.IsTupleIter i1 l1 (k1 + 1) → h'.IsTupleIter i2 l2 (k2 + 1) → IsPair h' s.heap.objs.size x y → (∀ c o, c ≠ z → c ≠ i1 → c ≠ i2 → s.heap.get? c = some o → h'.get? c = some o) → Q (some (.ref s.heap.objs.size)) { s with heap := h' }) :
    wpAny (model prog w) A (pyNext (.ref z)) Q E s := by
  have ty : s.TypeIs (.ref z) "zip" := ⟨_, Z.hz, rfl⟩
  obtain ⟨hz, hT, ti, a1, a2, b1, b2⟩ := Z
  unfold pyNext
  refine wpAny_bind (wpAny_attempt (wpAny_callSpecial?_slot (name := Str.ofString "__next__") ty F.slot_zip_next (wpAny_call_entry F.slot_zip_next ty F.entry_zip_next ?_ (F.args_zip_next_1 _))))
  show wpAny _ _ (field (.ref z) 2 >>= _) _ _ _; refine wpAny_bind (wpAny_field hz rfl (x := .bool false) rfl ?_); show wpAny _ _ (field (.ref z) 3 >>= _) _ _ _; refine wpAny_bind (wpAny_field hz rfl (x := .ref TI) rfl ?_); refine wpAny_bind (wpAny_seqItems ti rfl ?_)
  show wpAny _ _ (Builtin.SmallTypes.ownedTupleIsFree (.ref z) >>= _) _ _ _; refine wpAny_bind (wpAny_tupleHeld_zip hz hT fun g1 z1 s1 => ?_)
  simp only [Bool.false_eq_true, if_false]; refine wpAny_bind ?_; rw [← Array.forIn_toList]; simp only [List.forIn_cons, List.forIn_nil]
  refine wpAny_bind (wpAny_bind (wpAny_holding ?_)); show wpAny _ _ (Builtin.SmallTypes.nextOf (.ref i1) >>= _) _ _ { s with heap := g1 }
  refine wpAny_bind (RZ.nextOf_tuple_item (s := { s with heap := g1 }) (a1.extBut s1.extBut D.i1z) (b1.extBut s1.extBut D.l1z) hx fun g2 c1 s2 => wpAny_pure (wpAny_pure (wpAny_bind (wpAny_bind (wpAny_holding ?_)))))
  show wpAny _ _ (Builtin.SmallTypes.nextOf (.ref i2) >>= _) _ _ { s with heap := g2 }
  refine wpAny_bind (RZ.nextOf_tuple_item (s := { s with heap := g2 }) ((a2.extBut s1.extBut D.i2z).extBut s2.extBut D.i12.symm) ((b2.extBut s1.extBut D.l2z).extBut s2.extBut D.l2i1) hy fun g3 c2 s3 => wpAny_pure (wpAny_pure (wpAny_pure ?_)))
  show wpAny _ _ (newTuple [x, y] >>= _) _ _ { s with heap := g3 }
  refine wpAny_bind (wpAny_newTuple (wpAny_pure ⟨_, rfl, ?_⟩))
  have sz : g3.objs.size = s.heap.objs.size := by rw [s3.1, s2.1, s1.1]
  refine wpAny_pure ?_
  show Q (some (.ref g3.objs.size)) _
  have z4 := Heap.get?_push_of_some { cls := .type "tuple", data := .seq #[x, y] } (s3.extBut _ _ D.i2z.symm (s2.extBut _ _ D.i1z.symm z1))
  have p4 : IsPair (g3.push { cls := .type "tuple", data := .seq #[x, y] }) g3.objs.size x y := Heap.get?_push_size _ rfl
  rw [sz] at p4 ⊢
  exact q _ z4 ((c1.extBut s3.extBut D.i12).at fun o e => Heap.get?_push_of_some _ e) (c2.at fun o e => Heap.get?_push_of_some _ e) p4 fun c o n1 n2 n3 e => Heap.get?_push_of_some _ (s3.extBut _ _ n3 (s2.extBut _ _ n2 (s1.extBut _ _ n1 e)))
theorem zh_end {Q : Option Value → Shared → Prop} (hh : A.handled = none) (D : ZipApart z TI TO i1 i2 l1 l2) (Z : ZH s.heap z TI TO T i1 i2 l1 l2 f oT k1 k2 xs ys) (he : xs[k1]? = none ∨ ys[k2]? = none)
    (q : ∀ h', (∀ c o, c ≠ z → c ≠ i1 → c ≠ i2 → s.heap.get? c = some o → h'.get? c = some o) → Q none { s with heap := h' }) : wpAny (model prog w) A (pyNext (.ref z)) Q E s := by
  have ty : s.TypeIs (.ref z) "zip" := ⟨_, Z.hz, rfl⟩
  obtain ⟨hz, hT, ti, a1, a2, b1, b2⟩ := Z
  unfold pyNext
  refine wpAny_bind (wpAny_attempt (wpAny_callSpecial?_slot (name := Str.ofString "__next__") ty F.slot_zip_next (wpAny_call_entry F.slot_zip_next ty F.entry_zip_next ?_ (F.args_zip_next_1 _))))
  show wpAny _ _ (field (.ref z) 2 >>= _) _ _ _; refine wpAny_bind (wpAny_field hz rfl (x := .bool false) rfl ?_); show wpAny _ _ (field (.ref z) 3 >>= _) _ _ _; refine wpAny_bind (wpAny_field hz rfl (x := .ref TI) rfl ?_); refine wpAny_bind (wpAny_seqItems ti rfl ?_)
  show wpAny _ _ (Builtin.SmallTypes.ownedTupleIsFree (.ref z) >>= _) _ _ _; refine wpAny_bind (wpAny_tupleHeld_zip hz hT fun g1 z1 s1 => ?_)
  simp only [Bool.false_eq_true, if_false]; refine wpAny_bind ?_; rw [← Array.forIn_toList]; simp only [List.forIn_cons, List.forIn_nil]
  refine wpAny_bind (wpAny_bind (wpAny_holding ?_)); show wpAny _ _ (Builtin.SmallTypes.nextOf (.ref i1) >>= _) _ _ { s with heap := g1 }
  cases hx : xs[k1]? with
  | none => exact wpAny_bind (RZ.nextOf_tuple_end (s := { s with heap := g1 }) hh (a1.extBut s1.extBut D.i1z) (b1.extBut s1.extBut D.l1z) hx fun g2 e s2 ⟨o, ho, hc⟩ => wpAny_bind (wpAny_isInstance (T := "StopIteration") (b := true) ⟨o, ho, hc⟩ isSubtype_stop (wpAny_pure (q g2 fun c o n1 n2 _ x => s2 _ _ n2 (s1.extBut _ _ n1 x)))))
  | some x =>
    have hy : ys[k2]? = none := he.resolve_left fun z => by rw [hx] at z; cases z
    refine wpAny_bind (RZ.nextOf_tuple_item (s := { s with heap := g1 }) (a1.extBut s1.extBut D.i1z) (b1.extBut s1.extBut D.l1z) hx fun g2 c1 s2 => wpAny_pure (wpAny_pure (wpAny_bind (wpAny_bind (wpAny_holding ?_)))))
    show wpAny _ _ (Builtin.SmallTypes.nextOf (.ref i2) >>= _) _ _ { s with heap := g2 }
    exact wpAny_bind (RZ.nextOf_tuple_end (s := { s with heap := g2 }) hh ((a2.extBut s1.extBut D.i2z).extBut s2.extBut D.i12.symm) ((b2.extBut s1.extBut D.l2z).extBut s2.extBut D.l2i1) hy fun g3 e s3 ⟨o, ho, hc⟩ => wpAny_bind (wpAny_isInstance (T := "StopIteration") (b := true) ⟨o, ho, hc⟩ isSubtype_stop (wpAny_pure (q g3 fun c o n1 n2 n3 x => s3 _ _ n3 (s2.extBut _ _ n2 (s1.extBut _ _ n1 x))))))
/-- zip(a, b) of two tuples, as what dict() is made from -/
theorem zipTArg (z TI TO i1 i2 l1 l2 : Addr) (D : ZipApart z TI TO i1 i2 l1 l2) (xs ys : Array Value) : PairArg prog w "zip" z [z, TI, TO, i1, i2, l1, l2] [z, TO, i1, i2] (min xs.size ys.size) (fun i k v => xs[i]? = some k ∧ ys[i]? = some v)
    (fun h => IsZip h z TI TO .none ∧ IsPair h TI (.ref i1) (.ref i2) ∧ (∃ a b, IsPair h TO a b) ∧ h.IsTupleIter i1 l1 0 ∧ h.IsTupleIter i2 l2 0 ∧ h.IsTuple l1 xs ∧ h.IsTuple l2 ys) := by
  refine { type := fun s k => ⟨_, k.1, rfl⟩, notDict := by decide, keep := fun h h' k e => ?_, there := fun h k b hb => ?_, sub := fun b hb => ?_, noKeys := fun A s Q E hA k h => getAttrOr_miss_zip k.1 rfl rfl rfl zip_no_keys (by decide +kernel) hA h, iter := fun A s d Q E hA k _ nd h => ?_ }
  · obtain ⟨c1, c2, ⟨a, b, c3⟩, c4, c5, c6, c7⟩ := k
    exact ⟨e _ _ c1, e _ _ c2, ⟨a, b, e _ _ c3⟩, c4.at fun o => e _ o, c5.at fun o => e _ o, c6.at fun o => e _ o, c7.at fun o => e _ o⟩
  · obtain ⟨c1, c2, ⟨a, c, c3⟩, ⟨o1, c4, _⟩, ⟨o2, c5, _⟩, ⟨o3, c6, _⟩, ⟨o4, c7, _⟩⟩ := k
    simp only [List.mem_cons, List.not_mem_nil, or_false] at hb
    rcases hb with e | e | e | e | e | e | e <;> rw [e] <;> first | exact ⟨_, c1⟩ | exact ⟨_, c2⟩ | exact ⟨_, c3⟩ | exact ⟨_, c4⟩ | exact ⟨_, c5⟩ | exact ⟨_, c6⟩ | exact ⟨_, c7⟩
  · simp at hb ⊢
    rcases hb with e | e | e | e <;> simp [e]
  · obtain ⟨c1, c2, ⟨a, b, c3⟩, c4, c5, c6, c7⟩ := k
    simp only [List.mem_cons, List.not_mem_nil, or_false, not_or] at nd
    obtain ⟨dz, dTI, dTO, d1, d2, e1, e2⟩ := nd
    let St : Nat → Heap → Prop := fun i h => (IsPair h TI (.ref i1) (.ref i2) ∧ h.IsTupleIter i1 l1 i ∧ h.IsTupleIter i2 l2 i ∧ h.IsTuple l1 xs ∧ h.IsTuple l2 ys ∧ IsZip h z TI TO .none ∧ ∃ a b, IsPair h TO a b) ∨
      ∃ T f oT, ZH h z TI TO T i1 i2 l1 l2 f oT i i xs ys ∧ T ≠ z ∧ T ≠ i1 ∧ T ≠ i2 ∧ T ≠ d
    refine wpAny_pyIter_zip c1 (h z [z, TO, i1, i2] St s.heap s.toks ⟨fun m => ?_, fun i g g' st k => ?_, fun i s1 Q1 E1 hi st hd q => ?_, fun s1 Q1 E1 st q => ?_⟩ (.inl ⟨c2, c4, c5, c6, c7, c1, a, b, c3⟩) (fun _ _ e => e) fun b hb => .inl hb)
    · simp only [List.mem_cons, List.not_mem_nil, or_false] at m
      rcases m with e | e | e | e
      · exact dz e
      · exact dTO e
      · exact d1 e
      · exact d2 e
    · rcases st with ⟨b1, b2, b3, b4, b5, b6, u, v, b7⟩ | ⟨T, f, oT, ⟨g1, g2, g3, g4, g5, g6, g7⟩, r1, r2, r3, r4⟩
      · exact .inl ⟨k _ _ (Ne.symm dTI) b1, b2.at fun o => k _ o (Ne.symm d1), b3.at fun o => k _ o (Ne.symm d2), b4.at fun o => k _ o (Ne.symm e1), b5.at fun o => k _ o (Ne.symm e2), k _ _ (Ne.symm dz) b6, u, v, k _ _ (Ne.symm dTO) b7⟩
      · exact .inr ⟨T, f, oT, ⟨k _ _ (Ne.symm dz) g1, k _ _ r4 g2, k _ _ (Ne.symm dTI) g3, g4.at fun o => k _ o (Ne.symm d1), g5.at fun o => k _ o (Ne.symm d2), g6.at fun o => k _ o (Ne.symm e1), g7.at fun o => k _ o (Ne.symm e2)⟩, r1, r2, r3, r4⟩
    · have ex := Array.getElem?_eq_getElem (Nat.lt_of_lt_of_le hi (Nat.min_le_left xs.size ys.size))
      have ey := Array.getElem?_eq_getElem (Nat.lt_of_lt_of_le hi (Nat.min_le_right xs.size ys.size))
      have lt : ∀ {c o}, s1.heap.get? c = some o → s1.heap.objs.size ≠ c := fun e => Nat.ne_of_gt (Heap.lt_size e)
      have off : ∀ {c : Addr}, c ∉ [z, TO, i1, i2] → c ≠ z ∧ c ≠ TO ∧ c ≠ i1 ∧ c ≠ i2 := fun hc => by simpa using hc
      rcases st with ⟨b1, b2, b3, b4, b5, b6, u, v, b7⟩ | ⟨T, f, oT, Z, r1, r2, r3, r4⟩
      · obtain ⟨_, b2', _⟩ := id b2
        obtain ⟨_, b3', _⟩ := id b3
        refine RZ.pyNext_zipT_item D b6 b1 b7 b2 b3 b4 b5 ex ey fun h' p1 p2 p3 p4 p5 p6 kp => ?_
        exact q s1.heap.objs.size _ _ h' s1.toks ⟨ex, ey⟩ (.inl ⟨_, p5, rfl, _, rfl⟩) (.inr ⟨s1.heap.objs.size, false, _, ⟨p1, p5, kp _ _ D.TIz D.TITO D.TIi1 D.TIi2 b1, p3, p4, b4.at fun o => kp _ o D.l1z D.l1TO D.l1i1 D.l1i2, b5.at fun o => kp _ o D.l2z D.l2TO D.l2i1 D.l2i2⟩, lt b6, lt b2', lt b3', Nat.ne_of_gt hd⟩)
          fun c o hc e => kp c o (off hc).1 (off hc).2.1 (off hc).2.2.1 (off hc).2.2.2 e
      · refine zh_item D Z ex ey fun h' p1 p3 p4 p5 kp => ?_
        exact q s1.heap.objs.size _ _ h' s1.toks ⟨ex, ey⟩ (.inl ⟨_, p5, rfl, _, rfl⟩) (.inr ⟨T, true, oT, ⟨p1, kp _ _ r1 r2 r3 Z.hT, kp _ _ D.TIz D.TIi1 D.TIi2 Z.ti, p3, p4, Z.b1.at fun o => kp _ o D.l1z D.l1i1 D.l1i2, Z.b2.at fun o => kp _ o D.l2z D.l2i1 D.l2i2⟩, r1, r2, r3, r4⟩)
          fun c o hc e => kp c o (off hc).1 (off hc).2.2.1 (off hc).2.2.2 e
    · have off : ∀ {c : Addr}, c ∉ [z, TO, i1, i2] → c ≠ z ∧ c ≠ TO ∧ c ≠ i1 ∧ c ≠ i2 := fun hc => by simpa using hc
      have he : xs[min xs.size ys.size]? = none ∨ ys[min xs.size ys.size]? = none := by
        rcases Nat.le_total xs.size ys.size with h | h
        · exact .inl (by rw [Nat.min_eq_left h]; exact Array.getElem?_eq_none (Nat.le_refl _))
        · exact .inr (by rw [Nat.min_eq_right h]; exact Array.getElem?_eq_none (Nat.le_refl _))
      rcases st with ⟨b1, b2, b3, b4, b5, b6, u, v, b7⟩ | ⟨T, f, oT, Z, r1, r2, r3, r4⟩
      · exact RZ.pyNext_zipT_end hA D b6 b1 b7 b2 b3 b4 b5 he fun h' kp => q h' s1.toks fun c o hc e => kp c o (off hc).1 (off hc).2.1 (off hc).2.2.1 (off hc).2.2.2 e
      · exact zh_end hA D Z he fun h' kp => q h' s1.toks fun c o hc e => kp c o (off hc).1 (off hc).2.2.1 (off hc).2.2.2 e
end
end NB
set_option Elab.async false
set_option linter.all false
set_option maxRecDepth 100000
set_option maxHeartbeats 4000000
set_option autoImplicit false
/-! Dicts by data: what is found, stored, merged. -/
namespace NB
open PySem PySem.Spec PyProof.Rows L2
/-! ### keys -/
mutual
/-- are two keys the same? -/
def keq : D → D → Bool
  | .int i, .int j => decide (i = j)
  | .str i, .str j => decide (i = j)
  | .non, .non => true
  | .tup xs, .tup ys => keqL xs ys
  | _, _ => false
def keqL : List D → List D → Bool
  | [], [] => true
  | x :: xs, y :: ys => keq x y && keqL xs ys
  | _, _ => false
end
/-- what a dict holds at a key -/
def lookD : List D → List D → D → Option D
  | k' :: ks, v :: vs, k => if keq k' k = true then some v else lookD ks vs k
  | _, _, _ => none
def putKs : List D → D → List D
  | [], k => [k]
  | k' :: ks, k => if keq k' k = true then k' :: ks else k' :: putKs ks k
def putVs : List D → List D → D → D → List D
  | k' :: ks, v' :: vs, k, v => if keq k' k = true then v :: vs else v' :: putVs ks vs k v
  | _, _, _, v => [v]
theorem keq_key {a b : Key} : keq (keyD a) (keyD b) = decide (a = b) := by
  cases a <;> cases b <;> simp [keyD, keq]
/-- the same for keys that are ints and texts -/
def putZ : List Key → Key → List Key
  | [], k => [k]
  | k' :: ks, k => if k' = k then k' :: ks else k' :: putZ ks k
def putY {α : Type} : List Key → List α → Key → α → List α
  | k' :: ks, v' :: vs, k, v => if k' = k then v :: vs else v' :: putY ks vs k v
  | _, _, _, v => [v]
theorem putKs_key (k : Key) : ∀ zs : List Key, putKs (zs.map keyD) (keyD k) = (putZ zs k).map keyD
  | [] => rfl
  | z :: zs => by
    rw [List.map_cons, putKs, keq_key, putZ]
    by_cases h : z = k
    · simp [h]
    · simp [h, putKs_key k zs]
theorem putVs_key (k : Key) (v : D) : ∀ (zs : List Key) (vs : List D), putVs (zs.map keyD) vs (keyD k) v = putY zs vs k v
  | [], vs => by cases vs <;> rfl
  | z :: zs, [] => rfl
  | z :: zs, w :: vs => by
    rw [List.map_cons, putVs, keq_key, putY]
    by_cases h : z = k
    · simp [h]
    · simp [h, putVs_key k v zs vs]
theorem putZ_mem {k x : Key} : ∀ {zs : List Key}, x ∈ putZ zs k ↔ x ∈ zs ∨ x = k
  | [] => by simp [putZ]
  | z :: zs => by
    rw [putZ]
    split
    · rename_i h
      subst h
      simp
      intro e
      exact .inl e
    · simp [putZ_mem (zs := zs), or_assoc]
theorem putZ_nodup {k : Key} : ∀ {zs : List Key}, zs.Nodup → (putZ zs k).Nodup
  | [], _ => by simp [putZ]
  | z :: zs, h => by
    rw [putZ]
    split
    · exact h
    · rename_i ne
      rw [List.nodup_cons] at h ⊢
      exact ⟨fun m => (putZ_mem.mp m).elim h.1 ne, putZ_nodup h.2⟩
theorem put_len {α : Type} {k : Key} {y : α} : ∀ {zs : List Key} {ys : List α}, zs.length = ys.length → (putZ zs k).length = (putY zs ys k y).length
  | [], [], _ => rfl
  | z :: zs, w :: ys, h => by
    rw [putZ, putY]
    split
    · simpa using h
    · simpa using put_len (by simpa using h)
theorem putY_any {k : Key} {y : V} : ∀ {zs : List Key} {ys : List V}, zs.length = ys.length → k ∉ zs → putZ zs k = zs ++ [k] ∧ putY zs ys k y = ys ++ [y]
  | [], [], _, _ => ⟨rfl, rfl⟩
  | z :: zs, w :: ys, h, n => by
    have n1 : ¬ z = k := fun e => n (e ▸ List.mem_cons_self)
    have n2 : k ∉ zs := fun e => n (List.mem_cons_of_mem _ e)
    obtain ⟨a, b⟩ := putY_any (y := y) (by simpa using h) n2
    rw [putZ, putY, if_neg n1, if_neg n1, a, b]
    exact ⟨rfl, rfl⟩
theorem zip_put {k : Key} {y : V} : ∀ {zs : List Key} {ys : List V}, zs.length = ys.length → zs.Nodup → putK (zs.zip ys) k y = (putZ zs k).zip (putY zs ys k y)
  | [], [], _, _ => rfl
  | z :: zs, w :: ys, h, nd => by
    have hl : zs.length = ys.length := by simpa using h
    have ih := zip_put (k := k) (y := y) hl (List.nodup_cons.mp nd).2
    have nin := (List.nodup_cons.mp nd).1
    rw [List.zip_cons_cons, putZ, putY]
    by_cases e : z = k
    · subst e
      have id_ : ∀ (zs : List Key) (ys : List V), z ∉ zs → (zs.zip ys).map (fun kv => if kv.1 = z then (kv.1, y) else kv) = zs.zip ys := fun zs ys n => by
        conv => rhs; rw [← List.map_id (zs.zip ys)]
        refine List.map_congr_left fun p hp => ?_
        have np : ¬ p.1 = z := fun e => n (by rw [← e]; exact (List.of_mem_zip (a := p.1) (b := p.2) hp).1)
        rw [if_neg np]
        rfl
      rw [if_pos rfl, if_pos rfl, List.zip_cons_cons]
      unfold putK
      rw [if_pos (by simp), List.map_cons, if_pos rfl, id_ zs ys nin]
    · rw [if_neg e, if_neg e, List.zip_cons_cons, ← ih]
      unfold putK
      by_cases ha : ((zs.zip ys).any fun kv => decide (kv.1 = k)) = true
      · rw [if_pos ha, if_pos (by rw [List.any_cons, ha]; simp), List.map_cons, if_neg e]
      · rw [if_neg ha, if_neg (by rw [List.any_cons]; simpa [e] using ha)]
        rfl
theorem lookD_key {K : KF} {H : Hp} {P M : PA1} {k : Key} : ∀ {zs : List Key} {vs : List D} {ys : List V}, RpA K H P M vs ys → zs.length = ys.length →
    match lookD (zs.map keyD) vs (keyD k) with
    | some d => ∃ y, valV (zs.zip ys) k = some y ∧ Rp K H P M d y
    | none => valV (zs.zip ys) k = none
  | [], vs, ys, ra, hl => by
    cases ys with
    | nil => rfl
    | cons _ _ => simp at hl
  | z :: zs, vs, [], ra, hl => by simp at hl
  | z :: zs, [], y :: ys, ra, hl => by
    have := ra.length
    simp at this
  | z :: zs, v :: vs, y :: ys, ra, hl => by
    obtain ⟨_, _, e, h1, h2⟩ := ra.cons_inv
    cases e
    rw [List.map_cons, lookD, keq_key, List.zip_cons_cons]
    by_cases h : z = k
    · simp only [h, decide_true, if_true]
      exact ⟨y, valV_pos rfl, h1⟩
    · simp only [h, decide_false, Bool.false_eq_true, if_false]
      rw [valV_neg h]
      exact lookD_key h2 (by simpa using hl)
theorem ra_keys {K : KF} {H : Hp} {P M : PA1} : ∀ zs : List Key, RpA K H P M (zs.map keyD) (zs.map kV)
  | [] => .nil
  | .inl i :: zs => .cons rp_int (ra_keys zs)
  | .inr i :: zs => .cons rp_str (ra_keys zs)
theorem ra_put {K : KF} {H : Hp} {P M : PA1} {k : Key} {v : D} {y : V} (h : Rp K H P M v y) : ∀ {zs : List Key} {vs : List D} {ys : List V}, RpA K H P M vs ys → zs.length = ys.length → RpA K H P M (putY zs vs k v) (putY zs ys k y)
  | [], vs, ys, ra, hl => by
    cases ys with
    | nil => cases vs <;> exact .cons h .nil
    | cons _ _ => simp at hl
  | z :: zs, vs, [], ra, hl => by simp at hl
  | z :: zs, [], y :: ys, ra, hl => by
    have := ra.length
    simp at this
  | z :: zs, w :: vs, x :: ys, ra, hl => by
    obtain ⟨_, _, e, h1, h2⟩ := ra.cons_inv
    cases e
    rw [putY, putY]
    split
    · exact .cons h h2
    · exact .cons h1 (ra_put h h2 (by simpa using hl))
/-- a key of a dict of texts and ints -/
def keyOf : D → Option Key
  | .int i => some (.inl i)
  | .str x => some (.inr x)
  | _ => none
theorem keyOf_some {d : D} {k : Key} (h : keyOf d = some k) : d = keyD k := by
  cases d <;> cases h <;> rfl
theorem Rp.key {K : KF} {H : Hp} {P M : PA1} {k : Key} {y : V} (h : Rp K H P M (keyD k) y) : y = kV k := by
  cases k <;> (rw [keyD, Rp] at h; exact h)
theorem Rs.key {K : KF} {H : Hp} {P M : PA1} {k : Key} {y : V} (h : Rs K H P M (keyD k) y) : y = kV k := by
  cases k
  · exact h.int
  · exact h.str
/-- a dict of this kind as a thing -/
theorem cu_flat {K : KF} {a : Addr} {zs : List Key} {vs : List D} {ys : List V} (hl : zs.length = ys.length) (nd : zs.Nodup) : Cu K a (.d (zs.map keyD) vs) (.dK (zs.zip ys)) (zs.map kV ++ ys) :=
  ⟨_, _, rfl, by simp, .inl ⟨zs, hl, nd, rfl, rfl, rfl⟩⟩
theorem Cu.flat {K : KF} {a : Addr} {ks vs : List D} {u : HO} {xs : List V} (h : Cu K a (.d ks vs) u xs) (f : flatK ks = true) : ∃ (zs : List Key) (ys : List V), zs.length = ys.length ∧ zs.Nodup ∧ ks = zs.map keyD ∧ xs = zs.map kV ++ ys ∧ u = .dK (zs.zip ys) := by
  obtain ⟨xk, xv, rfl, _, d⟩ := h
  obtain ⟨zs, h1, h2, h3, h4, h5⟩ := d.flat f
  exact ⟨zs, xv, h1, h2, h3, by rw [h4], h5⟩
end NB
set_option Elab.async false
set_option linter.all false
set_option maxRecDepth 100000
set_option maxHeartbeats 4000000
set_option autoImplicit false
/-! Dicts by data: the rules (keys that are texts and ints). -/
namespace NB
open PySem PySem.Spec PyProof.Rows L2
/-! ### d[k] -/
@[simp] def dgetD : D → D → Option R
  | .dct ks vs, k => match keyOf k with
    | some _ => if flatK ks = true then (lookD ks vs k).map .im else none
    | none => none
  | _, _ => none
section
variable {X : Cx} {EX : XX} {a b : Expr} {pos : Pos} {wa wb : WO}
theorem de_dget (hu : X.A.units + 1 < cLine) (ha : DO X EX a wa) (hb : DO X EX b wb) (hs : NoSl b := by exact fun _ _ => rfl) : DE X EX (.Subscript a b pos) (op2W dgetD wa wb) := by
  refine PE.imp (pe_dget hu ha hb hs) fun σ H Q h => PE_go (op2_read h)
where
  PE_go {σ : St} {H : Hp} {Q : VK} (h : Go (kX X) EX (RO (kX X)) wa σ H fun x H1 => Go (kX X) EX (RO (kX X)) wb σ H1 fun y H2 => ∃ (P M : PA1) (d e : D), Rs (kX X) H2 P M d x ∧ Rs (kX X) H2 P M e y ∧ Ml H2 M ∧ Fit (kX X) H2 P M (dgetD d e) Q) :
      tDGet (Go (kX X) EX (RO (kX X)) wa) (Go (kX X) EX (RO (kX X)) wb) σ H Q := by
    obtain ⟨G, P, ρ, t, Q', E, S, hw, lk, hq⟩ := h
    refine ⟨G, P, ρ, t, Q', E, S, hw, lk, fun r ρ' t' x H1 P' q rr => ?_⟩
    obtain ⟨G, P, ρ, t, Q', E, S, hw, lk, hq⟩ := hq r ρ' t' x H1 P' q rr
    refine ⟨G, P, ρ, t, Q', E, S, hw, lk, fun r ρ' t' y H2 P' q rr => ?_⟩
    obtain ⟨P, M, d, e, h1, h2, ml, f⟩ := hq r ρ' t' y H2 P' q rr
    cases d with
    | dct ks vs =>
      have f : Fit (kX X) H2 P M (match keyOf e with | some _ => if flatK ks = true then (lookD ks vs e).map .im else none | none => none) Q := f
      cases hk : keyOf e with
      | none => rw [hk] at f; exact f.no.elim
      | some ky =>
        rw [hk] at f
        by_cases hf : flatK ks = true
        · have f : Fit (kX X) H2 P M (if flatK ks = true then (lookD ks vs e).map .im else none) Q := f
          rw [if_pos hf] at f
          rw [keyOf_some hk] at f h2
          obtain ⟨c, u, xs, ys, rfl, hu, hd, r1, r2⟩ := h1
          obtain ⟨zs, l1, nd, rfl, rfl, rfl⟩ := hd.flat hf
          have g := lookD_key (k := ky) r2 l1
          cases hl : lookD (zs.map keyD) vs (keyD ky) with
          | none => rw [hl] at f; exact f.no.elim
          | some v =>
            rw [hl] at f g
            obtain ⟨z, g1, g2⟩ := g
            rw [h2.key]
            exact ⟨c, z, rfl, g1 ▸ DGet.k hu, f.im g2⟩
        · have f : Fit (kX X) H2 P M (if flatK ks = true then (lookD ks vs e).map .im else none) Q := f
          rw [if_neg hf] at f
          exact f.no.elim
    | _ => exact f.no.elim
end
/-! ### an operation on a thing of the frame's own -/
def OwnOpO (X : Cx) (id : String) (f : Ob → List D → Option (Ob × D)) : Prop := MtR X id fun x vs H Q => ∃ (a : Addr) (u : HO) (xs : List V) (P M : PA1) (o o' : Ob) (es : List D) (r : D),
  x = .ref a ∧ M a ∧ H a = some u ∧ Cu (kX X) a o u xs ∧ RpA (kX X) H P M o.ct xs ∧ RpA (kX X) H P M es vs ∧ f o es = some (o', r) ∧ ∀ w ys z, Cu (kX X) a o' w ys → RpA (kX X) H P M o'.ct ys → Rp (kX X) H P M r z → Q z (upd H a w)
/-- a dict of texts or ints, one at least -/
def isFlat : Ob → Bool
  | .d ks _ => flatK ks
  | _ => false
@[simp] def ownDW (i : Nat) (a : Wg (List D)) (f : Ob → List D → Option (Ob × D)) : W := fun ρ t Q E => (∃ o0, ρ[i]? = some (.ow o0) ∧ isFlat o0 = true) ∧ a ρ t (fun xs ρ1 t1 => ∃ o o' r, ρ1[i]? = some (.ow o) ∧ f o xs = some (o', r) ∧ Q (.im r) (ρ1.set i (.ow o')) t1) E
section
variable {X : Cx} {EX : XX}
theorem ownD_read {K : KF} {i : Nat} {w : Wg (List D)} {f : Ob → List D → Option (Ob × D)} {σ : St} {H : Hp} {Q : VK} (h : Go K EX (RS K) (ownDW i w f) σ H Q) :
    tVar i σ H fun x H1 => tyV K "dict" x H1 ∧ Go K EX (RA K) w σ H1 fun vs H2 => ∃ (a : Addr) (u : HO) (xs : List V) (P M : PA1) (o o' : Ob) (es : List D) (r : D),
      x = .ref a ∧ M a ∧ H2 a = some u ∧ Cu K a o u xs ∧ RpA K H2 P M o.ct xs ∧ RpA K H2 P M es vs ∧ f o es = some (o', r) ∧ ∀ w ys z, Cu K a o' w ys → RpA K H2 P M o'.ct ys → Rp K H2 P M r z → Q z (upd H2 a w) := by
  obtain ⟨G, P, ρ, t, Q', E, S, hw, lk, hq⟩ := h
  obtain ⟨⟨o0, e0, fl⟩, hw⟩ := hw
  obtain ⟨a, u0, xs0, h1, h2, hc, _⟩ := S.ow i _ e0
  have ty : tyV K "dict" (.ref a) H := by
    cases o0 with
    | l ds => cases fl
    | d ks vs =>
      obtain ⟨zs, ys, _, _, _, _, rfl⟩ := hc.flat fl
      exact .inr (.inr (.inl ⟨rfl, .inl ⟨_, h2⟩⟩))
  refine ⟨.ref a, h1, ty, G, P, ρ, t, _, E, S, hw, lk, fun es ρ1 t1 vs H1 P1 z rs => ?_⟩
  obtain ⟨o, o', r, e1, hf, q⟩ := z
  obtain ⟨S1, rb⟩ := rs
  obtain ⟨a', u1, xs, g1, g2, gc, g3, _⟩ := S1.ow i _ e1
  rw [h1] at g1
  cases g1
  refine ⟨a, u1, xs, P1, Mx G.F P1 ρ1 σ, o, o', es, r, rfl, .inr (.inr ⟨i, o, e1, h1⟩), g2, gc, g3, rb, hf, fun w ys z cw r1 r2 => ?_⟩
  obtain ⟨S2, mo⟩ := S1.own e1 h1 cw r1
  exact hq _ _ _ _ _ P1 q ⟨S2, r2.mo mo⟩
variable {x name : Str} {p' apos cpos : Pos} {e : Expr} {es : List Expr}
theorem de_ownD {i : Nat} {id : String} {w : Wg (List D)} {f : Ob → List D → Option (Ob × D)} (pa : PlainAttrs "dict") (slot : Slot "dict" name id) (hty : typeOf (.builtin id) = pure (.type "method_descriptor")) (hm : OwnOpO X id f) (hv : PE X (.Name x p') (tVar i)) (ha : DA X EX (e :: es) w)
    (hfew : ((backTo cpos (starEach (e :: es) X.env)).all (fun x => !x.1) && (backToKw cpos (keywordEach [] X.env)).all (fun x => x.1.isSome) && decide ((e :: es).length + ([] : List Keyword).length + (if ([] : List Keyword).isEmpty then 0 else 1) < 30)) = true)
    (hline : (apos.endLine == cpos.line) = true) (hs : starEach (e :: es) X.env = (false, eval e X.env) :: starEach es X.env) (hplain : (backTo cpos (starEach es X.env)).any (·.1) = false) :
    DE X EX (.Call (.Attribute (.Name x p') name apos) (e :: es) [] cpos) (ownDW i w f) := PE.imp (pe_bm pa slot hty hm hv ha rfl hfew hline hs hplain) fun _ _ _ h => ownD_read h
end
/-! ### update -/
def mergeD : List D → List D → List D → List D → List D × List D
  | ks, vs, k :: ks', v :: vs' => mergeD (putKs ks k) (putVs ks vs k v) ks' vs'
  | ks, vs, _, _ => (ks, vs)
def mergeZ {α : Type} : List Key → List α → List Key → List α → List Key × List α
  | zs, ys, z :: zs', y :: ys' => mergeZ (putZ zs z) (putY zs ys z y) zs' ys'
  | zs, ys, _, _ => (zs, ys)
theorem merge_key {vs' : List D} : ∀ {zs' zs : List Key} {vs vs' : List D}, mergeD (zs.map keyD) vs (zs'.map keyD) vs' = ((mergeZ zs vs zs' vs').1.map keyD, (mergeZ zs vs zs' vs').2)
  | [], zs, vs, vs' => rfl
  | z :: zs', zs, vs, [] => rfl
  | z :: zs', zs, vs, v :: vs' => by
    rw [List.map_cons, mergeD, putKs_key, putVs_key, mergeZ]
    exact merge_key (vs' := vs')
theorem zip_merge : ∀ {zs' : List Key} {ys' : List V} {zs : List Key} {ys : List V}, zs'.length = ys'.length → zs.length = ys.length → zs.Nodup →
    mergeK (zs.zip ys) (zs'.zip ys') = (mergeZ zs ys zs' ys').1.zip (mergeZ zs ys zs' ys').2 ∧ (mergeZ zs ys zs' ys').1.length = (mergeZ zs ys zs' ys').2.length ∧ (mergeZ zs ys zs' ys').1.Nodup
  | [], [], zs, ys, _, h, nd => ⟨rfl, h, nd⟩
  | z :: zs', y :: ys', zs, ys, h', h, nd => by
    have ih := zip_merge (zs' := zs') (ys' := ys') (zs := putZ zs z) (ys := putY zs ys z y) (by simpa using h') (put_len h) (putZ_nodup nd)
    rw [mergeZ]
    refine ⟨?_, ih.2⟩
    rw [← ih.1, ← zip_put h nd]
    rfl
theorem ra_merge {K : KF} {H : Hp} {P M : PA1} : ∀ {zs' : List Key} {vs' : List D} {ys' : List V} {zs : List Key} {vs : List D} {ys : List V}, zs'.length = ys'.length → zs.length = ys.length → RpA K H P M vs' ys' → RpA K H P M vs ys →
    (mergeZ zs vs zs' vs').1 = (mergeZ zs ys zs' ys').1 ∧ RpA K H P M (mergeZ zs vs zs' vs').2 (mergeZ zs ys zs' ys').2
  | [], vs', ys', zs, vs, ys, _, _, _, ra => by
    cases vs' <;> cases ys' <;> exact ⟨rfl, ra⟩
  | z :: zs', vs', [], zs, vs, ys, h', _, _, _ => by simp at h'
  | z :: zs', [], y :: ys', zs, vs, ys, _, _, r', _ => by
    have := r'.length
    simp at this
  | z :: zs', v :: vs', y :: ys', zs, vs, ys, h', h, r', ra => by
    obtain ⟨_, _, e, r1, r2⟩ := r'.cons_inv
    cases e
    rw [mergeZ, mergeZ]
    exact ra_merge (by simpa using h') (put_len h) r2 (ra_put r1 ra h)
@[simp] def updateF : Ob → List D → Option (Ob × D)
  | .d ks vs, [.dct ks' vs'] => if (flatK ks = true ∧ flatK ks' = true) ∧ ks.length + ks'.length ≤ sizeLine then some (.d (mergeD ks vs ks' vs').1 (mergeD ks vs ks' vs').2, .non) else none
  | _, _ => none
theorem own_update {X : Cx} : OwnOpO X "dict.update" updateF := by
  intro pins s σ H x vs v us Q I rx rv h
  obtain ⟨a, u, xs, P, M, o, o', es, r, rfl, ma, hu, cu, ra, rb, hf, q⟩ := h
  unfold updateF at hf
  split at hf
  · rename_i ks vs0 ks' vs'
    split at hf
    · rename_i hc
      cases hf
      obtain ⟨zs, ys, l1, nd, rfl, rfl, rfl⟩ := cu.flat hc.1.1
      obtain ⟨y, rfl, rp⟩ := ra_one rb
      rw [Rp] at rp
      obtain ⟨b, u2, xs2, ys2, rfl, nb, hu2, hd2, r1, r2⟩ := rp
      obtain ⟨zs2, l2, nd2, rfl, rfl, rfl⟩ := hd2.flat hc.1.2
      obtain ⟨w1, rfl, rw1⟩ := rv.one
      obtain rfl : w1 = Value.ref b := rw1
      obtain rfl : v = Value.ref a := rx
      obtain ⟨zA, loA, kA, relA, ddA⟩ := dk_of I.hok hu
      obtain ⟨zB, loB, kB, relB, ddB⟩ := dk_of I.hok hu2
      have hab : a ≠ b := fun e => nb (e ▸ ma)
      have rvs : RpA (kX X) H P M vs0 ys := (RpA.app_inv (ds := zs.map keyD) (xs := zs.map kV) (by simp) ra).2
      have hsz : kA.length + kB.length ≤ sizeLine := by
        rw [← relA.length, ← relB.length, List.length_zip, List.length_zip, ← l1, ← l2, Nat.min_self, Nat.min_self]
        simpa using hc.2
      obtain ⟨m1, m2, m3⟩ := zip_merge l2 l1 nd
      obtain ⟨m4, m5⟩ := ra_merge (K := kX X) (H := H) (P := P) (M := M) l2 l1 r2 rvs
      refine call_meetsIn PySem.F.slot_dict_update ddA.typeIs PySem.F.entry_dict_update (PySem.F.args_dict_update_2 _ _) (meets_dict_update (mixKind X.prog X.w) a b hab loB) ⟨kA, kB, ddA, ddB, hsz, fun h' d1 _ sb => ?_⟩
      have ml : (mergeK (zs.zip ys) (zs2.zip ys2)).length ≤ sizeLine := Nat.le_trans (length_mergeK _ _) (by rw [relA.length, relB.length]; exact hsz)
      have I2 := d_write (t' := s.toks) (ob := .dK (mergeK (zs.zip ys) (zs2.zip ys2))) I (by rw [hu]; trivial) sb (let ⟨o, _, _, e, _⟩ := d1; ⟨o, e⟩) (dk_new ml loA (KV.merge relB relA) d1)
      refine ⟨.non, _, I2, rfl, q _ ((mergeZ zs ys zs2 ys2).1.map kV ++ (mergeZ zs ys zs2 ys2).2) _ ?_ ?_ rp_non⟩
      · rw [m1]
        show Cu _ _ (.d (mergeD _ _ _ _).1 _) _ _
        rw [merge_key (vs' := vs'), m4]
        exact cu_flat m2 m3
      · show RpA _ _ _ _ ((mergeD _ _ _ _).1 ++ (mergeD _ _ _ _).2) _
        rw [merge_key (vs' := vs'), m4]
        exact (ra_keys _).append m5
    · cases hf
  · cases hf
end NB
set_option Elab.async false
set_option linter.all false
set_option maxRecDepth 100000
set_option maxHeartbeats 4000000
set_option autoImplicit false
/-! Dicts by data: d[k] = v, displays, dict(..), sorted(d). -/
namespace NB
open PySem PySem.Spec PyProof.Rows L2
/-! ### d[k] = v -/
@[simp] def dputS (i : Nat) (kw : WO) (w : W) : WS := fun ρ t k => w ρ t (fun r ρ1 t1 => (∃ o0, ρ1[i]? = some (.ow o0)) ∧ kw ρ1 t1 (fun y ρ2 t2 => ∃ ks vs kd, ρ2[i]? = some (.ow (.d ks vs)) ∧ flatK ks = true ∧ rsv ρ2 y = some kd ∧ (keyOf kd).isSome = true ∧ ks.length < sizeLine ∧
  k.nx (ρ2.set i (.ow (.d (putKs ks kd) (putVs ks vs kd r.d)))) t2) k.ex) k.ex
section
variable {X : Cx} {EX : XX} {e kx : Expr} {x : Str} {p' pos' pos : Pos} {kw : WO} {w : W} {i : Nat}
theorem ds_dput (hu : X.A.units + 1 < cLine) (hv : PE X (.Name x p') (tVar i)) (hk : DO X EX kx kw) (he : DE X EX e w) (hs : swapsWith e (some (.Subscript (.Name x p') kx pos')) pos.line X.env = pure false) :
    DS X EX (.Assign [.Subscript (.Name x p') kx pos'] e pos) (dputS i kw w) := PS.imp (ps_dput hu hv hk he hs) fun D σ H h => by
  obtain ⟨G, P, ρ, t, kk, S, hw, lk, hn, _⟩ := h
  refine ⟨G, P, ρ, t, _, kk.ex, S, hw, lk, fun r ρ1 t1 v H1 P1 z rs => ?_⟩
  obtain ⟨⟨o0, e0⟩, z⟩ := z
  obtain ⟨S1, rp1⟩ := rs.im
  obtain ⟨a, u0, xs0, h1, _⟩ := S1.ow i _ e0
  refine ⟨.ref a, h1, G.hold r.d v, P1, ρ1, t1, _, kk.ex, S1.hold rp1, z, lk.hold, fun y ρ2 t2 yv H2 P2 z2 r2 => ?_⟩
  obtain ⟨ks, vs, kd, e2, fl, ey, ik, few, q⟩ := z2
  have S2h := r2.sat
  have ry := rsv_ok S2h r2 ey
  obtain ⟨S2, rp2⟩ := S2h.unhold
  obtain ⟨ky, hky⟩ := Option.isSome_iff_exists.mp ik
  rw [keyOf_some hky] at ry q
  obtain ⟨a', u, xs, g1, g2, gc, g3, _⟩ := S2.ow i _ e2
  rw [h1] at g1
  cases g1
  obtain ⟨zs, ys, l1, nd, rfl, rfl, rfl⟩ := gc.flat fl
  have rvs := (RpA.app_inv (ds := zs.map keyD) (xs := zs.map kV) (by simp) g3).2
  rw [ry.key]
  refine ⟨a, _, rfl, DPut.k g2 (by rw [List.length_zip, ← l1, Nat.min_self]; simpa using few), hn _ _ _ _ P2 q ?_⟩
  rw [zip_put l1 nd, putKs_key, putVs_key]
  exact (S2.own (ds' := .d ((putZ zs ky).map keyD) (putY zs vs ky r.d)) e2 h1 (cu_flat (put_len l1) (putZ_nodup nd)) ((ra_keys _).append (ra_put rp2 rvs l1))).1
end
/-! ### displays -/
def strZ (ks : List Str) : List Key := ks.map Sum.inr
theorem strZ_D (ks : List Str) : (strZ ks).map keyD = ks.map .str := by simp [strZ, keyD, Function.comp_def]
theorem strZ_V (ks : List Str) : (strZ ks).map kV = ks.map .str := by simp [strZ, kV, Function.comp_def]
theorem strZ_nd {ks : List Str} (h : ks.Nodup) : (strZ ks).Nodup := List.pairwise_map.mpr (List.Pairwise.imp (fun ne e => ne (Sum.inr.inj e)) h)
theorem merge_new {zs : List Key} {ys : List V} : ∀ (acc : List (Key × V)), zs.length = ys.length → (acc.map (·.1) ++ zs).Nodup → mergeK acc (zs.zip ys) = acc ++ zs.zip ys := by
  induction zs generalizing ys with
  | nil => intro acc _ _; simp [mergeK]
  | cons z zs ih =>
    intro acc hl nd
    cases ys with
    | nil => simp at hl
    | cons y ys =>
      have nz : z ∉ acc.map (·.1) := fun m => by
        have := (List.nodup_append.mp nd).2.2 z m z List.mem_cons_self
        exact this rfl
      have hn : valV acc z = none := by
        have h := valV_any z acc
        cases hv : valV acc z with
        | none => rfl
        | some w =>
          rw [hv] at h
          obtain ⟨p, hp, e⟩ := List.any_eq_true.mp h
          exact absurd (List.mem_map.mpr ⟨p, hp, of_decide_eq_true e⟩) nz
      have step : mergeK acc ((z, y) :: zs.zip ys) = mergeK (putK acc z y) (zs.zip ys) := rfl
      rw [List.zip_cons_cons, step, putK_new y hn, ih _ (by simpa using hl) (by simpa using nd)]
      simp
/-- the pairs of a display with written texts as keys -/
def DDs (X : Cx) (EX : XX) (pos : Pos) (keys : List (Option Expr)) (values : List Expr) (ks : List Str) (w : Wg (List D)) : Prop :=
  ∃ trs, PPs X pos keys values trs ∧ ∀ (σ : St) (H : Hp) (Q : List (V × V) → Hp → Prop), Go (kX X) EX (RA (kX X)) w σ H (fun vs H' => ∀ ps, ps = (ks.map V.str).zip vs → Q ps H') → tPairs trs σ H Q
section
variable {X : Cx} {EX : XX} {pos kp : Pos} {j : Nat} {keys : List (Option Expr)} {values : List Expr} {ks : List Str} {k : Str} {e : Expr} {w : W} {r : Wg (List D)}
theorem dds_nil : DDs X EX pos [] [] [] nilW := ⟨[], pps_nil, fun σ H Q h => by
  obtain ⟨G, P, ρ, t, Q', E, S, hw, lk, hq⟩ := h
  exact hq _ _ _ _ _ P hw ⟨S, .nil⟩ _ rfl⟩
theorem dds_cons (he : DE X EX e w) (hr : DDs X EX pos keys values ks r) : DDs X EX pos (some (.Constant (.str k) j kp) :: keys) (e :: values) (k :: ks) (consD w r) := by
  obtain ⟨trs, h1, h2⟩ := hr
  refine ⟨_, pps_cons pe_str he h1, fun σ H Q h => ?_⟩
  obtain ⟨G, P, ρ, t, Q', E, S, hw, lk, hq⟩ := h
  refine ⟨G, P, ρ, t, _, E, S, hw, lk, fun x ρ1 t1 v H1 P1 z rs => ?_⟩
  obtain ⟨S1, rp⟩ := rs.im
  refine h2 σ H1 _ ⟨G.hold x.d v, P1, ρ1, t1, _, E, S1.hold rp, z, lk.hold, fun xs ρ2 t2 vs H2 P2 z2 r2 ps hps => ?_⟩
  obtain ⟨S2, ra⟩ := r2
  obtain ⟨S3, rp2⟩ := S2.unhold
  exact hq _ _ _ (v :: vs) _ P2 z2 ⟨S3, .cons rp2 ra⟩ _ (by rw [hps]; rfl)
@[simp] def dispW (ks : List Str) (a : Wg (List D)) : W := fun ρ t Q E => a ρ t (fun vs ρ1 t1 => vs.length = ks.length ∧ Q (.nw (.d (ks.map .str) vs)) ρ1 t1) E
theorem de_disp (h : DDs X EX pos keys values ks r) (nd : ks.Nodup) (h0 : keys ≠ []) (h15 : keys.length ≤ 15) (hk : keys.length = ks.length) (hall : keys.all (·.isSome) = true) (hl : keys.length = values.length) :
    DE X EX (.Dict keys values pos) (dispW ks r) := by
  obtain ⟨trs, h1, h2⟩ := h
  refine PE.imp (pe_disp h1 hall hl h0 h15) fun σ H Q h p hp => ?_
  obtain ⟨G, P, ρ, t, Q', E, S, hr, lk, hq⟩ := h
  have mu0 : Mu p (HO.dK []) := .inr (.inl ⟨_, rfl⟩)
  have S0 := S.add mu0 (kp_upd hp) hp upd_same
  have n0 : Nw G.H0 p := S.h0 (nw_of hp)
  have nF : ∀ b, G.F b → b ≠ p := fun b hb e => by
    obtain ⟨u, _, _, e2⟩ := S.fo b hb
    rw [e, hp] at e2
    cases e2
  refine h2 σ _ _ ⟨G.add p (.dK []), P, ρ, t, _, E, S0, hr, lk.add n0, fun xs ρ1 t1 vs H2 P2 z rs ps hps => ?_⟩
  obtain ⟨hxl, z⟩ := z
  obtain ⟨S2, ra⟩ := rs
  have hH : H2 p = some (.dK []) := by
    obtain ⟨u, _, e1, e2⟩ := S2.fo p (.inr rfl)
    have e1 : upd G.HF p (.dK []) p = some u := e1
    rw [upd_same] at e1
    cases e1
    exact e2
  have lv : (strZ ks).length = vs.length := by rw [← ra.length, hxl]; simp [strZ]
  have mu1 : Mu p (HO.dK ((strZ ks).zip vs)) := .inr (.inl ⟨_, rfl⟩)
  have S3 := S2.updF (w := .dK ((strZ ks).zip vs)) nF n0 mu1
  have k3 : Kp (kX X) (fun b => b = p) H2 (upd H2 p (.dK ((strZ ks).zip vs))) := .but (fun b z => by subst z; exact ⟨_, hH, mu0⟩) fun b o n e => by rw [upd_ne n]; exact e
  have mo : Mo (kX X) H2 (upd H2 p (.dK ((strZ ks).zip vs))) P2 P2 (Mx (G.add p (.dK [])).F P2 ρ1 σ) (Mx (G.add p (.dK ((strZ ks).zip vs))).F P2 ρ1 σ) :=
    .of k3 (fun b z => by subst z; exact ⟨_, hH, mu0⟩) (fun b z => by subst z; exact .inl (.inr rfl)) (fun _ z => z) fun b z => .inl z
  refine ⟨hH, (strZ ks).zip vs, ?_, ?_, ?_⟩
  · rw [hps, ← strZ_V, List.zip_map_left]
    rfl
  · rw [List.length_zip, ← lv, Nat.min_self]
    simp only [strZ, List.length_map]
    omega
  · rw [merge_new [] lv (by simpa using strZ_nd nd), List.nil_append]
    refine hq _ _ _ _ _ P2 z ⟨p, _, (strZ ks).map kV ++ vs, rfl, S3, fun z => ?_, n0, upd_same, ?_, ?_⟩
    · rcases z with z | z | ⟨i, es, e1, e2⟩
      · exact nF p z rfl
      · exact S2.fp p (.inr rfl) z
      · obtain ⟨b, _, _, r1, _, _, _, r4, _⟩ := S2.ow i es e1
        rw [e2] at r1
        cases r1
        exact r4 (.inr rfl)
    · rw [← strZ_D]
      exact cu_flat lv (strZ_nd nd)
    · show RpA _ _ _ _ (ks.map D.str ++ xs) _
      rw [← strZ_D]
      exact (ra_keys _).append (ra.mo mo)
end
end NB
set_option Elab.async false
set_option linter.all false
set_option maxRecDepth 100000
set_option maxHeartbeats 4000000
set_option autoImplicit false
/-! Dicts by data: dict(zip(..)), dict(pairs), sorted(d). -/
namespace NB
open PySem PySem.Spec PyProof.Rows L2
theorem paired_zip {α β : Type} {R : α → β → Prop} {ys : List α} {us : List β} {zs : List Key} (h : Paired R ys us) : Paired (fun (p : Key × α) (q : Key × β) => p.1 = q.1 ∧ R p.2 q.2) (zs.zip ys) (zs.zip us) := by
  induction h generalizing zs with
  | nil => cases zs <;> exact .nil
  | cons r t ih =>
    cases zs with
    | nil => exact .nil
    | cons z zs => exact .cons ⟨rfl, r⟩ ih
/-- a new dict of this kind -/
theorem rz_dict {K : KF} {H : Hp} {P M : PA1} {zs : List Key} {vs : List D} {ys : List V} {p : Addr} (hp : H p = none) (hl : zs.length = ys.length) (nd : zs.Nodup) (ra : RpA K H P M vs ys) : Rz K H (upd H p (.dK (zs.zip ys))) P M (.nw (.d (zs.map keyD) vs)) (.ref p) :=
  ⟨p, _, _, rfl, hp, upd_same, cu_flat hl nd, (ra_keys _).append (ra.mo (.of (N := fun _ => False) (kp_upd hp) (fun _ z => z.elim) (fun _ z => z.elim) (fun _ z => z) fun b z => by
    rcases z with z | z
    · exact .inl z
    · subst z; exact .inr (nw_of hp)))⟩
@[simp] def dictZipW (a b : WO) : W := fun ρ t Q E => a ρ t (fun x ρ1 t1 => b ρ1 t1 (fun y ρ2 t2 => ∃ (zs : List Str) (vs : List D), rsv ρ2 x = some (.tup (zs.map .str)) ∧ rsv ρ2 y = some (.tup vs) ∧ zs.length = vs.length ∧ zs.Nodup ∧ Q (.nw (.d (zs.map .str) vs)) ρ2 t2) E) E
def rZipD (K : PySem.W.Frag) : List V → Hp → VK → Prop := fun xs H Q => ∃ (a b : Addr) (zs : List Str) (ys : List V), xs = [.ref a, .ref b] ∧ SqT K H a (zs.map V.str) ∧ SqT K H b ys ∧ zs.length = ys.length ∧ zs.Nodup ∧ ∀ p, H p = none → Q (.ref p) (upd H p (.dK ((strZ zs).zip ys)))
section
variable {X : Cx} {EX : XX} {a b : Expr} {wa wb : WO} {p p1 pos pos1 : Pos} {ta : TA}
theorem pe_dictZip (hc : X.calm = true) (hg : Gl X "dict") (hm : X.mg "dict" = none) (hg1 : Gl X "zip") (hm1 : X.mg "zip" = none) (ha : PA X [a, b] ta) (hs : starEach [a, b] X.env = (false, eval a X.env) :: starEach [b] X.env) (hpl : (backTo pos1 (starEach [b] X.env)).any (·.1) = false)
    (he : starEach [.Call (.Name "zip" p1) [a, b] [] pos1] X.env = (false, eval (.Call (.Name "zip" p1) [a, b] [] pos1) X.env) :: starEach [] X.env) :
    PE X (.Call (.Name "dict" p) [.Call (.Name "zip" p1) [a, b] [] pos1] [] pos) (tCB (rZipD X.K) ta) := by
  constructor
  intro pins s σ H Q I h
  refine Call_ (ld_blt I hg hm PyProof.Rows.boot_dict ?_)
  refine PyProof.Rows.callWith_type1 (PyProof.Rows.args_cons ?_ he) he rfl
  refine Call_ (ld_blt I hg1 hm1 PyProof.Rows.boot_zip (PyProof.Rows.callWith_type1 (thn (ha.run pos1 pins s σ H _ I h) ?_) hs hpl))
  rintro us s1 ⟨vs, H1, I1, r1, c, d, zs, ys, rfl, sa, sb, hl, nd, q⟩
  obtain ⟨u1, u2, rfl, e1, e2⟩ := vals2 r1
  obtain rfl : u1 = .ref c := e1
  obtain rfl : u2 = .ref d := e2
  obtain ⟨its1, rv1, q1, z1⟩ := I1.tuple sa
  obtain ⟨its2, rv2, q2, z2⟩ := I1.tuple sb
  obtain ⟨o1, g1, _⟩ := id q1
  obtain ⟨o2, g2, _⟩ := id q2
  have ap := PySem.W.ktu_apart s1.heap.objs.size c d (Heap.lt_size g1) (Heap.lt_size g2)
  refine RZ.call_zipT (show s1.heap.IsTuple c its1.toArray from q1) (show s1.heap.IsTuple d its2.toArray from q2) fun h' hz hTI hTO a1 a2 hsz hk => PyProof.Rows.args_nil ?_
  have l1 := rv1.length
  have l2 := rv2.length
  have lz : zs.length = its1.length := by simpa using l1
  have ln : min its1.toArray.size its2.toArray.size = zs.length := by simp only [List.size_toArray]; omega
  refine PySem.call_dict_pairs (knd := mixKind X.prog X.w) (kvs := (strZ zs).zip its2) (zipTArg _ _ _ _ _ c d ap its1.toArray its2.toArray) (I1.ok.hd hc) ⟨hz, hTI, ⟨_, _, hTO⟩, a1, a2, (show s1.heap.IsTuple c its1.toArray from q1).at fun o => hk _ o, (show s1.heap.IsTuple d its2.toArray from q2).at fun o => hk _ o⟩ ⟨?_, fun i key v hr => ?_⟩ ?_ fun h2 tk hd hk2 => ?_
  · rw [ln, List.length_zip]
    simp only [strZ, List.length_map]
    omega
  · obtain ⟨r1, r2⟩ := hr
    have r1 : its1[i]? = some key := by simpa using r1
    have r2 : its2[i]? = some v := by simpa using r2
    have hi : i < its1.length := (List.getElem?_eq_some_iff.mp r1).1
    have ez : zs[i]? = some (zs[i]'(by omega)) := List.getElem?_eq_getElem (by omega)
    obtain ⟨u, eu, ru⟩ := rv1.get (i := i) (x := .str (zs[i]'(by omega))) (by rw [List.getElem?_map, ez]; rfl)
    rw [r1] at eu
    cases eu
    refine ⟨.inr (zs[i]'(by omega)), List.getElem?_zip_eq_some.mpr ⟨?_, r2⟩, kV_is (k := .inr _) ru⟩
    show ((zs.map Sum.inr : List Key))[i]? = _
    rw [List.getElem?_map, ez]
    rfl
  · rw [ln]
    omega
  · have hn : (((strZ zs).zip its2).map (·.1)).Nodup := by
      rw [List.map_fst_zip (by simp only [strZ, List.length_map]; omega)]
      exact strZ_nd nd
    rw [merged_nil_of_nodup _ hn] at hd
    have kp : ∀ b u, s1.heap.get? b = some u → h2.get? b = some u := fun b u e => by
      have lt : b < s1.heap.objs.size := Heap.lt_size e
      refine hk2 b u (fun hm => ?_) (hk b u e)
      simp only [List.mem_cons, List.not_mem_nil, or_false] at hm
      rcases hm with e | e | e | e <;> (rw [e] at lt; exact absurd lt (by first | exact Nat.lt_irrefl _ | exact Nat.not_lt.mpr (Nat.le_add_right _ _)))
    have hsz : h'.objs.size = s1.heap.objs.size + 5 := hsz
    have big : sysModules < h'.objs.size := by rw [hsz]; exact Nat.lt_of_lt_of_le I1.big (Nat.le_add_right _ _)
    have le5 : s1.heap.objs.size ≤ h'.objs.size := by rw [hsz]; exact Nat.le_add_right _ _
    refine ⟨.ref h'.objs.size, _, I1.laid (t' := tk) kp le5 (o := .dK ((strZ zs).zip ys)) (dk_new (by rw [List.length_zip]; simp only [strZ, List.length_map]; omega) (by simpa using Nat.ne_of_gt big) (paired_zip rv2) hd), rfl, q _ (I1.hok.fresh le5)⟩
theorem de_dictZip (hc : X.calm = true) (hg : Gl X "dict") (hm : X.mg "dict" = none) (hg1 : Gl X "zip") (hm1 : X.mg "zip" = none) (ha : DO X EX a wa) (hb : DO X EX b wb) (hs : starEach [a, b] X.env = (false, eval a X.env) :: starEach [b] X.env := by rfl) (hs2 : starEach [b] X.env = (false, eval b X.env) :: starEach [] X.env := by rfl) (hpl : (backTo pos1 (starEach [b] X.env)).any (·.1) = false := by rfl)
    (he : starEach [.Call (.Name "zip" p1) [a, b] [] pos1] X.env = (false, eval (.Call (.Name "zip" p1) [a, b] [] pos1) X.env) :: starEach [] X.env := by rfl) :
    DE X EX (.Call (.Name "dict" p) [.Call (.Name "zip" p1) [a, b] [] pos1] [] pos) (dictZipW wa wb) := by
  refine PE.imp (pe_dictZip hc hg hm hg1 hm1 (doa_cons ha (doa_cons hb doa_nil hs2) hs) hs hpl he) fun σ H Q h => ?_
  obtain ⟨G, P, ρ, t, Q', E, S, hw, lk, hq⟩ := h
  refine ⟨G, P, ρ, t, fun os ρ' t' => ∃ x y, os = [x, y] ∧ ∃ (zs : List Str) (vs : List D), rsv ρ' x = some (.tup (zs.map .str)) ∧ rsv ρ' y = some (.tup vs) ∧ zs.length = vs.length ∧ zs.Nodup ∧ Q' (.nw (.d (zs.map .str) vs)) ρ' t', E, S, ?_, lk, fun os ρ1 t1 xs H1 P1 z rs => ?_⟩
  · have go : ∀ Q1 Q2 : List Od → List Sl → Nat → Prop, (∀ o r t, Q1 o r t → Q2 o r t) → True := fun _ _ _ => trivial
    show wa ρ t (fun o ρ1 t1 => wb ρ1 t1 (fun o2 ρ2 t2 => ∃ x y, [o, o2] = [x, y] ∧ _) E) E
    have e : (fun (o : Od) (ρ1 : List Sl) (t1 : Nat) => wb ρ1 t1 (fun o2 ρ2 t2 => ∃ x y, [o, o2] = [x, y] ∧ ∃ (zs : List Str) (vs : List D), rsv ρ2 x = some (.tup (zs.map .str)) ∧ rsv ρ2 y = some (.tup vs) ∧ zs.length = vs.length ∧ zs.Nodup ∧ Q' (.nw (.d (zs.map .str) vs)) ρ2 t2) E) =
        fun o ρ1 t1 => wb ρ1 t1 (fun o2 ρ2 t2 => ∃ (zs : List Str) (vs : List D), rsv ρ2 o = some (.tup (zs.map .str)) ∧ rsv ρ2 o2 = some (.tup vs) ∧ zs.length = vs.length ∧ zs.Nodup ∧ Q' (.nw (.d (zs.map .str) vs)) ρ2 t2) E := by
      funext o ρ1 t1
      congr 1
      funext o2 ρ2 t2
      apply propext
      constructor
      · rintro ⟨x, y, e, h⟩
        cases e
        exact h
      · exact fun h => ⟨_, _, rfl, h⟩
    rw [e]
    exact hw
  · obtain ⟨x, y, rfl, zs, vs, e1, e2, hl, nd, q⟩ := z
    obtain ⟨S1, pr⟩ := rs
    obtain ⟨v1, v2, rfl, r1, r2⟩ := paired2 pr
    obtain ⟨c, ys1, rfl, sa, ra⟩ := (rsv_ok S1 (RO.iff.mpr ⟨S1, r1⟩) e1).tp
    obtain ⟨d, ys2, rfl, sb, rb⟩ := (rsv_ok S1 (RO.iff.mpr ⟨S1, r2⟩) e2).tp
    rw [ra_strs_inv ra] at sa
    refine ⟨c, d, zs, ys2, rfl, sa, sb, by rw [← rb.length]; exact hl, nd, fun p hp => ?_⟩
    have := rz_dict (zs := strZ zs) hp (by simp only [strZ, List.length_map]; rw [← rb.length]; exact hl) (strZ_nd nd) rb
    rw [strZ_D] at this
    exact hq _ _ _ _ _ P1 q (rz_rs S1 (kp_upd hp) this)
end
/-! ### dict(xs) of a list of pairs -/
/-- the pairs (text, value) -/
def pairsD : List D → Option (List Str × List D)
  | [] => some ([], [])
  | .tup [.str z, v] :: r => (pairsD r).map fun p => (z :: p.1, v :: p.2)
  | _ :: _ => none
@[simp] def dictPrW (a : WO) : W := fun ρ t Q E => a ρ t (fun x ρ1 t1 => ∃ d ds zs vs, rsv ρ1 x = some d ∧ d.ls = some ds ∧ pairsD ds = some (zs, vs) ∧ zs.Nodup ∧ Q (.nw (.d (zs.map .str) vs)) ρ1 t1) E
theorem pairs_ok {K : KF} {H : Hp} {P M : PA1} : ∀ {ds : List D} {xs : List V} {zs : List Str} {vs : List D}, pairsD ds = some (zs, vs) → RpA K H P M ds xs →
    ∃ (ps : List Addr) (ys : List V), xs = ps.map V.ref ∧ zs.length = ys.length ∧ RpA K H P M vs ys ∧ Paired (fun p kv => SqT K H p [kV kv.1, kv.2]) ps ((strZ zs).zip ys)
  | [], xs, zs, vs, h, ra => by
    cases h
    rw [RpA] at ra
    subst ra
    exact ⟨[], [], rfl, rfl, .nil, .nil⟩
  | d :: ds, xs, zs, vs, h, ra => by
    unfold pairsD at h
    split at h
    · rename_i e
      cases e
    · rename_i z v r e
      cases e
      obtain ⟨p, h1, h2⟩ := Option.map_eq_some_iff.mp h
      cases h2
      obtain ⟨x, xr, rfl, r1, r2⟩ := ra.cons_inv
      obtain ⟨ps, ys, rfl, l, rv, pr⟩ := pairs_ok (zs := p.1) (vs := p.2) (by rw [h1]) r2
      rw [Rp] at r1
      obtain ⟨a, xs2, rfl, sq, ra2⟩ := r1
      obtain ⟨v1, v2, rfl, q1, q2⟩ := ra_two ra2
      rw [Rp] at q1
      subst q1
      exact ⟨a :: ps, v2 :: ys, rfl, by simpa using l, .cons q2 rv, .cons sq pr⟩
    · cases h
section
variable {X : Cx} {EX : XX} {a : Expr} {wa : WO} {p pos : Pos}
theorem de_dictPr (hc : X.calm = true) (hg : Gl X "dict") (hm : X.mg "dict" = none) (ha : DO X EX a wa) (hs : starEach [a] X.env = (false, eval a X.env) :: starEach [] X.env := by rfl) (hpl : (backTo pos (starEach [] X.env)).any (·.1) = false := by rfl) :
    DE X EX (.Call (.Name "dict" p) [a] [] pos) (dictPrW wa) := by
  refine PE.imp (pe_callTy (call_dictP hc) hg hm PyProof.Rows.boot_dict (pa_cons ha pa_nil hs) (by decide) (by decide) hs hpl) fun σ H Q h => ?_
  obtain ⟨G, P, ρ, t, Q', E, S, hw, lk, hq⟩ := h
  refine ⟨G, P, ρ, t, _, E, S, hw, lk, fun o ρ1 t1 x H1 P1 z rs => ?_⟩
  obtain ⟨d, ds, zs, vs, e1, e2, e3, nd, q⟩ := z
  have S1 := rs.sat
  obtain ⟨l, xs, rfl, sq, ra⟩ := (rsv_ok S1 rs e1).ls e2
  obtain ⟨ps, ys, rfl, hl, rv, pr⟩ := pairs_ok e3 ra
  have hl' : (strZ zs).length = ys.length := by simp only [strZ, List.length_map]; exact hl
  refine ⟨l, ps, (strZ zs).zip ys, rfl, sq, pr, fun p hp => ?_⟩
  rw [merge_new [] hl' (by simpa using strZ_nd nd), List.nil_append]
  have := rz_dict (zs := strZ zs) hp hl' (strZ_nd nd) rv
  rw [strZ_D] at this
  exact hq _ _ _ _ _ P1 q (rz_rs S1 (kp_upd hp) this)
/-! ### sorted(d) -/
@[simp] def sortDctW (a : WO) : W := fun ρ t Q E => a ρ t (fun x ρ1 t1 => ∃ (zs : List Str) (vs : List D), rsv ρ1 x = some (.dct (zs.map .str) vs) ∧ zs ≠ [] ∧ zs.length < 64 ∧ ∀ ys : List Str, ys.Perm zs → sortedS ys = true → Q (.nw (.l (ys.map .str))) ρ1 t1) E
theorem de_sortDct (hc : X.calm = true) (hg : Gl X "sorted") (hm : X.mg "sorted" = none) (ha : DO X EX a wa) (hs : starEach [a] X.env = (false, eval a X.env) :: starEach [] X.env := by rfl) (hpl : (backTo pos (starEach [] X.env)).any (·.1) = false := by rfl) :
    DE X EX (.Call (.Name "sorted" p) [a] [] pos) (sortDctW wa) := by
  refine PE.imp (pe_callB (call_sortedD hc) hg hm PyProof.Rows.boot_sorted (pa_cons ha pa_nil hs) (by decide) (by decide) hs hpl) fun σ H Q h => ?_
  obtain ⟨G, P, ρ, t, Q', E, S, hw, lk, hq⟩ := h
  refine ⟨G, P, ρ, t, _, E, S, hw, lk, fun o ρ1 t1 x H1 P1 z rs => ?_⟩
  obtain ⟨zs, vs, e1, ne, few, q⟩ := z
  have S1 := rs.sat
  obtain ⟨c, u, xs, ys, rfl, hu, hd, r1, r2⟩ := rsv_ok S1 rs e1
  have fl : flatK (zs.map D.str) = true := by
    cases zs with
    | nil => exact absurd rfl ne
    | cons z zs => rfl
  obtain ⟨zk, l1, nd, ek, rfl, rfl⟩ := hd.flat fl
  have ezk : zk = strZ zs := by
    have key : ∀ (zk : List Key) (zs : List Str), zs.map D.str = zk.map keyD → zk = strZ zs := by
      intro zk
      induction zk with
      | nil => intro zs e; cases zs with | nil => rfl | cons _ _ => cases e
      | cons k zk ih =>
        intro zs e
        cases zs with
        | nil => cases e
        | cons z zs =>
          rw [List.map_cons, List.map_cons] at e
          injection e with e1 e2
          rw [ih zs e2]
          cases k with
          | inl i => cases e1
          | inr x => cases e1; rfl
    exact key zk zs ek
  subst ezk
  refine ⟨c, _, zs, rfl, .of hu, ?_, few, fun ys' p pm so hp => ?_⟩
  · rw [List.map_fst_zip (by rw [l1]; exact Nat.le_refl _)]
    rfl
  · exact hq _ _ _ _ _ P1 (q ys' pm so) (rz_rs S1 (kp_upd hp) (rz_list hp (ra_strs ys')))
end
end NB
set_option Elab.async false
set_option linter.all false
set_option maxRecDepth 100000
set_option maxHeartbeats 4000000
set_option autoImplicit false
/-! Lambdas as values: made, and run wherever their frame's cells stand as they stood. -/
namespace NB
open PySem PySem.Spec PyProof.Rows L2
/-- the names of a lambda with the parameters ps, within a def with the names N -/
structure LamP (N : List Str) (sc scope : Scope) (ps : List Str) : Prop where
  kind : scope.kind = .function
  co : scope.isCoroutine = false
  gen : scope.isGenerator = false
  nd : ps.Nodup
  par : ∀ p ∈ ps, scope.names.lookup p = some .local
  off : ∀ p ∈ ps, p ∉ N
  noC : ∀ y ∈ scope.names, y.2 ≠ .cell
  loc : ∀ y ∈ scope.names, y.2 = .local → y.1 ∉ N
  free : ∀ y ∈ scope.names, y.2 = .free → sc.names.lookup y.1 = some .cell ∨ sc.names.lookup y.1 = some .free
def lamPB (N : List Str) (sc scope : Scope) (ps : List Str) : Bool :=
  decide (scope.kind = .function) && (!scope.isCoroutine && (!scope.isGenerator && (decide ps.Nodup && (ps.all (fun p => decide (scope.names.lookup p = some .local) && !decide (p ∈ N)) &&
    scope.names.all fun y => !decide (y.2 = .cell) && ((!decide (y.2 = .local) || !decide (y.1 ∈ N)) && (!decide (y.2 = .free) || (decide (sc.names.lookup y.1 = some .cell) || decide (sc.names.lookup y.1 = some .free))))))))
theorem lamP_by {N : List Str} {sc scope : Scope} {ps : List Str} (h : lamPB N sc scope ps = true) : LamP N sc scope ps := by
  unfold lamPB at h
  simp only [Bool.and_eq_true, Bool.or_eq_true, Bool.not_eq_true', decide_eq_true_eq, decide_eq_false_iff_not, List.all_eq_true] at h
  obtain ⟨h1, h2, h3, h4, h5, h6⟩ := h
  exact ⟨h1, h2, h3, h4, fun p hp => (h5 p hp).1, fun p hp => (h5 p hp).2, fun y hy => (h6 y hy).1, fun y hy e => (h6 y hy).2.1.resolve_left fun z => z e, fun y hy e => (h6 y hy).2.2.resolve_left fun z => z e⟩
/-- what no frame tracks is as it was, but for slots -/
def Lat (s : Shared) (H : Hp) (s' : Shared) (H' : Hp) : Prop := ∀ b o, s.heap.get? b = some o → H b = none → (∃ sl, s'.heap.get? b = some { o with slots := sl }) ∧ H' b = none
theorem Lat.refl {s : Shared} {H : Hp} : Lat s H s H := fun b o e n => ⟨⟨o.slots, e⟩, n⟩
theorem Lat.trans {s s1 s2 : Shared} {H H1 H2 : Hp} (a : Lat s H s1 H1) (b : Lat s1 H1 s2 H2) : Lat s H s2 H2 := fun c o e n => by
  obtain ⟨⟨sl, e1⟩, n1⟩ := a c o e n
  obtain ⟨⟨sl2, e2⟩, n2⟩ := b c _ e1 n1
  exact ⟨⟨sl2, e2⟩, n2⟩
theorem lat_un {fs : List Addr} {s s' : Shared} {H H' : Hp} (u : Un fs [] H H' s.heap s'.heap) : Lat s H s' H' := fun b o e n => ⟨u.any e n (by simp), u.free b o e n (by simp)⟩
theorem lat_inv {X : Cx} {pins : List (Addr × Obj)} {σ : St} {H : Hp} {s : Shared} (I : Inv X pins σ H s) (hx : X.ex = []) : Lat X.s_0 X.H_0 s H := fun b o e n => by
  have u := I.base
  rw [hx] at u
  exact ⟨u.any e n (by simp), u.free b o e n (by simp)⟩
/-- the lambda's own frame -/
abbrev lamEnvN (n : Nat) (cl : List (Str × Addr)) (L f c : Addr) : Env := PySem.W.envX (lamX n).q (lamX n).sc L f (.ref c) (cloFrom cl (lamX n).sc.names [])
def lamCxP (X : Cx) (A : Around) (outer : List Env) (s : Shared) (H : Hp) (E : XK) (n : Nat) (f c : Addr) (ps : List Str) : Cx where
  prog := X.prog
  w := X.w
  K := X.K
  mg := X.mg
  base := X.base
  A := A.deeper (lamEnvN n X.env.cells s.heap.objs.size f c)
  N := X.N ++ ps
  s_0 := s
  H_0 := H
  env := lamEnvN n X.env.cells s.heap.objs.size f c
  outer := outer
  stack := lamEnvN n X.env.cells s.heap.objs.size f c :: outer
  ex := []
  fn := fun _ => false
  calm := true
  pn := []
  xe := fun e s' => wpAny (model X.prog X.w) (A.deeper (lamEnvN n X.env.cells s.heap.objs.size f c)) (leaving (lamEnvN n X.env.cells s.heap.objs.size f c) e) (fun _ s'' => L2.CX X.prog X.w outer H s E e s'') (fun e' s'' => L2.CX X.prog X.w outer H s E e' s'') s'
theorem rev_lookup {α β : Type} [BEq α] [LawfulBEq α] : ∀ {ps : List α} {us : List β} {i : Nat} {p : α} {u : β}, ps.Nodup → ps[i]? = some p → us[i]? = some u → (ps.zip us).reverse.lookup p = some u := by
  intro ps us i p u nd hp hu
  have hm : (p, u) ∈ (ps.zip us).reverse := List.mem_reverse.mpr (List.mem_of_getElem? (i := i) (List.getElem?_zip_eq_some.mpr ⟨hp, hu⟩))
  have un : ∀ q ∈ (ps.zip us).reverse, q.1 = p → q = (p, u) := fun q hq e => by
    obtain ⟨j, hj⟩ := List.getElem?_of_mem (List.mem_reverse.mp hq)
    have h2 := List.getElem?_zip_eq_some.mp hj
    rw [e] at h2
    have hij : j = i := (List.getElem?_inj (List.getElem?_eq_some_iff.mp h2.1).1 nd).mp (h2.1.trans hp.symm)
    rw [hij, hu] at h2
    have := Option.some.inj h2.2
    rw [← Prod.eta q, e, this]
  generalize (ps.zip us).reverse = l at hm un
  induction l with
  | nil => cases hm
  | cons q l ih =>
    obtain ⟨a, b⟩ := q
    by_cases h : p = a
    · subst h
      have := un (p, b) List.mem_cons_self rfl
      cases this
      simp [List.lookup]
    · have h2 : (p == a) = false := by simpa using h
      rw [List.lookup_cons, h2]
      refine ih ?_ fun q hq => un q (List.mem_cons_of_mem _ hq)
      rcases List.mem_cons.mp hm with e | e
      · cases e; exact absurd rfl h
      · exact e
section
variable {X : Cx} {pins : List (Addr × Obj)} {σ : St} {H HZ : Hp} {s s1 : Shared}
theorem lam_startP {A : Around} {outer : List Env} {E : XK} {n : Nat} {f c : Addr} {ps : List Str} {us : List Value} {vs : List V} {h1 : Heap} {tk : Nat} (I : Inv X pins σ H s) (L : LamP X.N X.env.scope (lamX n).sc ps) (e0 : Env0 X.prog X.w X.K X.mg X.base A outer s1 HZ) (hd : A.handled = none)
    (la : Lat s H s1 HZ) (hl : vs.length = ps.length) (rv : Vals vs us) (hns : h1.Ns s1.heap.objs.size fun y => (ps.zip us).reverse.lookup y) (kp : ∀ b o, s1.heap.get? b = some o → h1.get? b = some o) :
    Inv (lamCxP X A outer s1 HZ E n f c ps) [] (σ ++ vs.map some) HZ { s1 with heap := h1, toks := tk } := by
  have has_ : ∀ y ∈ (lamX n).sc.names, y.2 = .free → ∃ d, X.env.cells.lookup y.1 = some d := fun y hy e => by
    rcases L.free y hy e with k | k
    · exact I.ok.has _ (.inl k)
    · exact I.ok.has _ (.inr k)
  have mem_ : ∀ {y d}, (cloFrom X.env.cells (lamX n).sc.names []).lookup y = some d → X.env.cells.lookup y = some d := fun {y d} e => by
    rcases cloFrom_mem (PySem.mem_of_lookup e) with hm | ⟨h1, h2⟩
    · cases hm
    · obtain ⟨d', e'⟩ := has_ _ h1 rfl
      rw [show d = d' by rw [h2]; show (X.env.cells.lookup y).getD _ = d'; rw [show X.env.cells.lookup y = some d' from e'] <;> rfl]
      exact e'
  have got : ∀ {y}, (lamX n).sc.names.lookup y = some .free → ∃ d, (cloFrom X.env.cells (lamX n).sc.names []).lookup y = some d := fun {y} hy => by
    have hm : (y, NameKind.free) ∈ (lamX n).sc.names := PySem.mem_of_lookup hy
    exact mem_lookup (cloFrom_has (cells := X.env.cells) (acc := []) hm)
  have cell_ : ∀ {d : Addr} {v : Option Value}, H d = none → s.heap.IsCell d v → h1.IsCell d v := fun {d v} n ⟨o, ho, hd⟩ => by
    obtain ⟨⟨sl, q⟩, _⟩ := la d o ho n
    exact ⟨_, kp _ _ q, hd⟩
  have nil_ : ∀ b : Addr, b ∉ (lamCxP X A outer s1 HZ E n f c ps).ex := fun b z => absurd (show b ∈ ([] : List Addr) from z) (by simp)
  have ok : (lamCxP X A outer s1 HZ E n f c ps).Ok := {
    mod := e0.mod
    kind := L.kind
    glob := rfl
    blt := rfl
    above := Nat.le_refl _
    inj := fun y z d e1 e2 => I.ok.inj y z d (mem_ e1) (mem_ e2)
    has := fun y hy => by
      have hy : (lamX n).sc.names.lookup y = some .cell ∨ (lamX n).sc.names.lookup y = some .free := hy
      rcases hy with hy | hy
      · exact absurd rfl (L.noC _ (PySem.mem_of_lookup hy))
      · exact got hy
    cab := fun y d z _ => nomatch (show false = true from z)
    hd := fun _ => hd
    frames := Around.frames_deeper e0.frames
    stk := .inr ⟨rfl, rfl⟩
    exf := fun b z => absurd z (nil_ b)
    bs := e0.bs
    bsz := e0.bsz
    noex := fun b _ _ => nil_ b
    exfs := fun b z => absurd z (nil_ b)
    funs := e0.funs
    frf := e0.frf }
  refine ⟨ok, rfl, e0.bare, Un.kept kp, ⟨_, hns, fun i y v e1 e2 e3 => ?_⟩, fun y d e => ?_, e0.hok.fresh (Nat.le_refl _), fun y d e => ?_, fun q hq => absurd (show q ∈ ([] : List (Addr × Obj)) ++ [] from hq) (by simp), e0.hok.kept kp, ?_⟩
  · have e1 : (X.N ++ ps)[i]? = some y := e1
    have e3 : Vis (lamX n).sc y := e3
    by_cases hi : i < X.N.length
    · rw [List.getElem?_append_left hi] at e1
      rw [List.getElem?_append_left (by rw [I.len]; exact hi)] at e2
      rcases e3 with k | k | k
      · exact absurd (List.mem_of_getElem? e1) (L.loc _ (PySem.mem_of_lookup k) rfl)
      · exact absurd rfl (L.noC _ (PySem.mem_of_lookup k))
      · obtain ⟨m, hn, hlk⟩ := I.loc
        obtain ⟨w', r, q⟩ := hlk i y v e1 e2 ((L.free _ (PySem.mem_of_lookup k) rfl).elim (fun k => .inr (.inl k)) fun k => .inr (.inr k))
        obtain ⟨d2, h2⟩ := got k
        refine ⟨w', r, .inr ⟨.inr k, d2, h2, ?_⟩⟩
        have d1 := mem_ h2
        rcases q with ⟨k', _⟩ | ⟨_, d3, e', z⟩
        · have k' : X.env.scope.names.lookup y = some .local := k'
          rcases L.free _ (PySem.mem_of_lookup k) rfl with k2 | k2 <;> rw [show X.env.scope.names.lookup y = _ from k2] at k' <;> cases k'
        · rw [d1] at e'
          cases e'
          exact cell_ (I.freeC y _ d1) z
    · have hle : X.N.length ≤ i := Nat.le_of_not_lt hi
      rw [List.getElem?_append_right hle] at e1
      rw [List.getElem?_append_right (by rw [I.len]; exact hle), I.len, List.getElem?_map] at e2
      obtain ⟨v', ev, evv⟩ := Option.map_eq_some_iff.mp e2
      obtain rfl : v' = v := Option.some.inj evv
      obtain ⟨u, hu, ru⟩ := rv.get ev
      exact ⟨u, ru, .inl ⟨L.par y (List.mem_of_getElem? e1), rev_lookup L.nd e1 hu⟩⟩
  · obtain ⟨w', z⟩ := I.cell y d (mem_ e)
    exact ⟨w', cell_ (I.freeC y d (mem_ e)) z⟩
  · obtain ⟨v, o, ho, hd⟩ := I.cell y d (mem_ e)
    exact (la d o ho (I.freeC y d (mem_ e))).2
  · show (σ ++ vs.map some).length = (X.N ++ ps).length
    rw [List.length_append, List.length_append, List.length_map, hl, I.len]
/-- the lambda runs -/
theorem clo_run {A : Around} {outer : List Env} {E : XK} {Q : VK} {n k : Nat} {f c : Addr} {ps : List Str} {us : List Value} {vs : List V} {pm ctv : Value} {tb : TE} (I : Inv X pins σ H s) (L : LamP X.N X.env.scope (lamX n).sc ps) (e0 : Env0 X.prog X.w X.K X.mg X.base A outer s1 HZ) (hr : Room (k + 1) A) (la : Lat s H s1 HZ)
    (hf : s1.heap.get? f = some (PySem.W.kla_obj "<lambda>" (lamX n).q (lamX n).ps (lamX n).body (lamX n).sc (cloFrom X.env.cells (lamX n).sc.names []) pm c ctv)) (hc : HZ c = some (LamX.CodeO c (lamX n).q)) (hl : vs.length = ps.length) (rv : Vals vs us)
    (hbind : bindArgs (PySem.W.kla_fn "<lambda>" (lamX n).q (lamX n).ps (lamX n).body (lamX n).sc (cloFrom X.env.cells (lamX n).sc.names []) pm (.ref c) ctv) ⟨us, []⟩ = pure (ps.zip us))
    (hbody : Room k (A.deeper (lamEnvN n X.env.cells s1.heap.objs.size f c)) → PE (lamCxP X A outer s1 HZ E n f c ps) (lamX n).body tb) (ht : tb (σ ++ vs.map some) HZ Q) :
    codeAny (model X.prog X.w) A (.call (.ref f) ⟨us, []⟩) (CR (L2.CX X.prog X.w) outer X.prog X.w HZ s1 Q E) s1 := by
  obtain ⟨⟨oc, qs, tt, g1, g2, g3⟩, _, _⟩ := e0.hok c _ hc
  refine PySem.W.kla_callFunE hr.depth hf rfl L.co L.gen rfl ⟨c, oc, qs, tt, rfl, g1, g2, g3⟩ ?_
  rw [hbind]
  have nl : s1.heap.NoLimit := e0.mod.nolimit.keeps fun b o e => (e0.bs b o e).1
  refine wpAny_pure (wpAny_newFunctionEnv L.noC (fun y hy => L.par y.1 (List.of_mem_zip (a := y.1) (b := y.2) hy).1) (fun h1 ns1 same => ⟨nl.fresh _ same, ?_⟩) L.kind)
  have J := lam_startP (E := E) (f := f) (c := c) (n := n) (tk := s1.toks + (ps.zip us).length) I L e0 hr.hd la hl rv ns1 fun b o e => same.extBut b o (Nat.ne_of_lt (Heap.lt_size e)) (Heap.get?_push_of_some _ e)
  refine PySem.W.kla_codeExpr (wpAny_mono ((hbody (hr.deeper _)).run [] _ _ HZ Q J ht) (fun v s2 got => ?_) fun e s2 z => z)
  obtain ⟨y, H2, J2, r2, q⟩ := got
  exact ⟨y, H2, J2.os, J2.bare, J2.base, J2.hok, r2, q⟩
end
end NB
set_option Elab.async false
set_option linter.all false
set_option maxRecDepth 100000
set_option maxHeartbeats 4000000
set_option autoImplicit false
/-! Lambdas by data: made, handed on, called. -/
namespace NB
open PySem PySem.Spec PyProof.Rows L2
section
variable {X : Cx} {pins : List (Addr × Obj)} {σ : St} {H : Hp} {s : Shared}
theorem clo_new {P : Program} {w : World} {H : Hp} {h : Heap} {n : Nat} {cl : List (Str × Addr)} {f c : Addr} {pm ctv : Value} (e : h.get? f = some (PySem.W.kla_obj "<lambda>" (lamX n).q (lamX n).ps (lamX n).body (lamX n).sc (cloFrom cl (lamX n).sc.names []) pm c ctv)) : ObjOk P w H h f (CloO n cl f c) :=
  ⟨⟨pm, ctv, e⟩, ⟨_, e⟩, fun _ _ ⟨pm, ctv, q⟩ k => ⟨pm, ctv, k _ q⟩⟩
/-- a lambda is made: it is known from now on -/
theorem lam_mkT {T : List (Addr × Str)} {c P : Addr} {n : Nat} {params : Arguments} {body : Expr} {scope : Scope} {pos : Pos} {E : Value → Shared → Prop} {Q : Value → Shared → Prop} (I : Inv X pins σ H s) (TB : LamX.TabB X.base X.mg c P) (hcode : X.env.code = .ref c)
    (e : lamX n = ⟨X.env.qual ++ "<lambda>", params, body, scope⟩) (hm : (P, X.env.qual ++ "<lambda>") ∈ T) (hu : ∀ p ∈ T, p.1 = P → p.2 = X.env.qual ++ "<lambda>") (hT : LamX.Tabs T H) (hdef : defaultsOf params X.env = ([], [])) (hfree : ∀ y ∈ scope.names, y.2 = .free → ∃ c, X.env.cells.lookup y.1 = some c)
    (q : ∀ (f c' : Addr) (H1 : Hp) (s' : Shared), Inv X pins σ (upd H1 f (CloO n X.env.cells f c')) s' → LamX.ExtN H H1 → LamX.Tabs T H1 → H1 f = none → H1 c' = some (LamX.CodeO c' (lamX n).q) → Q (.ref f) s') :
    wpAny (model X.prog X.w) X.A (eval (.Lambda params body scope pos) X.env) Q E s := by
  obtain ⟨ps, hP, ht, ha⟩ := hT _ hm
  have cof : ∀ {h : Heap} {f c' : Addr} {pm ctv : Value}, h.get? f = some (PySem.W.kla_obj "<lambda>" (X.env.qual ++ "<lambda>") params body scope (cloFrom X.env.cells scope.names []) pm c' ctv) → ∀ {H : Hp}, ObjOk X.prog X.w H h f (CloO n X.env.cells f c') := fun {h f c' pm ctv} g {H} => clo_new (pm := pm) (ctv := ctv) (by rw [e]; exact g)
  have bP : s.heap.BuiltinsAt X.mg P := TB.bm.keeps I.bk
  have tP : s.heap.get? P = some { cls := .none, data := .fields ps } := I.hok P _ hP
  refine PySem.W.kla_eval hdef ?_
  cases hc : codeAmong pos ps.toList with
  | none =>
    refine PySem.W.kla_makeFunction (mg := X.mg) (c := c) (P := P) (ps := ps) (closure_ok hfree) I.ok.glob (I.mod.glob.keeps I.bk) hcode (TB.code.keeps I.bk) tP ht hc TB.gP bP fun c' ctv g tk k1 ge lt rc tb => ?_
    obtain ⟨c2, oc, vs, t, e2, o1, o2, o3⟩ := rc
    cases e2
    have nC : H c' = none := I.hok.fresh ge
    have I1 := LamX.inv_table (t' := tk) (more := #[rawInt pos.line, rawInt pos.col, .ref c']) (h' := g) I hP (fun b o hb e => k1 b o hb e) tb ge ⟨oc, vs, t, o1, o2, o3⟩
    have nF : (upd (upd H P (.tbl (ps ++ #[rawInt pos.line, rawInt pos.col, .ref c']))) c' (LamX.CodeO c' (X.env.qual ++ "<lambda>"))) g.objs.size = none := I1.hok.fresh (Nat.le_refl _)
    have I2 := I1.laid (t' := tk) (a := g.objs.size) (h' := g.push (PySem.W.kla_obj "<lambda>" (X.env.qual ++ "<lambda>") params body scope (cloFrom X.env.cells scope.names []) ((X.mg "__name__").getD .none) c' ctv)) (fun b u z => Heap.get?_push_of_some _ z) (Nat.le_refl _) (cof (Heap.get?_push_size _ rfl))
    have eN : LamX.ExtN H (upd (upd H P (.tbl (ps ++ #[rawInt pos.line, rawInt pos.col, .ref c']))) c' (LamX.CodeO c' (X.env.qual ++ "<lambda>"))) := fun b o eb n => by
      rw [upd_ne (ne_of_none eb nC), upd_ne (fun z => n ps (Option.some.inj (eb.symm.trans (by rw [z]; exact hP))))]
      exact eb
    have eL : (ps ++ #[rawInt pos.line, rawInt pos.col, .ref c']).toList = ps.toList ++ [rawInt pos.line, rawInt pos.col, .ref c'] := by simp
    refine q _ c' _ _ I2 eN (fun p hp => ?_) nF (by rw [e]; exact upd_same)
    by_cases hb : p.1 = P
    · rw [hu p hp hb, hb]
      refine ⟨_, by rw [upd_ne (ne_of_none hP nC), upd_same], by rw [eL]; exact PySem.TriplesOk_snoc _ _ _ _ ht, fun p' cv hcv => ?_⟩
      rw [eL] at hcv
      rcases LamX.among_app _ ht hcv with z | z
      · obtain ⟨c0, e1, e2⟩ := ha p' cv z
        exact ⟨c0, e1, eN _ _ e2 LamX.codeO_ne⟩
      · exact ⟨c', z, upd_same⟩
    · obtain ⟨ps', a1, a2, a3⟩ := hT p hp
      refine ⟨ps', by rw [upd_ne (ne_of_none a1 nC), upd_ne hb]; exact a1, a2, fun p' cv hcv => ?_⟩
      obtain ⟨c0, e1, e2⟩ := a3 p' cv hcv
      exact ⟨c0, e1, eN _ _ e2 LamX.codeO_ne⟩
  | some cv =>
    obtain ⟨c', e', hco⟩ := ha pos cv hc
    subst e'
    refine PySem.W.kla_makeFunctionHit (mg := X.mg) (c := c) (P := P) (ps := ps) (closure_ok hfree) I.ok.glob (I.mod.glob.keeps I.bk) hcode (TB.code.keeps I.bk) tP ht hc bP fun ctv g tk k1 sz => ?_
    have I1 : Inv X pins σ H { s with heap := g, toks := tk } := I.kept k1
    have I2 := I1.laid (t' := tk) (a := g.objs.size) (h' := g.push (PySem.W.kla_obj "<lambda>" (X.env.qual ++ "<lambda>") params body scope (cloFrom X.env.cells scope.names []) ((X.mg "__name__").getD .none) c' ctv)) (fun b u z => Heap.get?_push_of_some _ z) (Nat.le_refl _) (cof (Heap.get?_push_size _ rfl))
    exact q _ c' H _ I2 (LamX.ExtN.refl H) hT (I1.hok.fresh (Nat.le_refl _)) (by rw [e]; exact hco)
end
/-! ### a lambda as a value -/
@[simp] def lamW (n : Nat) (cl : List (Str × Addr)) : W := fun ρ t Q _ => Q (.im (.clo n cl)) ρ t
section
variable {X : Cx} {EX : XX} {x : Str} {c P : Addr} {n : Nat} {params : Arguments} {body : Expr} {scope : Scope} {pos : Pos}
theorem de_lam (U : TabU X.K) (TB : TabsB X.K X.mg X.base) (hx : x ∈ lamNames) (tp : PySem.W.tabIn X.K x = some (c, P)) (hcode : X.env.code = .ref c) (hq : X.env.qual ++ "<lambda>" = lamQ x) (e : lamX n = ⟨X.env.qual ++ "<lambda>", params, body, scope⟩)
    (hdef : defaultsOf params X.env = ([], [])) (hfree : ∀ y ∈ scope.names, y.2 = .free → X.env.scope.names.lookup y.1 = some .cell ∨ X.env.scope.names.lookup y.1 = some .free) : DE X EX (.Lambda params body scope pos) (lamW n X.env.cells) := by
  constructor
  intro pins s σ H Q I h
  obtain ⟨G, P', ρ, t, Q', E, S, hw, lk, hr⟩ := h
  refine lam_mkT (T := tabsOf X.K) I (TB x hx c P tp) hcode e (by rw [hq]; exact tab_in hx tp) (by rw [hq]; exact tab_one U hx tp) S.tb hdef (fun y hy ey => ?_) fun f c' H1 s' I1 eN t1 nf hc => ?_
  · rcases hfree y hy ey with k | k
    · exact I.ok.has _ (.inl k)
    · exact I.ok.has _ (.inr k)
  · have S1 := S.grow (kp_ext eN t1)
    refine ⟨.ref f, _, I1, rfl, hr _ _ _ _ _ P' hw ⟨S1.grow (kp_upd nf), ?_⟩⟩
    rw [Rp]
    refine ⟨f, c', rfl, fun z => ?_, upd_same, by rw [upd_ne (ne_of_none hc nf)]; exact hc⟩
    obtain ⟨u, e, _⟩ := S1.mlist f z
    rw [nf] at e
    cases e
end
/-! ### lambdas that are handed on -/
/-- what a value's call does, from any state behind the entry (s0, H0, F0, P0) -/
structure KapOk (Pr : Program) (w : World) (K : PySem.W.Frag) (mg : Str → Option Value) (base : Heap) (j : Nat) (s0 : Shared) (H0 : Hp) (F0 P0 : PA1) (κ : D → WF) : Prop where
  go : ∀ (A : Around) (outer : List Env) (s : Shared) (H : Hp) (F P : PA1) (t : Nat) (d : D) (f : Addr) (us : List Value) (vs : List V) (ds : List D) (Q : VK) (E : XK) (Q' : R → Nat → Prop) (E' : KX), Room j A → A.guards = some [] → Env0 Pr w K mg base A outer s H → Lat s0 H0 s H →
    Kp ⟨K, w⟩ P0 H0 H → (∀ a, P0 a → P a) → (∀ a, P a → P0 a ∨ Nw H0 a) → (∀ a, F a → F0 a ∨ Nw H0 a) →
    (∀ a, F a → ∃ u, H a = some u ∧ Mu a u) → (∀ a, P a → PotAt H t a) → (∀ a, F a → ¬ P a) → Tb K H →
    Rp ⟨K, w⟩ H P (fun a => F a ∨ P a) d (.ref f) → Vals vs us → RpA ⟨K, w⟩ H P (fun a => F a ∨ P a) ds vs → κ d ds t Q' E' → LkE ⟨K, w⟩ E (g0 F P H) E' →
    (∀ r t' v H' P', Q' r t' → EndR ⟨K, w⟩ (g0 F P H) P' t' H' r v → Q v H') →
    PySem.W.FnAt f s.heap ∧ codeAny (model Pr w) A (.call (.ref f) ⟨us, []⟩) (CR (L2.CX Pr w) outer Pr w H s Q E) s
theorem KapOk.later {Pr : Program} {w : World} {K : PySem.W.Frag} {mg : Str → Option Value} {base : Heap} {i j : Nat} {s0 s1 : Shared} {H0 H1 : Hp} {F0 P0 F1 P1 : PA1} {κ : D → WF} (h : KapOk Pr w K mg base i s0 H0 F0 P0 κ) (le : i ≤ j) (la : Lat s0 H0 s1 H1) (kp : Kp ⟨K, w⟩ P0 H0 H1) (p0 : ∀ a, P0 a → P1 a) (pn : ∀ a, P1 a → P0 a ∨ Nw H0 a) (fn : ∀ a, F1 a → F0 a ∨ Nw H0 a) (pt : ∀ a, P0 a → ∃ t, PotAt H1 t a) : KapOk Pr w K mg base j s1 H1 F1 P1 κ where
  go := fun A outer s H F P t d f us vs ds Q E Q' E' hr hg e0 la2 kp2 p02 pn2 fn2 => by
    have nw : ∀ a, Nw H1 a → Nw H0 a := fun a n o e => by
      by_cases hp : P0 a
      · obtain ⟨t, i, j, k, e2, _⟩ := pt a hp
        exact (n.no e2 rfl).elim
      · rcases kp.go a o e hp with e2 | e2
        · exact n o e2
        · exact e2
    refine h.go A outer s H F P t d f us vs ds Q E Q' E' (hr.mono le) hg e0 (la.trans la2) (kp.trans kp2 fun a o e z => ?_) (fun a z => p02 a (p0 a z)) (fun a z => ?_) fun a z => ?_
    · rcases pn a z with q | q
      · exact .inl q
      · exact .inr (q o e)
    · rcases pn2 a z with q | q
      · exact pn a q
      · exact .inr (nw a q)
    · rcases fn2 a z with q | q
      · exact fn a q
      · exact .inr (nw a q)
end NB
set_option Elab.async false
set_option linter.all false
set_option maxRecDepth 100000
set_option maxHeartbeats 4000000
set_option autoImplicit false
/-! Lambdas by data: defs that take them. -/
namespace NB
open PySem PySem.Spec PyProof.Rows L2
/-! ### what the frame's lambdas do -/
def hidS : Sl → Sl
  | .ow _ => .non
  | s => s
@[simp] theorem hidS_im (d : D) : hidS (.im d) = .im d := rfl
@[simp] theorem hidS_ow (o : Ob) : hidS (.ow o) = .non := rfl
@[simp] theorem hidS_non : hidS .non = .non := rfl
@[simp] def hidR (ρ : List Sl) : List Sl := ρ.map hidS
def kap (cl : List (Str × Addr)) (lams : Nat → Option (Nat × W)) (ρ : List Sl) : D → WF := fun d ds t Q E => ∃ n p w, d = .clo n cl ∧ lams n = some (p, w) ∧ ds.length = p ∧ w (hidR ρ ++ ds.map .im) t (fun r _ t' => Q r t') E
theorem sat_lam {K : KF} {G : Gh} {P F1 P1 : PA1} {ρ : List Sl} {t t1 : Nat} {σ : St} {H H1 : Hp} {ds : List D} {vs : List V} (S : Sat K G P ρ t σ H) (kp : Kp K P H H1) (p0 : ∀ a, P a → P1 a) (pn : ∀ a, P1 a → P a ∨ Nw H a) (fn : ∀ a, F1 a → (G.F a ∨ Own ρ σ a) ∨ Nw H a)
    (fl : ∀ a, F1 a → ∃ u, H1 a = some u ∧ Mu a u) (pt : ∀ a, P1 a → PotAt H1 t1 a) (fp : ∀ a, F1 a → ¬ P1 a) (tb : Tb K H1) (ra : RpA K H1 P1 (fun a => F1 a ∨ P1 a) ds vs) : Sat K (g0 F1 P1 H1) P1 (hidR ρ ++ ds.map .im) t1 (σ ++ vs.map some) H1 := by
  have len : (hidR ρ).length = σ.length := by rw [hidR, List.length_map]; exact S.len
  have no : ∀ (i : Nat) o, (hidR ρ ++ ds.map Sl.im)[i]? ≠ some (.ow o) := fun i o e => by
    by_cases hi : i < (hidR ρ).length
    · rw [List.getElem?_append_left hi, hidR, List.getElem?_map] at e
      obtain ⟨s, _, h⟩ := Option.map_eq_some_iff.mp e
      cases s <;> cases h
    · rw [List.getElem?_append_right (Nat.le_of_not_lt hi), List.getElem?_map] at e
      obtain ⟨s, _, h⟩ := Option.map_eq_some_iff.mp e
      cases h
  have sub : ∀ a, Mx F1 P1 (hidR ρ ++ ds.map Sl.im) (σ ++ vs.map some) a → F1 a ∨ P1 a := fun a z => by
    rcases z with z | z | ⟨i, o, e, _⟩
    · exact .inl z
    · exact .inr z
    · exact absurd e (no i o)
  have mo : Mo K H H1 P P1 (Mx G.F P ρ σ) (Mx F1 P1 (hidR ρ ++ ds.map Sl.im) (σ ++ vs.map some)) := .of kp (fun a z => let ⟨i, j, l, e, _⟩ := S.pt a z; ⟨_, e, .l⟩) (fun a z => .inr (.inl z)) p0 fun a z => by
    rcases sub a z with q | q
    · rcases fn a q with (q | q) | q
      · exact .inl (.inl q)
      · exact .inl (.inr (.inr q))
      · exact .inr q
    · rcases pn a q with q | q
      · exact .inl (.inr (.inl q))
      · exact .inr q
  have mo1 : Mo K H1 H1 P1 P1 (fun a => F1 a ∨ P1 a) (Mx F1 P1 (hidR ρ ++ ds.map Sl.im) (σ ++ vs.map some)) := .less sub
  refine ⟨by rw [List.length_append, List.length_append, len, List.length_map, List.length_map, ra.length], fun i d e => ?_, fun i o e => absurd e (no i o), fun i j o o' a e => absurd e (no i o), fun a z => ?_, fun q hq => absurd (show q ∈ ([] : List (D × V)) from hq) (by simp), pt, fun a z => z, fun a z => .inl z, .refl, fp, tb⟩
  · by_cases hi : i < (hidR ρ).length
    · rw [List.getElem?_append_left hi, hidR, List.getElem?_map] at e
      obtain ⟨s, e1, h⟩ := Option.map_eq_some_iff.mp e
      cases s with
      | im d' =>
        cases h
        obtain ⟨v, e2, r⟩ := S.im i _ e1
        exact ⟨v, by rw [List.getElem?_append_left (by rw [← len]; exact hi)]; exact e2, r.mo mo⟩
      | _ => cases h
    · have hle := Nat.le_of_not_lt hi
      rw [List.getElem?_append_right hle, List.getElem?_map] at e
      obtain ⟨d', e1, h⟩ := Option.map_eq_some_iff.mp e
      cases h
      obtain ⟨v, e2, r⟩ := ra.get e1
      exact ⟨v, by rw [List.getElem?_append_right (by rw [← len]; exact hle), ← len, List.getElem?_map, e2]; rfl, r.mo mo1⟩
  · obtain ⟨u, e, m⟩ := fl a z
    exact ⟨u, m, e, e⟩
/-- a lambda's body is walked -/
structure LamDo (X : Cx) (j n p : Nat) (w : W) : Prop where
  ex : ∃ ps : List Str, ps.length = p ∧ LamP X.N X.env.scope (lamX n).sc ps ∧
    (∀ (us : List Value) (cl : List (Str × Addr)) (pm cv ctv : Value), us.length = p → bindArgs (PySem.W.kla_fn "<lambda>" (lamX n).q (lamX n).ps (lamX n).body (lamX n).sc cl pm cv ctv) ⟨us, []⟩ = pure (ps.zip us)) ∧
    ∀ (A : Around) (outer : List Env) (s : Shared) (H : Hp) (E : XK) (f c : Addr), Room j (A.deeper (lamEnvN n X.env.cells s.heap.objs.size f c)) → A.guards = some [] → DE (lamCxP X A outer s H E n f c ps) (XX.of E) (lamX n).body w
theorem kapOk_of {X : Cx} {pins : List (Addr × Obj)} {σ : St} {H : Hp} {s : Shared} {G : Gh} {P : PA1} {ρ : List Sl} {t j : Nat} {lams : Nat → Option (Nat × W)} (hl : ∀ n p w, lams n = some (p, w) → LamDo X j n p w) (I : Inv X pins σ H s) (S : Sat (kX X) G P ρ t σ H) :
    KapOk X.prog X.w X.K X.mg X.base (j + 1) s H (fun a => G.F a ∨ Own ρ σ a) P (kap X.env.cells lams ρ) where
  go := fun A outer s1 H1 F1 P1 t1 d f us vs ds Q E Q' E' hr hg e0 la kp p0 pn fn fl pt fp tb rp rv ra kk lk hq => by
    obtain ⟨n, p, w, rfl, hln, hd, hw⟩ := kk
    obtain ⟨ps, hps, L, hb, hbody⟩ := (hl n p w hln).ex
    rw [Rp] at rp
    obtain ⟨f', c', e, nm, hf, hc⟩ := rp
    cases e
    obtain ⟨⟨pm, ctv, hfo⟩, _, _⟩ := e0.hok f _ hf
    refine ⟨⟨_, _, _, _, hfo⟩, ?_⟩
    have hvl : vs.length = ps.length := by rw [hps, ← hd, ra.length]
    have S' := sat_lam S kp p0 pn fn fl pt fp tb ra
    exact clo_run (tb := Go (kX X) (XX.of E) (RS (kX X)) w) I L e0 hr la hfo hc hvl rv (hb us _ _ _ _ (by rw [← rv.length, hvl, hps])) (fun hr' => hbody A outer s1 H1 E f c' hr' hg)
      ⟨g0 F1 P1 H1, P1, _, t1, _, E', S', hw, ⟨lk, trivial⟩, fun r ρ' t' v H' P' q rs => hq r t' v H' P' q rs.endR⟩
/-! ### defs that take lambdas -/
def spWK (Pr : Program) (w : World) (K : PySem.W.Frag) (mg : Str → Option Value) (base : Heap) (j n : Nat) (Fw : (D → WF) → WF) (s : Shared) (vs : List V) (H : Hp) (Q : VK) (E : XK) : Prop := vs.length = n ∧ ∃ (κ : D → WF) (F P : PA1) (t : Nat) (ds : List D) (Q' : R → Nat → Prop) (E' : KX),
  KapOk Pr w K mg base j s H F P κ ∧ (∀ a, F a → ∃ u, H a = some u ∧ Mu a u) ∧ (∀ a, P a → PotAt H t a) ∧ (∀ a, F a → ¬ P a) ∧ RpA ⟨K, w⟩ H P (fun a => F a ∨ P a) ds vs ∧ Tb K H ∧ Fw κ ds t Q' E' ∧ LkE ⟨K, w⟩ E (g0 F P H) E' ∧
  ∀ r t' v H' P', Q' r t' → EndR ⟨K, w⟩ (g0 F P H) P' t' H' r v → Q v H'
structure FnGK (Pr : Program) (w : World) (K : PySem.W.Frag) (mg : Str → Option Value) (base : Heap) (j k : Nat) (f : Addr) (fd : FuncData) (ps : List Str) (Fw : (D → WF) → WF) : Prop where
  go : ∀ (A : Around) (outer : List Env) (s : Shared) (H : Hp) (args : Args) (us : List Value) (vs : List V) (Q : VK) (E : XK), Room k A → A.guards = some [] → Env0 Pr w K mg base A outer s H →
    BindsTo s fd args (ps.zip us) → Vals vs us → spWK Pr w K mg base j ps.length Fw s vs H Q E → codeAny (model Pr w) A (.call (.ref f) args) (CR (CXE Pr w) outer Pr w H s Q E) s
structure ClK (Pr : Program) (w : World) (K : PySem.W.Frag) (mg : Str → Option Value) (base : Heap) (j k : Nat) (x : Str) (n : Nat) (Fw : (D → WF) → WF) : Prop where
  ex : ∃ (f : Addr) (fd : FuncData) (ps : List Str), ps.length = n ∧ FnGK Pr w K mg base j k f fd ps Fw ∧ mg x = some (.ref f) ∧ PySem.W.keepIn K (.ref f) = true ∧ Binds K fd ps []
def ArK (n : Nat) (Fw : (D → WF) → WF) : Prop := ∀ κ ds t Q E, Fw κ ds t Q E → ds.length = n
@[simp] def callKW (kf : List Sl → D → WF) (F : (D → WF) → WF) (a : Wg (List D)) : W := fun ρ t Q E => a ρ t (fun xs ρ1 t1 => F (kf ρ1) xs t1 (fun r t2 => Q r ρ1 t2) E) E
/-- what is known of the handed lambdas at a call -/
def KfOk (X : Cx) (EX : XX) (j : Nat) (kf : List Sl → D → WF) : Prop := ∀ (pins : List (Addr × Obj)) (σ : St) (H : Hp) (s : Shared) (G : Gh) (P : PA1) (ρ : List Sl) (t : Nat), Inv X pins σ H s → Sat (kX X) G P ρ t σ H → EX.en G → KapOk X.prog X.w X.K X.mg X.base j s H (fun a => G.F a ∨ Own ρ σ a) P (kf ρ)
section
variable {X : Cx} {EX : XX} {j k n : Nat} {x : Str} {kf : List Sl → D → WF} {Fw : (D → WF) → WF} {p pos : Pos} {e : Expr} {es : List Expr} {w : Wg (List D)}
theorem kf_own {lams : Nat → Option (Nat × W)} (hl : ∀ n p w, lams n = some (p, w) → LamDo X j n p w) : KfOk X EX (j + 1) (kap X.env.cells lams) := fun _ _ _ _ _ _ _ _ I S _ => kapOk_of hl I S
theorem kf_on {F0 P0 : PA1} {E : XK} {i : Nat} {κ : D → WF} (le : i ≤ j) (hx : X.ex = []) (h : KapOk X.prog X.w X.K X.mg X.base i X.s_0 X.H_0 F0 P0 κ) : KfOk X (XX.fr E F0 P0 X.H_0) j (fun _ => κ) := fun pins σ H s G P ρ t I S en => by
  obtain ⟨e1, e2, e3⟩ := en
  refine h.later le (lat_inv I hx) (by have := S.kp; rw [e1, e2] at this; exact this) (fun a z => S.p0 a (by rw [e1]; exact z)) (fun a z => by have := S.pn a z; rw [e1, e2] at this; exact this) (fun a z => ?_) fun a z => ⟨t, S.pt a (S.p0 a (by rw [e1]; exact z))⟩
  rcases z with z | ⟨i, o, q1, q2⟩
  · exact e3 a z
  · obtain ⟨b, _, _, r1, _, _, _, _, _, r6⟩ := S.ow i o q1
    rw [q2] at r1
    cases r1
    rw [e2] at r6
    exact .inr r6
theorem de_clK (C : ClK X.prog X.w X.K X.mg X.base j k x n Fw) (hn : ArK n Fw) (hk : KfOk X EX j kf) (hr : Room k X.A) (hgd : X.A.guards = some []) (hg : Gl X x) (ha : DA X EX (e :: es) w) (hx : Passes (CXE X.prog X.w) X EX.ex := by first | exact passE0 | assumption) (hdb : (x == ("__debug__" : Str)) = false := by decide)
    (he : starEach (e :: es) X.env = (false, eval e X.env) :: starEach es X.env := by rfl) (hpl : (backTo pos (starEach es X.env)).any (·.1) = false := by rfl) : DE X EX (.Call (.Name x p) (e :: es) [] pos) (callKW kf Fw w) := by
  obtain ⟨f, fd, ps, rfl, F, hm, hkp, hb⟩ := C.ex
  refine ⟨fun pins s σ H Q I h => wpAny_Call_Name_kw (ld_glob I hg hm ?_ hdb)⟩
  obtain ⟨G, P, ρ, t, Q', E, S, hw, lk, hq⟩ := h
  refine PySem.W.callWith_K (h₀ := X.base) I.ok.mod.kin hkp (thn (ha.run pos pins s σ H (fun vs H1 => vs.length = ps.length ∧ ∃ ds ρ1 t1 P1, Fw (kf ρ1) ds t1 (fun r t2 => Q' r ρ1 t2) E ∧ Sat (kX X) G P1 ρ1 t1 σ H1 ∧ RpA (kX X) H1 P1 (Mx G.F P1 ρ1 σ) ds vs) I ⟨G, P, ρ, t, _, E, S, hw, lk, fun ds ρ1 t1 vs H1 P1 z rs => ?_⟩) fun us s1 ⟨vs, H1, I1, r, hl, ds, ρ1, t1, P1, z, S1, ra⟩ => ⟨I1.kIn, ?_⟩) he hpl
  · exact ⟨by rw [← rs.2.length]; exact hn _ _ _ _ _ z, ds, ρ1, t1, P1, z, rs.1, rs.2⟩
  · have bd : BindsTo s1 fd ⟨us, []⟩ (ps.zip us) := by
      have := hb s1 us I1.kIn (by rw [List.append_nil, ← r.length]; exact hl)
      rw [List.append_nil] at this
      exact this
    have sp : spWK X.prog X.w X.K X.mg X.base j ps.length Fw s1 vs H1 Q EX.ex := ⟨hl, kf ρ1, fun a => G.F a ∨ Own ρ1 σ a, P1, t1, ds, _, E, hk pins σ H1 s1 G P1 ρ1 t1 I1 S1 lk.en, fun a q => S1.mlist a (q.elim .inl fun q => .inr (.inr q)), S1.pt, fun a q q2 => by
      rcases q with q | ⟨i, o, e1, e2⟩
      · exact S1.fp a q q2
      · obtain ⟨b, _, _, r1, _, _, _, _, r5, _⟩ := S1.ow i o e1
        rw [e2] at r1
        cases r1
        exact r5 q2, ra.mo (.less fun a q => by
      rcases q with (q | q) | q
      · exact .inl q
      · exact .inr (.inr q)
      · exact .inr (.inl q)), S1.tb, z, lk.call S1, fun r t' v H' P' q er => hq _ _ _ _ _ P' q (S1.call er)⟩
    refine wpAny_call (codeAny_mono (F.go X.A X.stack s1 H1 _ us vs Q EX.ex hr hgd I1.env0 bd r sp) fun res s' hq => ?_)
    match res, hq with
    | .error e, hq => exact hx pins σ H1 s1 e s' I1 hq
    | .ok (.ret u), hq => exact I1.after hq
    | .ok .next, hq => exact hq.elim
    | .ok .brk, hq => exact hq.elim
    | .ok .cont, hq => exact hq.elim
end
/-! ### a call of what was handed -/
@[simp] def actW (κ : D → WF) (i : Nat) (a : Wg (List D)) : W := fun ρ t Q E => (∃ n cl, ρ[i]? = some (.im (.clo n cl))) ∧ a ρ t (fun xs ρ1 t1 => ∃ d, ρ1[i]? = some (.im d) ∧ κ d xs t1 (fun r t2 => Q r ρ1 t2) E) E
end NB
set_option Elab.async false
set_option linter.all false
set_option maxRecDepth 100000
set_option maxHeartbeats 4000000
set_option autoImplicit false
/-! Defs that take lambdas: their bodies; _law_heard of a value. -/
namespace NB
open PySem PySem.Spec PyProof.Rows L2
section
variable {X : Cx} {EX : XX} {i j : Nat} {x : Str} {κ : D → WF} {p pos : Pos} {e : Expr} {es : List Expr} {w : Wg (List D)}
/-- what is known at a call of a handed value -/
theorem act_core {pins : List (Addr × Obj)} {σ : St} {H : Hp} {s : Shared} {G : Gh} {P : PA1} {ρ : List Sl} {t : Nat} {d : D} {f : Addr} {us : List Value} {vs : List V} {ds : List D} {Q : VK} {Q' : R → List Sl → Nat → Prop} {E : KX} (hk : KapOk X.prog X.w X.K X.mg X.base j s H (fun a => G.F a ∨ Own ρ σ a) P κ)
    (I : Inv X pins σ H s) (S : Sat (kX X) G P ρ t σ H) (hr : Room j X.A) (hgd : X.A.guards = some []) (rd : Rp (kX X) H P (Mx G.F P ρ σ) d (.ref f)) (rv : Vals vs us) (ra : RpA (kX X) H P (Mx G.F P ρ σ) ds vs) (lk : Lk (kX X) EX G E) (kk : κ d ds t (fun r t2 => Q' r ρ t2) E)
    (hx : Passes (CXE X.prog X.w) X EX.ex) (hq : ∀ (r : R) (t' : Nat) (v : V) (H' : Hp) (P' : PA1), Q' r ρ t' → RS (kX X) G P' ρ t' σ H' r v → Q v H') : PySem.W.FnAt f s.heap ∧ wpAny (model X.prog X.w) X.A (call (.ref f) us) (EP X pins σ Q) X.xe s := by
  have sub : ∀ a, (G.F a ∨ Own ρ σ a) ∨ P a → Mx G.F P ρ σ a := fun a q => by
    rcases q with (q | q) | q
    · exact .inl q
    · exact .inr (.inr q)
    · exact .inr (.inl q)
  have go := hk.go X.A X.stack s H (fun a => G.F a ∨ Own ρ σ a) P t d f us vs ds Q EX.ex (fun r t2 => Q' r ρ t2) E hr hgd I.env0 .refl .refl (fun _ z => z) (fun _ z => .inl z) (fun _ z => .inl z) (fun a q => S.mlist a (sub a (.inl q))) S.pt (fun a q q2 => by
    rcases q with q | ⟨i, o, e1, e2⟩
    · exact S.fp a q q2
    · obtain ⟨b, _, _, r1, _, _, _, _, r5, _⟩ := S.ow i o e1
      rw [e2] at r1
      cases r1
      exact r5 q2) S.tb (rd.mo (.less sub)) rv (ra.mo (.less sub)) kk (lk.call S) fun r t' v H' P' q er => hq r t' v H' P' q (S.call er)
  refine ⟨go.1, wpAny_call (codeAny_mono go.2 fun res s' hq => ?_)⟩
  match res, hq with
  | .error e, hq => exact hx pins σ H s e s' I hq
  | .ok (.ret u), hq => exact I.after hq
  | .ok .next, hq => exact hq.elim
  | .ok .brk, hq => exact hq.elim
  | .ok .cont, hq => exact hq.elim
/-- call(..) of a value in a slot -/
theorem de_act (hk : KfOk X EX j fun _ => κ) (hr : Room j X.A) (hgd : X.A.guards = some []) (hv : PE X (.Name x p) (tVar i)) (ha : DA X EX (e :: es) w) (hx : Passes (CXE X.prog X.w) X EX.ex := by first | exact passE0 | assumption)
    (he : starEach (e :: es) X.env = (false, eval e X.env) :: starEach es X.env := by rfl) (hpl : (backTo pos (starEach es X.env)).any (·.1) = false := by rfl) :
    DE X EX (.Call (.Name x p) (e :: es) [] pos) (actW κ i w) := by
  refine ⟨fun pins s σ H Q I h => ?_⟩
  obtain ⟨G, P, ρ, t, Q', E, S, hw, lk, hq⟩ := h
  obtain ⟨⟨n0, cl0, e0⟩, hw⟩ := hw
  obtain ⟨v0, g1, g2⟩ := S.im i _ e0
  rw [Rp] at g2
  obtain ⟨f, c', rfl, _, hf, hc⟩ := g2
  refine wpAny_Call_Name_kw (thn (hv.run pins s σ H (fun v H1 => v = .ref f ∧ H1 = H) I ⟨.ref f, g1, rfl, rfl⟩) fun u s1 ⟨v, H1, I1, r1, q1⟩ => ?_)
  obtain ⟨rfl, rfl⟩ := q1
  obtain rfl : u = Value.ref f := r1
  obtain ⟨⟨pm, ctv, hfo⟩, _, _⟩ := I1.hok f _ hf
  refine PySem.W.callWith_F ⟨_, _, _, _, hfo⟩ (thn (ha.run pos pins s1 σ _ (fun vs H2 => ∃ ds ρ1 t1 P1 d, ρ1[i]? = some (.im d) ∧ κ d ds t1 (fun r t2 => Q' r ρ1 t2) E ∧ Sat (kX X) G P1 ρ1 t1 σ H2 ∧ RpA (kX X) H2 P1 (Mx G.F P1 ρ1 σ) ds vs) I1 ⟨G, P, ρ, t, _, E, S, hw, lk, fun ds ρ1 t1 vs H2 P1 z rs => ?_⟩) fun us s2 ⟨vs, H2, I2, rv, ds, ρ1, t1, P1, d, e1, kk, S1, ra⟩ => ?_) he hpl
  · obtain ⟨d, e1, kk⟩ := z
    exact ⟨ds, ρ1, t1, P1, d, e1, kk, rs.1, rs.2⟩
  · obtain ⟨v1, g3, g4⟩ := S1.im i _ e1
    rw [g1] at g3
    cases g3
    exact act_core (hk pins σ H2 s2 G P1 ρ1 t1 I2 S1 lk.en) I2 S1 hr hgd g4 rv ra lk kk hx fun r t' v H' P' q rs => hq _ _ _ _ _ P' q rs
theorem de_act0 (hk : KfOk X EX j fun _ => κ) (hr : Room j X.A) (hgd : X.A.guards = some []) (hv : PE X (.Name x p) (tVar i)) (hx : Passes (CXE X.prog X.w) X EX.ex := by first | exact passE0 | assumption) : DE X EX (.Call (.Name x p) [] [] pos) (actW κ i nilW) := by
  refine ⟨fun pins s σ H Q I h => ?_⟩
  obtain ⟨G, P, ρ, t, Q', E, S, hw, lk, hq⟩ := h
  obtain ⟨⟨n0, cl0, e0⟩, d, e1, kk⟩ := hw
  obtain ⟨v0, g1, g2⟩ := S.im i _ e0
  have g2' := g2
  rw [Rp] at g2
  obtain ⟨f, c', rfl, _, hf, hc⟩ := g2
  refine wpAny_Call_Name_kw (thn (hv.run pins s σ H (fun v H1 => v = .ref f ∧ H1 = H) I ⟨.ref f, g1, rfl, rfl⟩) fun u s1 ⟨v, H1, I1, r1, q1⟩ => ?_)
  obtain ⟨rfl, rfl⟩ := q1
  obtain rfl : u = Value.ref f := r1
  obtain ⟨v1, g3, g4⟩ := S.im i _ e1
  rw [g1] at g3
  cases g3
  have go := act_core (us := []) (hk pins σ _ s1 G P ρ t I1 S lk.en) I1 S hr hgd g4 .nil .nil lk kk hx fun r t' v H' P' q rs => hq _ _ _ _ _ P' q rs
  exact PySem.W.callWith_F0 go.1 go.2
end
/-! ### a def that takes lambdas, by its body -/
section
variable {Pr : Program} {w : World} {K : PySem.W.Frag} {mg : Str → Option Value} {base : Heap}
theorem fnK_of {j k : Nat} {f : Addr} {name qual : Str} {params : Arguments} {body : List Stmt} {scope : Scope} {dV kV doc pm cdv ct oc : Value} {an od : Option Addr} {osl : Array (Option Value)} {N ps : List Str} {ws : (D → WF) → WS}
    (lk : K.lookup f = some ⟨oc, od, .func (PySem.W.fnOf name qual params body scope dV kV doc pm an cdv ct), osl⟩) (hcd : PySem.W.codeIn K cdv qual = true) (S : FnScope N ps scope)
    (hbody : ∀ (A : Around) (outer : List Env) (s : Shared) (H : Hp) (E : XK) (F0 P0 : PA1) (κ : D → WF), Room k (A.deeper (envOfC qual scope s.heap.objs.size f cdv)) → A.guards = some [] → KapOk Pr w K mg base j s H F0 P0 κ →
      DSs (cxOf (CXE Pr w) Pr w K mg base N qual scope f cdv A outer s H E) (XX.fr E F0 P0 H) body (ws κ)) :
    FnGK Pr w K mg base j (k + 1) f (PySem.W.fnOf name qual params body scope dV kV doc pm an cdv ct) ps (fun κ => defW ps.length N.length (ws κ)) := by
  constructor
  intro A outer s H args us vs Q E hr hgd e0 hb r hsp
  obtain ⟨hl, κ, F, P0, t, ds, Q', E', kk, h1, h2, h3, ra, tb, hw, lkE, hq⟩ := hsp
  have KX : K.In s.heap := e0.mod.kin.keeps fun b o e => (e0.bs b o e).1
  have nl : s.heap.NoLimit := e0.mod.nolimit.keeps fun b o e => (e0.bs b o e).1
  have kinds : ∀ y ∈ ps.zip us, scope.names.lookup y.1 = some .local ∨ (scope.names.lookup y.1 = some .cell ∧ ((cellsFrom (s.heap.objs.size + 1) scope.names []).lookup y.1).isSome = true) := by
    rintro ⟨n, v⟩ hy
    refine (S.par n (List.of_mem_zip hy).1).imp id fun q => ⟨q, ?_⟩
    exact PySem.W.cellsFrom_some _ _ _ (.inl q)
  refine codeAny_call_function hr.depth (KX _ _ lk) rfl S.co S.gen rfl (PySem.W.codeRec_of KX hcd) (hb _ _ _ _ (wpAny_newFunctionEnv_cells S.kind kinds fun env he s1 x => ?_))
  subst he
  refine ⟨nl.keeps x.toInCall.keep, codeAny_func ?_⟩
  have I := inv_start (E := E) (CX := CXE Pr w) (P := Pr) (w := w) (N := N) (f := f) S hr.hd e0 hl r x
  have St0 : Sat ⟨K, w⟩ (g0 F P0 H) P0 (slots0 N.length ds) t (L2.start N vs) H := start_sat h1 h2 h3 ra tb
  have body := (hbody A outer s H E F P0 κ (hr.deeper _) hgd kk).run [] s1 (L2.start N vs) H { nx := fun _ H' => Q .non H', rt := Q } I
    ⟨g0 F P0 H, P0, _, t, _, St0, hw.2, ⟨lkE, rfl, rfl, fun _ z => .inl z⟩, fun ρ' t' σ' H' P' z S' => hq _ _ _ _ _ z ⟨S'.endOk, (by show Rp ⟨K, w⟩ H' P' _ .non .non; rw [Rp])⟩, fun _ _ _ _ _ z _ => z.elim, fun _ _ _ _ _ z _ => z.elim, fun r' t' v H' P' z er => hq _ _ _ _ _ z er⟩
  refine wpAny_mono body (fun fl s' hs => ?_) fun _ _ hs => hs
  match fl, hs with
  | .ret u, ⟨v, σ', H', J, rv, q⟩ => exact ⟨v, H', J.os, J.bare, J.base, J.hok, rv, q⟩
  | .next, ⟨σ', H', J, q⟩ => exact ⟨.non, H', J.os, J.bare, J.base, J.hok, rfl, q⟩
  | .brk, ⟨_, _, _, q⟩ => exact q.elim
  | .cont, ⟨_, _, _, q⟩ => exact q.elim
theorem cl_ofK {x : Str} {st : Stmt} {ps N : List Str} {j k : Nat} {ws : (D → WF) → WS} (D : Df K mg x st ps) (S : FnScope N ps (defScope st))
    (hbody : ∀ (f : Addr) (cdv : Value) (A : Around) (outer : List Env) (s : Shared) (H : Hp) (E : XK) (F0 P0 : PA1) (κ : NB.D → WF), Room k (A.deeper (envOfC x (defScope st) s.heap.objs.size f cdv)) → A.guards = some [] →
      Lv (cxOf (CXE Pr w) Pr w K mg base N x (defScope st) f cdv A outer s H E) (XX.fr E F0 P0 H) → Passes (CXE Pr w) (cxOf (CXE Pr w) Pr w K mg base N x (defScope st) f cdv A outer s H E) E → KapOk Pr w K mg base j s H F0 P0 κ →
      DSs (cxOf (CXE Pr w) Pr w K mg base N x (defScope st) f cdv A outer s H E) (XX.fr E F0 P0 H) (defBody st) (ws κ)) : ClK Pr w K mg base j (k + 1) x ps.length fun κ => defW ps.length N.length (ws κ) := by
  obtain ⟨f, fd, F, hm, hb⟩ := D.ex
  obtain ⟨oc, od, kV, doc, pm, an, cdv, ct, osl, rfl, lk, hcd⟩ := F.ex
  exact ⟨f, _, ps, rfl, fnK_of lk hcd S fun A outer s H E F0 P0 κ hr hg kk => hbody f cdv A outer s H E F0 P0 κ hr hg lv_cx (lv_cx (F0 := F0) (P0 := P0)).px kk, hm, F.kp, hb⟩
theorem arK_def {k n : Nat} {ws : (D → WF) → WS} : ArK k fun κ => defW k n (ws κ) := fun _ _ _ _ _ h => h.1
/-! ### a def that makes lambdas: for the cells of any entry -/
theorem fnG_any {k : Nat} {f : Addr} {name qual : Str} {params : Arguments} {body : List Stmt} {scope : Scope} {dV kV doc pm cdv ct oc : Value} {an od : Option Addr} {osl : Array (Option Value)} {N ps : List Str} {ws : List (Str × Addr) → WS}
    (lk : K.lookup f = some ⟨oc, od, .func (PySem.W.fnOf name qual params body scope dV kV doc pm an cdv ct), osl⟩) (hcd : PySem.W.codeIn K cdv qual = true) (S : FnScope N ps scope)
    (hbody : ∀ (A : Around) (outer : List Env) (s : Shared) (H : Hp) (E : XK) (F0 P0 : PA1), Room k (A.deeper (envOfC qual scope s.heap.objs.size f cdv)) → A.guards = some [] →
      DSs (cxOf (CXE Pr w) Pr w K mg base N qual scope f cdv A outer s H E) (XX.fr E F0 P0 H) body (ws (envOfC qual scope s.heap.objs.size f cdv).cells)) :
    FnG Pr w K mg base (CXE Pr w) (k + 1) f (PySem.W.fnOf name qual params body scope dV kV doc pm an cdv ct) ps (fun ds t Q E => ds.length = ps.length ∧ ∀ cl, defW ps.length N.length (ws cl) ds t Q E) := by
  constructor
  intro A outer s H args us vs Q E hr hgd e0 hb r hsp
  obtain ⟨hl, F, P0, t, ds, Q', E', h1, h2, h3, ra, tb, hw, lkE, hq⟩ := hsp
  have hw := hw.2 (envOfC qual scope s.heap.objs.size f cdv).cells
  have KX : K.In s.heap := e0.mod.kin.keeps fun b o e => (e0.bs b o e).1
  have nl : s.heap.NoLimit := e0.mod.nolimit.keeps fun b o e => (e0.bs b o e).1
  have kinds : ∀ y ∈ ps.zip us, scope.names.lookup y.1 = some .local ∨ (scope.names.lookup y.1 = some .cell ∧ ((cellsFrom (s.heap.objs.size + 1) scope.names []).lookup y.1).isSome = true) := by
    rintro ⟨n, v⟩ hy
    refine (S.par n (List.of_mem_zip hy).1).imp id fun q => ⟨q, ?_⟩
    exact PySem.W.cellsFrom_some _ _ _ (.inl q)
  refine codeAny_call_function hr.depth (KX _ _ lk) rfl S.co S.gen rfl (PySem.W.codeRec_of KX hcd) (hb _ _ _ _ (wpAny_newFunctionEnv_cells S.kind kinds fun env he s1 x => ?_))
  subst he
  refine ⟨nl.keeps x.toInCall.keep, codeAny_func ?_⟩
  have I := inv_start (E := E) (CX := CXE Pr w) (P := Pr) (w := w) (N := N) (f := f) S hr.hd e0 hl r x
  have St0 : Sat ⟨K, w⟩ (g0 F P0 H) P0 (slots0 N.length ds) t (L2.start N vs) H := start_sat h1 h2 h3 ra tb
  have body := (hbody A outer s H E F P0 (hr.deeper _) hgd).run [] s1 (L2.start N vs) H { nx := fun _ H' => Q .non H', rt := Q } I
    ⟨g0 F P0 H, P0, _, t, _, St0, hw.2, ⟨lkE, rfl, rfl, fun _ z => .inl z⟩, fun ρ' t' σ' H' P' z S' => hq _ _ _ _ _ z ⟨S'.endOk, (by show Rp ⟨K, w⟩ H' P' _ .non .non; rw [Rp])⟩, fun _ _ _ _ _ z _ => z.elim, fun _ _ _ _ _ z _ => z.elim, fun r' t' v H' P' z er => hq _ _ _ _ _ z er⟩
  refine wpAny_mono body (fun fl s' hs => ?_) fun _ _ hs => hs
  match fl, hs with
  | .ret u, ⟨v, σ', H', J, rv, q⟩ => exact ⟨v, H', J.os, J.bare, J.base, J.hok, rv, q⟩
  | .next, ⟨σ', H', J, q⟩ => exact ⟨.non, H', J.os, J.bare, J.base, J.hok, rfl, q⟩
  | .brk, ⟨_, _, _, q⟩ => exact q.elim
  | .cont, ⟨_, _, _, q⟩ => exact q.elim
/-- such a def by its data -/
@[simp] def defC (k n : Nat) (ws : List (Str × Addr) → WS) : WF := fun ds t Q E => ds.length = k ∧ ∀ cl, defW k n (ws cl) ds t Q E
theorem ar_defC {k n : Nat} {ws : List (Str × Addr) → WS} : Ar k (defC k n ws) := fun _ _ _ _ h => h.1
theorem cl_ofC {x : Str} {st : Stmt} {ps N : List Str} {k : Nat} {ws : List (Str × Addr) → WS} (D : DfL K mg x st ps) (S : FnScope N ps (defScope st))
    (hbody : ∀ (c P : Addr), PySem.W.tabIn K x = some (c, P) → ∀ (f : Addr) (A : Around) (outer : List Env) (s : Shared) (H : Hp) (E : XK) (F0 P0 : PA1), Room k (A.deeper (envOfC x (defScope st) s.heap.objs.size f (.ref c))) → A.guards = some [] →
      Lv (cxOf (CXE Pr w) Pr w K mg base N x (defScope st) f (.ref c) A outer s H E) (XX.fr E F0 P0 H) → Passes (CXE Pr w) (cxOf (CXE Pr w) Pr w K mg base N x (defScope st) f (.ref c) A outer s H E) E →
      DSs (cxOf (CXE Pr w) Pr w K mg base N x (defScope st) f (.ref c) A outer s H E) (XX.fr E F0 P0 H) (defBody st) (ws (envOfC x (defScope st) s.heap.objs.size f (.ref c)).cells)) : Cl Pr w K mg base (k + 1) x ps.length (defC ps.length N.length ws) := by
  obtain ⟨f, oc, od, kV, doc, pm, an, cdv, ct, osl, c, P, lk, hcd, hk, hm, hb, rfl, tp⟩ := D.ex
  exact ⟨f, _, ps, rfl, fnG_any lk hcd S fun A outer s H E F0 P0 hr hg => hbody c P tp f A outer s H E F0 P0 hr hg lv_cx (lv_cx (F0 := F0) (P0 := P0)).px, hm, hk, hb⟩
end
end NB
set_option Elab.async false
set_option linter.all false
set_option maxRecDepth 100000
set_option maxHeartbeats 4000000
set_option autoImplicit false
/-! _law_heard of a value. -/
namespace NB
open PySem PySem.Spec PyProof.Rows L2
/-- (None, what it returns), or (the exception, None) -/
@[simp] def heardF (cs : List Str) : (D → WF) → WF := fun κ ds t Q E => ∃ d, ds = [d] ∧ κ d [] t (fun r t1 => Q (.im (.tup [.non, r.d])) t1) (fun c v t1 => c ∈ cs ∧ Q (.im (.tup [.exc c v, .non])) t1)
@[simp] def heardC (cs : List Str) : (D → WF) → WF := fun κ ds t Q E => (∃ n cl, ds = [.clo n cl]) ∧ heardF cs κ ds t Q E
theorem arK_heard {cs : List Str} : ArK 1 (heardC cs) := fun _ _ _ _ _ ⟨⟨_, _, e⟩, _⟩ => by rw [e]; rfl
section
variable {Pr : Program} {w : World} {K : PySem.W.Frag} {mg : Str → Option Value} {base : Heap} {CS : Addr} {cs : List Str} {st : Stmt} {Ng : List Str} {j : Nat}
/-- a context of which only the surroundings are looked at -/
def dumCx (Pr : Program) (w : World) (K : PySem.W.Frag) (mg : Str → Option Value) (base : Heap) (A : Around) (outer : List Env) (s : Shared) (H : Hp) : Cx where
  prog := Pr
  w := w
  K := K
  mg := mg
  base := base
  A := A
  N := []
  s_0 := s
  H_0 := H
  env := lamEnvN 0 [] 0 0 0
  outer := outer
  stack := outer
  ex := []
  fn := fun _ => false
  calm := true
  pn := []
  xe := fun _ _ => False
/-- what the reading of the call asks -/
def heardTl (Pr : Program) (w : World) (K : PySem.W.Frag) (j : Nat) (s : Shared) (H : Hp) (F P : PA1) (t : Nat) (κ : D → WF) (d : D) (f : Addr) : XK → Hp → VK → Prop := fun E HZ Q => ∃ (Q1 : R → Nat → Prop) (E1 : KX),
  Kp ⟨K, w⟩ (fun _ => False) H HZ ∧ (∀ a, F a → ∃ u, HZ a = some u ∧ Mu a u) ∧ (∀ a, P a → PotAt HZ t a) ∧ (∀ a, F a → ¬ P a) ∧ Tb K HZ ∧ Rp ⟨K, w⟩ HZ P (fun a => F a ∨ P a) d (.ref f) ∧ κ d [] t Q1 E1 ∧ LkE ⟨K, w⟩ E (g0 F P HZ) E1 ∧ ∀ r t' v H' P', Q1 r t' → EndR ⟨K, w⟩ (g0 F P HZ) P' t' H' r v → Q v H'
theorem clK_heard (D0 : Df K mg "_law_heard" st ["call"]) (Sg : FnScope Ng ["call"] (defScope st)) (hNg : Ng[0]? = some ("call" : Str)) (hva : Vis (defScope st) "call")
    (hG : ∀ (X : Cx), X.mg = mg → X.K = K → ∀ (g : Addr) (cdg : Value) (q : Str), HearsK X Ng "_law_heard" (defScope st) g cdg (defBody st) "call" q (TTheard X.K CS)) (hE : ∀ c ∈ cs, ∀ C, ClsAt K c C → PySem.W.exmOne K (.ref C) (.ref CS) = some true) : ClK Pr w K mg base j (j + 1) "_law_heard" 1 (heardC cs) := by
  obtain ⟨g, fd, Fn, hm, hb⟩ := D0.ex
  obtain ⟨oc, od, kV, doc, pm, an, cdv, ct, osl, rfl, lk, hcd⟩ := Fn.ex
  refine ⟨g, _, ["call"], rfl, ⟨fun A outer s H args us vs Q E hr hgd e0 hbt rv sp => ?_⟩, hm, Fn.kp, hb⟩
  obtain ⟨hl, κ, F, P, t, ds, Q', E', kk, fl, pt, fp, ra, tb, hw, lkE, hq⟩ := sp
  obtain ⟨⟨n, cl, rfl⟩, d, ed, hw⟩ := hw
  cases ed
  obtain ⟨v, rfl, rd⟩ := ra_one ra
  have rd' := rd
  rw [Rp] at rd'
  obtain ⟨f, c', rfl, nf, hf, hc⟩ := rd'
  have S0 : Sat ⟨K, w⟩ (g0 F P H) P (slots0 1 [.clo n cl]) t (L2.start ["call"] [.ref f]) H := start_sat (N := ["call"]) fl pt fp ra tb
  have ow0 : ∀ a, ¬ Own (slots0 1 [.clo n cl]) (L2.start ["call"] [.ref f]) a := fun a ⟨i, o, e, _⟩ => by
    match i, e with
    | 0, e => cases e
    | i + 1, e => simp [slots0] at e
  refine LamX.run_ofS (N := Ng) (ps := ["call"]) (us := us) (vs := [.ref f]) (CX := CXE Pr w) lk hcd Sg hr e0 hbt rv rfl fun hr' => ?_
  refine Exists.imp (fun tt h => ⟨PSs.nox (X := cxOf (CXE Pr w) Pr w K mg base Ng "_law_heard" (defScope st) g cdv A outer s H E) h.1, h.2⟩) (hG (dumCx Pr w K mg base A outer s H) rfl rfl g cdv (lamX n).q f c' s H Q (heardTl Pr w K j s H F P t κ (.clo n cl) f) (fun W pn xe p1 p2 tk => ?_) hc (fun T nT => ?_))
  · constructor
    rintro pz sz σZ HZ Q0 IZ ⟨at_, co, E2, Q2, hQ, hW, Q1, E1, kp, fl2, pt2, fp2, tb2, rp2, k2, lk2, hq2⟩
    refine wpAny_mono (Q := EP ((hCx (dumCx Pr w K mg base A outer s H) Ng "_law_heard" (defScope st) g cdv s H).tr pn xe) pz σZ Q2) ?_ (fun u s1 ⟨v, H1, I1, r1, q⟩ => ⟨v, H1, I1, r1, hQ _ _ q⟩) fun _ _ z => z
    refine wpAny_Call_Name_kw (thn ((pe_var (pos := p1) (i := 0) hNg hva (by decide) (by decide)).run pz sz σZ HZ (fun v H1 => v = .ref f ∧ H1 = HZ) IZ ⟨.ref f, at_, rfl, rfl⟩) fun u s1 got => ?_)
    obtain ⟨v, H1, I1, r1, ev, eH⟩ := got
    subst ev eH
    cases (show u = Value.ref f from r1)
    have la : Lat s H s1 H1 := lat_inv I1 rfl
    have e1 : Env0 Pr w K mg base (A.deeper (envOfC "_law_heard" (defScope st) s.heap.objs.size g cdv)) (envOfC "_law_heard" (defScope st) s.heap.objs.size g cdv :: outer) s1 H1 := I1.env0
    have sub : ∀ a o, H a = some o → P a → isT o = true ∨ P a := fun _ _ _ z => .inr z
    have kpP : Kp ⟨K, w⟩ P H H1 := kp.mono fun _ z => z.elim
    have go := kk.go _ _ s1 H1 F P t (.clo n cl) f [] [] [] Q2 E2 Q1 E1 hr' hgd e1 la kpP (fun _ z => z) (fun _ z => .inl z) (fun _ z => .inl z) fl2 pt2 fp2 tb2 rp2 .nil .nil k2 lk2 hq2
    refine PySem.W.callWith_F0 go.1 (wpAny_call (codeAny_mono go.2 fun r s2 got => ?_))
    cases r with
    | error e => exact tk e s2 (XE.of_call I1 hW got)
    | ok fl =>
      cases fl with
      | ret u => exact I1.after got
      | next => exact got.elim
      | brk => exact got.elim
      | cont => exact got.elim
  · have k1 : Kp (⟨K, w⟩ : KF) (fun _ => False) H (upd H T (.tup [V.non, V.non])) := kp_upd nT
    have S2 := S0.grow k1
    generalize upd H T (.tup [V.non, V.non]) = H2 at S2 k1
    have okF : ∀ a, F a → ∃ u, H2 a = some u ∧ Mu a u := fun a z => by
      obtain ⟨u, e, m⟩ := fl a z
      exact ⟨u, k1.seq e id m.noT, m⟩
    have toF : ∀ {P' t' H' r v}, EndR ⟨K, w⟩ (g0 F P H2) P' t' H' r v → EndR ⟨K, w⟩ (g0 (fun a => (g0 F P H).F a ∨ Own (slots0 1 [.clo n cl]) (L2.start ["call"] [.ref f]) a) P H2) P' t' H' r v := fun {P' t' H' r v} h => by
      have e : (fun a => (g0 F P H).F a ∨ Own (slots0 1 [.clo n cl]) (L2.start ["call"] [.ref f]) a) = F := by
        funext a
        exact propext ⟨fun z => z.resolve_right (ow0 a), .inl⟩
      rw [e]
      exact h
    refine ⟨fun r t1 => Q' (.im (.tup [.non, r.d])) t1, fun c v t1 => c ∈ cs ∧ Q' (.im (.tup [.exc c v, .non])) t1, k1, okF, S2.pt, fp, S2.tb, rd.mo (.grow k1), hw, ?_, fun r t' v H' P' q er p np => ?_⟩
    · rintro c v t2 P' H' C x y ⟨hc, q⟩ at_ ok hx rp
      have er : EndR ⟨K, w⟩ (g0 F P H2) P' t2 H' (.im v) y := ⟨ok, rp⟩
      obtain ⟨S3, r3⟩ := S2.call (toF er)
      refine ⟨hE c hc C at_, C, x, rfl, rfl, fun a na p np => ?_⟩
      have k4 : Kp (⟨K, w⟩ : KF) (fun _ => False) H' (upd H' a (ExV C x a)) := kp_upd na
      have r4 : Rp ⟨K, w⟩ (upd H' a (ExV C x a)) P' (Mx (g0 F P H).F P' (slots0 1 [.clo n cl]) (L2.start ["call"] [.ref f])) (.exc c v) (.ref a) := by
        rw [Rp]
        refine ⟨a, C, x, y, rfl, fun z => ?_, at_, upd_same, by rw [upd_ne (ne_of_none hx na)]; exact hx, r3.mo (.grow k4)⟩
        obtain ⟨u, e, _⟩ := S3.mlist a z
        rw [na] at e
        cases e
      have k5 : Kp (⟨K, w⟩ : KF) (fun _ => False) (upd H' a (ExV C x a)) (upd (upd H' a (ExV C x a)) p (.tup [.ref a, .non])) := kp_upd np
      refine hq _ _ _ _ P' q (RS.endR (ρ := slots0 1 [.clo n cl]) (σ := L2.start ["call"] [.ref f]) ⟨(S3.grow k4).grow k5, ?_⟩)
      rw [Rp]
      exact ⟨p, _, rfl, .inl (.inl upd_same), .cons (r4.mo (.grow k5)) (.cons (by rw [Rp]) .nil)⟩
    · obtain ⟨S3, r3⟩ := (S2.call (toF er)).im
      have k5 : Kp (⟨K, w⟩ : KF) (fun _ => False) H' (upd H' p (.tup [.non, v])) := kp_upd np
      refine hq _ _ _ _ P' q (RS.endR (ρ := slots0 1 [.clo n cl]) (σ := L2.start ["call"] [.ref f]) ⟨S3.grow k5, ?_⟩)
      rw [Rp]
      exact ⟨p, _, rfl, .inl (.inl upd_same), .cons (by rw [Rp]) (.cons (r3.mo (.grow k5)) .nil)⟩
end
theorem lv_lamP {X : Cx} {A : Around} {outer : List Env} {s : Shared} {H : Hp} {E : XK} {n : Nat} {f c : Addr} {ps : List Str} : Lv (lamCxP X A outer s H E n f c ps) (XX.of E) := ⟨takes_of rfl rfl rfl rfl, passes_of rfl⟩
/-! ### the lambdas of a def, listed -/
@[simp] def lamTab (l : List (Nat × Nat × W)) (n : Nat) : Option (Nat × W) := l.lookup n
theorem lamTab_mem {n : Nat} {q : Nat × W} : ∀ {l : List (Nat × Nat × W)}, lamTab l n = some q → (n, q) ∈ l
  | [], e => by cases e
  | a :: l, e => by
    unfold lamTab at e
    rw [List.lookup_cons] at e
    split at e
    · rename_i h
      cases e
      have : n = a.1 := by simpa using h
      subst this
      exact List.mem_cons_self
    · exact List.mem_cons_of_mem _ (lamTab_mem (l := l) e)
theorem lamDo_tab {X : Cx} {j : Nat} {l : List (Nat × Nat × W)} (h : ∀ e ∈ l, LamDo X j e.1 e.2.1 e.2.2) (n p : Nat) (w : W) (e : lamTab l n = some (p, w)) : LamDo X j n p w := h (n, p, w) (lamTab_mem e)
end NB
set_option Elab.async false
set_option linter.all false
set_option maxRecDepth 100000
set_option maxHeartbeats 4000000
set_option autoImplicit false
/-! enumerate of a tuple; len of a dict. -/
namespace NB
open PySem PySem.Spec PyProof.Rows L2
open PySem.Sem (wp)

theorem enumNew {v : Value} {o : Obj} {H : Heap → Prop} (B : Begins v o H) :
    Meets (Builtin.«enumerate.__new__» ⟨[.type "enumerate", v], []⟩) (fun _ R s => H s.heap ∧ R (.ok (.ret (.ref (s.heap.push o).objs.size))) { s with heap := (s.heap.push o).push { cls := .type "enumerate", data := .fields #[.none, .bool false, .ref s.heap.objs.size, rawInt 0, .none, .none] } }) :=
  .of_wp fun prog w A R s h => by
    obtain ⟨hp, g, d, tk, os⟩ := s; obtain ⟨h1, h⟩ := h; have hsub := sub_enumerate
    have q1 : ∀ {A' : Around} {E : Value → Shared → Prop} {Q : Value → Shared → Prop}, Q (.ref hp.objs.size) ⟨hp.push o, g, d, tk, os⟩ → wpAny (model prog w) A' (pyIter v) Q E ⟨hp, g, d, tk, os⟩ := fun q => B.iter prog w _ _ ⟨hp, g, d, tk, os⟩ _ h1 q
    wp_walk using q1
    refine wpAny_stack_any fun st => wpAny_pure ?_; split
    · rename_i c _ _ _ _ _
      cases (c == Value.type "enumerate") <;> (wp_walk using q1) <;> exact ⟨_, rfl, h⟩
    · (wp_walk using q1); exact ⟨_, rfl, h⟩
section
variable {prog : Program} {w : World} {A : Around} {E : Value → Shared → Prop} {s : Shared}
theorem call_enumB {v : Value} {o : Obj} {H : Heap → Prop} {Q : Value → Shared → Prop} (B : Begins v o H) (h1 : H s.heap)
    (h : ∀ h', IsEnum h' (s.heap.objs.size + 1) s.heap.objs.size 0 .none → h'.get? s.heap.objs.size = some o → h'.objs.size = s.heap.objs.size + 2 → (∀ b o, s.heap.get? b = some o → h'.get? b = some o) → Q (.ref (s.heap.objs.size + 1)) { s with heap := h' }) :
    wpAny (model prog w) A (call (.type "enumerate") [v]) Q E s := by
  refine callType_new F.called_enumerate (by decide) (F.typeCall_enumerate_1 _) (F.newCall_enumerate_1 _) (fun obj => F.args_object_init_2 obj _) F.entry_enumerate_new (enumNew B) ⟨h1, ?_⟩
  have hz : (s.heap.push o).objs.size = s.heap.objs.size + 1 := Heap.size_push ..
  show _ ∧ _; rw [hz]
  have he : IsEnum ((s.heap.push o).push { cls := .type "enumerate", data := .fields #[.none, .bool false, .ref s.heap.objs.size, rawInt 0, .none, .none] }) (s.heap.objs.size + 1) s.heap.objs.size 0 .none := by
    have := Heap.get?_push_size (s.heap.push o) (o := { cls := .type "enumerate", data := .fields #[.none, .bool false, .ref s.heap.objs.size, rawInt 0, .none, .none] }) rfl
    rw [hz] at this; exact this
  exact ⟨⟨_, he, rfl⟩, h _ he (Heap.get?_push_of_some _ (Heap.get?_push_size _ B.free)) (by rw [Heap.size_push, hz]) fun b o x => Heap.get?_push_of_some _ (Heap.get?_push_of_some _ x)⟩
end
/-- the tuple at a, each item in a new pair -/
def IteT (K : PySem.W.Frag) (a : Addr) : It :=
  ⟨fun i H => ∃ (xs : List V) (x : V), SqT K H a xs ∧ xs[i]? = some x, fun i H v H' => ∃ T x, v = .ref T ∧ H T = none ∧ H' = upd H T (.tup [.int (i : Nat), x]) ∧ ∀ xs, SqT K H a xs → xs[i]? = some x, fun i H => ∃ xs : List V, SqT K H a xs ∧ xs.length ≤ i⟩
theorem turn_enumT {P : Program} {w : World} {K : PySem.W.Frag} {elts : List Expr} {kk : Nat} {tpos : Pos} (a e it : Addr) (hai : a ≠ it) (hae : a ≠ e) :
    Turn P w K (.Tuple elts kk tpos) (IteT K a) [e, it] e (fun i h => (∃ old, IsEnum h e it ((i : Nat) : Int) old) ∧ h.IsTupleIter it a i ∧ e ≠ it) where
  mem := by simp
  obj := fun i h st b hb => by
    obtain ⟨⟨old, he⟩, ⟨o, ho, hc, hd⟩, _⟩ := st
    have e' : b = e ∨ b = it := by simpa using hb
    rcases e' with z | z
    · rw [z]; exact ⟨_, he, fun v q => nomatch q⟩
    · rw [z]; exact ⟨o, ho, fun v q => by rw [hd] at q; cases q⟩
  keep := fun i h h' st k => let ⟨⟨old, he⟩, hi, hne⟩ := st; ⟨⟨old, k e (by simp) _ he⟩, hi.at fun o q => k it (by simp) o q, hne⟩
  item := by
    intro X hP hw hK hc i pins s σ H E I hf st hg
    subst hP hw hK
    obtain ⟨⟨old, he⟩, hit, hne⟩ := st
    obtain ⟨xs, x, hq, hx⟩ := hg
    obtain ⟨its, rv, p, _⟩ := I.tuple hq
    obtain ⟨u, hu, ru⟩ := rv.get hx
    have hel : e < s.heap.objs.size := Heap.lt_size he
    have hil : it < s.heap.objs.size := by obtain ⟨_, q, _⟩ := hit; exact Heap.lt_size q
    have hli : i < its.toArray.size := by
      have := (List.getElem?_eq_some_iff.mp hu).1
      simpa using this
    refine wpAny_pyNext_enum_itemD (Draws.tuple (A := X.A.in1) (show X.A.in1.handled = none from I.ok.hd hc) it a hai its.toArray) he ⟨hit, p⟩ hli hne (by simp only [List.mem_cons, List.not_mem_nil, or_false, not_or]; exact ⟨hne, fun q => hae q.symm⟩) fun x' h' tk hx' ho st' hT hsz hk => ?_
    obtain rfl : x' = u := by
      have : its[i]? = some x' := by simpa using hx'
      rw [hu] at this; cases this; rfl
    refine ⟨_, rfl, wpAny_letOwnedTupleGo_enum (s := { s with heap := h', toks := tk + 1 }) ho fun h'' he' sb => ?_⟩
    have hT2 : h''.get? s.heap.objs.size = some { cls := .type "tuple", data := .seq #[.int i tk, x'] } := (sb.2 _ (Nat.ne_of_gt hel)).trans hT
    have new : ObjOk X.prog X.w (upd H s.heap.objs.size (.tup [.int (i : Nat), x])) h'' s.heap.objs.size (.tup [.int (i : Nat), x]) :=
      ⟨by show 2 ≤ sizeLine; decide, [.int i tk, x'], .cons ⟨_, rfl⟩ (.cons ru .nil), ⟨_, hT2, rfl, _, rfl⟩⟩
    have I1 : Inv X pins σ (upd H s.heap.objs.size (.tup [.int (i : Nat), x])) { s with heap := h'', toks := tk + 1 } :=
      I.turnedNew (ch := [e, it]) (fun b ob hb q => (sb.2 b (fun z => hb (by simp [z]))).trans (hk b ob (fun z => hb (by simp [z])) (fun z => hb (by simp [z])) q)) hf (Nat.le_refl _) new
    refine ⟨.ref s.heap.objs.size, _, I1, rfl, ⟨_, x, rfl, I.hok.fresh (Nat.le_refl _), rfl, fun ys hy => by rw [I.tuple_inj hy hq]; exact hx⟩, ⟨⟨x', ?_⟩, st'.1.at fun o q => (sb.2 it (Ne.symm hne)).trans q, hne⟩, fun b hb => ?_⟩
    · have e1 : ((i + 1 : Nat) : Int) = (i : Int) + 1 := by omega
      rw [e1]; exact he'
    · have hb' : b < s.heap.objs.size := by
        have e' : b = e ∨ b = it := by simpa using hb
        rcases e' with z | z <;> rw [z] <;> assumption
      rw [upd_ne (Nat.ne_of_lt hb')]
      exact (hf b hb).1
  done := by
    intro X hP hw hK hc i pins s σ H E I hf st hg
    subst hP hw hK
    obtain ⟨⟨old, he⟩, hit, hne⟩ := st
    obtain ⟨xs, hq, hx⟩ := hg
    obtain ⟨its, rv, p, hz⟩ := I.tuple hq
    obtain ⟨f0, f1, f2, f3, f4, f5⟩ := hf it (by simp)
    have hT : s.TypeIs (.ref e) "enumerate" := ⟨_, he, rfl⟩
    have hl := rv.length
    unfold pyNext
    refine wpAny_bind (wpAny_attempt (wpAny_callSpecial?_slot (name := Str.ofString "__next__") hT F.slot_enumerate_next (wpAny_call_entry F.slot_enumerate_next hT F.entry_enumerate_next ?_ (F.args_enumerate_next_1 _))))
    show wpAny _ _ (field (.ref e) 2 >>= _) _ _ _; refine wpAny_bind (wpAny_field he rfl (x := .ref it) rfl ?_)
    refine wpAny_bind (RZ.nextOf_tuple_end (I.ok.hd hc) hit p (by simp; omega) fun h' x he' ⟨o, ho, hc⟩ => wpAny_bind (wpAny_isInstance (T := "StopIteration") (b := true) ⟨o, ho, hc⟩ isSubtype_stop (wpAny_pure ⟨rfl, I.turned (t' := s.toks) (fun b o hb q => he' b o hb q) f0 f1 f3 f4 f5⟩)))
  self := fun A i s Q E st h => let ⟨⟨_, he⟩, _⟩ := st; wpAny_pyIter_enum he h
def iEnumA (K : PySem.W.Frag) (ta : TA) : TI := fun σ H R => ta σ H fun vs H1 => ∃ a xs, vs = [.ref a] ∧ ((SqL K H1 a xs ∧ R (Ite K a) H1) ∨ (SqT K H1 a xs ∧ R (IteT K a) H1))
theorem pi_enumA {X : Cx} {e : Expr} {ta : TA} {p pos tpos : Pos} {elts : List Expr} {kk : Nat} (hg : Gl X "enumerate") (hm : X.mg "enumerate" = none) (ha : PA X [e] ta) (hs : starEach [e] X.env = [(false, eval e X.env)] := by rfl) :
    PI X (.Tuple elts kk tpos) (.Call (.Name "enumerate" p) [e] [] pos) (iEnumA X.K ta) := by
  refine ⟨fun pins s σ H R I h => ?_⟩
  refine Call_ (ld_blt I hg hm boot_enumerate (PyProof.Rows.callWith_type1 (thn (ha.run pos pins s σ H _ I h) fun us s1 ⟨vs, H1, I1, r1, q1⟩ => ?_) hs rfl))
  obtain ⟨a, xs, ex, q1⟩ := q1
  subst ex
  cases r1 with
  | cons r rr =>
    cases rr
    cases r
    have fr : ∀ b, b ∈ [s1.heap.objs.size + 1, s1.heap.objs.size] → FpOk X pins H1 b := fun b hb => by
      have e' : b = s1.heap.objs.size + 1 ∨ b = s1.heap.objs.size := by simpa using hb
      have hle : s1.heap.objs.size ≤ b := by
        rcases e' with z | z
        · rw [z]; exact Nat.le_add_right _ _
        · rw [z]; exact Nat.le_refl _
      exact I1.fpOk hle (I1.hok.fresh hle)
    rcases q1 with ⟨hq, q⟩ | ⟨hq, q⟩
    · obtain ⟨its, rv, p', hz⟩ := I1.list hq
      refine call_enumerate_list p'.isList fun h' he hit hsz hk => wpAny_pyIter_enum he ?_
      have I2 : Inv X pins σ H1 { s1 with heap := h' } := I1.kept (t' := s1.toks) hk
      exact ⟨s1.heap.objs.size + 1, [s1.heap.objs.size + 1, s1.heap.objs.size], _, _, H1, rfl, I2, turn_enum a (s1.heap.objs.size + 1) s1.heap.objs.size, ⟨⟨.none, he⟩, hit, Nat.succ_ne_self _⟩, fr, q⟩
    · obtain ⟨its, rv, p', hz⟩ := I1.tuple hq
      obtain ⟨o1, ho1, _⟩ := id p'
      have hla : a < s1.heap.objs.size := Heap.lt_size ho1
      refine call_enumB (begins_tuple a its.toArray) p' fun h' he hit hsz hk => wpAny_pyIter_enum he ?_
      have I2 : Inv X pins σ H1 { s1 with heap := h' } := I1.kept (t' := s1.toks) hk
      exact ⟨s1.heap.objs.size + 1, [s1.heap.objs.size + 1, s1.heap.objs.size], _, _, H1, rfl, I2, turn_enumT a (s1.heap.objs.size + 1) s1.heap.objs.size (Nat.ne_of_lt hla) (Nat.ne_of_lt (Nat.lt_succ_of_lt hla)), ⟨⟨.none, he⟩, ⟨_, hit, rfl, rfl⟩, Nat.succ_ne_self _⟩, fr, q⟩
theorem itok_enumT {K : KF} {ds : List D} {a : Addr} : ItOk K [(.tup ds, .ref a)] (enumD ds) (IteT K.fr a) := fun G P ρ t σ H S hh => by
  have h := S.hd _ (hh _ List.mem_cons_self)
  rw [Rp] at h
  obtain ⟨a', xs, e1, hl, ra⟩ := h
  cases e1
  have l1 := ra.length
  have hn : (enumD ds).length = ds.length := by simp [enumD]
  refine ⟨fun i hi => ⟨xs, xs[i]'(by omega), hl, List.getElem?_eq_getElem (by omega)⟩, ⟨xs, hl, by omega⟩, fun i v H' hi y => ?_⟩
  obtain ⟨T, x, rfl, hT, rfl, f1⟩ := y
  obtain ⟨d, h1, h2⟩ := ra.get' (f1 xs hl)
  refine ⟨kp_upd hT, .tup [.int (i : Nat), d], ?_, pair_new hT (by rw [Rp]) h2⟩
  unfold enumD
  rw [List.getElem?_map, List.getElem?_zipIdx, h1]
  simp
@[simp] def enumAI (a : Wg (List D)) : Wg (List D) := fun ρ t Q E => a ρ t (fun xs ρ1 t1 => ∃ ds, (xs = [.lst ds] ∨ xs = [.tup ds]) ∧ Q (enumD ds) ρ1 t1) E
section
variable {X : Cx} {EX : XX} {e : Expr} {pos p : Pos}
theorem di_enumA {w : Wg (List D)} {elts : List Expr} {kk : Nat} {tpos : Pos} (hg : Gl X "enumerate") (hm : X.mg "enumerate" = none) (ha : DA X EX [e] w) (hs : starEach [e] X.env = [(false, eval e X.env)]) :
    DI X EX (.Tuple elts kk tpos) (.Call (.Name "enumerate" p) [e] [] pos) (enumAI w) := PI.imp (pi_enumA hg hm ha hs) fun σ H R h => by
  obtain ⟨G, P, ρ, t, Q', E, S, hw, lk, hq⟩ := h
  refine ⟨G, P, ρ, t, _, E, S, hw, lk, fun xs ρ1 t1 vs H1 P1 z rs => ?_⟩
  obtain ⟨ds, hc, q⟩ := z
  obtain ⟨S1, ra⟩ := rs
  rcases hc with rfl | rfl
  · obtain ⟨v, rfl, h1⟩ := ra_one ra
    have h1' := h1
    rw [Rp] at h1
    obtain ⟨a, ys, rfl, _, hl, _⟩ := h1
    exact ⟨a, ys, rfl, .inl ⟨.of hl, hq _ _ _ _ _ P1 q ⟨_, S1.holds (fun p hp => by rw [List.mem_singleton.mp hp]; exact h1'), itok_enum⟩⟩⟩
  · obtain ⟨v, rfl, h1⟩ := ra_one ra
    have h1' := h1
    rw [Rp] at h1
    obtain ⟨a, ys, rfl, hl, _⟩ := h1
    exact ⟨a, ys, rfl, .inr ⟨hl, hq _ _ _ _ _ P1 q ⟨_, S1.holds (fun p hp => by rw [List.mem_singleton.mp hp]; exact h1'), itok_enumT⟩⟩⟩
end
/-! ### len(d) -/
@[simp] def dlenD : D → Option R
  | .dct ks _ => if flatK ks = true then some (.im (.int (ks.length : Nat))) else none
  | _ => none
theorem oc_dlen {X : Cx} : OpC X (.builtin "len") (g1 dlenD) := opC1 fun pins s σ H v us Q P M d I r rd f => by
  cases d with
  | dct ks vs =>
    have f : Fit (kX X) H P M (if flatK ks = true then some (.im (.int (ks.length : Nat))) else none) Q := f
    by_cases hf : flatK ks = true
    · rw [if_pos hf] at f
      obtain ⟨c, u, xs, ys, rfl, hu, hd, r1, r2⟩ := rd
      obtain ⟨zs, l1, nd, rfl, rfl, rfl⟩ := hd.flat hf
      refine call_lenD pins s σ H _ us Q I r ⟨c, _, rfl, hu, ?_⟩
      have e : (zs.zip ys).length = (zs.map keyD).length := by simp [l1]
      rw [e]
      exact f.im rp_int
    · rw [if_neg hf] at f
      exact f.no.elim
  | _ => exact f.no.elim
/-! ### is not True, is not False -/
@[simp] def notBlD : D → D → Option R
  | .bl a, .bl b => some (.im (.bl (!decide (a = b))))
  | _, _ => none
theorem op_notBl {X : Cx} : Op2 X (compareOp .IsNot) notBlD := by
  intro pins s σ H x y v u Q I rx ry ⟨P, M, d, e, h1, h2, _, f⟩
  unfold notBlD at f
  split at f
  · rename_i a b
    have e1 := h1.bl
    have e2 := h2.bl
    subst e1 e2
    cases (show v = Value.bool a from rx)
    cases (show u = Value.bool b from ry)
    refine wpAny_isNot_plain rfl (fin_bl (k := !decide (a = b)) I (f.im rp_bl') ?_)
    cases a <;> cases b <;> rfl
  · exact f.no.elim
/-! ### min, max of a list of ints -/
def leastI : List Int → Option Int
  | [] => none
  | [a] => some a
  | a :: l => (leastI l).map fun m => if m < a then m else a
def mostI : List Int → Option Int
  | [] => none
  | [a] => some a
  | a :: l => (mostI l).map fun m => if a < m then m else a
theorem leastI_ok : ∀ {l : List Int} {m : Int}, leastI l = some m → m ∈ l ∧ ∀ y ∈ l, m ≤ y
  | [], m, h => by cases h
  | [a], m, h => by cases h; simp
  | a :: b :: l, m, h => by
    rw [leastI] at h
    · obtain ⟨k, hk, rfl⟩ := Option.map_eq_some_iff.mp h
      obtain ⟨h1, h2⟩ := leastI_ok hk
      by_cases g : k < a
      · rw [if_pos g]
        exact ⟨List.mem_cons_of_mem _ h1, fun y hy => (List.mem_cons.mp hy).elim (fun z => by omega) (h2 y)⟩
      · rw [if_neg g]
        exact ⟨List.mem_cons_self, fun y hy => (List.mem_cons.mp hy).elim (fun z => by omega) fun z => by have := h2 y z; omega⟩
    · intro z; cases z
theorem mostI_ok : ∀ {l : List Int} {m : Int}, mostI l = some m → m ∈ l ∧ ∀ y ∈ l, y ≤ m
  | [], m, h => by cases h
  | [a], m, h => by cases h; simp
  | a :: b :: l, m, h => by
    rw [mostI] at h
    · obtain ⟨k, hk, rfl⟩ := Option.map_eq_some_iff.mp h
      obtain ⟨h1, h2⟩ := mostI_ok hk
      by_cases g : a < k
      · rw [if_pos g]
        exact ⟨List.mem_cons_of_mem _ h1, fun y hy => (List.mem_cons.mp hy).elim (fun z => by omega) (h2 y)⟩
      · rw [if_neg g]
        exact ⟨List.mem_cons_self, fun y hy => (List.mem_cons.mp hy).elim (fun z => by omega) fun z => by have := h2 y z; omega⟩
    · intro z; cases z
theorem leastI_uniq {l : List Int} {m k : Int} (h : leastI l = some m) (h1 : k ∈ l) (h2 : ∀ y ∈ l, k ≤ y) : k = m := by
  obtain ⟨a, b⟩ := leastI_ok h
  have := b k h1
  have := h2 m a
  omega
theorem mostI_uniq {l : List Int} {m k : Int} (h : mostI l = some m) (h1 : k ∈ l) (h2 : ∀ y ∈ l, y ≤ k) : k = m := by
  obtain ⟨a, b⟩ := mostI_ok h
  have := b k h1
  have := h2 m a
  omega
@[simp] def minLD (d : D) : Option R := (d.ls).bind fun ds => (intsD ds).bind fun ns => (leastI ns).map fun m => .im (.int m)
@[simp] def maxLD (d : D) : Option R := (d.ls).bind fun ds => (intsD ds).bind fun ns => (mostI ns).map fun m => .im (.int m)
theorem oc_minL {X : Cx} (hc : X.calm = true) : OpC X (.builtin "min") (g1 minLD) := opC1 fun pins s σ H v us Q P M d I r rd f => by
  unfold minLD at f
  cases hl : d.ls with
  | none => rw [hl] at f; exact f.no.elim
  | some ds =>
    rw [hl] at f
    obtain ⟨a, xs, rfl, ta, ra⟩ := rd.ls hl
    cases hb : intsD ds with
    | none => rw [Option.bind_some, hb] at f; exact f.no.elim
    | some bs =>
      rw [Option.bind_some, hb, Option.bind_some] at f
      rw [intsD_some hb] at ra
      rw [ra_ints_inv ra] at ta
      cases hm : leastI bs with
      | none => rw [hm] at f; exact f.no.elim
      | some m =>
        rw [hm] at f
        have ne : 0 < bs.length := List.length_pos_of_mem (leastI_ok hm).1
        exact cr_min hc pins s σ H _ us Q I r ⟨a, bs, rfl, ta, ne, fun k h1 h2 => by rw [leastI_uniq hm h1 h2]; exact f.im rp_int⟩
theorem oc_maxL {X : Cx} (hc : X.calm = true) : OpC X (.builtin "max") (g1 maxLD) := opC1 fun pins s σ H v us Q P M d I r rd f => by
  unfold maxLD at f
  cases hl : d.ls with
  | none => rw [hl] at f; exact f.no.elim
  | some ds =>
    rw [hl] at f
    obtain ⟨a, xs, rfl, ta, ra⟩ := rd.ls hl
    cases hb : intsD ds with
    | none => rw [Option.bind_some, hb] at f; exact f.no.elim
    | some bs =>
      rw [Option.bind_some, hb, Option.bind_some] at f
      rw [intsD_some hb] at ra
      rw [ra_ints_inv ra] at ta
      cases hm : mostI bs with
      | none => rw [hm] at f; exact f.no.elim
      | some m =>
        rw [hm] at f
        have ne : 0 < bs.length := List.length_pos_of_mem (mostI_ok hm).1
        exact cr_max hc pins s σ H _ us Q I r ⟨a, bs, rfl, ta, ne, fun k h1 h2 => by rw [mostI_uniq hm h1 h2]; exact f.im rp_int⟩
/-! ### two names at once, of which lambdas or comprehensions take one -/
section
variable {X : Cx} {EX : XX} {a b : Expr} {wa wb : W} {i j : Nat} {x y : Str} {px py pt pos : Pos} {kt k2 : Nat} {pt2 : Pos}
theorem ds_parC (hc : X.calm = true) (hN : X.N.Nodup) (hi : X.N[i]? = some x) (hj : X.N[j]? = some y) (hij : i ≠ j) (hx : Loc X.env.scope x) (hy : Loc X.env.scope y) (fx : X.fn x = true ∨ X.env.scope.names.lookup x = some .local) (fy : X.fn y = true ∨ X.env.scope.names.lookup y = some .local)
    (ha : DE X EX a wa) (hb : DE X EX b wb) (hs1 : starEach [a, b] X.env = (false, eval a X.env) :: starEach [b] X.env) (hs2 : starEach [b] X.env = (false, eval b X.env) :: starEach [] X.env)
    (hw : swappedStores [.Tuple [.Name x px, .Name y py] kt pt] (.Tuple [a, b] k2 pt2) X.env = pure none)
    (hs : swapsWithSole [.Tuple [.Name x px, .Name y py] kt pt] (.Tuple [a, b] k2 pt2) pos.line X.env = pure false := by rfl)
    (h1 : (assignEach [.Tuple [.Name x px, .Name y py] kt pt] X.env).map (·.2) = [assign (.Tuple [.Name x px, .Name y py] kt pt) X.env] := by rfl)
    (h2 : (assignEach [.Name x px, .Name y py] X.env).map (·.2) = assign (.Name x px) X.env :: (assignEach [.Name y py] X.env).map (·.2) := by rfl) (h3 : (assignEach [.Name y py] X.env).map (·.2) = assign (.Name y py) X.env :: (assignEach [] X.env).map (·.2) := by rfl)
    (h4 : (assignEach [.Name x px, .Name y py] X.env).length = 2 := by rfl) (h5 : (assignEach [.Name x px, .Name y py] X.env).findIdx? (·.1) = none := by rfl) :
    DS X EX (.Assign [.Tuple [.Name x px, .Name y py] kt pt] (.Tuple [a, b] k2 pt2) pos) (parS i j wa wb) :=
  PS.imp (ps_asg (pe_tup (pa_cons ha (pa_cons hb pa_nil hs2) hs1)) (pg_tup hc (pgs_cons (pg_name hN hi hx fx) (pgs_cons (pg_name hN hj hy fy) pgs_nil h3) h2) h4 h5) hs hw h1) fun D σ H h => by
  obtain ⟨G, P, ρ, t, k, S, hw, lk, hn, hb, hc, hr⟩ := h
  refine ⟨G, P, ρ, t, _, k.ex, S, hw, lk, fun r ρ1 t1 v H1 P1 h1 r1 => ?_⟩
  obtain ⟨G1, S1, back, lk1⟩ := r1.keep
  refine ⟨G1, P1, ρ1, t1, _, k.ex, S1, h1, lk1 _ _ lk, fun q ρ2 t2 u H2 P2 h2 r2 => ?_⟩
  refine ⟨by show 2 ≤ sizeLine; decide, fun T nT => ⟨T, [v, u], rfl, .of upd_same, rfl, v, [u], rfl, u, [], rfl, rfl, ?_⟩⟩
  have fin := Sat.grow (RS.set (i := i) (back _ _ _ _ _ (RS.set (i := j) r2))) (kp_upd (o := .tup [v, u]) nT)
  have e : (List.set σ j (some u)).set i (some v) = (List.set σ i (some v)).set j (some u) := List.set_comm _ _ (Ne.symm hij)
  rw [e] at fin
  exact hn _ _ _ _ P2 h2 fin
end
end NB
set_option Elab.async false
set_option linter.all false
set_option maxRecDepth 100000
set_option maxHeartbeats 1000000
set_option autoImplicit false
/-! Plain lemmas: rising lists, equal data. -/
namespace NB
open PySem PySem.Spec PyProof.Rows L2
/-- two rising lists with the same members are one -/
theorem uniq_rise {α : Type} (f : α → Int) : ∀ {xs ys : List α}, xs.Pairwise (fun x y => f x < f y) → ys.Pairwise (fun x y => f x < f y) → (∀ e, e ∈ xs ↔ e ∈ ys) → xs = ys
  | [], [], _, _, _ => rfl
  | [], y :: ys, _, _, h => absurd ((h y).mpr List.mem_cons_self) (fun z => nomatch z)
  | x :: xs, [], _, _, h => absurd ((h x).mp List.mem_cons_self) (fun z => nomatch z)
  | x :: xs, y :: ys, p, q, h => by
    obtain ⟨p1, p2⟩ := List.pairwise_cons.mp p
    obtain ⟨q1, q2⟩ := List.pairwise_cons.mp q
    have e : x = y := by
      rcases List.mem_cons.mp ((h x).mp List.mem_cons_self) with e | e
      · exact e
      · rcases List.mem_cons.mp ((h y).mpr List.mem_cons_self) with e' | e'
        · exact e'.symm
        · exact absurd (Int.lt_trans (q1 x e) (p1 y e')) (Int.lt_irrefl _)
    subst e
    have nx : x ∉ xs := fun z => absurd (p1 x z) (Int.lt_irrefl _)
    have ny : x ∉ ys := fun z => absurd (q1 x z) (Int.lt_irrefl _)
    rw [uniq_rise f p2 q2 fun e => ?_]
    have he := h e
    rw [List.mem_cons, List.mem_cons] at he
    constructor
    · intro z
      rcases he.mp (.inr z) with e1 | e1
      · subst e1; exact absurd z nx
      · exact e1
    · intro z
      rcases he.mpr (.inr z) with e1 | e1
      · subst e1; exact absurd z ny
      · exact e1
theorem rise_len {α : Type} (f : α → Int) (m : Int) : ∀ {xs : List α} (lo : Int), xs.Pairwise (fun x y => f x < f y) → (∀ x ∈ xs, lo ≤ f x ∧ f x < m) → lo ≤ m → (xs.length : Int) ≤ m - lo
  | [], lo, _, _, h => by
    show (0 : Int) ≤ m - lo
    omega
  | x :: xs, lo, p, h, hm => by
    obtain ⟨p1, p2⟩ := List.pairwise_cons.mp p
    obtain ⟨a, b⟩ := h x List.mem_cons_self
    have := rise_len f m (f x + 1) p2 (fun y hy => ⟨p1 y hy, (h y (List.mem_cons_of_mem _ hy)).2⟩) b
    rw [List.length_cons]
    omega
/-- pairs of eights -/
def cd (p : Int × Int) : Int := p.1 * 8 + p.2
def In8 (p : Int × Int) : Prop := (0 ≤ p.1 ∧ p.1 < 8) ∧ (0 ≤ p.2 ∧ p.2 < 8)
theorem cd_inj {p q : Int × Int} (hp : In8 p) (hq : In8 q) (h : cd p = cd q) : p = q := by
  obtain ⟨a, b⟩ := p
  obtain ⟨c, d⟩ := q
  unfold cd In8 at *
  simp only at *
  have : a = c ∧ b = d := by omega
  rw [this.1, this.2]
theorem lex_cd {p q : Int × Int} (hp : In8 p) (hq : In8 q) : HT.lexLt [p.1, p.2] [q.1, q.2] = decide (cd p < cd q) := by
  obtain ⟨a, b⟩ := p
  obtain ⟨c, d⟩ := q
  unfold cd In8 at *
  simp only [HT.lexLt_cons, HT.lexLt_nil_nil] at *
  by_cases h1 : a = c
  · by_cases h2 : b = d
    · rw [if_pos h1, if_pos h2]
      exact (decide_eq_false (by omega)).symm
    · rw [if_pos h1, if_neg h2]
      exact decide_eq_decide.mpr (by omega)
  · rw [if_neg h1]
    exact decide_eq_decide.mpr (by omega)
theorem code_cd (p : Int × Int) : TS.code 8 [p.1, p.2] = cd p := by
  show p.1 * 8 ^ 1 + (p.2 * 8 ^ 0 + 0) = _
  unfold cd
  omega
/-- of different ones, at most 56 -/
theorem few56 {l : List (Int × Int)} (p : l.Pairwise fun x y => cd x < cd y) (h : ∀ x ∈ l, In8 x ∧ x.1 ≠ x.2) : l.length ≤ 56 := by
  let f : Int × Int → Int := fun x => x.1 * 7 + (if x.2 < x.1 then x.2 else x.2 - 1)
  have p' : l.Pairwise fun x y => f x < f y := by
    refine List.Pairwise.imp_of_mem (fun {x y} hx hy hxy => ?_) p
    obtain ⟨h1, h2⟩ := h x hx
    obtain ⟨h3, h4⟩ := h y hy
    obtain ⟨a, b⟩ := x
    obtain ⟨c, d⟩ := y
    show a * 7 + (if b < a then b else b - 1) < c * 7 + (if d < c then d else d - 1)
    unfold cd In8 at *
    simp only at *
    split <;> split <;> omega
  have := rise_len f 56 0 p' (fun x hx => ?_) (by decide)
  · omega
  · obtain ⟨h1, h2⟩ := h x hx
    obtain ⟨a, b⟩ := x
    show 0 ≤ a * 7 + (if b < a then b else b - 1) ∧ a * 7 + (if b < a then b else b - 1) < 56
    unfold In8 at h1
    simp only at *
    split <;> omega
/-! ### equal data -/
theorem eqv_ints : ∀ xs ys : List Int, PyData.eqvAll (pyL (xs.map .int)) (pyL (ys.map .int)) = decide (xs = ys)
  | [], [] => by simp [pyL, PyData.eqvAll]
  | [], y :: ys => by simp [pyL, PyData.eqvAll]
  | x :: xs, [] => by simp [pyL, PyData.eqvAll]
  | x :: xs, y :: ys => by
    rw [List.map_cons, List.map_cons, pyL, pyL, PyData.eqvAll, eqv_ints xs ys, D.py, D.py, PyData.eqv]
    by_cases h : x = y
    · simp [h]
    · have : (x == y) = false := by simpa using h
      simp [this, h]
theorem eqv_tups : ∀ xs ys : List (List Int), PyData.eqvAll (pyL (xs.map tI)) (pyL (ys.map tI)) = decide (xs = ys)
  | [], [] => by simp [pyL, PyData.eqvAll]
  | [], y :: ys => by simp [pyL, PyData.eqvAll]
  | x :: xs, [] => by simp [pyL, PyData.eqvAll]
  | x :: xs, y :: ys => by
    rw [List.map_cons, List.map_cons, pyL, pyL, PyData.eqvAll, eqv_tups xs ys, tI, tI, D.py, D.py, PyData.eqv, eqv_ints]
    by_cases h : x = y <;> simp [h]
theorem ok_ints : ∀ xs : List Int, okL (xs.map .int) = true
  | [] => rfl
  | x :: xs => by rw [List.map_cons, okL, ok_ints xs]; rfl
theorem ok_tups : ∀ xs : List (List Int), okL (xs.map tI) = true
  | [] => rfl
  | x :: xs => by rw [List.map_cons, okL, ok_tups xs, tI, okD, ok_ints]; rfl
theorem dp_ints : ∀ xs : List Int, dpL (xs.map .int) = 0
  | [] => rfl
  | x :: xs => by rw [List.map_cons, dpL, dp_ints xs]; rfl
theorem dp_tups : ∀ xs : List (List Int), dpL (xs.map tI) ≤ 1
  | [] => by decide
  | x :: xs => by
    have h1 := dp_tups xs
    have h2 : dpD (tI x) = 1 := by rw [tI, dpD, dp_ints]
    rw [List.map_cons, dpL, h2]
    omega
theorem eqOk_tups (xs ys : List (List Int)) : eqOk (.lst (xs.map tI)) (.lst (ys.map tI)) = true := by
  have h1 := dp_tups xs
  have h2 := dp_tups ys
  unfold eqOk
  rw [okD, okD, ok_tups, ok_tups, dpD, dpD]
  simp
  omega
theorem eqv_lst (xs ys : List (List Int)) : D.eqv (.lst (xs.map tI)) (.lst (ys.map tI)) = decide (xs = ys) := by
  unfold D.eqv
  rw [D.py, D.py, PyData.eqv, eqv_tups]
theorem eqv_nil {ds : List D} : D.eqv (.tup ds) (.tup []) = ds.isEmpty := by
  unfold D.eqv
  rw [D.py, D.py, PyData.eqv]
  cases ds with
  | nil => rfl
  | cons d ds => rw [pyL, pyL, PyData.eqvAll]; rfl
theorem eqOk_nil {ds : List D} (h : okL ds = true) (h2 : dpL ds ≤ 63) : eqOk (.tup ds) (.tup []) = true := by
  unfold eqOk
  rw [okD, okD, h, dpD, dpD]
  simp [okL, dpL]
  omega
end NB
set_option Elab.async false
set_option linter.all false
set_option maxRecDepth 100000
set_option maxHeartbeats 1000000
set_option autoImplicit false
/-! Plain lemmas: nice data (signs below c, numbers of at most b): it may be compared and shown; sizes. -/
namespace NB
open PySem PySem.Spec PyProof.Rows L2
def sgS (c : Nat) (z : Str) : Bool := z.cps.toList.all fun x => decide (x < c)
mutual
def niD (c b : Nat) : D → Bool
  | .non => true
  | .bl _ => true
  | .int i => decide (i.natAbs ≤ b)
  | .str z => sgS c z
  | .tup ds => niL c b ds
  | .lst ds => niL c b ds
  | .pot => false
  | .scr _ => false
  | .exc _ _ => false
  | .fnv _ => false
  | .clo _ _ => false
  | .dct _ _ => false
  | .ins _ _ => false
def niL (c b : Nat) : List D → Bool
  | [] => true
  | d :: ds => niD c b d && niL c b ds
end
mutual
def wtD : D → Nat
  | .tup ds => wtL ds + 1
  | .lst ds => wtL ds + 1
  | .non => 1
  | .bl _ => 1
  | .int _ => 1
  | .str z => z.length + 1
  | .pot => 1
  | .scr _ => 1
  | .exc _ _ => 1
  | .fnv _ => 1
  | .clo _ _ => 1
  | .dct _ _ => 1
  | .ins _ _ => 1
def wtL : List D → Nat
  | [] => 0
  | d :: ds => wtD d + wtL ds
end
theorem sgS_iff {c : Nat} {z : Str} : sgS c z = true ↔ ∀ x ∈ z.cps.toList, x < c := by
  unfold sgS
  rw [List.all_eq_true]
  exact ⟨fun h x hx => of_decide_eq_true (h x hx), fun h x hx => decide_eq_true (h x hx)⟩
theorem sgS_mono {c c' : Nat} {z : Str} (h : sgS c z = true) (l : c ≤ c') : sgS c' z = true := sgS_iff.mpr fun x hx => Nat.lt_of_lt_of_le (sgS_iff.mp h x hx) l
theorem sgS_ok {c : Nat} {z : Str} (h : sgS c z = true) (l : c ≤ 0x110000) : PyData.strOk z = true := by
  unfold PyData.strOk
  rw [Array.all_eq_true_iff_forall_mem]
  intro x hx
  have := sgS_iff.mp h x (Array.mem_toList_iff.mpr hx)
  exact decide_eq_true (by omega)
theorem sgS_append {c : Nat} {x y : Str} (hx : sgS c x = true) (hy : sgS c y = true) : sgS c (x ++ y) = true := sgS_iff.mpr fun a ha => by
  rw [show (x ++ y).cps = x.cps ++ y.cps from rfl, Array.toList_append] at ha
  rcases List.mem_append.mp ha with ha | ha
  · exact sgS_iff.mp hx a ha
  · exact sgS_iff.mp hy a ha
theorem sgS_ofString (s : String) : sgS 0x110000 (Str.ofString s) = true := sgS_iff.mpr fun x hx => by
  rw [Str.ofString_eq_toList] at hx
  obtain ⟨c, _, rfl⟩ := List.mem_map.mp (by simpa using hx)
  have := c.valid
  have e : c.toNat = c.val.toNat := rfl
  rcases this with h | h
  · have h : c.val.toNat < 0xd800 := h
    omega
  · have h : c.val.toNat < 0x110000 := h.2
    omega
theorem sgS_cut {c : Nat} {z : Str} {lo hi : Option Int} (h : sgS c z = true) : sgS c (cutS z lo hi) = true := sgS_iff.mpr fun x hx => by
  refine sgS_iff.mp h x ?_
  exact List.mem_of_mem_drop (List.mem_of_mem_take (show x ∈ (z.cps.toList.drop (HT.sIx z.length 0 lo)).take (HT.sIx z.length z.length hi - HT.sIx z.length 0 lo) from hx))
theorem sgS_upper {z : Str} (h : sgS 128 z = true) : sgS 128 (Txt.upper z) = true ∧ (Txt.upper z).length = z.length := by
  have h' := sgS_iff.mp h
  rw [upper_ascii h']
  refine ⟨sgS_iff.mpr fun x hx => ?_, by simp [Str.length]⟩
  rw [Array.toList_map] at hx
  obtain ⟨y, hy, rfl⟩ := List.mem_map.mp hx
  have := h' y hy
  unfold up1
  split <;> omega
theorem niL_iff {c b : Nat} : ∀ {ds : List D}, niL c b ds = true ↔ ∀ d ∈ ds, niD c b d = true
  | [] => by simp [niL]
  | d :: ds => by
    rw [niL, Bool.and_eq_true, niL_iff]
    simp
mutual
theorem ni_mono {c c' b b' : Nat} (hc : c ≤ c') (hb : b ≤ b') : ∀ {d : D}, niD c b d = true → niD c' b' d = true
  | .non, _ => by rw [niD]
  | .bl _, _ => by rw [niD]
  | .int i, h => by
    rw [niD, decide_eq_true_eq] at h ⊢
    omega
  | .str z, h => by rw [niD] at h ⊢; exact sgS_mono h hc
  | .tup ds, h => by rw [niD] at h ⊢; exact niL_mono hc hb h
  | .lst ds, h => by rw [niD] at h ⊢; exact niL_mono hc hb h
  | .pot, h => by simp [niD] at h
  | .scr _, h => by simp [niD] at h
  | .exc _ _, h => by simp [niD] at h
  | .fnv _, h => by simp [niD] at h
  | .clo _ _, h => by simp [niD] at h
  | .dct _ _, h => by simp [niD] at h
  | .ins _ _, h => by simp [niD] at h
theorem niL_mono {c c' b b' : Nat} (hc : c ≤ c') (hb : b ≤ b') : ∀ {ds : List D}, niL c b ds = true → niL c' b' ds = true
  | [], _ => by rw [niL]
  | d :: ds, h => by
    rw [niL, Bool.and_eq_true] at h ⊢
    exact ⟨ni_mono hc hb h.1, niL_mono hc hb h.2⟩
end
mutual
theorem ni_ok {c b : Nat} (hc : c ≤ 0x110000) : ∀ {d : D}, niD c b d = true → okD d = true
  | .non, _ => by rw [okD]
  | .bl _, _ => by rw [okD]
  | .int _, _ => by rw [okD]
  | .str z, h => by rw [niD] at h; rw [okD]; exact sgS_ok h hc
  | .tup ds, h => by rw [niD] at h; rw [okD]; exact niL_ok hc h
  | .lst ds, h => by rw [niD] at h; rw [okD]; exact niL_ok hc h
  | .pot, h => by simp [niD] at h
  | .scr _, h => by simp [niD] at h
  | .exc _ _, h => by simp [niD] at h
  | .fnv _, h => by simp [niD] at h
  | .clo _ _, h => by simp [niD] at h
  | .dct _ _, h => by simp [niD] at h
  | .ins _ _, h => by simp [niD] at h
theorem niL_ok {c b : Nat} (hc : c ≤ 0x110000) : ∀ {ds : List D}, niL c b ds = true → okL ds = true
  | [], _ => by rw [okL]
  | d :: ds, h => by
    rw [niL, Bool.and_eq_true] at h
    rw [okL, Bool.and_eq_true]
    exact ⟨ni_ok hc h.1, niL_ok hc h.2⟩
end
theorem log_small {n : Nat} (h : n < 10 ^ 30) : n.log2 < 1920 := by
  by_cases h0 : n = 0
  · subst h0; decide
  · refine (Nat.log2_lt h0).mpr (Nat.lt_trans h ?_)
    exact Nat.lt_of_lt_of_le (show 10 ^ 30 < 2 ^ 100 by decide) (Nat.pow_le_pow_right (by decide) (by decide))
mutual
theorem ni_show {c b : Nat} (hb : b < 10 ^ 30) : ∀ {d : D}, niD c b d = true → d.py.showable = true
  | .non, _ => by rw [D.py, PyData.showable]
  | .bl _, _ => by rw [D.py, PyData.showable]
  | .int i, h => by
    rw [niD, decide_eq_true_eq] at h
    rw [D.py, PyData.showable]
    exact decide_eq_true (log_small (by omega))
  | .str z, h => by rw [D.py, PyData.showable]
  | .tup ds, h => by rw [niD] at h; rw [D.py, PyData.showable]; exact niL_show hb h
  | .lst ds, h => by rw [niD] at h; rw [D.py, PyData.showable]; exact niL_show hb h
  | .pot, h => by simp [niD] at h
  | .scr _, h => by simp [niD] at h
  | .exc _ _, h => by simp [niD] at h
  | .fnv _, h => by simp [niD] at h
  | .clo _ _, h => by simp [niD] at h
  | .dct _ _, h => by simp [niD] at h
  | .ins _ _, h => by simp [niD] at h
theorem niL_show {c b : Nat} (hb : b < 10 ^ 30) : ∀ {ds : List D}, niL c b ds = true → PyData.showableAll (pyL ds) = true
  | [], _ => by rw [pyL, PyData.showableAll]
  | d :: ds, h => by
    rw [niL, Bool.and_eq_true] at h
    rw [pyL, PyData.showableAll, Bool.and_eq_true]
    exact ⟨ni_show hb h.1, niL_show hb h.2⟩
end
mutual
theorem ni_len {c b : Nat} (hc : c ≤ 0x110000) (hb : b < 10 ^ 30) : ∀ {d : D}, niD c b d = true → d.py.shown.length + 5 ≤ 40 * wtD d
  | .non, _ => by rw [D.py, wtD]; decide +kernel
  | .bl b, _ => by rw [D.py, wtD]; cases b <;> decide +kernel
  | .int i, h => by
    rw [niD, decide_eq_true_eq] at h
    rw [D.py, wtD, PyData.shown]
    have e := int_text_length_le10 (a := i) (k := 30) (by decide) (by omega)
    rw [PySem.ofString_length]
    omega
  | .str z, h => by
    rw [niD] at h
    rw [D.py, wtD, PyData.shown]
    have := PySem.StrLaws.reprText_len z fun x hx => by
      have := sgS_iff.mp h x hx
      have e : (16 : Nat) ^ 8 = 4294967296 := by decide
      omega
    omega
  | .tup ds, h => by
    rw [niD] at h
    have h1 := niL_len hc hb h
    have h2 := tupleText_len_le (PyData.shownAll (pyL ds))
    rw [D.py, wtD, PyData.shown]
    omega
  | .lst ds, h => by
    rw [niD] at h
    have h1 := niL_len hc hb h
    have h2 := listText_len_le (PyData.shownAll (pyL ds))
    rw [D.py, wtD, PyData.shown]
    omega
  | .pot, h => by simp [niD] at h
  | .scr _, h => by simp [niD] at h
  | .exc _ _, h => by simp [niD] at h
  | .fnv _, h => by simp [niD] at h
  | .clo _ _, h => by simp [niD] at h
  | .dct _ _, h => by simp [niD] at h
  | .ins _ _, h => by simp [niD] at h
theorem niL_len {c b : Nat} (hc : c ≤ 0x110000) (hb : b < 10 ^ 30) : ∀ {ds : List D}, niL c b ds = true → ((PyData.shownAll (pyL ds)).map (·.length)).sum + 2 * (PyData.shownAll (pyL ds)).length ≤ 40 * wtL ds
  | [], _ => by rw [pyL, PyData.shownAll, wtL]; decide
  | d :: ds, h => by
    rw [niL, Bool.and_eq_true] at h
    have h1 := ni_len hc hb h.1
    have h2 := niL_len hc hb h.2
    rw [pyL, PyData.shownAll, wtL, List.map_cons, List.sum_cons, List.length_cons]
    omega
end
/-- nice data of a small size -/
structure Fine (d : D) : Prop where
  ni : niD 0x110000 (10 ^ 29) d = true
  wt : wtD d ≤ 100000
  dp : dpD d ≤ 60
theorem Fine.ok {d : D} (h : Fine d) : okD d = true := ni_ok (Nat.le_refl _) h.ni
theorem Fine.show {d : D} (h : Fine d) : showOk d = true := by
  have h3 := ni_len (Nat.le_refl _) (by decide) h.ni
  have hz : sizeLine = 16777216 := sizeLine_eq
  have h1 := h.dp
  have h2 := h.wt
  unfold showOk
  rw [h.ok, ni_show (by decide) h.ni, decide_eq_true (by omega), decide_eq_true (by omega)]
  rfl
def fineB (d : D) : Bool := niD 0x110000 (10 ^ 29) d && (decide (wtD d ≤ 100000) && decide (dpD d ≤ 60))
theorem fine_iff {d : D} : fineB d = true ↔ Fine d := by
  unfold fineB
  rw [Bool.and_eq_true, Bool.and_eq_true, decide_eq_true_eq, decide_eq_true_eq]
  exact ⟨fun h => ⟨h.1, h.2.1, h.2.2⟩, fun h => ⟨h.ni, h.wt, h.dp⟩⟩
theorem fineB_cons {d : D} {ds : List D} (h : fineB d = true) (g : ∀ d ∈ ds, Fine d) : ∀ e ∈ d :: ds, Fine e := fun e he => by
  rcases List.mem_cons.mp he with he | he
  · rw [he]; exact fine_iff.mp h
  · exact g e he

/-! ### fine data, step by step -/
def Fn (w p : Nat) (d : D) : Prop := niD 128 (10 ^ 20) d = true ∧ wtD d ≤ w ∧ dpD d ≤ p
def FnL (w p : Nat) (ds : List D) : Prop := niL 128 (10 ^ 20) ds = true ∧ wtL ds ≤ w ∧ dpL ds ≤ p
theorem FnL_nil : FnL 0 0 [] := ⟨rfl, Nat.le_refl _, Nat.le_refl _⟩
theorem FnL_cons {w p w' p' : Nat} {d : D} {ds : List D} (h : Fn w p d) (g : FnL w' p' ds) : FnL (w + w') (max p p') (d :: ds) := by
  obtain ⟨h1, h2, h3⟩ := h
  obtain ⟨g1, g2, g3⟩ := g
  refine ⟨?_, ?_, ?_⟩
  · rw [niL, h1, g1]; rfl
  · rw [wtL]; omega
  · rw [dpL]; omega
theorem Fn_tup {w p : Nat} {ds : List D} (h : FnL w p ds) : Fn (w + 1) (p + 1) (.tup ds) := by
  obtain ⟨h1, h2, h3⟩ := h
  refine ⟨?_, ?_, ?_⟩
  · rw [niD]; exact h1
  · rw [wtD]; omega
  · rw [dpD]; omega
theorem Fn_lst {w p : Nat} {ds : List D} (h : FnL w p ds) : Fn (w + 1) (p + 1) (.lst ds) := by
  obtain ⟨h1, h2, h3⟩ := h
  refine ⟨?_, ?_, ?_⟩
  · rw [niD]; exact h1
  · rw [wtD]; omega
  · rw [dpD]; omega
theorem Fn_non : Fn 1 0 .non := ⟨rfl, Nat.le_refl _, Nat.le_refl _⟩
theorem Fn_bl {b : Bool} : Fn 1 0 (.bl b) := ⟨rfl, Nat.le_refl _, Nat.le_refl _⟩
theorem Fn_int {i : Int} (h : i.natAbs ≤ 10 ^ 20) : Fn 1 0 (.int i) := ⟨by rw [niD]; exact decide_eq_true h, Nat.le_refl _, Nat.le_refl _⟩
theorem Fn_str {z : Str} {n : Nat} (h : sgS 128 z = true) (hl : z.length = n) : Fn (n + 1) 0 (.str z) := ⟨by rw [niD]; exact h, by rw [wtD]; omega, Nat.le_refl _⟩
theorem Fn.fine {w p : Nat} {d : D} (h : Fn w p d) (g : (Nat.ble w 100000 && Nat.ble p 60) = true) : Fine d := by
  rw [Bool.and_eq_true] at g
  have g1 := Nat.le_of_ble_eq_true g.1
  have g2 := Nat.le_of_ble_eq_true g.2
  have h2 := h.2.1
  have h3 := h.2.2
  exact ⟨ni_mono (by decide) (by decide) h.1, by omega, by omega⟩
theorem le_sl {n : Nat} (h : Nat.ble n 1000 = true) : n ≤ sizeLine := Nat.le_trans (Nat.le_of_ble_eq_true h) (by rw [sizeLine_eq]; decide)
theorem add_lst {L M : List D} (h : L.length + M.length ≤ 1000) : addD (.lst L) (.lst M) = some (.nw (L ++ M)) := if_pos (Nat.le_trans h (by rw [sizeLine_eq]; decide))
theorem fine_app {L M : List D} (h : ∀ d ∈ L, Fine d) (g : ∀ d ∈ M, Fine d) : ∀ d ∈ L ++ M, Fine d := fun d hd => by
  rcases List.mem_append.mp hd with hd | hd
  · exact h d hd
  · exact g d hd
theorem fine_nil : ∀ d ∈ ([] : List D), Fine d := fun _ h => nomatch h
theorem fine_cons {d : D} {ds : List D} (h : Fine d) (g : ∀ d ∈ ds, Fine d) : ∀ e ∈ d :: ds, Fine e := fun e he => by
  rcases List.mem_cons.mp he with he | he
  · rw [he]; exact h
  · exact g e he

theorem exA {α : Type} {p : Prop} {a : α} {q : α → Prop} : (∃ x, (p ∧ a = x) ∧ q x) ↔ p ∧ q a :=
  ⟨fun ⟨_, ⟨h, e⟩, g⟩ => by subst e; exact ⟨h, g⟩, fun ⟨h, g⟩ => ⟨_, ⟨h, rfl⟩, g⟩⟩
theorem all_bl {xs : List D} (h : ∀ x ∈ xs, x = .bl true) : blsD xs = some (xs.map fun _ => true) := by
  induction xs with
  | nil => rfl
  | cons x xs ih =>
    rw [h x List.mem_cons_self, blsD, ih fun y hy => h y (List.mem_cons_of_mem _ hy)]
    rfl
theorem all_yes {α : Type} (xs : List α) : ((xs.map fun _ => true).all id) = true := by
  rw [List.all_map]
  exact List.all_eq_true.mpr fun _ _ => rfl
/-- all(..) over what is true -/
theorem allD_yes {xs : List D} (h : ∀ x ∈ xs, x = .bl true) : allD (.lst xs) = some (.im (.bl true)) := by
  have e : (D.lst xs).ls = some xs := rfl
  simp only [allD, e, Option.bind_some, all_bl h, Option.map_some, all_yes]

/-! ### written texts -/
theorem osL (s : String) : (Str.ofString s).length = s.length := PySem.ofString_length s
theorem osE {s t : String} : Str.ofString s = Str.ofString t ↔ s = t := by
  constructor
  · intro h
    rw [Str.ofString_eq_toList, Str.ofString_eq_toList] at h
    have h1 : s.toList.map Char.toNat = t.toList.map Char.toNat := by
      have := congrArg (fun z : Str => z.cps.toList) h
      simpa using this
    have inj : ∀ a b : Char, a.toNat = b.toNat → a = b := fun a b e => by
      apply Char.ext
      apply UInt32.toNat.inj
      exact e
    have h2 : s.toList = t.toList := by
      revert h1
      generalize s.toList = xs
      generalize t.toList = ys
      induction xs generalizing ys with
      | nil => intro h; cases ys with | nil => rfl | cons _ _ => cases h
      | cons x xs ih => intro h; cases ys with
        | nil => cases h
        | cons y ys =>
          rw [List.map_cons, List.map_cons] at h
          injection h with e1 e2
          rw [inj x y e1, ih ys e2]
    exact String.ext (by simpa using h2)
  · intro h; rw [h]
theorem osA (s t : String) : Str.ofString s ++ Str.ofString t = Str.ofString (s ++ t) := by
  have e : ∀ a b : Str, a ++ b = ⟨a.cps ++ b.cps⟩ := fun _ _ => rfl
  rw [e, Str.ofString_eq_toList, Str.ofString_eq_toList, Str.ofString_eq_toList]
  simp

/-! ### sizes -/
theorem dpL_le : ∀ {ds : List D} {k : Nat}, dpL ds ≤ k ↔ ∀ d ∈ ds, dpD d ≤ k
  | [], k => by simp [dpL]
  | d :: ds, k => by
    rw [dpL, Nat.max_le, dpL_le]
    simp
theorem wtL_append : ∀ (xs ys : List D), wtL (xs ++ ys) = wtL xs + wtL ys
  | [], ys => by simp [wtL]
  | x :: xs, ys => by rw [List.cons_append, wtL, wtL, wtL_append xs ys]; omega
theorem wtL_take (n : Nat) (xs : List D) : wtL (xs.take n) + wtL (xs.drop n) = wtL xs := by rw [← wtL_append, List.take_append_drop]
theorem wt_pos (d : D) : 1 ≤ wtD d := by cases d <;> simp [wtD]
theorem wtL_len : ∀ ds : List D, ds.length ≤ wtL ds
  | [] => by simp
  | d :: ds => by
    have := wtL_len ds
    have := wt_pos d
    rw [wtL, List.length_cons]
    omega
theorem wtL_mem : ∀ {ds : List D} {d : D}, d ∈ ds → wtD d ≤ wtL ds
  | e :: ds, d, h => by
    rw [wtL]
    rcases List.mem_cons.mp h with e' | e'
    · rw [e']; omega
    · have := wtL_mem e'
      omega
theorem wtL_reverse : ∀ xs : List D, wtL xs.reverse = wtL xs
  | [] => rfl
  | x :: xs => by rw [List.reverse_cons, wtL_append, wtL_reverse xs, wtL, wtL, wtL]; omega
theorem wtL_le {k : Nat} : ∀ {ds : List D}, (∀ d ∈ ds, wtD d ≤ k) → wtL ds ≤ k * ds.length
  | [], _ => by simp [wtL]
  | d :: ds, h => by
    have h1 := h d List.mem_cons_self
    have h2 := wtL_le fun e he => h e (List.mem_cons_of_mem _ he)
    rw [wtL, List.length_cons, Nat.mul_succ]
    omega
theorem cut_mem {ds : List D} {lo hi : Option Int} {x : D} (h : x ∈ NB.cutD ds lo hi) : x ∈ ds := List.mem_of_mem_drop (List.mem_of_mem_take h)
theorem cut_wt (ds : List D) (lo hi : Option Int) : wtL (NB.cutD ds lo hi) ≤ wtL ds := by
  have h1 := wtL_take (HT.sIx ds.length 0 lo) ds
  have h2 := wtL_take (HT.sIx ds.length ds.length hi - HT.sIx ds.length 0 lo) (ds.drop (HT.sIx ds.length 0 lo))
  unfold NB.cutD
  omega
theorem cut_len (ds : List D) (lo hi : Option Int) : (NB.cutD ds lo hi).length ≤ ds.length := by
  unfold NB.cutD
  rw [List.length_take, List.length_drop]
  omega
theorem cut_last (ds : List D) : (NB.cutD ds (some (-1)) none).length ≤ 1 := by
  unfold NB.cutD
  rw [List.length_take, List.length_drop, HT.sIx_none]
  have e : HT.sIx ds.length 0 (some (-1)) = ds.length - 1 := by
    show (if (-1 : Int) < 0 then ((-1 : Int) + (ds.length : Int)).toNat else min (-1 : Int).toNat ds.length) = _
    rw [if_pos (by decide)]
    omega
  rw [e]
  omega
theorem cut_take {ds : List D} {k : Nat} (h : k ≤ ds.length) : NB.cutD ds none (some (k : Int)) = ds.take k := by
  unfold NB.cutD
  rw [HT.sIx_none, HT.sIx_nat, Nat.min_eq_left h, List.drop_zero, Nat.sub_zero]
theorem cut_drop {ds : List D} {k : Nat} (h : k ≤ ds.length) : NB.cutD ds (some (k : Int)) none = ds.drop k := by
  unfold NB.cutD
  rw [HT.sIx_none, HT.sIx_nat, Nat.min_eq_left h, ← List.length_drop, List.take_length]

/-! ### comprehensions without a test -/
theorem bindP2 {i j : Nat} {a b : D} {ρ : List Sl} : bindP (.tp [.nm i, .nm j]) (.tup [a, b]) ρ = some ((ρ.set i (.im a)).set j (.im b)) := by rw [bindP_tp, bindPs_nm, bindPs_nm, bindPs_nil]
theorem bindP3 {i j k : Nat} {a b c : D} {ρ : List Sl} : bindP (.tp [.nm i, .nm j, .nm k]) (.tup [a, b, c]) ρ = some (((ρ.set i (.im a)).set j (.im b)).set k (.im c)) := by rw [bindP_tp, bindPs_nm, bindPs_nm, bindPs_nm, bindPs_nil]
theorem compL_maps {α : Type} {p : Pt} {e : W} {ρw : List Sl} {g f : α → D} {t : Nat} {Q : List D → Nat → Prop} : ∀ {xs : List α} {acc : List D},
    (∀ x ∈ xs, ∃ (ρ' : List Sl) (r : R), bindP p (g x) ρw = some ρ' ∧ r.d = f x ∧ ∀ Q' E, e ρ' t Q' E ↔ Q' r ρ' t) → acc.length + xs.length ≤ sizeLine →
    (compL p yesT e ρw (xs.map g) acc t Q ↔ Q (acc ++ xs.map f) t)
  | [], acc, _, _ => by simp [compL]
  | x :: xs, acc, h, hl => by
    obtain ⟨ρ', r, h1, h2, h3⟩ := h x List.mem_cons_self
    rw [List.length_cons] at hl
    rw [List.map_cons, compL]
    simp only [h1, Option.some.injEq, exists_eq_left', yesT, true_and, if_true, h3]
    rw [compL_maps (fun x hx => h x (List.mem_cons_of_mem _ hx)) (by rw [List.length_append, List.length_singleton]; omega), h2, List.map_cons, List.append_assoc, List.singleton_append]
    exact ⟨fun z => z.2, fun z => ⟨by omega, z⟩⟩
theorem compL_gives {α : Type} {p : Pt} {e : W} {ρw : List Sl} {g f : α → D} {t : Nat} {Q : List D → Nat → Prop} : ∀ {xs : List α} {acc : List D},
    (∀ x ∈ xs, ∃ (ρ' : List Sl) (r : R), bindP p (g x) ρw = some ρ' ∧ r.d = f x ∧ ∀ Q' E, Q' r ρ' t → e ρ' t Q' E) → acc.length + xs.length ≤ sizeLine →
    Q (acc ++ xs.map f) t → compL p yesT e ρw (xs.map g) acc t Q
  | [], acc, _, _, q => by
    rw [List.map_nil, compL]
    simpa using q
  | x :: xs, acc, h, hl, q => by
    obtain ⟨ρ', r, h1, h2, h3⟩ := h x List.mem_cons_self
    rw [List.length_cons] at hl
    rw [List.map_cons, compL]
    refine ⟨ρ', h1, rfl, ?_⟩
    rw [if_pos rfl]
    refine h3 _ _ ⟨rfl, by omega, ?_⟩
    refine compL_gives (fun x hx => h x (List.mem_cons_of_mem _ hx)) (by rw [List.length_append, List.length_singleton]; omega) ?_
    rw [h2, List.append_assoc, List.singleton_append, ← List.map_cons]
    exact q
theorem compL_map {p : Pt} {e : W} {ρw : List Sl} {f : D → D} {t : Nat} {Q : List D → Nat → Prop} {ds acc : List D}
    (h : ∀ d ∈ ds, ∃ (ρ' : List Sl) (r : R), bindP p d ρw = some ρ' ∧ r.d = f d ∧ ∀ Q' E, e ρ' t Q' E ↔ Q' r ρ' t) (hl : acc.length + ds.length ≤ sizeLine) :
    compL p yesT e ρw ds acc t Q ↔ Q (acc ++ ds.map f) t := by
  have := compL_maps (g := id) (f := f) (xs := ds) (acc := acc) (Q := Q) h hl
  rwa [List.map_id] at this

theorem popAtF_some {ds : List D} {i : Int} {k : Nat} {d : D} (h1 : ixFits i = true) (h2 : seqIndex? i ds.length = some k) (h3 : ds[k]? = some d) : popAtF ds [.int i] = some (ds.eraseIdx k, d) := by
  simp only [popAtF, h1, h2, h3, Option.map_some]
theorem popAt_ok {ds : List D} {k : Int} (h0 : 0 ≤ k) (h1 : k < ds.length) (h2 : ds.length < 1000000) : ∃ d, ds[k.toNat]? = some d ∧ popAtF ds [.int k] = some (ds.eraseIdx k.toNat, d) := by
  obtain ⟨j, rfl⟩ := Int.eq_ofNat_of_zero_le h0
  have hj : j < ds.length := by omega
  have e : ds[j]? = some ds[j] := List.getElem?_eq_getElem hj
  refine ⟨ds[j], e, ?_⟩
  have f1 : ixFits ((j : Nat) : Int) = true := ixFits_iff.mpr ⟨by omega, by omega⟩
  have f2 : seqIndex? ((j : Nat) : Int) ds.length = some j := (ixN_seq (n := ds.length) (i := (j : Nat)) (j := j) (by unfold ixN; rw [if_pos (by omega), if_pos (by omega)]; rfl)).1
  exact popAtF_some f1 f2 e
theorem pop_perm {ds found rests : List D} {k : Nat} {d : D} (hk : rests[k]? = some d) (p : (found ++ rests).Perm ds) : ((found ++ [d]) ++ rests.eraseIdx k).Perm ds := by
  have hl : k < rests.length := (List.getElem?_eq_some_iff.mp hk).1
  rw [List.getElem?_eq_getElem hl] at hk
  cases hk
  refine List.Perm.trans ?_ p
  rw [List.append_assoc]
  refine List.Perm.append_left _ ?_
  rw [List.eraseIdx_eq_take_drop_succ]
  have e : rests = rests.take k ++ rests[k] :: rests.drop (k + 1) := by
    rw [← List.drop_eq_getElem_cons hl, List.take_append_drop]
  refine List.Perm.trans (List.perm_middle.symm : (rests[k] :: (rests.take k ++ rests.drop (k + 1))).Perm _) ?_
  rw [← e]
theorem atI_mem {α : Type} {ds : List α} {k : Int} (h0 : 0 ≤ k) (h1 : k < ds.length) : ∃ d, atI ds k = some d ∧ ds[k.toNat]? = some d ∧ d ∈ ds := by
  obtain ⟨j, rfl⟩ := Int.eq_ofNat_of_zero_le h0
  have hj : j < ds.length := by omega
  have e : ds[j]? = some ds[j] := List.getElem?_eq_getElem hj
  refine ⟨ds[j], atI_nat e, ?_, List.getElem_mem hj⟩
  rw [show ((j : Nat) : Int).toNat = j from Int.toNat_natCast j]
  exact e
/-- elements that are drawn, each with a key of its source -/
theorem compL_drawK {γ : Type} {p : Pt} {e : W} {ρw : List Sl} {post : D → Prop} (κ κ' : D → γ) {n : Nat} {Q : List D → Nat → Prop} : ∀ {ds acc : List D} {t : Nat},
    (∀ d ∈ ds, ∃ ρ', bindP p d ρw = some ρ' ∧ ∀ t Q' E, t + n ≤ 2000000 → (∀ r t', t' ≤ t + n → post r.d → κ r.d = κ' d → Q' r ρ' t') → e ρ' t Q' E) → acc.length + ds.length ≤ sizeLine → t + n * ds.length ≤ 2000000 →
    (∀ xs t', t' ≤ t + n * ds.length → (∀ x ∈ xs, post x) → xs.map κ = ds.map κ' → Q (acc ++ xs) t') → compL p yesT e ρw ds acc t Q
  | [], acc, t, _, _, _, q => by
    rw [compL]
    have := q [] t (by simp) (fun _ h => nomatch h) rfl
    simpa using this
  | d :: ds, acc, t, h, hl, ht, q => by
    obtain ⟨ρ', h1, h2⟩ := h d List.mem_cons_self
    rw [compL]
    refine ⟨ρ', h1, rfl, ?_⟩
    rw [if_pos rfl]
    rw [List.length_cons, Nat.mul_succ] at ht
    rw [List.length_cons] at hl
    refine h2 t _ _ (by omega) fun r t1 l1 pr kr => ⟨rfl, by omega, ?_⟩
    refine compL_drawK κ κ' (fun d hd => h d (List.mem_cons_of_mem _ hd)) (by rw [List.length_append, List.length_singleton]; omega) (by omega) fun xs t' l2 px le => ?_
    rw [List.append_assoc]
    refine q (r.d :: xs) t' ?_ (fun x hx => ?_) (by rw [List.map_cons, List.map_cons, le, kr])
    · rw [List.length_cons, Nat.mul_succ]; omega
    · rcases List.mem_cons.mp hx with e | e
      · rw [e]; exact pr
      · exact px x e

/-- what bending may give -/
structure Bo (b : Nat) (d r : D) : Prop where
  ni : niD 0x110000 (b + 1) r = true
  wt : wtD r ≤ 2 * wtD d + 30
  dp : dpD r ≤ dpD d + 3
theorem Bo.fine {b : Nat} {d r : D} (h : Bo b d r) (hb : b + 1 ≤ 10 ^ 29) (hw : wtD d ≤ 40000) (hd : dpD d ≤ 50) : Fine r :=
  ⟨ni_mono (Nat.le_refl _) hb h.ni, by have := h.wt; omega, by have := h.dp; omega⟩
theorem bo_items {b : Nat} {ds es : List D} {r : D} (hr : r = .tup es ∨ r = .lst es) (hs : niL 128 b ds = true) (hm : ∀ e ∈ es, e ∈ ds) (hz : wtL es ≤ 2 * wtL ds) : Bo b (.tup ds) r := by
  have h1 : niL 0x110000 (b + 1) es = true := niL_iff.mpr fun d hd => ni_mono (by decide) (by omega) (niL_iff.mp hs d (hm d hd))
  have h2 : dpL es ≤ dpL ds := dpL_le.mpr fun d hd => dpL_le.mp (Nat.le_refl _) d (hm d hd)
  rcases hr with rfl | rfl
  · exact ⟨by rw [niD]; exact h1, by rw [wtD, wtD]; omega, by rw [dpD, dpD]; omega⟩
  · exact ⟨by rw [niD]; exact h1, by rw [wtD, wtD]; omega, by rw [dpD, dpD]; omega⟩
theorem bo_flat {b : Nat} {d r : D} (h : niD 0x110000 (b + 1) r = true) (h1 : wtD r ≤ 2 * wtD d + 30) (h2 : dpD r ≤ 1) : Bo b d r := ⟨h, h1, by omega⟩
theorem bo_one {b : Nat} {ds : List D} {k : Nat} {e r : D} (hs : niL 128 b ds = true) (he : ds[k]? = some e) (hr : Bo b e r) : Bo b (.tup ds) (.tup (ds.take k ++ [r] ++ ds.drop (k + 1))) := by
  have hk : k < ds.length := (List.getElem?_eq_some_iff.mp he).1
  have mem : e ∈ ds := List.mem_of_getElem? he
  have hsz : wtL ds = wtL (ds.take k) + (wtD e + wtL (ds.drop (k + 1))) := by
    have h1 := wtL_take k ds
    have h2 : ds.drop k = e :: ds.drop (k + 1) := by
      rw [List.drop_eq_getElem_cons hk]
      rw [List.getElem?_eq_getElem hk] at he
      rw [Option.some.inj he]
    rw [h2, wtL] at h1
    omega
  have m : ∀ x ∈ ds.take k ++ [r] ++ ds.drop (k + 1), x ∈ ds ∨ x = r := fun x hx => by
    rcases List.mem_append.mp hx with hx | hx
    · rcases List.mem_append.mp hx with hx | hx
      · exact .inl (List.mem_of_mem_take hx)
      · exact .inr (List.mem_singleton.mp hx)
    · exact .inl (List.mem_of_mem_drop hx)
  have e1 := hr.wt
  have e2 := hr.dp
  have d1 : dpD e ≤ dpL ds := dpL_le.mp (Nat.le_refl _) e mem
  have g1 : dpL (ds.take k ++ [r] ++ ds.drop (k + 1)) ≤ dpL ds + 3 := dpL_le.mpr fun x hx => by
    rcases m x hx with h | h
    · have := dpL_le.mp (Nat.le_refl (dpL ds)) x h
      omega
    · rw [h]; omega
  refine ⟨?_, ?_, by rw [dpD, dpD]; omega⟩
  · rw [niD]
    refine niL_iff.mpr fun x hx => ?_
    rcases m x hx with h | h
    · exact ni_mono (by decide) (by omega) (niL_iff.mp hs x h)
    · rw [h]; exact hr.ni
  · rw [wtD, wtD, wtL_append, wtL_append, wtL, wtL]
    omega
end NB
set_option Elab.async false
set_option linter.all false
set_option maxRecDepth 100000
set_option maxHeartbeats 1000000
set_option autoImplicit false
/-! Plain lemmas: lists of ints: equal, sorted, rising. -/
namespace NB
open PySem PySem.Spec PyProof.Rows L2
theorem eqOk_ints (xs ys : List Int) : eqOk (.lst (xs.map .int)) (.lst (ys.map .int)) = true := by
  unfold eqOk
  rw [okD, okD, ok_ints, ok_ints, dpD, dpD, dp_ints, dp_ints]
  rfl
theorem eqv_lstI (xs ys : List Int) : D.eqv (.lst (xs.map .int)) (.lst (ys.map .int)) = decide (xs = ys) := by
  unfold D.eqv
  rw [D.py, D.py, PyData.eqv, eqv_ints]
theorem srt_ints (l : List Int) : srt (l.map .int) = (l.mergeSort fun a b => decide (a ≤ b)).map .int := by
  unfold srt
  rw [← List.map_mergeSort]
  intro a _ b _
  show decide (a ≤ b) = PySem.W.dataLe false (fun p : Int => PyData.int p) a b
  rw [PySem.W.dataLe_int]
theorem sortOk_ints (l : List Int) (h : l.length ≤ 1000000) : SortOk (l.map .int) := by
  have e : (l.map D.int).map D.py = l.map fun p => PyData.int p := by
    rw [List.map_map]
    rfl
  refine ⟨ok_ints l, fun d hd => ?_, ?_, ?_, ?_⟩
  · obtain ⟨p, _, rfl⟩ := List.mem_map.mp hd
    simp [dpD]
  · rw [e]
    exact PySem.W.AllAlike.of fun b b' => by simp [PySem.W.alike]
  · rw [e]
    exact PySem.W.Sortable.others fun b => ⟨by simp, by simp⟩
  · have : sizeLine = 16777216 := sizeLine_eq
    rw [List.length_map]
    omega
/-- each one and the next -/
def chn (r : Int → Int → Bool) : List Int → Bool
  | a :: b :: l => r a b && chn r (b :: l)
  | [_] => true
  | [] => true
def gR (r : Int → Int → Bool) (d : D) : Bool := match d with
  | .tup [.int a, .int b] => r a b
  | _ => false
theorem zip_chn (r : Int → Int → Bool) : ∀ l : List Int, (zipD (l.map .int) (l.map .int).tail).all (gR r) = chn r l
  | [] => rfl
  | [a] => rfl
  | a :: b :: l => by
    have ih := zip_chn r (b :: l)
    rw [chn, ← ih]
    simp [zipD, gR]
theorem chn_iff {r : Int → Int → Bool} (tr : ∀ a b c, r a b = true → r b c = true → r a c = true) : ∀ {l : List Int}, chn r l = true ↔ l.Pairwise fun a b => r a b = true
  | [] => by simp [chn]
  | [a] => by simp [chn]
  | a :: b :: l => by
    rw [chn, Bool.and_eq_true, chn_iff tr (l := b :: l)]
    constructor
    · intro ⟨h1, h2⟩
      refine List.pairwise_cons.mpr ⟨fun y hy => ?_, h2⟩
      rcases List.mem_cons.mp hy with e | e
      · rw [e]; exact h1
      · exact tr _ _ _ h1 ((List.pairwise_cons.mp h2).1 y e)
    · intro h1
      obtain ⟨h2, h3⟩ := List.pairwise_cons.mp h1
      exact ⟨h2 b List.mem_cons_self, h3⟩
def ltI (a b : Int) : Bool := decide (a < b)
def leI (a b : Int) : Bool := decide (a ≤ b)
theorem chn_lt {l : List Int} : chn ltI l = true ↔ l.Pairwise (· < ·) := by
  rw [chn_iff fun a b c h g => by unfold ltI at *; rw [decide_eq_true_eq] at *; omega]
  unfold ltI
  simp
theorem chn_le {l : List Int} : chn leI l = true ↔ l.Pairwise (· ≤ ·) := by
  rw [chn_iff fun a b c h g => by unfold leI at *; rw [decide_eq_true_eq] at *; omega]
  unfold leI
  simp
theorem sort_le (l : List Int) : (l.mergeSort fun a b => decide (a ≤ b)).Pairwise (· ≤ ·) := by
  have := List.pairwise_mergeSort (le := fun a b : Int => decide (a ≤ b)) (fun a b c h1 h2 => by
    rw [decide_eq_true_eq] at *
    omega) (fun a b => by
    rw [Bool.or_eq_true, decide_eq_true_eq, decide_eq_true_eq]
    omega) l
  exact this.imp fun h => of_decide_eq_true h
theorem sort_same {l : List Int} : decide (l = l.mergeSort fun a b => decide (a ≤ b)) = chn leI l := by
  rw [Bool.eq_iff_iff, decide_eq_true_eq, chn_le]
  constructor
  · intro e
    rw [e]
    exact sort_le l
  · intro h
    exact (List.mergeSort_of_pairwise (h.imp fun z => decide_eq_true z)).symm
theorem setI_same {l es : List Int} (h1 : ∀ e, e ∈ es ↔ e ∈ l) (h2 : es.Pairwise (· < ·)) : decide (l = es) = chn ltI l := by
  rw [Bool.eq_iff_iff, decide_eq_true_eq, chn_lt]
  constructor
  · intro e
    rw [e]
    exact h2
  · intro h
    exact uniq_rise (fun x => x) h h2 fun e => (h1 e).symm
theorem rise_count {n : Int} {l : List Int} (h : l.Pairwise (· < ·)) (b : ∀ k ∈ l, 0 ≤ k ∧ k < n) (h0 : 0 ≤ n) : (l.length : Int) ≤ n := by
  have := rise_len (fun x : Int => x) n 0 h b h0
  omega
end NB
namespace NB
open PySem PySem.Spec PyProof.Rows L2
/-- a comprehension with a drawn test: some of the items -/
theorem compL_sub {p : Pt} {c : Wg Bool} {e : W} {ρw : List Sl} {n : Nat} {Q : List D → Nat → Prop} : ∀ {ds acc : List D} {t : Nat},
    (∀ d ∈ ds, ∃ ρ', bindP p d ρw = some ρ' ∧ (∀ t Q' E, t + n ≤ 2000000 → (∀ b t', t' ≤ t + n → Q' b ρ' t') → c ρ' t Q' E) ∧ ∀ t Q' E, Q' (.im d) ρ' t → e ρ' t Q' E) → acc.length + ds.length ≤ sizeLine → t + n * ds.length ≤ 2000000 →
    (∀ xs t', t' ≤ t + n * ds.length → xs.Sublist ds → Q (acc ++ xs) t') → compL p c e ρw ds acc t Q
  | [], acc, t, _, _, _, q => by
    rw [compL]
    have := q [] t (by simp) (List.Sublist.refl _)
    simpa using this
  | d :: ds, acc, t, h, hl, ht, q => by
    obtain ⟨ρ', h1, h2, h3⟩ := h d List.mem_cons_self
    rw [compL]
    rw [List.length_cons, Nat.mul_succ] at ht
    rw [List.length_cons] at hl
    refine ⟨ρ', h1, h2 t _ _ (by omega) fun b t1 l1 => ⟨rfl, ?_⟩⟩
    cases b with
    | true =>
      rw [if_pos rfl]
      refine h3 _ _ _ ⟨rfl, by omega, ?_⟩
      refine compL_sub (n := n) (fun d hd => h d (List.mem_cons_of_mem _ hd)) (by rw [List.length_append, List.length_singleton]; omega) (by omega) fun xs t' l2 sb => ?_
      rw [List.append_assoc]
      exact q (d :: xs) t' (by rw [List.length_cons, Nat.mul_succ]; omega) (sb.cons₂ d)
    | false =>
      rw [if_neg (by decide)]
      refine compL_sub (n := n) (fun d hd => h d (List.mem_cons_of_mem _ hd)) (by omega) (by omega) fun xs t' l2 sb => ?_
      exact q xs t' (by rw [List.length_cons, Nat.mul_succ]; omega) (sb.cons d)
theorem ints_all {P : Int → Prop} : ∀ {xs : List D}, (∀ x ∈ xs, ∃ i, x = .int i ∧ P i) → ∃ l : List Int, xs = l.map .int ∧ ∀ k ∈ l, P k
  | [], _ => ⟨[], rfl, fun _ h => nomatch h⟩
  | x :: xs, h => by
    obtain ⟨i, rfl, hi⟩ := h x List.mem_cons_self
    obtain ⟨l, rfl, hl⟩ := ints_all fun y hy => h y (List.mem_cons_of_mem _ hy)
    refine ⟨i :: l, rfl, fun k hk => ?_⟩
    rcases List.mem_cons.mp hk with e | e
    · rw [e]; exact hi
    · exact hl k e
/-- some of 0 .. n - 1, rising -/
theorem sub_range {n : Nat} {xs : List D} (h : xs.Sublist (rangeD 0 n)) : ∃ l : List Int, xs = l.map .int ∧ l.Pairwise (· < ·) ∧ (∀ k ∈ l, 0 ≤ k ∧ k < n) ∧ l.length ≤ n := by
  have e : rangeD 0 n = ((List.range n).map fun k : Nat => ((k : Nat) : Int)).map .int := by
    unfold rangeD
    rw [List.map_map]
    refine List.map_congr_left fun k _ => ?_
    simp
  rw [e] at h
  obtain ⟨l, hl, rfl⟩ := List.sublist_map_iff.mp h
  refine ⟨l, rfl, ?_, fun k hk => ?_, ?_⟩
  · refine List.Pairwise.sublist hl ?_
    rw [List.pairwise_map]
    exact List.pairwise_lt_range.imp fun h => by omega
  · obtain ⟨m, hm, rfl⟩ := List.mem_map.mp (hl.subset hk)
    have := List.mem_range.mp hm
    omega
  · have := hl.length_le
    rw [List.length_map, List.length_range] at this
    exact this
/-- all([e for x in xs]) where e says yes of each -/
theorem all_gives {e : W} {ρ ρ' : List Sl} {i j : Nat} {xs : List D} {t : Nat} {Q : R → List Sl → Nat → Prop} {E : KX} (hv : varW i ρ t = fun Q _ => Q (.im (.lst xs)) ρ' t)
    (he : ∀ x ∈ xs, ∀ Q' E, Q' (.im (.bl true)) ((wipeR ρ' [j]).set j (.im x)) t → e ((wipeR ρ' [j]).set j (.im x)) t Q' E) (hl : xs.length ≤ 1000000) (q : Q (.im (.bl true)) (wipeR ρ' [j]) t) :
    (opNW (g1 allD) (consO (valO (compW (seqI (varW i)) [j] (.nm j) yesT e)) nilW)) ρ t Q E := by
  simp only [opNW, consO, valO, compW, seqI, hv]
  refine ⟨xs, rfl, ?_⟩
  have hz : sizeLine = 16777216 := sizeLine_eq
  have h := compL_gives (p := .nm j) (e := e) (ρw := wipeR ρ' [j]) (g := id) (f := fun _ => D.bl true) (t := t) (xs := xs) (acc := []) (Q := fun acc t2 => nilW (wipeR ρ' [j]) t2 (fun os ρ2 t2 => ∃ ds r, rsvs ρ2 (.va (.lst acc) :: os) = some ds ∧ g1 allD ds = some r ∧ Q r ρ2 t2) E)
    (fun x hx => ⟨_, .im (.bl true), bindP_nm, rfl, fun Q' E' hq => ?_⟩) (by simp only [List.length_nil]; omega) ?_
  · rw [List.map_id] at h
    exact h
  · exact he x hx Q' E' hq
  · exact ⟨_, _, rfl, allD_yes fun x hx => by simp at hx; exact hx.2.symm, q⟩
/-! ### one step, whatever the def may be (the kernel is not to look into defs) -/
theorem call_of {F : WF} {a : Wg (List D)} {ds : List D} {ρ ρ' : List Sl} {t : Nat} {Q : R → List Sl → Nat → Prop} {E : KX} (ha : ∀ Q E, Q ds ρ' t → a ρ t Q E) (h : F ds t (fun r t' => Q r ρ' t') E) : callW F a ρ t Q E := ha _ _ h
theorem set_of {i : Nat} {w : W} {rest : WS} {ρ : List Sl} {t : Nat} {k : KS} (h : w ρ t (fun r ρ' t' => rest (ρ'.set i (slOf r)) t' k) k.ex) : seqS (setS i w) rest ρ t k := h
theorem setF_of {i : Nat} {w : W} {rest : WS} {ρ : List Sl} {t : Nat} {k : KS} (h : w ρ t (fun r ρ' t' => rest (frzI i (ρ'.set i (slOf r))) t' k) k.ex) : seqS (thenF i (setS i w)) rest ρ t k := h
theorem if_of {c : Wg Bool} {a rest : WS} {ρ : List Sl} {t : Nat} {k : KS} (h : c ρ t (fun x ρ1 t1 => if x = true then a ρ1 t1 { k with nx := fun ρ' t' => rest ρ' t' k } else rest ρ1 t1 k) k.ex) : seqS (ifS c a nextS) rest ρ t k := h
/-- the test says no: on -/
theorem guard_of {w : W} {a rest : WS} {ρ ρ1 : List Sl} {t t1 : Nat} {k : KS} (h : ∀ Q E, Q (.im (.bl true)) ρ1 t1 → w ρ t Q E) (g : rest ρ1 t1 k) : seqS (ifS (notT (testW w)) a nextS) rest ρ t k :=
  if_of (h _ _ ⟨true, rfl, g⟩)
theorem ret_of {w : W} {ρ : List Sl} {t : Nat} {k : KS} (h : w ρ t (fun r _ t' => k.rt r t') k.ex) : retS w ρ t k := h
theorem def_of {n m : Nat} {ws : WS} {ds : List D} {t : Nat} {Q : R → Nat → Prop} {E : KX} (hn : ds.length = n) (h : ws (slots0 m ds) t { nx := fun _ t' => Q (.im .non) t', rt := Q, ex := E, bk := fun _ _ => False, ct := fun _ _ => False }) : defW n m ws ds t Q E := ⟨hn, h⟩
end NB
set_option Elab.async false
set_option linter.all false
set_option maxRecDepth 100000
set_option maxHeartbeats 1000000
set_option autoImplicit false
/-! Plain lemmas: all trips, sorted ones. -/
namespace NB
open PySem PySem.Spec PyProof.Rows L2
def pD (p : Int × Int) : D := .tup [.int p.1, .int p.2]
def uP (d : D) : Int × Int := match d with
  | .tup [.int a, .int b] => (a, b)
  | _ => (0, 0)
theorem up_p (p : Int × Int) : uP (pD p) = p := rfl
def rowT (n i : Nat) : List (Int × Int) := ((List.range n).filter fun (k : Nat) => decide (i ≠ k)).map fun (k : Nat) => (((i : Nat) : Int), ((k : Nat) : Int))
def allT (n j : Nat) : List (Int × Int) := (List.range j).flatMap (rowT n)
theorem allT_succ (n j : Nat) : allT n (j + 1) = allT n j ++ rowT n j := by
  unfold allT
  rw [List.range_succ, List.flatMap_append, List.flatMap_singleton]
def goodT (n : Nat) : Bool := (decide ((allT n n).Nodup) && (allT n n).all fun p => (decide (0 ≤ p.1) && decide (p.1 ≤ (n : Int) - 1)) && (decide (0 ≤ p.2) && decide (p.2 ≤ (n : Int) - 1)) && decide (p.1 ≠ p.2)) && (decide (1 ≤ (allT n n).length) && decide ((allT n n).length ≤ 56))
theorem goodT_ok : ([2, 3, 4, 5, 6, 7, 8].all goodT) = true := by decide +kernel
structure GoodT (n : Nat) : Prop where
  nd : (allT n n).Nodup
  bd : ∀ p ∈ allT n n, (0 ≤ p.1 ∧ p.1 ≤ (n : Int) - 1) ∧ (0 ≤ p.2 ∧ p.2 ≤ (n : Int) - 1) ∧ p.1 ≠ p.2
  l0 : 1 ≤ (allT n n).length
  l1 : (allT n n).length ≤ 56
theorem good_of {n : Nat} (h0 : 2 ≤ n) (h1 : n ≤ 8) : GoodT n := by
  have hm : n ∈ [2, 3, 4, 5, 6, 7, 8] := by
    have : n = 2 ∨ n = 3 ∨ n = 4 ∨ n = 5 ∨ n = 6 ∨ n = 7 ∨ n = 8 := by omega
    simp
    omega
  have g := List.all_eq_true.mp goodT_ok n hm
  unfold goodT at g
  rw [Bool.and_eq_true, Bool.and_eq_true, Bool.and_eq_true, decide_eq_true_eq, decide_eq_true_eq, decide_eq_true_eq] at g
  obtain ⟨⟨g1, g2⟩, g3, g4⟩ := g
  refine ⟨g1, fun p hp => ?_, g3, g4⟩
  have := List.all_eq_true.mp g2 p hp
  rw [Bool.and_eq_true, Bool.and_eq_true, Bool.and_eq_true, Bool.and_eq_true, decide_eq_true_eq, decide_eq_true_eq, decide_eq_true_eq, decide_eq_true_eq, decide_eq_true_eq] at this
  exact ⟨this.1.1, this.1.2, this.2⟩
/-- some of a list of pairs -/
theorem some_of {T : List (Int × Int)} {xs rest : List D} (p : (xs ++ rest).Perm (T.map pD)) (nd : T.Nodup) : ∃ l : List (Int × Int), xs = l.map pD ∧ l.Nodup ∧ (∀ q ∈ l, q ∈ T) := by
  have mem : ∀ x ∈ xs, ∃ q ∈ T, x = pD q := fun x hx => by
    obtain ⟨q, h1, h2⟩ := List.mem_map.mp (p.mem_iff.mp (List.mem_append_left _ hx))
    exact ⟨q, h1, h2.symm⟩
  have back : ∀ x ∈ xs, pD (uP x) = x := fun x hx => by
    obtain ⟨q, _, rfl⟩ := mem x hx
    rw [up_p]
  have ndm : (T.map pD).Nodup := by
    unfold List.Nodup
    rw [List.pairwise_map]
    exact nd.imp fun {a b} h e => h (by rw [← up_p a, ← up_p b, e])
  have ndx : xs.Nodup := (List.nodup_append.mp (p.nodup_iff.mpr ndm)).1
  refine ⟨xs.map uP, ?_, ?_, fun q hq => ?_⟩
  · rw [List.map_map]
    have : xs.map (pD ∘ uP) = xs.map id := List.map_congr_left fun x hx => back x hx
    rw [this, List.map_id]
  · unfold List.Nodup
    rw [List.pairwise_map]
    exact List.Pairwise.imp_of_mem (fun {a b} ha hb h e => h (by rw [← back a ha, ← back b hb, e])) ndx
  · obtain ⟨x, hx, rfl⟩ := List.mem_map.mp hq
    obtain ⟨q, h1, rfl⟩ := mem x hx
    rw [up_p]
    exact h1
def leP (p q : Int × Int) : Bool := decide (p.1 < q.1 ∨ (p.1 = q.1 ∧ p.2 ≤ q.2))
theorem srt_pairs (l : List (Int × Int)) : srt (l.map pD) = (l.mergeSort leP).map pD := by
  unfold srt
  rw [← List.map_mergeSort]
  intro a _ b _
  show leP a b = PySem.W.dataLe false (fun p : Int × Int => PyData.tuple [.int p.1, .int p.2]) a b
  rw [PySem.W.dataLe_ii]
  rfl
theorem sort_rise {l : List (Int × Int)} (nd : l.Nodup) (h : ∀ p ∈ l, In8 p) : (l.mergeSort leP).Pairwise fun x y => cd x < cd y := by
  have pm := List.mergeSort_perm l leP
  have srt : (l.mergeSort leP).Pairwise fun a b => leP a b = true := List.pairwise_mergeSort (le := leP) (fun a b c h1 h2 => by
    unfold leP at *
    rw [decide_eq_true_eq] at *
    omega) (fun a b => by
    unfold leP
    rw [Bool.or_eq_true, decide_eq_true_eq, decide_eq_true_eq]
    omega) l
  refine List.Pairwise.imp_of_mem (fun {a b} ha hb hab => ?_) (srt.and (pm.nodup_iff.mpr nd))
  have h1 := h a (pm.mem_iff.mp ha)
  have h2 := h b (pm.mem_iff.mp hb)
  have h3 : leP a b = true := hab.1
  have h4 : cd a ≠ cd b := fun e => hab.2 (cd_inj h1 h2 e)
  unfold leP at h3
  rw [decide_eq_true_eq] at h3
  unfold cd at *
  unfold In8 at *
  omega
theorem sortOk_pairs (l : List (Int × Int)) (h : l.length ≤ 1000) : SortOk (l.map pD) := by
  have e : (l.map pD).map D.py = l.map fun p => PyData.tuple [.int p.1, .int p.2] := by
    rw [List.map_map]
    rfl
  refine ⟨?_, fun d hd => ?_, ?_, ?_, ?_⟩
  · induction l with
    | nil => rfl
    | cons p l ih => rw [List.map_cons, okL, ih (by rw [List.length_cons] at h; omega) (by rw [List.map_map]; rfl)]; rfl
  · obtain ⟨p, _, rfl⟩ := List.mem_map.mp hd
    simp [pD, dpD, dpL]
  · rw [e]
    exact PySem.W.AllAlike.of fun b b' => by simp [PySem.W.alike, PySem.W.alikeAll]
  · rw [e]
    exact PySem.W.Sortable.tuples fun b => ⟨_, _, rfl⟩
  · have : sizeLine = 16777216 := sizeLine_eq
    rw [List.length_map]
    omega
end NB
set_option Elab.async false
set_option linter.all false
set_option maxRecDepth 100000
set_option maxHeartbeats 4000000
set_option autoImplicit false
/-! Printed by pr.py: what the defs of the law do, by data. -/
namespace LW
open PySem PySem.Spec PyProof.Rows L2 NB

def excNames : List Str := ["BadBuilding", "BadRule", "BadStanding", "BadCar"]
def k_WORDS : List Str := ["here", "out", "room", "up", "down", "top", "bottom", "calls above", "calls below", "wishes above", "wishes below", "near above", "near below", "own above", "own below", "company"]
def k_DEEDS : List Str := ["open", "up", "down", "rest"]
def k_HEADINGS : List Str := ["none", "up", "down"]
def w_is_tuple : WS :=
    (retS (andV (isiW .tuple (slotO 0)) (chainW leD leD (slotO 1) (valO (opNW (g1 lenD) (consO (slotO 0) nilW))) (slotO 2))))
def F_is_tuple : WF := defW 3 3 w_is_tuple
theorem ar_is_tuple : Ar 3 F_is_tuple := ar_def
def w_is_whole : WS :=
    (retS (andV (isiW .int (slotO 0)) (notV (isiW .bool (slotO 0)))))
def F_is_whole : WF := defW 1 1 w_is_whole
theorem ar_is_whole : Ar 1 F_is_whole := ar_def
def w_is_integer : WS :=
    (retS (andV (callW F_is_whole (consD (varW 0) nilW)) (chainW leD leD (slotO 1) (slotO 0) (slotO 2))))
def F_is_integer : WF := defW 3 3 w_is_integer
theorem ar_is_integer : Ar 3 F_is_integer := ar_def
def w_is_word : WS :=
    (retS (andV (isiW .str (slotO 0)) (op2W inD (slotO 0) (slotO 1))))
def F_is_word : WF := defW 2 2 w_is_word
theorem ar_is_word : Ar 2 F_is_word := ar_def
def w_is_rising : WS :=
    (retS (opNW (g1 allD) (consO (valO (compW (zipI (consD (varW 0) (consD (sliceW (slotO 0) (someP (pureW (.im (.int 1)))) noneP) nilW))) [1, 2] (.tp [(.nm 1), (.nm 2)]) yesT (op2W ltD (slotO 1) (slotO 2)))) nilW)))
def F_is_rising : WF := defW 1 3 w_is_rising
theorem ar_is_rising : Ar 1 F_is_rising := ar_def
def w_is_trip : WS :=
    (seqS (ifS (orT (notT (testW (callW F_is_tuple (consD (varW 0) (consD (pureW (.im (.int 2))) (consD (pureW (.im (.int 2))) nilW)))))) (notT (testW (opNW (g1 allD) (consO (valO (compW (seqI (varW 0)) [2] (.nm 2) yesT (callW F_is_integer (consD (varW 2) (consD (pureW (.im (.int 0))) (consD (op2W subD (slotO 1) (valO (pureW (.im (.int 1))))) nilW)))))) nilW))))) (retS (pureW (.im (.bl false)))) nextS)
    (retS (op2W neD (valO (op2W itemD (slotO 0) (valO (pureW (.im (.int 0)))))) (valO (op2W itemD (slotO 0) (valO (pureW (.im (.int 1)))))))))
def F_is_trip : WF := defW 2 3 w_is_trip
theorem ar_is_trip : Ar 2 F_is_trip := ar_def
def w_is_building : WS :=
    (seqS (ifS (orT (notT (testW (callW F_is_tuple (consD (varW 0) (consD (pureW (.im (.int 4))) (consD (pureW (.im (.int 4))) nilW)))))) (notT (testW (callW F_is_integer (consD (op2W itemD (slotO 0) (valO (pureW (.im (.int 0))))) (consD (pureW (.im (.int 2))) (consD (pureW (.im (.int 8))) nilW))))))) (retS (pureW (.im (.bl false)))) nextS)
    (seqS (unpS (.tp [(.nm 1), (.nm 2), (.nm 3), (.nm 4)]) (varW 0))
    (seqS (ifS (orT (notT (testW (callW F_is_integer (consD (varW 2) (consD (pureW (.im (.int 1))) (consD (pureW (.im (.int 3))) nilW)))))) (notT (testW (callW F_is_integer (consD (varW 3) (consD (pureW (.im (.int 1))) (consD (pureW (.im (.int 4))) nilW))))))) (retS (pureW (.im (.bl false)))) nextS)
    (seqS (ifS (orT (notT (testW (callW F_is_tuple (consD (varW 4) (consD (pureW (.im (.int 1))) (consD (pureW (.im (.int 56))) nilW)))))) (notT (testW (opNW (g1 allD) (consO (valO (compW (seqI (varW 4)) [5] (.nm 5) yesT (callW F_is_trip (consD (varW 5) (consD (varW 1) nilW))))) nilW))))) (retS (pureW (.im (.bl false)))) nextS)
    (retS (callW F_is_rising (consD (varW 4) nilW)))))))
def F_is_building : WF := defW 1 6 w_is_building
theorem ar_is_building : Ar 1 F_is_building := ar_def
def w_check_building : WS :=
    (ifS (notT (testW (callW F_is_building (consD (varW 0) nilW)))) (raiseS "BadBuilding" (varW 0)) nextS)
def F_check_building : WF := defW 1 1 w_check_building
theorem ar_check_building : Ar 1 F_check_building := ar_def
def w_trips_from : WS :=
    (retS (opNW (g1 tupOfD) (consO (valO (compW (seqI (op2W itemD (slotO 0) (valO (pureW (.im (.int 3)))))) [2, 3] (.tp [(.nm 2), (.nm 3)]) (testW (op2W eqD (slotO 2) (slotO 1))) (varW 3))) nilW)))
def F_trips_from : WF := defW 2 4 w_trips_from
theorem ar_trips_from : Ar 2 F_trips_from := ar_def
def w_is_test : WS :=
    (retS (andV (callW F_is_tuple (consD (varW 0) (consD (pureW (.im (.int 2))) (consD (pureW (.im (.int 2))) nilW)))) (andV (callW F_is_word (consD (op2W itemD (slotO 0) (valO (pureW (.im (.int 0))))) (consD (pureW (.im (.tup (k_WORDS.map .str)))) nilW))) (isiW .bool (valO (op2W itemD (slotO 0) (valO (pureW (.im (.int 1))))))))))
def F_is_test : WF := defW 1 1 w_is_test
theorem ar_is_test : Ar 1 F_is_test := ar_def
def w_is_clause : WS :=
    (seqS (ifS (orT (notT (testW (callW F_is_tuple (consD (varW 0) (consD (pureW (.im (.int 2))) (consD (pureW (.im (.int 2))) nilW)))))) (orT (notT (testW (callW F_is_tuple (consD (op2W itemD (slotO 0) (valO (pureW (.im (.int 0))))) (consD (pureW (.im (.int 0))) (consD (pureW (.im (.int 4))) nilW)))))) (notT (testW (callW F_is_word (consD (op2W itemD (slotO 0) (valO (pureW (.im (.int 1))))) (consD (pureW (.im (.tup (k_DEEDS.map .str)))) nilW))))))) (retS (pureW (.im (.bl false)))) nextS)
    (seqS (ifS (notT (testW (opNW (g1 allD) (consO (valO (compW (seqI (op2W itemD (slotO 0) (valO (pureW (.im (.int 0)))))) [1] (.nm 1) yesT (callW F_is_test (consD (varW 1) nilW)))) nilW)))) (retS (pureW (.im (.bl false)))) nextS)
    (seqS (thenF 2 (setS 2 (compW (seqI (op2W itemD (slotO 0) (valO (pureW (.im (.int 0)))))) [3, 4] (.tp [(.nm 3), (.nm 4)]) yesT (varW 3))))
    (retS (opNW (g1 allD) (consO (valO (compW (seqI (varW 2)) [3] (.nm 3) yesT (op2W eqD (valO (m1W "list" countD (slotO 2) (slotO 3))) (valO (pureW (.im (.int 1))))))) nilW))))))
def F_is_clause : WF := defW 1 5 w_is_clause
theorem ar_is_clause : Ar 1 F_is_clause := ar_def
def w_is_rule : WS :=
    (retS (andV (callW F_is_tuple (consD (varW 0) (consD (pureW (.im (.int 1))) (consD (pureW (.im (.int 20))) nilW)))) (opNW (g1 allD) (consO (valO (compW (seqI (varW 0)) [1] (.nm 1) yesT (callW F_is_clause (consD (varW 1) nilW)))) nilW))))
def F_is_rule : WF := defW 1 2 w_is_rule
theorem ar_is_rule : Ar 1 F_is_rule := ar_def
def w_check_rule : WS :=
    (ifS (notT (testW (callW F_is_rule (consD (varW 0) nilW)))) (raiseS "BadRule" (varW 0)) nextS)
def F_check_rule : WF := defW 1 1 w_check_rule
theorem ar_check_rule : Ar 1 F_check_rule := ar_def
def w_is_car : WS :=
    (seqS (ifS (orT (notT (testW (callW F_is_tuple (consD (varW 1) (consD (pureW (.im (.int 3))) (consD (pureW (.im (.int 3))) nilW)))))) (notT (testW (callW F_is_integer (consD (op2W itemD (slotO 1) (valO (pureW (.im (.int 0))))) (consD (pureW (.im (.int 0))) (consD (op2W subD (valO (op2W itemD (slotO 0) (valO (pureW (.im (.int 0)))))) (valO (pureW (.im (.int 1))))) nilW))))))) (retS (pureW (.im (.bl false)))) nextS)
    (seqS (ifS (orT (notT (testW (callW F_is_word (consD (op2W itemD (slotO 1) (valO (pureW (.im (.int 1))))) (consD (pureW (.im (.tup (k_HEADINGS.map .str)))) nilW))))) (notT (testW (callW F_is_tuple (consD (op2W itemD (slotO 1) (valO (pureW (.im (.int 2))))) (consD (pureW (.im (.int 0))) (consD (op2W itemD (slotO 0) (valO (pureW (.im (.int 2))))) nilW))))))) (retS (pureW (.im (.bl false)))) nextS)
    (seqS (ifS (notT (testW (opNW (g1 allD) (consO (valO (compW (seqI (op2W itemD (slotO 1) (valO (pureW (.im (.int 2)))))) [2] (.nm 2) yesT (callW F_is_integer (consD (varW 2) (consD (pureW (.im (.int 0))) (consD (op2W subD (valO (op2W itemD (slotO 0) (valO (pureW (.im (.int 0)))))) (valO (pureW (.im (.int 1))))) nilW)))))) nilW)))) (retS (pureW (.im (.bl false)))) nextS)
    (retS (opNW (g1 allD) (consO (valO (compW (zipI (consD (op2W itemD (slotO 1) (valO (pureW (.im (.int 2))))) (consD (sliceW (valO (op2W itemD (slotO 1) (valO (pureW (.im (.int 2)))))) (someP (pureW (.im (.int 1)))) noneP) nilW))) [3, 4] (.tp [(.nm 3), (.nm 4)]) yesT (op2W leD (slotO 3) (slotO 4)))) nilW))))))
def F_is_car : WF := defW 2 5 w_is_car
theorem ar_is_car : Ar 2 F_is_car := ar_def
def w_is_standing_of : WS :=
    (seqS (ifS (orT (notT (testW (callW F_is_tuple (consD (varW 1) (consD (pureW (.im (.int 2))) (consD (pureW (.im (.int 2))) nilW)))))) (notT (testW (callW F_is_tuple (consD (op2W itemD (slotO 1) (valO (pureW (.im (.int 0))))) (consD (op2W itemD (slotO 0) (valO (pureW (.im (.int 1))))) (consD (op2W itemD (slotO 0) (valO (pureW (.im (.int 1))))) nilW))))))) (retS (pureW (.im (.bl false)))) nextS)
    (seqS (ifS (orT (notT (testW (opNW (g1 allD) (consO (valO (compW (seqI (op2W itemD (slotO 1) (valO (pureW (.im (.int 0)))))) [2] (.nm 2) yesT (callW F_is_car (consD (varW 0) (consD (varW 2) nilW))))) nilW)))) (notT (testW (callW F_is_tuple (consD (op2W itemD (slotO 1) (valO (pureW (.im (.int 1))))) (consD (pureW (.im (.int 0))) (consD (op2W itemD (slotO 0) (valO (pureW (.im (.int 0))))) nilW))))))) (retS (pureW (.im (.bl false)))) nextS)
    (seqS (ifS (orT (notT (testW (opNW (g1 allD) (consO (valO (compW (seqI (op2W itemD (slotO 1) (valO (pureW (.im (.int 1)))))) [3] (.nm 3) yesT (callW F_is_integer (consD (varW 3) (consD (pureW (.im (.int 0))) (consD (op2W subD (valO (op2W itemD (slotO 0) (valO (pureW (.im (.int 0)))))) (valO (pureW (.im (.int 1))))) nilW)))))) nilW)))) (notT (testW (callW F_is_rising (consD (op2W itemD (slotO 1) (valO (pureW (.im (.int 1))))) nilW))))) (retS (pureW (.im (.bl false)))) nextS)
    (retS (opNW (g1 allD) (consO (valO (compW (seqI (op2W itemD (slotO 1) (valO (pureW (.im (.int 1)))))) [3] (.nm 3) yesT (op2W neD (valO (callW F_trips_from (consD (varW 0) (consD (varW 3) nilW)))) (valO (tupW nilW))))) nilW))))))
def F_is_standing_of : WF := defW 2 4 w_is_standing_of
theorem ar_is_standing_of : Ar 2 F_is_standing_of := ar_def
def w_check_standing : WS :=
    (ifS (notT (testW (callW F_is_standing_of (consD (varW 0) (consD (varW 1) nilW))))) (raiseS "BadStanding" (varW 1)) nextS)
def F_check_standing : WF := defW 2 2 w_check_standing
theorem ar_check_standing : Ar 2 F_check_standing := ar_def
def w_is_own : WS :=
    (seqS (thenF 3 (setS 3 (opNW (g1 absD) (consO (valO (op2W subD (valO (op2W itemD (valO (op2W itemD (slotO 0) (slotO 1))) (valO (pureW (.im (.int 0)))))) (slotO 2))) nilW))))
    (seqS (setS 4 (compW (enumAI (consD (varW 0) nilW)) [5, 6] (.tp [(.nm 5), (.nm 6)]) (testW (op2W neD (slotO 5) (slotO 1))) (op2W subD (valO (opNW (g1 absD) (consO (valO (op2W subD (valO (op2W itemD (slotO 6) (valO (pureW (.im (.int 0)))))) (slotO 2))) nilW))) (valO (opNW (g1 intD) (consO (valO (op2W ltD (slotO 5) (slotO 1))) nilW))))))
    (retS (opNW (g1 allD) (consO (valO (compW (seqI (varW 4)) [7] (.nm 7) yesT (op2W geD (slotO 7) (slotO 3)))) nilW)))))
def F_is_own : WF := defW 3 8 w_is_own
theorem ar_is_own : Ar 3 F_is_own := ar_def
def w_is_nearer : WS :=
    (retS (andV (op2W neD (slotO 0) (valO (lstW nilW))) (orV (op2W eqD (slotO 1) (valO (lstW nilW))) (op2W ltD (valO (opNW (g1 minLD) (consO (slotO 0) nilW))) (valO (opNW (g1 minLD) (consO (slotO 1) nilW)))))))
def F_is_nearer : WF := defW 2 2 w_is_nearer
theorem ar_is_nearer : Ar 2 F_is_nearer := ar_def
def w_seen_by : WS :=
    (seqS (unpS (.tp [(.nm 3), (.nm 4)]) (varW 1))
    (seqS (unpS (.tp [(.nm 5), (.nm 6), (.nm 7)]) (op2W itemD (slotO 3) (slotO 2)))
    (seqS (setS 8 (compW (range1I (consD (op2W itemD (slotO 0) (valO (pureW (.im (.int 0))))) nilW)) [9] (.nm 9) (andT (testW (op2W neD (slotO 9) (slotO 5))) (orT (testW (op2W inD (slotO 9) (slotO 4))) (testW (op2W inD (slotO 9) (slotO 7))))) (varW 9)))
    (seqS (parS 10 11 (compW (seqI (varW 8)) [9] (.nm 9) (testW (op2W gtD (slotO 9) (slotO 5))) (op2W subD (slotO 9) (slotO 5))) (compW (seqI (varW 8)) [12] (.nm 12) (testW (op2W ltD (slotO 12) (slotO 5))) (op2W subD (slotO 5) (slotO 12))))
    (seqS (setS 13 (compW (seqI (varW 4)) [9] (.nm 9) (testW (callW F_is_own (consD (varW 3) (consD (varW 2) (consD (varW 9) nilW))))) (varW 9)))
    (seqS (setS 14 (tupW (consD (op2W inD (slotO 5) (slotO 4)) (consD (op2W inD (slotO 5) (slotO 7)) (consD (op2W ltD (valO (opNW (g1 lenD) (consO (slotO 7) nilW))) (valO (op2W itemD (slotO 0) (valO (pureW (.im (.int 2))))))) (consD (op2W eqD (slotO 6) (valO (pureW (.im (.str "up"))))) (consD (op2W eqD (slotO 6) (valO (pureW (.im (.str "down"))))) (consD (op2W eqD (slotO 5) (valO (op2W subD (valO (op2W itemD (slotO 0) (valO (pureW (.im (.int 0)))))) (valO (pureW (.im (.int 1))))))) (consD (op2W eqD (slotO 5) (valO (pureW (.im (.int 0))))) (consD (opNW (g1 anyD) (consO (valO (compW (seqI (varW 4)) [9] (.nm 9) yesT (op2W gtD (slotO 9) (slotO 5)))) nilW)) (consD (opNW (g1 anyD) (consO (valO (compW (seqI (varW 4)) [9] (.nm 9) yesT (op2W ltD (slotO 9) (slotO 5)))) nilW)) (consD (opNW (g1 anyD) (consO (valO (compW (seqI (varW 7)) [9] (.nm 9) yesT (op2W gtD (slotO 9) (slotO 5)))) nilW)) (consD (opNW (g1 anyD) (consO (valO (compW (seqI (varW 7)) [9] (.nm 9) yesT (op2W ltD (slotO 9) (slotO 5)))) nilW)) (consD (callW F_is_nearer (consD (varW 10) (consD (varW 11) nilW))) (consD (callW F_is_nearer (consD (varW 11) (consD (varW 10) nilW))) (consD (opNW (g1 anyD) (consO (valO (compW (seqI (varW 13)) [9] (.nm 9) yesT (op2W gtD (slotO 9) (slotO 5)))) nilW)) (consD (opNW (g1 anyD) (consO (valO (compW (seqI (varW 13)) [9] (.nm 9) yesT (op2W ltD (slotO 9) (slotO 5)))) nilW)) (consD (op2W gtD (valO (m1W "list" countD (valO (compW (seqI (varW 3)) [12] (.nm 12) yesT (op2W itemD (slotO 12) (valO (pureW (.im (.int 0))))))) (slotO 5))) (valO (pureW (.im (.int 1))))) nilW))))))))))))))))))
    (retS (dictZipW (valO (pureW (.im (.tup (k_WORDS.map .str))))) (slotO 14)))))))))
def F_seen_by : WF := defW 3 15 w_seen_by
theorem ar_seen_by : Ar 3 F_seen_by := ar_def
def w_clause_there : WS :=
    (seqS (thenF 4 (setS 4 (callW F_seen_by (consD (varW 0) (consD (varW 2) (consD (varW 3) nilW))))))
    (seqS (forS (enumAI (consD (varW 1) nilW)) (.tp [(.nm 5), (.tp [(.nm 6), (.nm 7)])]) (ifS (testW (opNW (g1 allD) (consO (valO (compW (seqI (varW 6)) [8, 9] (.tp [(.nm 8), (.nm 9)]) yesT (op2W eqD (valO (op2W dgetD (slotO 4) (slotO 8))) (slotO 9)))) nilW))) (retV 5) nextS))
    (retS (pureW (.im .non)))))
def F_clause_there : WF := defW 4 10 w_clause_there
theorem ar_clause_there : Ar 4 F_clause_there := ar_def
def w_deed_there : WS :=
    (seqS (setS 4 (callW F_clause_there (consD (varW 0) (consD (varW 1) (consD (varW 2) (consD (varW 3) nilW))))))
    (retS (ifV (testW (op2W isNoneD (slotO 4) (valO (pureW (.im .non))))) (pureW (.im (.str "rest"))) (op2W itemD (valO (op2W itemD (slotO 1) (slotO 4))) (valO (pureW (.im (.int 1))))))))
def F_deed_there : WF := defW 4 5 w_deed_there
theorem ar_deed_there : Ar 4 F_deed_there := ar_def
def w_check_car : WS :=
    (seqS (dropS (callW F_check_standing (consD (varW 0) (consD (varW 1) nilW))))
    (ifS (notT (testW (callW F_is_integer (consD (varW 2) (consD (pureW (.im (.int 0))) (consD (op2W subD (valO (op2W itemD (slotO 0) (valO (pureW (.im (.int 1)))))) (valO (pureW (.im (.int 1))))) nilW)))))) (raiseS "BadCar" (varW 2)) nextS))
def F_check_car : WF := defW 3 3 w_check_car
theorem ar_check_car : Ar 3 F_check_car := ar_def
def w_sees : WS :=
    (seqS (dropS (callW F_check_building (consD (varW 0) nilW)))
    (seqS (dropS (callW F_check_car (consD (varW 0) (consD (varW 1) (consD (varW 2) nilW)))))
    (retS (callW F_seen_by (consD (varW 0) (consD (varW 1) (consD (varW 2) nilW)))))))
def F_sees : WF := defW 3 3 w_sees
theorem ar_sees : Ar 3 F_sees := ar_def
def w_clause_of : WS :=
    (seqS (dropS (callW F_check_building (consD (varW 0) nilW)))
    (seqS (dropS (callW F_check_rule (consD (varW 1) nilW)))
    (seqS (dropS (callW F_check_car (consD (varW 0) (consD (varW 2) (consD (varW 3) nilW)))))
    (retS (callW F_clause_there (consD (varW 0) (consD (varW 1) (consD (varW 2) (consD (varW 3) nilW)))))))))
def F_clause_of : WF := defW 4 4 w_clause_of
theorem ar_clause_of : Ar 4 F_clause_of := ar_def
def w_deed_of : WS :=
    (seqS (dropS (callW F_check_building (consD (varW 0) nilW)))
    (seqS (dropS (callW F_check_rule (consD (varW 1) nilW)))
    (seqS (dropS (callW F_check_car (consD (varW 0) (consD (varW 2) (consD (varW 3) nilW)))))
    (retS (callW F_deed_there (consD (varW 0) (consD (varW 1) (consD (varW 2) (consD (varW 3) nilW)))))))))
def F_deed_of : WF := defW 4 4 w_deed_of
theorem ar_deed_of : Ar 4 F_deed_of := ar_def
def w__law_of : WS :=
    (retS (op2W itemD (slotO 1) (valO (callW takeW (consD (varW 0) (consD (opNW (g1 lenD) (consO (slotO 1) nilW)) nilW))))))
def F__law_of : WF := defW 2 2 w__law_of
theorem ar__law_of : Ar 2 F__law_of := ar_def
def w__law_cells : WS :=
    (retS (lstRgW (opNW (g2 max2D) (consO (valO (pureW (.im (.int 1)))) (consO (valO (opNW (g2 min2D) (consO (slotO 1) (consO (valO (opNW (g1 lenD) (consO (slotO 0) nilW))) nilW)))) nilW)))))
def F__law_cells : WF := defW 2 2 w__law_cells
theorem ar__law_cells : Ar 2 F__law_cells := ar_def
def w__law_some : WS :=
    (seqS (parS 3 4 (opNW (g1 lstOfD) (consO (slotO 1) nilW)) (lstW nilW))
    (seqS (forS (range1I (consD (varW 2) nilW)) (.nm 5) (dropS (ownW 4 (consD (ownW 3 (consD (callW takeW (consD (varW 0) (consD (opNW (g1 lenD) (consO (slotO 3) nilW)) nilW))) nilW) popAtF) nilW) appendF)))
    (retV 4)))
def F__law_some : WF := defW 3 6 w__law_some
theorem ar__law_some : Ar 3 F__law_some := ar_def
def w__law_building_4 : WS :=
    (retS (tupW (consD (varW 4) (consD (op2W addD (valO (pureW (.im (.int 1)))) (valO (callW takeW (consD (varW 0) (consD (varW 2) nilW))))) (consD (op2W addD (valO (pureW (.im (.int 1)))) (valO (callW takeW (consD (varW 0) (consD (varW 3) nilW))))) (consD (opNW (g1 tupOfD) (consO (valO (sortW (slotO 8))) nilW)) nilW))))))
def w__law_building_3 : WS :=
    (seqS (setS 8 (callW F__law_some (consD (varW 0) (consD (varW 5) (consD (op2W addD (valO (pureW (.im (.int 1)))) (valO (callW takeW (consD (varW 0) (consD (opNW (g1 lenD) (consO (slotO 5) nilW)) nilW))))) nilW))))) w__law_building_4)
def w__law_building_2 : WS :=
    (seqS (forS (range1I (consD (varW 4) nilW)) (.nm 6) (dropS (ownW 5 (consD (compW (range1I (consD (varW 4) nilW)) [7] (.nm 7) (testW (op2W neD (slotO 6) (slotO 7))) (tupW (consD (varW 6) (consD (varW 7) nilW)))) nilW) extendF))) w__law_building_3)
def w__law_building_1 : WS :=
    (seqS (setS 5 (lstW nilW)) w__law_building_2)
def w__law_building : WS :=
    (seqS (setS 4 (op2W addD (valO (pureW (.im (.int 2)))) (valO (callW takeW (consD (varW 0) (consD (op2W subD (slotO 1) (valO (pureW (.im (.int 1))))) nilW)))))) w__law_building_1)
def F__law_building : WF := defW 4 9 w__law_building
theorem ar__law_building : Ar 4 F__law_building := ar_def
def w__law_words : WS :=
    (seqS (setS 0 (lstW (consD (pureW (.im (.str "here"))) (consD (pureW (.im (.str "out"))) (consD (pureW (.im (.str "room"))) (consD (pureW (.im (.str "up"))) (consD (pureW (.im (.str "down"))) (consD (pureW (.im (.str "top"))) (consD (pureW (.im (.str "bottom"))) (consD (pureW (.im (.str "calls above"))) (consD (pureW (.im (.str "calls below"))) (consD (pureW (.im (.str "wishes above"))) nilW))))))))))))
    (retS (op2W addD (slotO 0) (valO (lstW (consD (pureW (.im (.str "wishes below"))) (consD (pureW (.im (.str "near above"))) (consD (pureW (.im (.str "near below"))) (consD (pureW (.im (.str "own above"))) (consD (pureW (.im (.str "own below"))) (consD (pureW (.im (.str "company"))) nilW)))))))))))
def F__law_words : WF := defW 0 1 w__law_words
theorem ar__law_words : Ar 0 F__law_words := ar_def
def w__law_known : WS :=
    (seqS (parS 1 2 (pureW (.im (.str "calls"))) (lstW (consD (pureW (.im (.str "open if out"))) (consD (pureW (.im (.str "open if here and room"))) nilW))))
    (seqS (ifS (testW (op2W eqD (slotO 0) (valO (pureW (.im (.str "nearest")))))) (retS (op2W addD (slotO 2) (valO (lstW (consD (pureW (.im (.str "up if near above"))) (consD (pureW (.im (.str "down if near below"))) (consD (pureW (.im (.str "up if calls above"))) (consD (pureW (.im (.str "up if wishes above"))) nilW)))))))) nextS)
    (seqS (ifS (testW (op2W eqD (slotO 0) (valO (pureW (.im (.str "loop")))))) (retS (op2W addD (slotO 2) (valO (lstW (consD (pureW (.im (.str "up if bottom"))) (consD (pureW (.im (.str "down if top"))) (consD (pureW (.im (.str "down if down"))) (consD (pureW (.im (.str "up"))) nilW)))))))) nextS)
    (seqS (ifS (testW (op2W eqD (slotO 0) (valO (pureW (.im (.str "highest")))))) (seqS (setS 3 (lstW (consD (pureW (.im (.str "open if out"))) (consD (pureW (.im (.str "open if here and room and no calls above"))) (consD (pureW (.im (.str "up if calls above and room"))) nilW)))))
    (retS (op2W addD (slotO 3) (valO (lstW (consD (pureW (.im (.str "down if calls below and room"))) (consD (pureW (.im (.str "up if wishes above"))) (consD (pureW (.im (.str "down if wishes below"))) nilW)))))))) nextS)
    (seqS (ifS (testW (op2W eqD (slotO 0) (valO (pureW (.im (.str "group")))))) (setS 1 (pureW (.im (.str "own")))) nextS)
    (seqS (setS 3 (lstW (consD (op2W addD (valO (op2W addD (valO (pureW (.im (.str "up if up and ")))) (slotO 1))) (valO (pureW (.im (.str " above"))))) (consD (pureW (.im (.str "up if up and wishes above"))) (consD (op2W addD (valO (op2W addD (valO (pureW (.im (.str "down if down and ")))) (slotO 1))) (valO (pureW (.im (.str " below"))))) nilW)))))
    (seqS (setS 3 (op2W addD (slotO 3) (valO (lstW (consD (pureW (.im (.str "down if down and wishes below"))) (consD (op2W addD (valO (op2W addD (valO (pureW (.im (.str "up if ")))) (slotO 1))) (valO (pureW (.im (.str " above"))))) (consD (pureW (.im (.str "up if wishes above"))) nilW)))))))
    (retS (op2W addD (valO (op2W addD (slotO 2) (slotO 3))) (valO (lstW (consD (op2W addD (valO (op2W addD (valO (pureW (.im (.str "down if ")))) (slotO 1))) (valO (pureW (.im (.str " below"))))) (consD (pureW (.im (.str "down if wishes below"))) nilW)))))))))))))
def F__law_known : WF := defW 1 4 w__law_known
theorem ar__law_known : Ar 1 F__law_known := ar_def
def w__law_clause_in : WS :=
    (seqS (parS 1 2 (op2W itemD (valO (m1W "str" splitD (slotO 0) (valO (pureW (.im (.str " if ")))))) (valO (pureW (.im (.int 0))))) (sliceW (valO (m1W "str" splitD (slotO 0) (valO (pureW (.im (.str " if ")))))) (someP (pureW (.im (.int 1)))) noneP))
    (seqS (setS 3 (lstW nilW))
    (seqS (forS (seqI (ifV (testW (op2W neD (slotO 2) (valO (lstW nilW)))) (m1W "str" splitD (valO (op2W itemD (slotO 2) (valO (pureW (.im (.int 0)))))) (valO (pureW (.im (.str " and "))))) (lstW nilW))) (.nm 4) (dropS (ownW 3 (consD (ifV (testW (op2W eqD (valO (sliceW (slotO 4) noneP (someP (pureW (.im (.int 3)))))) (valO (pureW (.im (.str "no ")))))) (tupW (consD (sliceW (slotO 4) (someP (pureW (.im (.int 3)))) noneP) (consD (pureW (.im (.bl false))) nilW))) (tupW (consD (varW 4) (consD (pureW (.im (.bl true))) nilW)))) nilW) appendF)))
    (retS (tupW (consD (opNW (g1 tupOfD) (consO (slotO 3) nilW)) (consD (varW 1) nilW)))))))
def F__law_clause_in : WF := defW 1 5 w__law_clause_in
theorem ar__law_clause_in : Ar 1 F__law_clause_in := ar_def
def w__law_clause : WS :=
    (seqS (setS 1 (compW (seqI (callW F__law_some (consD (varW 0) (consD (callW F__law_words nilW) (consD (callW F__law_of (consD (varW 0) (consD (lstW (consD (pureW (.im (.int 0))) (consD (pureW (.im (.int 1))) (consD (pureW (.im (.int 1))) (consD (pureW (.im (.int 2))) (consD (pureW (.im (.int 2))) (consD (pureW (.im (.int 3))) (consD (pureW (.im (.int 4))) nilW)))))))) nilW))) nilW))))) [2] (.nm 2) yesT (tupW (consD (varW 2) (consD (op2W gtD (valO (callW takeW (consD (varW 0) (consD (pureW (.im (.int 3))) nilW)))) (valO (pureW (.im (.int 0))))) nilW)))))
    (retS (tupW (consD (opNW (g1 tupOfD) (consO (slotO 1) nilW)) (consD (callW F__law_of (consD (varW 0) (consD (lstW (consD (pureW (.im (.str "open"))) (consD (pureW (.im (.str "open"))) (consD (pureW (.im (.str "up"))) (consD (pureW (.im (.str "down"))) (consD (pureW (.im (.str "rest"))) nilW)))))) nilW))) nilW)))))
def F__law_clause : WF := defW 1 3 w__law_clause
theorem ar__law_clause : Ar 1 F__law_clause := ar_def
def w__law_rule_5 : WS :=
    (retS (opNW (g1 tupOfD) (consO (slotO 2) nilW)))
def w__law_rule_4 : WS :=
    (seqS (ifS (testW (op2W eqD (slotO 3) (valO (pureW (.im (.int 1)))))) (setS 2 (op2W addD (valO (sliceW (slotO 2) noneP (someP (varW 5)))) (valO (sliceW (slotO 2) (someP (op2W addD (slotO 5) (valO (pureW (.im (.int 1)))))) noneP)))) (ifS (testW (op2W eqD (slotO 3) (valO (pureW (.im (.int 2)))))) (setS 2 (op2W addD (valO (op2W addD (valO (sliceW (slotO 2) noneP (someP (varW 5)))) (valO (lstW (consD (callW F__law_clause (consD (varW 0) nilW)) nilW))))) (valO (sliceW (slotO 2) (someP (varW 5)) noneP)))) (ifS (testW (op2W eqD (slotO 3) (valO (pureW (.im (.int 3)))))) (swapS 2 5 6) nextS))) w__law_rule_5)
def w__law_rule_3 : WS :=
    (seqS (ifS (testW (op2W eqD (slotO 3) (valO (pureW (.im (.int 0)))))) (retS (opNW (g1 tupOfD) (consO (valO (compW (range1I (consD (op2W addD (valO (pureW (.im (.int 1)))) (valO (callW takeW (consD (varW 0) (consD (pureW (.im (.int 8))) nilW))))) nilW)) [7] (.nm 7) yesT (callW F__law_clause (consD (varW 0) nilW)))) nilW))) nextS) w__law_rule_4)
def w__law_rule_2 : WS :=
    (seqS (parS 5 6 (callW takeW (consD (varW 0) (consD (opNW (g1 lenD) (consO (slotO 2) nilW)) nilW))) (callW takeW (consD (varW 0) (consD (opNW (g1 lenD) (consO (slotO 2) nilW)) nilW)))) w__law_rule_3)
def w__law_rule_1 : WS :=
    (seqS (parS 2 3 (compW (seqI (callW F__law_known (consD (varW 1) nilW))) [4] (.nm 4) yesT (callW F__law_clause_in (consD (varW 4) nilW))) (callW takeW (consD (varW 0) (consD (pureW (.im (.int 6))) nilW)))) w__law_rule_2)
def w__law_rule : WS :=
    (seqS (setS 1 (callW F__law_of (consD (varW 0) (consD (lstW (consD (pureW (.im (.str "collect"))) (consD (pureW (.im (.str "collect"))) (consD (pureW (.im (.str "loop"))) (consD (pureW (.im (.str "nearest"))) (consD (pureW (.im (.str "highest"))) (consD (pureW (.im (.str "group"))) nilW))))))) nilW)))) w__law_rule_1)
def F__law_rule : WF := defW 1 8 w__law_rule
theorem ar__law_rule : Ar 1 F__law_rule := ar_def
def w__law_from : WS :=
    (retS (compW (seqI (op2W itemD (slotO 0) (valO (pureW (.im (.int 3)))))) [2, 3] (.tp [(.nm 2), (.nm 3)]) (testW (op2W eqD (slotO 2) (slotO 1))) (varW 3)))
def F__law_from : WF := defW 2 4 w__law_from
theorem ar__law_from : Ar 2 F__law_from := ar_def
def w__law_nearer : WS :=
    (retS (andV (op2W neD (slotO 0) (valO (lstW nilW))) (orV (op2W eqD (slotO 1) (valO (lstW nilW))) (op2W ltD (valO (opNW (g1 minLD) (consO (slotO 0) nilW))) (valO (opNW (g1 minLD) (consO (slotO 1) nilW)))))))
def F__law_nearer : WF := defW 2 2 w__law_nearer
theorem ar__law_nearer : Ar 2 F__law_nearer := ar_def
def w__law_sees : WS :=
    (seqS (unpS (.tp [(.nm 3), (.nm 4)]) (varW 1))
    (seqS (unpS (.tp [(.nm 5), (.nm 6), (.nm 7)]) (op2W itemD (slotO 3) (slotO 2)))
    (seqS (setS 8 (compW (range1I (consD (op2W itemD (slotO 0) (valO (pureW (.im (.int 0))))) nilW)) [9] (.nm 9) (andT (testW (op2W neD (slotO 9) (slotO 5))) (orT (testW (op2W inD (slotO 9) (slotO 4))) (testW (op2W inD (slotO 9) (slotO 7))))) (varW 9)))
    (seqS (parS 10 11 (compW (seqI (varW 8)) [9] (.nm 9) (testW (op2W gtD (slotO 9) (slotO 5))) (op2W subD (slotO 9) (slotO 5))) (compW (seqI (varW 8)) [9] (.nm 9) (testW (op2W ltD (slotO 9) (slotO 5))) (op2W subD (slotO 5) (slotO 9))))
    (seqS (setS 12 (lstW nilW))
    (seqS (forS (seqI (varW 4)) (.nm 9) (seqS (setS 13 (compW (range1I (consD (opNW (g1 lenD) (consO (slotO 3) nilW)) nilW)) [14] (.nm 14) (testW (op2W neD (slotO 14) (slotO 2))) (tupW (consD (opNW (g1 absD) (consO (valO (op2W subD (valO (op2W itemD (valO (op2W itemD (slotO 3) (slotO 14))) (valO (pureW (.im (.int 0)))))) (slotO 9))) nilW)) (consD (varW 14) nilW)))))
    (ifS (notT (testW (opNW (g1 anyD) (consO (valO (compW (seqI (varW 13)) [15] (.nm 15) yesT (op2W ltD (slotO 15) (valO (tupW (consD (opNW (g1 absD) (consO (valO (op2W subD (slotO 5) (slotO 9))) nilW)) (consD (varW 2) nilW))))))) nilW)))) (dropS (ownW 12 (consD (varW 9) nilW) appendF)) nextS)))
    (seqS (setS 16 (dispW ["here", "out", "room"] (consD (op2W inD (slotO 5) (slotO 4)) (consD (op2W inD (slotO 5) (slotO 7)) (consD (op2W ltD (valO (opNW (g1 lenD) (consO (slotO 7) nilW))) (valO (op2W itemD (slotO 0) (valO (pureW (.im (.int 2))))))) nilW)))))
    (seqS (dropS (ownDW 16 (consD (dispW ["up", "down", "top", "bottom"] (consD (op2W eqD (slotO 6) (valO (pureW (.im (.str "up"))))) (consD (op2W eqD (slotO 6) (valO (pureW (.im (.str "down"))))) (consD (op2W eqD (slotO 5) (valO (op2W subD (valO (op2W itemD (slotO 0) (valO (pureW (.im (.int 0)))))) (valO (pureW (.im (.int 1))))))) (consD (op2W eqD (slotO 5) (valO (pureW (.im (.int 0))))) nilW))))) nilW) updateF))
    (seqS (dropS (ownDW 16 (consD (dispW ["calls above", "calls below"] (consD (opNW (g1 anyD) (consO (valO (compW (seqI (varW 4)) [9] (.nm 9) yesT (op2W gtD (slotO 9) (slotO 5)))) nilW)) (consD (opNW (g1 anyD) (consO (valO (compW (seqI (varW 4)) [9] (.nm 9) yesT (op2W ltD (slotO 9) (slotO 5)))) nilW)) nilW))) nilW) updateF))
    (seqS (dropS (ownDW 16 (consD (dispW ["wishes above"] (consD (opNW (g1 anyD) (consO (valO (compW (seqI (varW 7)) [9] (.nm 9) yesT (op2W gtD (slotO 9) (slotO 5)))) nilW)) nilW)) nilW) updateF))
    (seqS (dropS (ownDW 16 (consD (dispW ["wishes below"] (consD (opNW (g1 anyD) (consO (valO (compW (seqI (varW 7)) [9] (.nm 9) yesT (op2W ltD (slotO 9) (slotO 5)))) nilW)) nilW)) nilW) updateF))
    (seqS (dropS (ownDW 16 (consD (dispW ["near above", "near below"] (consD (callW F__law_nearer (consD (varW 10) (consD (varW 11) nilW))) (consD (callW F__law_nearer (consD (varW 11) (consD (varW 10) nilW))) nilW))) nilW) updateF))
    (seqS (dropS (ownDW 16 (consD (dispW ["own above", "own below"] (consD (opNW (g1 anyD) (consO (valO (compW (seqI (varW 12)) [9] (.nm 9) yesT (op2W gtD (slotO 9) (slotO 5)))) nilW)) (consD (opNW (g1 anyD) (consO (valO (compW (seqI (varW 12)) [9] (.nm 9) yesT (op2W ltD (slotO 9) (slotO 5)))) nilW)) nilW))) nilW) updateF))
    (seqS (dputS 16 (valO (pureW (.im (.str "company")))) (op2W gtD (valO (opNW (g1 lenD) (consO (valO (compW (seqI (varW 3)) [9] (.nm 9) (testW (op2W eqD (valO (op2W itemD (slotO 9) (valO (pureW (.im (.int 0)))))) (slotO 5))) (varW 9))) nilW))) (valO (pureW (.im (.int 1))))))
    (retV 16)))))))))))))))
def F__law_sees : WF := defW 3 17 w__law_sees
theorem ar__law_sees : Ar 3 F__law_sees := ar_def
def w__law_clause_of : WS :=
    (seqS (thenF 4 (setS 4 (callW F__law_sees (consD (varW 0) (consD (varW 2) (consD (varW 3) nilW))))))
    (seqS (forS (enumAI (consD (varW 1) nilW)) (.tp [(.nm 5), (.tp [(.nm 6), (.nm 7)])]) (ifS (testW (opNW (g1 allD) (consO (valO (compW (seqI (varW 6)) [8, 9] (.tp [(.nm 8), (.nm 9)]) yesT (op2W eqD (valO (op2W dgetD (slotO 4) (slotO 8))) (slotO 9)))) nilW))) (retV 5) nextS))
    (retS (pureW (.im .non)))))
def F__law_clause_of : WF := defW 4 10 w__law_clause_of
theorem ar__law_clause_of : Ar 4 F__law_clause_of := ar_def
def w__law_deed_of : WS :=
    (seqS (setS 4 (callW F__law_clause_of (consD (varW 0) (consD (varW 1) (consD (varW 2) (consD (varW 3) nilW))))))
    (retS (ifV (testW (op2W isNoneD (slotO 4) (valO (pureW (.im .non))))) (pureW (.im (.str "rest"))) (op2W itemD (valO (op2W itemD (slotO 1) (slotO 4))) (valO (pureW (.im (.int 1))))))))
def F__law_deed_of : WF := defW 4 5 w__law_deed_of
theorem ar__law_deed_of : Ar 4 F__law_deed_of := ar_def
def w__law_standing_3 : WS :=
    (retS (tupW (consD (opNW (g1 tupOfD) (consO (slotO 2) nilW)) (consD (opNW (g1 tupOfD) (consO (slotO 6) nilW)) nilW))))
def w__law_standing_2 : WS :=
    (seqS (setS 6 (compW (range1I (consD (op2W itemD (slotO 1) (valO (pureW (.im (.int 0))))) nilW)) [7] (.nm 7) (andT (testW (op2W neD (valO (callW F__law_from (consD (varW 1) (consD (varW 7) nilW)))) (valO (lstW nilW)))) (testW (op2W eqD (valO (callW takeW (consD (varW 0) (consD (pureW (.im (.int 2))) nilW)))) (valO (pureW (.im (.int 0))))))) (varW 7))) w__law_standing_3)
def w__law_standing_1 : WS :=
    (seqS (forS (range1I (consD (op2W itemD (slotO 1) (valO (pureW (.im (.int 1))))) nilW)) (.nm 3) (seqS (setS 4 (sortW (valO (compW (range1I (consD (callW takeW (consD (varW 0) (consD (op2W addD (valO (op2W itemD (slotO 1) (valO (pureW (.im (.int 2)))))) (valO (pureW (.im (.int 1))))) nilW))) nilW)) [5] (.nm 5) yesT (callW takeW (consD (varW 0) (consD (op2W itemD (slotO 1) (valO (pureW (.im (.int 0))))) nilW)))))))
    (dropS (ownW 2 (consD (tupW (consD (opNW (g1 intD) (consO (valO (callW takeW (consD (varW 0) (consD (op2W itemD (slotO 1) (valO (pureW (.im (.int 0))))) nilW)))) nilW)) (consD (callW F__law_of (consD (varW 0) (consD (lstW (consD (pureW (.im (.str "none"))) (consD (pureW (.im (.str "up"))) (consD (pureW (.im (.str "down"))) nilW)))) nilW))) (consD (opNW (g1 tupOfD) (consO (slotO 4) nilW)) nilW)))) nilW) appendF)))) w__law_standing_2)
def w__law_standing : WS :=
    (seqS (setS 2 (lstW nilW)) w__law_standing_1)
def F__law_standing : WF := defW 2 8 w__law_standing
theorem ar__law_standing : Ar 2 F__law_standing := ar_def
def w__law_word : WS :=
    (seqS (setS 1 (lstW (consD (tupW (consD (isEW excNames "BadBuilding" (slotO 0)) (consD (pureW (.im (.str "building"))) nilW))) (consD (tupW (consD (isEW excNames "BadRule" (slotO 0)) (consD (pureW (.im (.str "rule"))) nilW))) nilW))))
    (seqS (dropS (ownW 1 (consD (lstW (consD (tupW (consD (isEW excNames "BadStanding" (slotO 0)) (consD (pureW (.im (.str "standing"))) nilW))) (consD (tupW (consD (isEW excNames "BadCar" (slotO 0)) (consD (pureW (.im (.str "car"))) nilW))) nilW))) nilW) extendF))
    (retS (compW (seqI (varW 1)) [2, 3] (.tp [(.nm 2), (.nm 3)]) (testW (varW 2)) (varW 3)))))
def F__law_word : WF := defW 1 4 w__law_word
theorem ar__law_word : Ar 1 F__law_word := ar_def
def w__law_is_refused (κ : D → WF) : WS :=
    (seqS (setS 3 (op2W itemD (valO (callKW (fun _ => κ) (heardC excNames) (consD (varW 0) nilW))) (valO (pureW (.im (.int 0))))))
    (retS (andV (op2W eqD (valO (callW F__law_word (consD (varW 3) nilW))) (valO (lstW (consD (varW 1) nilW)))) (op2W eqD (valO (opNW (g1 reprD) (consO (valO (op1W (excVD excNames) (slotO 3))) nilW))) (valO (opNW (g1 reprD) (consO (slotO 2) nilW)))))))
def F__law_is_refused : (D → WF) → WF := fun κ => defW 3 4 (w__law_is_refused κ)
theorem ar__law_is_refused : ArK 3 F__law_is_refused := arK_def
def lw_0 : W :=
    (callW F_sees (consD (varW 4) (consD (pureW (.im .non)) (consD (varW 5) nilW))))
def lw_1 : W :=
    (callW F_deed_of (consD (varW 4) (consD (pureW (.im .non)) (consD (pureW (.im .non)) (consD (varW 5) nilW)))))
def lw_2 : W :=
    (callW F_deed_of (consD (varW 1) (consD (varW 4) (consD (pureW (.im .non)) (consD (varW 5) nilW)))))
def lw_3 : W :=
    (callW F_clause_of (consD (varW 1) (consD (varW 2) (consD (varW 4) (consD (varW 5) nilW)))))
def lw_4 : W :=
    (callW F_sees (consD (varW 1) (consD (varW 4) (consD (varW 5) nilW))))
def lw_5 : W :=
    (callW F_clause_of (consD (varW 1) (consD (varW 2) (consD (varW 3) (consD (varW 5) nilW)))))
def lw_6 : W :=
    (callW F_sees (consD (varW 1) (consD (varW 3) (consD (varW 5) nilW))))
def lams__law_are_refused : List (Nat × Nat × W) := [(0, 0, lw_0), (1, 0, lw_1), (2, 0, lw_2), (3, 0, lw_3), (4, 0, lw_4), (5, 0, lw_5), (6, 0, lw_6)]
def w__law_are_refused (cl : List (Str × Addr)) : WS :=
    (seqS (parS 4 5 (callW F__law_of (consD (varW 0) (consD (lstW (consD (pureW (.im .non)) (consD (pureW (.im (.int 7))) (consD (pureW (.im (.str "a"))) (consD (lstW (consD (varW 1) nilW)) (consD (tupW (consD (pureW (.im (.int 2))) (consD (pureW (.im (.int 1))) (consD (pureW (.im (.int 1))) (consD (tupW nilW) nilW))))) nilW)))))) nilW))) (callW F__law_of (consD (varW 0) (consD (lstW (consD (op1W negD (valO (pureW (.im (.int 1))))) (consD (op2W itemD (slotO 1) (valO (pureW (.im (.int 1))))) (consD (pureW (.im (.bl true))) (consD (pureW (.im .non)) (consD (pureW (.im (.str "0"))) nilW)))))) nilW))))
    (seqS (ifS (notT (testW (callKW (kap cl (lamTab lams__law_are_refused)) F__law_is_refused (consD (lamW 0 cl) (consD (pureW (.im (.str "building"))) (consD (varW 4) nilW)))))) (retS (pureW (.im (.bl false)))) nextS)
    (seqS (ifS (notT (testW (callKW (kap cl (lamTab lams__law_are_refused)) F__law_is_refused (consD (lamW 1 cl) (consD (pureW (.im (.str "building"))) (consD (varW 4) nilW)))))) (retS (pureW (.im (.bl false)))) nextS)
    (seqS (ifS (notT (testW (callKW (kap cl (lamTab lams__law_are_refused)) F__law_is_refused (consD (lamW 2 cl) (consD (pureW (.im (.str "rule"))) (consD (varW 4) nilW)))))) (retS (pureW (.im (.bl false)))) nextS)
    (seqS (ifS (notT (testW (callKW (kap cl (lamTab lams__law_are_refused)) F__law_is_refused (consD (lamW 3 cl) (consD (pureW (.im (.str "standing"))) (consD (varW 4) nilW)))))) (retS (pureW (.im (.bl false)))) nextS)
    (seqS (ifS (notT (testW (callKW (kap cl (lamTab lams__law_are_refused)) F__law_is_refused (consD (lamW 4 cl) (consD (pureW (.im (.str "standing"))) (consD (varW 4) nilW)))))) (retS (pureW (.im (.bl false)))) nextS)
    (seqS (ifS (notT (testW (callKW (kap cl (lamTab lams__law_are_refused)) F__law_is_refused (consD (lamW 5 cl) (consD (pureW (.im (.str "car"))) (consD (varW 5) nilW)))))) (retS (pureW (.im (.bl false)))) nextS)
    (retS (callKW (kap cl (lamTab lams__law_are_refused)) F__law_is_refused (consD (lamW 6 cl) (consD (pureW (.im (.str "car"))) (consD (varW 5) nilW))))))))))))
def F__law_are_refused : WF := defC 4 6 w__law_are_refused
theorem ar__law_are_refused : Ar 4 F__law_are_refused := ar_defC
def w__law_right_2 : WS :=
    (retS (callW F__law_are_refused (consD (varW 0) (consD (varW 1) (consD (varW 2) (consD (varW 4) nilW))))))
def w__law_right_1 : WS :=
    (seqS (forS (range1I (consD (pureW (.im (.int 12))) nilW)) (.nm 3) (seqS (setS 4 (callW F__law_standing (consD (varW 0) (consD (varW 1) nilW))))
    (forS (range1I (consD (op2W itemD (slotO 1) (valO (pureW (.im (.int 1))))) nilW)) (.nm 5) (seqS (parS 6 7 (callW F__law_sees (consD (varW 1) (consD (varW 4) (consD (varW 5) nilW)))) (callW F_sees (consD (varW 1) (consD (varW 4) (consD (varW 5) nilW)))))
    (seqS (ifS (orT (notT (testW (isiW .dict (slotO 7)))) (orT (testW (op2W neD (valO (sortDctW (slotO 7))) (valO (sortDctW (slotO 6))))) (testW (op2W neD (valO (opNW (g1 dlenD) (consO (slotO 6) nilW))) (valO (pureW (.im (.int 16)))))))) (retS (pureW (.im (.bl false)))) nextS)
    (seqS (ifS (testW (op2W neD (valO (opNW (g1 reprD) (consO (valO (compW (seqI (callW F__law_words nilW)) [8] (.nm 8) yesT (op2W dgetD (slotO 7) (slotO 8)))) nilW))) (valO (opNW (g1 reprD) (consO (valO (compW (seqI (callW F__law_words nilW)) [8] (.nm 8) yesT (op2W dgetD (slotO 6) (slotO 8)))) nilW))))) (retS (pureW (.im (.bl false)))) nextS)
    (seqS (dputS 7 (valO (pureW (.im (.str "here")))) (pureW (.im (.str "no"))))
    (seqS (setS 9 (tupW (consD (callW F_clause_of (consD (varW 1) (consD (varW 2) (consD (varW 4) (consD (varW 5) nilW))))) (consD (callW F_deed_of (consD (varW 1) (consD (varW 2) (consD (varW 4) (consD (varW 5) nilW))))) nilW))))
    (seqS (setS 10 (callW F__law_clause_of (consD (varW 1) (consD (varW 2) (consD (varW 4) (consD (varW 5) nilW))))))
    (seqS (ifS (testW (op2W neD (valO (opNW (g1 reprD) (consO (slotO 9) nilW))) (valO (opNW (g1 reprD) (consO (valO (tupW (consD (varW 10) (consD (callW F__law_deed_of (consD (varW 1) (consD (varW 2) (consD (varW 4) (consD (varW 5) nilW))))) nilW)))) nilW))))) (retS (pureW (.im (.bl false)))) nextS)
    (ifS (testW (op2W neD (valO (opNW (g1 reprD) (consO (valO (op2W dgetD (valO (callW F_sees (consD (varW 1) (consD (varW 4) (consD (varW 5) nilW))))) (valO (pureW (.im (.str "here")))))) nilW))) (valO (opNW (g1 reprD) (consO (valO (op2W dgetD (slotO 6) (valO (pureW (.im (.str "here")))))) nilW))))) (retS (pureW (.im (.bl false)))) nextS))))))))))) w__law_right_2)
def w__law_right : WS :=
    (seqS (parS 1 2 (callW F__law_building (consD (varW 0) (consD (pureW (.im (.int 8))) (consD (pureW (.im (.int 3))) (consD (pureW (.im (.int 4))) nilW))))) (callW F__law_rule (consD (varW 0) nilW))) w__law_right_1)
def F__law_right : WF := defW 1 11 w__law_right
theorem ar__law_right : Ar 1 F__law_right := ar_def
def w_law_1 : WS :=
    (retS (pureW (.im (.bl true))))
def w_law : WS :=
    (seqS (forS (seqI (callW F__law_cells (consD (varW 0) (consD (pureW (.im (.int 3))) nilW)))) (.nm 1) (seqS (thenF 2 (setS 2 (callW potW (consD (varW 0) (consD (varW 1) nilW)))))
    (ifS (notT (testW (opNW (g1 allD) (consO (valO (compW (range1I (consD (pureW (.im (.int 2))) nilW)) [3] (.nm 3) yesT (callW F__law_right (consD (varW 2) nilW)))) nilW)))) (retS (pureW (.im (.bl false)))) nextS))) w_law_1)
def F_law : WF := defW 1 4 w_law
theorem ar_law : Ar 1 F_law := ar_def
end LW
set_option Elab.async false
set_option linter.all false
set_option maxRecDepth 100000
set_option maxHeartbeats 4000000
set_option autoImplicit false
/-! Printed by pr.py: the walks of the law. -/
namespace LW
open PySem PySem.Spec PyProof.Rows L2 NB

def topS (i : Nat) : Stmt := PySem.Challenge.pw_nobodyleft_k05_what_cars_see_and_do.main.body.getD i (.Pass ⟨0, 0, 0, 0⟩)
abbrev st_is_tuple : Stmt := topS 1
theorem sc_is_tuple : FnScope ["value", "least", "most"] ["value", "least", "most"] (defScope st_is_tuple) := ⟨rfl, rfl, rfl, by decide +kernel, rfl, by decide +kernel, by decide +kernel⟩

abbrev st_is_whole : Stmt := topS 2
theorem sc_is_whole : FnScope ["value"] ["value"] (defScope st_is_whole) := ⟨rfl, rfl, rfl, by decide +kernel, rfl, by decide +kernel, by decide +kernel⟩

abbrev st_is_integer : Stmt := topS 3
theorem sc_is_integer : FnScope ["value", "low", "high"] ["value", "low", "high"] (defScope st_is_integer) := ⟨rfl, rfl, rfl, by decide +kernel, rfl, by decide +kernel, by decide +kernel⟩

abbrev st_is_word : Stmt := topS 4
theorem sc_is_word : FnScope ["value", "words"] ["value", "words"] (defScope st_is_word) := ⟨rfl, rfl, rfl, by decide +kernel, rfl, by decide +kernel, by decide +kernel⟩

abbrev st_is_rising : Stmt := topS 5
theorem sc_is_rising : FnScope ["values", "one", "other"] ["values"] (defScope st_is_rising) := ⟨rfl, rfl, rfl, by decide +kernel, rfl, by decide +kernel, by decide +kernel⟩

abbrev st_is_trip : Stmt := topS 21
theorem sc_is_trip : FnScope ["value", "floors", "floor"] ["value", "floors"] (defScope st_is_trip) := ⟨rfl, rfl, rfl, by decide +kernel, rfl, by decide +kernel, by decide +kernel⟩

abbrev st_is_building : Stmt := topS 22
theorem sc_is_building : FnScope ["value", "floors", "cars", "room", "trips", "trip"] ["value"] (defScope st_is_building) := ⟨rfl, rfl, rfl, by decide +kernel, rfl, by decide +kernel, by decide +kernel⟩

abbrev st_check_building : Stmt := topS 23
theorem sc_check_building : FnScope ["value"] ["value"] (defScope st_check_building) := ⟨rfl, rfl, rfl, by decide +kernel, rfl, by decide +kernel, by decide +kernel⟩

abbrev st_trips_from : Stmt := topS 24
theorem sc_trips_from : FnScope ["building", "floor", "one", "other"] ["building", "floor"] (defScope st_trips_from) := ⟨rfl, rfl, rfl, by decide +kernel, rfl, by decide +kernel, by decide +kernel⟩

abbrev st_is_test : Stmt := topS 31
theorem sc_is_test : FnScope ["value"] ["value"] (defScope st_is_test) := ⟨rfl, rfl, rfl, by decide +kernel, rfl, by decide +kernel, by decide +kernel⟩

abbrev st_is_clause : Stmt := topS 32
theorem sc_is_clause : FnScope ["value", "test", "words", "word", "due"] ["value"] (defScope st_is_clause) := ⟨rfl, rfl, rfl, by decide +kernel, rfl, by decide +kernel, by decide +kernel⟩

abbrev st_is_rule : Stmt := topS 33
theorem sc_is_rule : FnScope ["value", "clause"] ["value"] (defScope st_is_rule) := ⟨rfl, rfl, rfl, by decide +kernel, rfl, by decide +kernel, by decide +kernel⟩

abbrev st_check_rule : Stmt := topS 34
theorem sc_check_rule : FnScope ["value"] ["value"] (defScope st_check_rule) := ⟨rfl, rfl, rfl, by decide +kernel, rfl, by decide +kernel, by decide +kernel⟩

abbrev st_is_car : Stmt := topS 42
theorem sc_is_car : FnScope ["building", "value", "floor", "one", "other"] ["building", "value"] (defScope st_is_car) := ⟨rfl, rfl, rfl, by decide +kernel, rfl, by decide +kernel, by decide +kernel⟩

abbrev st_is_standing_of : Stmt := topS 43
theorem sc_is_standing_of : FnScope ["building", "value", "car", "floor"] ["building", "value"] (defScope st_is_standing_of) := ⟨rfl, rfl, rfl, by decide +kernel, rfl, by decide +kernel, by decide +kernel⟩

abbrev st_check_standing : Stmt := topS 44
theorem sc_check_standing : FnScope ["building", "value"] ["building", "value"] (defScope st_check_standing) := ⟨rfl, rfl, rfl, by decide +kernel, rfl, by decide +kernel, by decide +kernel⟩

abbrev st_is_own : Stmt := topS 45
theorem sc_is_own : FnScope ["cars", "car", "floor", "far", "others", "number", "one", "other"] ["cars", "car", "floor"] (defScope st_is_own) := ⟨rfl, rfl, rfl, by decide +kernel, rfl, by decide +kernel, by decide +kernel⟩

abbrev st_is_nearer : Stmt := topS 46
theorem sc_is_nearer : FnScope ["some", "others"] ["some", "others"] (defScope st_is_nearer) := ⟨rfl, rfl, rfl, by decide +kernel, rfl, by decide +kernel, by decide +kernel⟩

abbrev st_seen_by : Stmt := topS 47
theorem sc_seen_by : FnScope ["building", "standing", "car", "cars", "lit", "floor", "heading", "load", "asked", "other", "above", "below", "one", "own", "told"] ["building", "standing", "car"] (defScope st_seen_by) := ⟨rfl, rfl, rfl, by decide +kernel, rfl, by decide +kernel, by decide +kernel⟩

abbrev st_clause_there : Stmt := topS 48
theorem sc_clause_there : FnScope ["building", "rule", "standing", "car", "seen", "number", "tests", "deed", "word", "due"] ["building", "rule", "standing", "car"] (defScope st_clause_there) := ⟨rfl, rfl, rfl, by decide +kernel, rfl, by decide +kernel, by decide +kernel⟩

abbrev st_deed_there : Stmt := topS 49
theorem sc_deed_there : FnScope ["building", "rule", "standing", "car", "number"] ["building", "rule", "standing", "car"] (defScope st_deed_there) := ⟨rfl, rfl, rfl, by decide +kernel, rfl, by decide +kernel, by decide +kernel⟩

abbrev st_check_car : Stmt := topS 51
theorem sc_check_car : FnScope ["building", "standing", "car"] ["building", "standing", "car"] (defScope st_check_car) := ⟨rfl, rfl, rfl, by decide +kernel, rfl, by decide +kernel, by decide +kernel⟩

abbrev st_sees : Stmt := topS 52
theorem sc_sees : FnScope ["building", "standing", "car"] ["building", "standing", "car"] (defScope st_sees) := ⟨rfl, rfl, rfl, by decide +kernel, rfl, by decide +kernel, by decide +kernel⟩

abbrev st_clause_of : Stmt := topS 53
theorem sc_clause_of : FnScope ["building", "rule", "standing", "car"] ["building", "rule", "standing", "car"] (defScope st_clause_of) := ⟨rfl, rfl, rfl, by decide +kernel, rfl, by decide +kernel, by decide +kernel⟩

abbrev st_deed_of : Stmt := topS 54
theorem sc_deed_of : FnScope ["building", "rule", "standing", "car"] ["building", "rule", "standing", "car"] (defScope st_deed_of) := ⟨rfl, rfl, rfl, by decide +kernel, rfl, by decide +kernel, by decide +kernel⟩

abbrev st__law_pot : Stmt := topS 56
theorem sc__law_pot : FnScope ["script", "place", "cell", "own", "small"] ["script", "place"] (defScope st__law_pot) := ⟨rfl, rfl, rfl, by decide +kernel, rfl, by decide +kernel, by decide +kernel⟩

abbrev st__law_take : Stmt := topS 57
theorem sc__law_take : FnScope ["pot", "upto", "digit", "prime", "blend"] ["pot", "upto"] (defScope st__law_take) := ⟨rfl, rfl, rfl, by decide +kernel, rfl, by decide +kernel, by decide +kernel⟩

abbrev st__law_of : Stmt := topS 58
theorem sc__law_of : FnScope ["pot", "some"] ["pot", "some"] (defScope st__law_of) := ⟨rfl, rfl, rfl, by decide +kernel, rfl, by decide +kernel, by decide +kernel⟩

abbrev st__law_cells : Stmt := topS 59
theorem sc__law_cells : FnScope ["script", "limit"] ["script", "limit"] (defScope st__law_cells) := ⟨rfl, rfl, rfl, by decide +kernel, rfl, by decide +kernel, by decide +kernel⟩

abbrev st__law_some : Stmt := topS 60
theorem sc__law_some : FnScope ["pot", "pool", "many", "rests", "found", "lap"] ["pot", "pool", "many"] (defScope st__law_some) := ⟨rfl, rfl, rfl, by decide +kernel, rfl, by decide +kernel, by decide +kernel⟩

abbrev st__law_heard : Stmt := topS 61
theorem sc__law_heard : FnScope ["call", "caught", "back", "error"] ["call"] (defScope st__law_heard) := ⟨rfl, rfl, rfl, by decide +kernel, rfl, by decide +kernel, by decide +kernel⟩

abbrev st__law_building : Stmt := topS 62
theorem sc__law_building : FnScope ["pot", "floors", "cars", "room", "many", "trips", "one", "other", "some"] ["pot", "floors", "cars", "room"] (defScope st__law_building) := ⟨rfl, rfl, rfl, by decide +kernel, rfl, by decide +kernel, by decide +kernel⟩

abbrev st__law_words : Stmt := topS 63
theorem sc__law_words : FnScope ["found"] [] (defScope st__law_words) := ⟨rfl, rfl, rfl, by decide +kernel, rfl, by decide +kernel, by decide +kernel⟩

abbrev st__law_known : Stmt := topS 64
theorem sc__law_known : FnScope ["name", "calls", "head", "rows"] ["name"] (defScope st__law_known) := ⟨rfl, rfl, rfl, by decide +kernel, rfl, by decide +kernel, by decide +kernel⟩

abbrev st__law_clause_in : Stmt := topS 65
theorem sc__law_clause_in : FnScope ["row", "deed", "tests", "found", "test"] ["row"] (defScope st__law_clause_in) := ⟨rfl, rfl, rfl, by decide +kernel, rfl, by decide +kernel, by decide +kernel⟩

abbrev st__law_clause : Stmt := topS 66
theorem sc__law_clause : FnScope ["pot", "tests", "word"] ["pot"] (defScope st__law_clause) := ⟨rfl, rfl, rfl, by decide +kernel, rfl, by decide +kernel, by decide +kernel⟩

abbrev st__law_rule : Stmt := topS 67
theorem sc__law_rule : FnScope ["pot", "name", "rows", "way", "row", "at", "to", "lap"] ["pot"] (defScope st__law_rule) := ⟨rfl, rfl, rfl, by decide +kernel, rfl, by decide +kernel, by decide +kernel⟩

abbrev st__law_from : Stmt := topS 68
theorem sc__law_from : FnScope ["building", "floor", "one", "other"] ["building", "floor"] (defScope st__law_from) := ⟨rfl, rfl, rfl, by decide +kernel, rfl, by decide +kernel, by decide +kernel⟩

abbrev st__law_nearer : Stmt := topS 69
theorem sc__law_nearer : FnScope ["some", "others"] ["some", "others"] (defScope st__law_nearer) := ⟨rfl, rfl, rfl, by decide +kernel, rfl, by decide +kernel, by decide +kernel⟩

abbrev st__law_sees : Stmt := topS 70
theorem sc__law_sees : FnScope ["building", "standing", "car", "cars", "lit", "floor", "heading", "load", "asked", "one", "above", "below", "own", "rivals", "other", "rival", "found"] ["building", "standing", "car"] (defScope st__law_sees) := ⟨rfl, rfl, rfl, by decide +kernel, rfl, by decide +kernel, by decide +kernel⟩

abbrev st__law_clause_of : Stmt := topS 71
theorem sc__law_clause_of : FnScope ["building", "rule", "standing", "car", "seen", "number", "tests", "deed", "word", "due"] ["building", "rule", "standing", "car"] (defScope st__law_clause_of) := ⟨rfl, rfl, rfl, by decide +kernel, rfl, by decide +kernel, by decide +kernel⟩

abbrev st__law_deed_of : Stmt := topS 72
theorem sc__law_deed_of : FnScope ["building", "rule", "standing", "car", "number"] ["building", "rule", "standing", "car"] (defScope st__law_deed_of) := ⟨rfl, rfl, rfl, by decide +kernel, rfl, by decide +kernel, by decide +kernel⟩

abbrev st__law_standing : Stmt := topS 73
theorem sc__law_standing : FnScope ["pot", "building", "cars", "car", "load", "lap", "floors", "floor"] ["pot", "building"] (defScope st__law_standing) := ⟨rfl, rfl, rfl, by decide +kernel, rfl, by decide +kernel, by decide +kernel⟩

abbrev st__law_word : Stmt := topS 74
theorem sc__law_word : FnScope ["caught", "kinds", "is_kind", "word"] ["caught"] (defScope st__law_word) := ⟨rfl, rfl, rfl, by decide +kernel, rfl, by decide +kernel, by decide +kernel⟩

abbrev st__law_is_refused : Stmt := topS 75
theorem sc__law_is_refused : FnScope ["call", "word", "value", "caught"] ["call", "word", "value"] (defScope st__law_is_refused) := ⟨rfl, rfl, rfl, by decide +kernel, rfl, by decide +kernel, by decide +kernel⟩

abbrev st__law_are_refused : Stmt := topS 76
theorem sc__law_are_refused : FnScope ["pot", "building", "rule", "standing", "odd", "car"] ["pot", "building", "rule", "standing"] (defScope st__law_are_refused) := ⟨rfl, rfl, rfl, by decide +kernel, rfl, by decide +kernel, by decide +kernel⟩

abbrev st__law_right : Stmt := topS 77
theorem sc__law_right : FnScope ["pot", "building", "rule", "lap", "standing", "car", "due", "seen", "word", "told", "number"] ["pot"] (defScope st__law_right) := ⟨rfl, rfl, rfl, by decide +kernel, rfl, by decide +kernel, by decide +kernel⟩

abbrev st_law : Stmt := topS 78
theorem sc_law : FnScope ["script", "place", "pot", "lap"] ["script"] (defScope st_law) := ⟨rfl, rfl, rfl, by decide +kernel, rfl, by decide +kernel, by decide +kernel⟩

abbrev st_init : Stmt := methS (topS 7) 0
theorem sc_init : FnScope ["self", "value"] ["self", "value"] (defScope st_init) := ⟨rfl, rfl, rfl, by decide +kernel, rfl, by decide +kernel, by decide +kernel⟩
theorem h__law_heard {X : Cx} {CS : Addr} (hL : X.mg "LiftError" = some (.ref CS)) (g : Addr) (cdg : Value) (q : Str) : HearsK X ["call", "caught", "back", "error"] "_law_heard" (defScope st__law_heard) g cdg (defBody st__law_heard) "call" q (TTheard X.K CS) := fun f c' s H Q tl act hc h => ⟨_,
    pss_cons (ps_asg (pe_tup (pa_cons pe_non (pa_cons pe_non pa_nil))) (pg_tup rfl (pgs_cons (pg_name (i := 1) sc__law_heard.nd (by rfl) (.inl rfl)) (pgs_cons (pg_name (i := 2) sc__law_heard.nd (by rfl) (.inl rfl)) pgs_nil))))
      (pss_cons (ps_try_keep (X := (hCx X ["call", "caught", "back", "error"] "_law_heard" (defScope st__law_heard) g cdg s H).nox) (c := .ref CS) (i := 3) (tb := fun W => tAsg (fun σZ HZ Q => σZ[0]? = some (some (V.ref f)) ∧ HZ c' = some (LamX.CodeO c' q) ∧ ∃ (E : XK) (Q' : VK), (∀ v H', Q' v H' → Q v H') ∧ (∀ cls d H', E cls d H' → W cls d σZ H') ∧ tl E HZ Q') (gName 2)) (ts := fun _ _ _ => tAsg (tVar 3) (gName 1)) rfl rfl sc__law_heard.nd (by rfl) (by rfl) ⟨by rfl, by decide, .inl hL⟩ rfl
        (fun W pn xe tk _ => pss_one (ps_set (i := 2) sc__law_heard.nd (by rfl) (.inl rfl) (act W pn xe _ _ tk))) (fun a oe cls d pn _ _ => pss_one (ps_set (i := 1) sc__law_heard.nd (by rfl) (.inl rfl) (pv 3))))
      (pss_one (ps_ret (pe_tup (pa_cons (pv 1) (pa_cons (pv 2) pa_nil)))))), heard_read hc h⟩
/-- the text behind the top -/
structure Tx (K : PySem.W.Frag) (mg : Str → Option Value) : Prop where
  d_is_tuple : Df K mg "is_tuple" st_is_tuple ["value", "least", "most"]
  d_is_whole : Df K mg "is_whole" st_is_whole ["value"]
  d_is_integer : Df K mg "is_integer" st_is_integer ["value", "low", "high"]
  d_is_word : Df K mg "is_word" st_is_word ["value", "words"]
  d_is_rising : Df K mg "is_rising" st_is_rising ["values"]
  d_is_trip : Df K mg "is_trip" st_is_trip ["value", "floors"]
  d_is_building : Df K mg "is_building" st_is_building ["value"]
  d_check_building : Df K mg "check_building" st_check_building ["value"]
  d_trips_from : Df K mg "trips_from" st_trips_from ["building", "floor"]
  d_is_test : Df K mg "is_test" st_is_test ["value"]
  d_is_clause : Df K mg "is_clause" st_is_clause ["value"]
  d_is_rule : Df K mg "is_rule" st_is_rule ["value"]
  d_check_rule : Df K mg "check_rule" st_check_rule ["value"]
  d_is_car : Df K mg "is_car" st_is_car ["building", "value"]
  d_is_standing_of : Df K mg "is_standing_of" st_is_standing_of ["building", "value"]
  d_check_standing : Df K mg "check_standing" st_check_standing ["building", "value"]
  d_is_own : Df K mg "is_own" st_is_own ["cars", "car", "floor"]
  d_is_nearer : Df K mg "is_nearer" st_is_nearer ["some", "others"]
  d_seen_by : Df K mg "seen_by" st_seen_by ["building", "standing", "car"]
  d_clause_there : Df K mg "clause_there" st_clause_there ["building", "rule", "standing", "car"]
  d_deed_there : Df K mg "deed_there" st_deed_there ["building", "rule", "standing", "car"]
  d_check_car : Df K mg "check_car" st_check_car ["building", "standing", "car"]
  d_sees : Df K mg "sees" st_sees ["building", "standing", "car"]
  d_clause_of : Df K mg "clause_of" st_clause_of ["building", "rule", "standing", "car"]
  d_deed_of : Df K mg "deed_of" st_deed_of ["building", "rule", "standing", "car"]
  d__law_pot : Df K mg "_law_pot" st__law_pot ["script", "place"]
  d__law_take : Df K mg "_law_take" st__law_take ["pot", "upto"]
  d__law_of : Df K mg "_law_of" st__law_of ["pot", "some"]
  d__law_cells : Df K mg "_law_cells" st__law_cells ["script", "limit"]
  d__law_some : Df K mg "_law_some" st__law_some ["pot", "pool", "many"]
  d__law_heard : Df K mg "_law_heard" st__law_heard ["call"]
  d__law_building : Df K mg "_law_building" st__law_building ["pot", "floors", "cars", "room"]
  d__law_words : Df K mg "_law_words" st__law_words []
  d__law_known : Df K mg "_law_known" st__law_known ["name"]
  d__law_clause_in : Df K mg "_law_clause_in" st__law_clause_in ["row"]
  d__law_clause : Df K mg "_law_clause" st__law_clause ["pot"]
  d__law_rule : Df K mg "_law_rule" st__law_rule ["pot"]
  d__law_from : Df K mg "_law_from" st__law_from ["building", "floor"]
  d__law_nearer : Df K mg "_law_nearer" st__law_nearer ["some", "others"]
  d__law_sees : Df K mg "_law_sees" st__law_sees ["building", "standing", "car"]
  d__law_clause_of : Df K mg "_law_clause_of" st__law_clause_of ["building", "rule", "standing", "car"]
  d__law_deed_of : Df K mg "_law_deed_of" st__law_deed_of ["building", "rule", "standing", "car"]
  d__law_standing : Df K mg "_law_standing" st__law_standing ["pot", "building"]
  d__law_word : Df K mg "_law_word" st__law_word ["caught"]
  d__law_is_refused : Df K mg "_law_is_refused" st__law_is_refused ["call", "word", "value"]
  d__law_are_refused : DfL K mg "_law_are_refused" st__law_are_refused ["pot", "building", "rule", "standing"]
  d__law_right : Df K mg "_law_right" st__law_right ["pot"]
  s_UP : ∃ t, mg "UP" = some (.str "up" t)
  s_DOWN : ∃ t, mg "DOWN" = some (.str "down" t)
  s_REST : ∃ t, mg "REST" = some (.str "rest" t)
  g_LEAST_FLOORS : ∃ t, mg "LEAST_FLOORS" = some (.int 2 t)
  g_MOST_FLOORS : ∃ t, mg "MOST_FLOORS" = some (.int 8 t)
  g_MOST_CARS : ∃ t, mg "MOST_CARS" = some (.int 3 t)
  g_MOST_ROOM : ∃ t, mg "MOST_ROOM" = some (.int 4 t)
  g_MOST_TRIPS : ∃ t, mg "MOST_TRIPS" = some (.int 56 t)
  g_PAIR_buildings : ∃ t, mg "PAIR_buildings" = some (.int 2 t)
  g_TRIPLE_buildings : ∃ t, mg "TRIPLE_buildings" = some (.int 3 t)
  g_FOUR : ∃ t, mg "FOUR" = some (.int 4 t)
  g_MOST_CLAUSES : ∃ t, mg "MOST_CLAUSES" = some (.int 20 t)
  g_MOST_TESTS : ∃ t, mg "MOST_TESTS" = some (.int 4 t)
  g_PAIR_rules : ∃ t, mg "PAIR_rules" = some (.int 2 t)
  g_PAIR_steps : ∃ t, mg "PAIR_steps" = some (.int 2 t)
  g_TRIPLE_steps : ∃ t, mg "TRIPLE_steps" = some (.int 3 t)
  g_WORDS : ∃ u, mg "WORDS" = some u ∧ TupK K u (k_WORDS.map V.str)
  g_DEEDS : ∃ u, mg "DEEDS" = some u ∧ TupK K u (k_DEEDS.map V.str)
  g_HEADINGS : ∃ u, mg "HEADINGS" = some u ∧ TupK K u (k_HEADINGS.map V.str)
  m_ValueError : mg "ValueError" = none
  m_abs : mg "abs" = none
  m_all : mg "all" = none
  m_any : mg "any" = none
  m_bool : mg "bool" = none
  m_dict : mg "dict" = none
  m_enumerate : mg "enumerate" = none
  m_int : mg "int" = none
  m_isinstance : mg "isinstance" = none
  m_len : mg "len" = none
  m_list : mg "list" = none
  m_max : mg "max" = none
  m_min : mg "min" = none
  m_range : mg "range" = none
  m_repr : mg "repr" = none
  m_sorted : mg "sorted" = none
  m_str : mg "str" = none
  m_sum : mg "sum" = none
  m_tuple : mg "tuple" = none
  m_zip : mg "zip" = none
/-! ### they do it -/
section
variable {Pr : Program} {w : World} {K : PySem.W.Frag} {mg : Str → Option Value} {base : Heap} {fI CS : Addr} {ad : Str → Addr} {fdI : FuncData}
theorem c_is_tuple (V : Tx K mg) (B : Ec Pr w K mg base excNames fI CS ad fdI) : Cl Pr w K mg base 1 "is_tuple" 3 F_is_tuple := cl_of V.d_is_tuple sc_is_tuple fun f cdv A outer s H E F0 P0 hr hg lv hx =>
    (dss_one (ds_ret (de_and (de_isi (by rfl) V.m_isinstance (ty_tuple (by rfl) V.m_tuple) (do_var (pv 0))) (de_one (de_chain op_leDD op_leDD (do_var (pv 1)) (do_of (de_callB oc_len (by rfl) V.m_len bt_len (doa_cons (do_var (pv 0)) doa_nil (by rfl)))) (do_var (pv 2)) (by rfl))))))
theorem c_is_whole (V : Tx K mg) (B : Ec Pr w K mg base excNames fI CS ad fdI) : Cl Pr w K mg base 1 "is_whole" 1 F_is_whole := cl_of V.d_is_whole sc_is_whole fun f cdv A outer s H E F0 P0 hr hg lv hx =>
    (dss_one (ds_ret (de_and (de_isi (by rfl) V.m_isinstance (ty_int (by rfl) V.m_int) (do_var (pv 0))) (de_one (de_not (de_isi (by rfl) V.m_isinstance (ty_bool (by rfl) V.m_bool) (do_var (pv 0))))))))
theorem c_is_integer (V : Tx K mg) (B : Ec Pr w K mg base excNames fI CS ad fdI) : Cl Pr w K mg base 2 "is_integer" 3 F_is_integer := cl_of V.d_is_integer sc_is_integer fun f cdv A outer s H E F0 P0 hr hg lv hx =>
    (dss_one (ds_ret (de_and (de_cl (c_is_whole V B) ar_is_whole (hr.mono (by omega)) hg (by rfl) (da_cons (de_var (pv 0)) da_nil (by rfl))) (de_one (de_chain op_leDD op_leDD (do_var (pv 1)) (do_var (pv 0)) (do_var (pv 2)) (by rfl))))))
theorem c_is_word (V : Tx K mg) (B : Ec Pr w K mg base excNames fI CS ad fdI) : Cl Pr w K mg base 1 "is_word" 2 F_is_word := cl_of V.d_is_word sc_is_word fun f cdv A outer s H E F0 P0 hr hg lv hx =>
    (dss_one (ds_ret (de_and (de_isi (by rfl) V.m_isinstance (ty_str (by rfl) V.m_str) (do_var (pv 0))) (de_one (de_cmp (op_inDD (u65 hr)) (do_var (pv 0)) (do_var (pv 1)) (by rfl))))))
theorem c_is_rising (V : Tx K mg) (B : Ec Pr w K mg base excNames fI CS ad fdI) : Cl Pr w K mg base 1 "is_rising" 1 F_is_rising := cl_of V.d_is_rising sc_is_rising fun f cdv A outer s H E F0 P0 hr hg lv hx =>
    (dss_one (ds_ret (de_callB (oc_all (by rfl)) (by rfl) V.m_all bt_all (doa_cons (do_of (de_comp (own := [("one", 1), ("other", 2)]) (by rfl) sc_is_rising.nd (di_zip (by rfl) V.m_zip (da_cons (de_var (pv 0)) (da_cons (de_slice (do_var (pv 0)) (dpo_some de_i) dpo_none) da_nil (by rfl)) (by rfl)) (by rfl) (by rfl)) (blkOk_by (own := [("one", 1), ("other", 2)]) (N := ["values", "one", "other"]) (sc := defScope st_is_rising) (by decide +kernel)) (by decide) (fun _ _ _ _ _ => (dp_tup rfl (dps_cons (dp_name sc_is_rising.nd (by rfl) (by first | exact .inl rfl | exact .inr rfl) (by first | exact .inl rfl | exact .inr rfl)) (dps_cons (dp_name sc_is_rising.nd (by rfl) (by first | exact .inl rfl | exact .inr rfl) (by first | exact .inl rfl | exact .inr rfl)) dps_nil (by rfl)) (by rfl)) (by rfl) (by rfl))) (fun _ _ _ _ _ => dts_nil) (fun _ _ _ _ _ => (de_cmp (op_ltDD hr.units0) (do_var (pv 1)) (do_var (pv 2)) (nomark _))) (fun _ => rfl))) doa_nil (by rfl)))))
theorem c_is_trip (V : Tx K mg) (B : Ec Pr w K mg base excNames fI CS ad fdI) : Cl Pr w K mg base 3 "is_trip" 2 F_is_trip := cl_of V.d_is_trip sc_is_trip fun f cdv A outer s H E F0 P0 hr hg lv hx =>
    (dss_cons (ds_if (PW.pt (dw_or (dt_not (dt_v (de_cl (c_is_tuple V B) ar_is_tuple (hr.mono (by omega)) hg (by rfl) (da_cons (de_var (pv 0)) (da_cons (de_gint (by rfl) V.g_PAIR_buildings) (da_cons (de_gint (by rfl) V.g_PAIR_buildings) da_nil (by rfl)) (by rfl)) (by rfl))))) (dw_or1 (dt_not (dt_v (de_callB (oc_all (by rfl)) (by rfl) V.m_all bt_all (doa_cons (do_of (de_comp (own := [("floor", 2)]) (by rfl) sc_is_trip.nd (di_seq (de_var (pv 0))) (blkOk_by (own := [("floor", 2)]) (N := ["value", "floors", "floor"]) (sc := defScope st_is_trip) (by decide +kernel)) (by decide) (fun _ _ _ _ _ => (dp_name sc_is_trip.nd (by rfl) (by first | exact .inl rfl | exact .inr rfl) (by first | exact .inl rfl | exact .inr rfl))) (fun _ _ _ _ _ => dts_nil) (fun _ _ _ _ _ => (de_cl (c_is_integer V B) ar_is_integer (hr.mono (by omega)) hg (by rfl) (da_cons (de_var (pv 2)) (da_cons de_i (da_cons (de_bin op_subD (do_var (pv 1)) (do_of de_i)) da_nil (by rfl)) (by rfl)) (by rfl)))) (fun _ => rfl))) doa_nil (by rfl)))))))) (dss_one (ds_ret de_b)) dss_nil)
    (dss_one (ds_ret (de_cmp (op_neDD hr.units) (do_of (de_item (do_var (pv 0)) (do_of de_i) (fun _ _ => rfl))) (do_of (de_item (do_var (pv 0)) (do_of de_i) (fun _ _ => rfl))) (nomark _)))))
theorem c_is_building (V : Tx K mg) (B : Ec Pr w K mg base excNames fI CS ad fdI) : Cl Pr w K mg base 4 "is_building" 1 F_is_building := cl_of V.d_is_building sc_is_building fun f cdv A outer s H E F0 P0 hr hg lv hx =>
    (dss_cons (ds_if (PW.pt (dw_or (dt_not (dt_v (de_cl (c_is_tuple V B) ar_is_tuple (hr.mono (by omega)) hg (by rfl) (da_cons (de_var (pv 0)) (da_cons (de_gint (by rfl) V.g_FOUR) (da_cons (de_gint (by rfl) V.g_FOUR) da_nil (by rfl)) (by rfl)) (by rfl))))) (dw_or1 (dt_not (dt_v (de_cl (c_is_integer V B) ar_is_integer (hr.mono (by omega)) hg (by rfl) (da_cons (de_item (do_var (pv 0)) (do_of de_i) (fun _ _ => rfl)) (da_cons (de_gint (by rfl) V.g_LEAST_FLOORS) (da_cons (de_gint (by rfl) V.g_MOST_FLOORS) da_nil (by rfl)) (by rfl)) (by rfl)))))))) (dss_one (ds_ret de_b)) dss_nil)
    (dss_cons (ds_unp (de_var (pv 0)) (dp_tup rfl (dps_cons (dp_name sc_is_building.nd (by rfl) (by first | exact .inl rfl | exact .inr rfl) (by first | exact .inl rfl | exact .inr rfl)) (dps_cons (dp_name sc_is_building.nd (by rfl) (by first | exact .inl rfl | exact .inr rfl) (by first | exact .inl rfl | exact .inr rfl)) (dps_cons (dp_name sc_is_building.nd (by rfl) (by first | exact .inl rfl | exact .inr rfl) (by first | exact .inl rfl | exact .inr rfl)) (dps_cons (dp_name sc_is_building.nd (by rfl) (by first | exact .inl rfl | exact .inr rfl) (by first | exact .inl rfl | exact .inr rfl)) dps_nil (by rfl)) (by rfl)) (by rfl)) (by rfl)) (by rfl) (by rfl)) (by rfl) (by rfl) (by rfl))
    (dss_cons (ds_if (PW.pt (dw_or (dt_not (dt_v (de_cl (c_is_integer V B) ar_is_integer (hr.mono (by omega)) hg (by rfl) (da_cons (de_var (pv 2)) (da_cons de_i (da_cons (de_gint (by rfl) V.g_MOST_CARS) da_nil (by rfl)) (by rfl)) (by rfl))))) (dw_or1 (dt_not (dt_v (de_cl (c_is_integer V B) ar_is_integer (hr.mono (by omega)) hg (by rfl) (da_cons (de_var (pv 3)) (da_cons de_i (da_cons (de_gint (by rfl) V.g_MOST_ROOM) da_nil (by rfl)) (by rfl)) (by rfl)))))))) (dss_one (ds_ret de_b)) dss_nil)
    (dss_cons (ds_if (PW.pt (dw_or (dt_not (dt_v (de_cl (c_is_tuple V B) ar_is_tuple (hr.mono (by omega)) hg (by rfl) (da_cons (de_var (pv 4)) (da_cons de_i (da_cons (de_gint (by rfl) V.g_MOST_TRIPS) da_nil (by rfl)) (by rfl)) (by rfl))))) (dw_or1 (dt_not (dt_v (de_callB (oc_all (by rfl)) (by rfl) V.m_all bt_all (doa_cons (do_of (de_comp (own := [("trip", 5)]) (by rfl) sc_is_building.nd (di_seq (de_var (pv 4))) (blkOk_by (own := [("trip", 5)]) (N := ["value", "floors", "cars", "room", "trips", "trip"]) (sc := defScope st_is_building) (by decide +kernel)) (by decide) (fun _ _ _ _ _ => (dp_name sc_is_building.nd (by rfl) (by first | exact .inl rfl | exact .inr rfl) (by first | exact .inl rfl | exact .inr rfl))) (fun _ _ _ _ _ => dts_nil) (fun _ _ _ _ _ => (de_cl (c_is_trip V B) ar_is_trip (hr.mono (by omega)) hg (by rfl) (da_cons (de_var (pv 5)) (da_cons (de_var (pv 1)) da_nil (by rfl)) (by rfl)))) (fun _ => rfl))) doa_nil (by rfl)))))))) (dss_one (ds_ret de_b)) dss_nil)
    (dss_one (ds_ret (de_cl (c_is_rising V B) ar_is_rising (hr.mono (by omega)) hg (by rfl) (da_cons (de_var (pv 4)) da_nil (by rfl)))))))))
theorem c_check_building (V : Tx K mg) (B : Ec Pr w K mg base excNames fI CS ad fdI) : Cl Pr w K mg base 5 "check_building" 1 F_check_building := cl_of V.d_check_building sc_check_building fun f cdv A outer s H E F0 P0 hr hg lv hx =>
    (dss_one (ds_if (dt_not (dt_v (de_cl (c_is_building V B) ar_is_building (hr.mono (by omega)) hg (by rfl) (da_cons (de_var (pv 0)) da_nil (by rfl))))) (dss_one (ds_raise B.es (by decide +kernel) B.io B.bi lv rfl (hr.mono (by omega)) (by rfl) (de_var (pv 0)))) dss_nil))
theorem c_trips_from (V : Tx K mg) (B : Ec Pr w K mg base excNames fI CS ad fdI) : Cl Pr w K mg base 1 "trips_from" 2 F_trips_from := cl_of V.d_trips_from sc_trips_from fun f cdv A outer s H E F0 P0 hr hg lv hx =>
    (dss_one (ds_ret (de_callTy oc_tuple (by rfl) V.m_tuple bt_tuple (doa_cons (do_of (de_comp (own := [("one", 2), ("other", 3)]) (by rfl) sc_trips_from.nd (di_seq (de_item (do_var (pv 0)) (do_of (de_gint (by rfl) V.g_TRIPLE_buildings)) (fun _ _ => rfl))) (blkOk_by (own := [("one", 2), ("other", 3)]) (N := ["building", "floor", "one", "other"]) (sc := defScope st_trips_from) (by decide +kernel)) (by decide) (fun _ _ _ _ _ => (dp_tup rfl (dps_cons (dp_name sc_trips_from.nd (by rfl) (by first | exact .inl rfl | exact .inr rfl) (by first | exact .inl rfl | exact .inr rfl)) (dps_cons (dp_name sc_trips_from.nd (by rfl) (by first | exact .inl rfl | exact .inr rfl) (by first | exact .inl rfl | exact .inr rfl)) dps_nil (by rfl)) (by rfl)) (by rfl) (by rfl))) (fun _ _ _ _ _ => (dts_one (dt_cmp (op_eqDD hr.units) (do_var (pv 2)) (do_var (pv 1)) (nomark _)))) (fun _ _ _ _ _ => (de_var (pv 3))) (fun _ => rfl))) doa_nil (by rfl)))))
theorem c_is_test (V : Tx K mg) (B : Ec Pr w K mg base excNames fI CS ad fdI) : Cl Pr w K mg base 2 "is_test" 1 F_is_test := cl_of V.d_is_test sc_is_test fun f cdv A outer s H E F0 P0 hr hg lv hx =>
    (dss_one (ds_ret (de_and (de_cl (c_is_tuple V B) ar_is_tuple (hr.mono (by omega)) hg (by rfl) (da_cons (de_var (pv 0)) (da_cons (de_gint (by rfl) V.g_PAIR_rules) (da_cons (de_gint (by rfl) V.g_PAIR_rules) da_nil (by rfl)) (by rfl)) (by rfl))) (de_and (de_cl (c_is_word V B) ar_is_word (hr.mono (by omega)) hg (by rfl) (da_cons (de_item (do_var (pv 0)) (do_of de_i) (fun _ _ => rfl)) (da_cons (de_gtup (by rfl) V.g_WORDS) da_nil (by rfl)) (by rfl))) (de_one (de_isi (by rfl) V.m_isinstance (ty_bool (by rfl) V.m_bool) (do_of (de_item (do_var (pv 0)) (do_of de_i) (fun _ _ => rfl)))))))))
theorem c_is_clause (V : Tx K mg) (B : Ec Pr w K mg base excNames fI CS ad fdI) : Cl Pr w K mg base 3 "is_clause" 1 F_is_clause := cl_of V.d_is_clause sc_is_clause fun f cdv A outer s H E F0 P0 hr hg lv hx =>
    (dss_cons (ds_if (PW.pt (dw_or (dt_not (dt_v (de_cl (c_is_tuple V B) ar_is_tuple (hr.mono (by omega)) hg (by rfl) (da_cons (de_var (pv 0)) (da_cons (de_gint (by rfl) V.g_PAIR_rules) (da_cons (de_gint (by rfl) V.g_PAIR_rules) da_nil (by rfl)) (by rfl)) (by rfl))))) (dw_or (dt_not (dt_v (de_cl (c_is_tuple V B) ar_is_tuple (hr.mono (by omega)) hg (by rfl) (da_cons (de_item (do_var (pv 0)) (do_of de_i) (fun _ _ => rfl)) (da_cons de_i (da_cons (de_gint (by rfl) V.g_MOST_TESTS) da_nil (by rfl)) (by rfl)) (by rfl))))) (dw_or1 (dt_not (dt_v (de_cl (c_is_word V B) ar_is_word (hr.mono (by omega)) hg (by rfl) (da_cons (de_item (do_var (pv 0)) (do_of de_i) (fun _ _ => rfl)) (da_cons (de_gtup (by rfl) V.g_DEEDS) da_nil (by rfl)) (by rfl))))))))) (dss_one (ds_ret de_b)) dss_nil)
    (dss_cons (ds_if (dt_not (dt_v (de_callB (oc_all (by rfl)) (by rfl) V.m_all bt_all (doa_cons (do_of (de_comp (own := [("test", 1)]) (by rfl) sc_is_clause.nd (di_seq (de_item (do_var (pv 0)) (do_of de_i) (fun _ _ => rfl))) (blkOk_by (own := [("test", 1)]) (N := ["value", "test", "words", "word", "due"]) (sc := defScope st_is_clause) (by decide +kernel)) (by decide) (fun _ _ _ _ _ => (dp_name sc_is_clause.nd (by rfl) (by first | exact .inl rfl | exact .inr rfl) (by first | exact .inl rfl | exact .inr rfl))) (fun _ _ _ _ _ => dts_nil) (fun _ _ _ _ _ => (de_cl (c_is_test V B) ar_is_test (hr.mono (by omega)) hg (by rfl) (da_cons (de_var (pv 1)) da_nil (by rfl)))) (fun _ => rfl))) doa_nil (by rfl))))) (dss_one (ds_ret de_b)) dss_nil)
    (dss_cons (ds_thenF (i := 2) (ds_set (i := 2) sc_is_clause.nd (by rfl) (by first | exact .inl rfl | exact .inr rfl) (de_comp (own := [("word", 3), ("due", 4)]) (by rfl) sc_is_clause.nd (di_seq (de_item (do_var (pv 0)) (do_of de_i) (fun _ _ => rfl))) (blkOk_by (own := [("word", 3), ("due", 4)]) (N := ["value", "test", "words", "word", "due"]) (sc := defScope st_is_clause) (by decide +kernel)) (by decide) (fun _ _ _ _ _ => (dp_tup rfl (dps_cons (dp_name sc_is_clause.nd (by rfl) (by first | exact .inl rfl | exact .inr rfl) (by first | exact .inl rfl | exact .inr rfl)) (dps_cons (dp_name sc_is_clause.nd (by rfl) (by first | exact .inl rfl | exact .inr rfl) (by first | exact .inl rfl | exact .inr rfl)) dps_nil (by rfl)) (by rfl)) (by rfl) (by rfl))) (fun _ _ _ _ _ => dts_nil) (fun _ _ _ _ _ => (de_var (pv 3))) (fun _ => rfl)) (by rfl) (.inl rfl)))
    (dss_one (ds_ret (de_callB (oc_all (by rfl)) (by rfl) V.m_all bt_all (doa_cons (do_of (de_comp (own := [("word", 3)]) (by rfl) sc_is_clause.nd (di_seq (de_var (pv 2))) (blkOk_by (own := [("word", 3)]) (N := ["value", "test", "words", "word", "due"]) (sc := defScope st_is_clause) (by decide +kernel)) (by decide) (fun _ _ _ _ _ => (dp_name sc_is_clause.nd (by rfl) (by first | exact .inl rfl | exact .inr rfl) (by first | exact .inl rfl | exact .inr rfl))) (fun _ _ _ _ _ => dts_nil) (fun _ _ _ _ _ => (de_cmp (op_eqDD hr.units) (do_of (de_m1 PySem.F.plainAttrs_list PySem.F.slot_list_count PySem.F.type_list_count (mt_countD (u65 hr)) (do_var (pv 2)) (do_var (pv 3)))) (do_of de_i) (nomark _))) (fun _ => rfl))) doa_nil (by rfl))))))))
theorem c_is_rule (V : Tx K mg) (B : Ec Pr w K mg base excNames fI CS ad fdI) : Cl Pr w K mg base 4 "is_rule" 1 F_is_rule := cl_of V.d_is_rule sc_is_rule fun f cdv A outer s H E F0 P0 hr hg lv hx =>
    (dss_one (ds_ret (de_and (de_cl (c_is_tuple V B) ar_is_tuple (hr.mono (by omega)) hg (by rfl) (da_cons (de_var (pv 0)) (da_cons de_i (da_cons (de_gint (by rfl) V.g_MOST_CLAUSES) da_nil (by rfl)) (by rfl)) (by rfl))) (de_one (de_callB (oc_all (by rfl)) (by rfl) V.m_all bt_all (doa_cons (do_of (de_comp (own := [("clause", 1)]) (by rfl) sc_is_rule.nd (di_seq (de_var (pv 0))) (blkOk_by (own := [("clause", 1)]) (N := ["value", "clause"]) (sc := defScope st_is_rule) (by decide +kernel)) (by decide) (fun _ _ _ _ _ => (dp_name sc_is_rule.nd (by rfl) (by first | exact .inl rfl | exact .inr rfl) (by first | exact .inl rfl | exact .inr rfl))) (fun _ _ _ _ _ => dts_nil) (fun _ _ _ _ _ => (de_cl (c_is_clause V B) ar_is_clause (hr.mono (by omega)) hg (by rfl) (da_cons (de_var (pv 1)) da_nil (by rfl)))) (fun _ => rfl))) doa_nil (by rfl)))))))
theorem c_check_rule (V : Tx K mg) (B : Ec Pr w K mg base excNames fI CS ad fdI) : Cl Pr w K mg base 5 "check_rule" 1 F_check_rule := cl_of V.d_check_rule sc_check_rule fun f cdv A outer s H E F0 P0 hr hg lv hx =>
    (dss_one (ds_if (dt_not (dt_v (de_cl (c_is_rule V B) ar_is_rule (hr.mono (by omega)) hg (by rfl) (da_cons (de_var (pv 0)) da_nil (by rfl))))) (dss_one (ds_raise B.es (by decide +kernel) B.io B.bi lv rfl (hr.mono (by omega)) (by rfl) (de_var (pv 0)))) dss_nil))
theorem c_is_car (V : Tx K mg) (B : Ec Pr w K mg base excNames fI CS ad fdI) : Cl Pr w K mg base 3 "is_car" 2 F_is_car := cl_of V.d_is_car sc_is_car fun f cdv A outer s H E F0 P0 hr hg lv hx =>
    (dss_cons (ds_if (PW.pt (dw_or (dt_not (dt_v (de_cl (c_is_tuple V B) ar_is_tuple (hr.mono (by omega)) hg (by rfl) (da_cons (de_var (pv 1)) (da_cons (de_gint (by rfl) V.g_TRIPLE_steps) (da_cons (de_gint (by rfl) V.g_TRIPLE_steps) da_nil (by rfl)) (by rfl)) (by rfl))))) (dw_or1 (dt_not (dt_v (de_cl (c_is_integer V B) ar_is_integer (hr.mono (by omega)) hg (by rfl) (da_cons (de_item (do_var (pv 1)) (do_of de_i) (fun _ _ => rfl)) (da_cons de_i (da_cons (de_bin op_subD (do_of (de_item (do_var (pv 0)) (do_of de_i) (fun _ _ => rfl))) (do_of de_i)) da_nil (by rfl)) (by rfl)) (by rfl)))))))) (dss_one (ds_ret de_b)) dss_nil)
    (dss_cons (ds_if (PW.pt (dw_or (dt_not (dt_v (de_cl (c_is_word V B) ar_is_word (hr.mono (by omega)) hg (by rfl) (da_cons (de_item (do_var (pv 1)) (do_of de_i) (fun _ _ => rfl)) (da_cons (de_gtup (by rfl) V.g_HEADINGS) da_nil (by rfl)) (by rfl))))) (dw_or1 (dt_not (dt_v (de_cl (c_is_tuple V B) ar_is_tuple (hr.mono (by omega)) hg (by rfl) (da_cons (de_item (do_var (pv 1)) (do_of (de_gint (by rfl) V.g_PAIR_steps)) (fun _ _ => rfl)) (da_cons de_i (da_cons (de_item (do_var (pv 0)) (do_of (de_gint (by rfl) V.g_PAIR_steps)) (fun _ _ => rfl)) da_nil (by rfl)) (by rfl)) (by rfl)))))))) (dss_one (ds_ret de_b)) dss_nil)
    (dss_cons (ds_if (dt_not (dt_v (de_callB (oc_all (by rfl)) (by rfl) V.m_all bt_all (doa_cons (do_of (de_comp (own := [("floor", 2)]) (by rfl) sc_is_car.nd (di_seq (de_item (do_var (pv 1)) (do_of (de_gint (by rfl) V.g_PAIR_steps)) (fun _ _ => rfl))) (blkOk_by (own := [("floor", 2)]) (N := ["building", "value", "floor", "one", "other"]) (sc := defScope st_is_car) (by decide +kernel)) (by decide) (fun _ _ _ _ _ => (dp_name sc_is_car.nd (by rfl) (by first | exact .inl rfl | exact .inr rfl) (by first | exact .inl rfl | exact .inr rfl))) (fun _ _ _ _ _ => dts_nil) (fun _ _ _ _ _ => (de_cl (c_is_integer V B) ar_is_integer (hr.mono (by omega)) hg (by rfl) (da_cons (de_var (pv 2)) (da_cons de_i (da_cons (de_bin op_subD (do_of (de_item (do_var (pv 0)) (do_of de_i) (fun _ _ => rfl))) (do_of de_i)) da_nil (by rfl)) (by rfl)) (by rfl)))) (fun _ => rfl))) doa_nil (by rfl))))) (dss_one (ds_ret de_b)) dss_nil)
    (dss_one (ds_ret (de_callB (oc_all (by rfl)) (by rfl) V.m_all bt_all (doa_cons (do_of (de_comp (own := [("one", 3), ("other", 4)]) (by rfl) sc_is_car.nd (di_zip (by rfl) V.m_zip (da_cons (de_item (do_var (pv 1)) (do_of (de_gint (by rfl) V.g_PAIR_steps)) (fun _ _ => rfl)) (da_cons (de_slice (do_of (de_item (do_var (pv 1)) (do_of (de_gint (by rfl) V.g_PAIR_steps)) (fun _ _ => rfl))) (dpo_some de_i) dpo_none) da_nil (by rfl)) (by rfl)) (by rfl) (by rfl)) (blkOk_by (own := [("one", 3), ("other", 4)]) (N := ["building", "value", "floor", "one", "other"]) (sc := defScope st_is_car) (by decide +kernel)) (by decide) (fun _ _ _ _ _ => (dp_tup rfl (dps_cons (dp_name sc_is_car.nd (by rfl) (by first | exact .inl rfl | exact .inr rfl) (by first | exact .inl rfl | exact .inr rfl)) (dps_cons (dp_name sc_is_car.nd (by rfl) (by first | exact .inl rfl | exact .inr rfl) (by first | exact .inl rfl | exact .inr rfl)) dps_nil (by rfl)) (by rfl)) (by rfl) (by rfl))) (fun _ _ _ _ _ => dts_nil) (fun _ _ _ _ _ => (de_cmp op_leDD (do_var (pv 3)) (do_var (pv 4)) (nomark _))) (fun _ => rfl))) doa_nil (by rfl))))))))
theorem c_is_standing_of (V : Tx K mg) (B : Ec Pr w K mg base excNames fI CS ad fdI) : Cl Pr w K mg base 4 "is_standing_of" 2 F_is_standing_of := cl_of V.d_is_standing_of sc_is_standing_of fun f cdv A outer s H E F0 P0 hr hg lv hx =>
    (dss_cons (ds_if (PW.pt (dw_or (dt_not (dt_v (de_cl (c_is_tuple V B) ar_is_tuple (hr.mono (by omega)) hg (by rfl) (da_cons (de_var (pv 1)) (da_cons (de_gint (by rfl) V.g_PAIR_steps) (da_cons (de_gint (by rfl) V.g_PAIR_steps) da_nil (by rfl)) (by rfl)) (by rfl))))) (dw_or1 (dt_not (dt_v (de_cl (c_is_tuple V B) ar_is_tuple (hr.mono (by omega)) hg (by rfl) (da_cons (de_item (do_var (pv 1)) (do_of de_i) (fun _ _ => rfl)) (da_cons (de_item (do_var (pv 0)) (do_of de_i) (fun _ _ => rfl)) (da_cons (de_item (do_var (pv 0)) (do_of de_i) (fun _ _ => rfl)) da_nil (by rfl)) (by rfl)) (by rfl)))))))) (dss_one (ds_ret de_b)) dss_nil)
    (dss_cons (ds_if (PW.pt (dw_or (dt_not (dt_v (de_callB (oc_all (by rfl)) (by rfl) V.m_all bt_all (doa_cons (do_of (de_comp (own := [("car", 2)]) (by rfl) sc_is_standing_of.nd (di_seq (de_item (do_var (pv 1)) (do_of de_i) (fun _ _ => rfl))) (blkOk_by (own := [("car", 2)]) (N := ["building", "value", "car", "floor"]) (sc := defScope st_is_standing_of) (by decide +kernel)) (by decide) (fun _ _ _ _ _ => (dp_name sc_is_standing_of.nd (by rfl) (by first | exact .inl rfl | exact .inr rfl) (by first | exact .inl rfl | exact .inr rfl))) (fun _ _ _ _ _ => dts_nil) (fun _ _ _ _ _ => (de_cl (c_is_car V B) ar_is_car (hr.mono (by omega)) hg (by rfl) (da_cons (de_var (pv 0)) (da_cons (de_var (pv 2)) da_nil (by rfl)) (by rfl)))) (fun _ => rfl))) doa_nil (by rfl))))) (dw_or1 (dt_not (dt_v (de_cl (c_is_tuple V B) ar_is_tuple (hr.mono (by omega)) hg (by rfl) (da_cons (de_item (do_var (pv 1)) (do_of de_i) (fun _ _ => rfl)) (da_cons de_i (da_cons (de_item (do_var (pv 0)) (do_of de_i) (fun _ _ => rfl)) da_nil (by rfl)) (by rfl)) (by rfl)))))))) (dss_one (ds_ret de_b)) dss_nil)
    (dss_cons (ds_if (PW.pt (dw_or (dt_not (dt_v (de_callB (oc_all (by rfl)) (by rfl) V.m_all bt_all (doa_cons (do_of (de_comp (own := [("floor", 3)]) (by rfl) sc_is_standing_of.nd (di_seq (de_item (do_var (pv 1)) (do_of de_i) (fun _ _ => rfl))) (blkOk_by (own := [("floor", 3)]) (N := ["building", "value", "car", "floor"]) (sc := defScope st_is_standing_of) (by decide +kernel)) (by decide) (fun _ _ _ _ _ => (dp_name sc_is_standing_of.nd (by rfl) (by first | exact .inl rfl | exact .inr rfl) (by first | exact .inl rfl | exact .inr rfl))) (fun _ _ _ _ _ => dts_nil) (fun _ _ _ _ _ => (de_cl (c_is_integer V B) ar_is_integer (hr.mono (by omega)) hg (by rfl) (da_cons (de_var (pv 3)) (da_cons de_i (da_cons (de_bin op_subD (do_of (de_item (do_var (pv 0)) (do_of de_i) (fun _ _ => rfl))) (do_of de_i)) da_nil (by rfl)) (by rfl)) (by rfl)))) (fun _ => rfl))) doa_nil (by rfl))))) (dw_or1 (dt_not (dt_v (de_cl (c_is_rising V B) ar_is_rising (hr.mono (by omega)) hg (by rfl) (da_cons (de_item (do_var (pv 1)) (do_of de_i) (fun _ _ => rfl)) da_nil (by rfl)))))))) (dss_one (ds_ret de_b)) dss_nil)
    (dss_one (ds_ret (de_callB (oc_all (by rfl)) (by rfl) V.m_all bt_all (doa_cons (do_of (de_comp (own := [("floor", 3)]) (by rfl) sc_is_standing_of.nd (di_seq (de_item (do_var (pv 1)) (do_of de_i) (fun _ _ => rfl))) (blkOk_by (own := [("floor", 3)]) (N := ["building", "value", "car", "floor"]) (sc := defScope st_is_standing_of) (by decide +kernel)) (by decide) (fun _ _ _ _ _ => (dp_name sc_is_standing_of.nd (by rfl) (by first | exact .inl rfl | exact .inr rfl) (by first | exact .inl rfl | exact .inr rfl))) (fun _ _ _ _ _ => dts_nil) (fun _ _ _ _ _ => (de_cmp (op_neDD hr.units) (do_of (de_cl (c_trips_from V B) ar_trips_from (hr.mono (by omega)) hg (by rfl) (da_cons (de_var (pv 0)) (da_cons (de_var (pv 3)) da_nil (by rfl)) (by rfl)))) (do_of (de_tup da_nil)) (nomark _))) (fun _ => rfl))) doa_nil (by rfl))))))))
theorem c_check_standing (V : Tx K mg) (B : Ec Pr w K mg base excNames fI CS ad fdI) : Cl Pr w K mg base 5 "check_standing" 2 F_check_standing := cl_of V.d_check_standing sc_check_standing fun f cdv A outer s H E F0 P0 hr hg lv hx =>
    (dss_one (ds_if (dt_not (dt_v (de_cl (c_is_standing_of V B) ar_is_standing_of (hr.mono (by omega)) hg (by rfl) (da_cons (de_var (pv 0)) (da_cons (de_var (pv 1)) da_nil (by rfl)) (by rfl))))) (dss_one (ds_raise B.es (by decide +kernel) B.io B.bi lv rfl (hr.mono (by omega)) (by rfl) (de_var (pv 1)))) dss_nil))
theorem c_is_own (V : Tx K mg) (B : Ec Pr w K mg base excNames fI CS ad fdI) : Cl Pr w K mg base 1 "is_own" 3 F_is_own := cl_of V.d_is_own sc_is_own fun f cdv A outer s H E F0 P0 hr hg lv hx =>
    (dss_cons (ds_thenF (i := 3) (ds_set (i := 3) sc_is_own.nd (by rfl) (by first | exact .inl rfl | exact .inr rfl) (de_callB oc_abs (by rfl) V.m_abs bt_abs (doa_cons (do_of (de_bin op_subD (do_of (de_item (do_of (de_item (do_var (pv 0)) (do_var (pv 1)) (fun _ _ => rfl))) (do_of de_i) (fun _ _ => rfl))) (do_var (pv 2)))) doa_nil (by rfl))) (by rfl) (.inl rfl)))
    (dss_cons (ds_setComp (i := 4) (own := [("number", 5), ("one", 6)]) (by rfl) sc_is_own.nd (by rfl) (by rfl) (by rfl) (di_enumA (by rfl) V.m_enumerate (da_cons (de_var (pv 0)) da_nil (by rfl)) (by rfl)) (blkOk_by (own := [("number", 5), ("one", 6)]) (N := ["cars", "car", "floor", "far", "others", "number", "one", "other"]) (sc := defScope st_is_own) (by decide +kernel)) (by decide) (fun _ _ _ _ _ => (dp_tup rfl (dps_cons (dp_name sc_is_own.nd (by rfl) (by first | exact .inl rfl | exact .inr rfl) (by first | exact .inl rfl | exact .inr rfl)) (dps_cons (dp_name sc_is_own.nd (by rfl) (by first | exact .inl rfl | exact .inr rfl) (by first | exact .inl rfl | exact .inr rfl)) dps_nil (by rfl)) (by rfl)) (by rfl) (by rfl))) (fun _ _ _ _ _ => (dts_one (dt_cmp (op_neDD hr.units) (do_var (pv 5)) (do_var (pv 1)) (nomark _)))) (fun _ _ _ _ _ => (de_bin op_subD (do_of (de_callB oc_abs (by rfl) V.m_abs bt_abs (doa_cons (do_of (de_bin op_subD (do_of (de_item (do_var (pv 6)) (do_of de_i) (fun _ _ => rfl))) (do_var (pv 2)))) doa_nil (by rfl)))) (do_of (de_callTy oc_int (by rfl) V.m_int bt_int (doa_cons (do_of (de_cmp (op_ltDD hr.units0) (do_var (pv 5)) (do_var (pv 1)) (nomark _))) doa_nil (by rfl)))))) (fun _ => rfl))
    (dss_one (ds_ret (de_callB (oc_all (by rfl)) (by rfl) V.m_all bt_all (doa_cons (do_of (de_comp (own := [("other", 7)]) (by rfl) sc_is_own.nd (di_seq (de_var (pv 4))) (blkOk_by (own := [("other", 7)]) (N := ["cars", "car", "floor", "far", "others", "number", "one", "other"]) (sc := defScope st_is_own) (by decide +kernel)) (by decide) (fun _ _ _ _ _ => (dp_name sc_is_own.nd (by rfl) (by first | exact .inl rfl | exact .inr rfl) (by first | exact .inl rfl | exact .inr rfl))) (fun _ _ _ _ _ => dts_nil) (fun _ _ _ _ _ => (de_cmp op_geDD (do_var (pv 7)) (do_var (pv 3)) (nomark _))) (fun _ => rfl))) doa_nil (by rfl)))))))
theorem c_is_nearer (V : Tx K mg) (B : Ec Pr w K mg base excNames fI CS ad fdI) : Cl Pr w K mg base 1 "is_nearer" 2 F_is_nearer := cl_of V.d_is_nearer sc_is_nearer fun f cdv A outer s H E F0 P0 hr hg lv hx =>
    (dss_one (ds_ret (de_and (de_cmp (op_neDD hr.units) (do_var (pv 0)) (do_of (de_lst da_nil)) (nomark _)) (de_one (de_or (de_cmp (op_eqDD hr.units) (do_var (pv 1)) (do_of (de_lst da_nil)) (nomark _)) (de_one (de_cmp (op_ltDD hr.units0) (do_of (de_callB (oc_minL (by rfl)) (by rfl) V.m_min bt_min (doa_cons (do_var (pv 0)) doa_nil (by rfl)))) (do_of (de_callB (oc_minL (by rfl)) (by rfl) V.m_min bt_min (doa_cons (do_var (pv 1)) doa_nil (by rfl)))) (nomark _))))))))
theorem c_seen_by (V : Tx K mg) (B : Ec Pr w K mg base excNames fI CS ad fdI) : Cl Pr w K mg base 2 "seen_by" 3 F_seen_by := cl_of V.d_seen_by sc_seen_by fun f cdv A outer s H E F0 P0 hr hg lv hx =>
    (dss_cons (ds_unp (de_var (pv 1)) (dp_tup rfl (dps_cons (dp_name sc_seen_by.nd (by rfl) (by first | exact .inl rfl | exact .inr rfl) (by first | exact .inl rfl | exact .inr rfl)) (dps_cons (dp_name sc_seen_by.nd (by rfl) (by first | exact .inl rfl | exact .inr rfl) (by first | exact .inl rfl | exact .inr rfl)) dps_nil (by rfl)) (by rfl)) (by rfl) (by rfl)) (by rfl) (by rfl) (by rfl))
    (dss_cons (ds_unp (de_item (do_var (pv 3)) (do_var (pv 2)) (fun _ _ => rfl)) (dp_tup rfl (dps_cons (dp_name sc_seen_by.nd (by rfl) (by first | exact .inl rfl | exact .inr rfl) (by first | exact .inl rfl | exact .inr rfl)) (dps_cons (dp_name sc_seen_by.nd (by rfl) (by first | exact .inl rfl | exact .inr rfl) (by first | exact .inl rfl | exact .inr rfl)) (dps_cons (dp_name sc_seen_by.nd (by rfl) (by first | exact .inl rfl | exact .inr rfl) (by first | exact .inl rfl | exact .inr rfl)) dps_nil (by rfl)) (by rfl)) (by rfl)) (by rfl) (by rfl)) (by rfl) (by rfl) (by rfl))
    (dss_cons (ds_setComp (i := 8) (own := [("other", 9)]) (by rfl) sc_seen_by.nd (by rfl) (by rfl) (by rfl) (di_range1 (by rfl) V.m_range (da_cons (de_item (do_var (pv 0)) (do_of de_i) (fun _ _ => rfl)) da_nil (by rfl)) (by rfl)) (blkOk_by (own := [("other", 9)]) (N := ["building", "standing", "car", "cars", "lit", "floor", "heading", "load", "asked", "other", "above", "below", "one", "own", "told"]) (sc := defScope st_seen_by) (by decide +kernel)) (by decide) (fun _ _ _ _ _ => (dp_name sc_seen_by.nd (by rfl) (by first | exact .inl rfl | exact .inr rfl) (by first | exact .inl rfl | exact .inr rfl))) (fun _ _ _ _ _ => (dts_one (PW.pt (dw_and (dt_cmp (op_neDD hr.units) (do_var (pv 9)) (do_var (pv 5)) (nomark _)) (dw_and1 (PW.pt (dw_or (dt_cmp (op_inDD (u65 hr)) (do_var (pv 9)) (do_var (pv 4)) (by rfl)) (dw_or1 (dt_cmp (op_inDD (u65 hr)) (do_var (pv 9)) (do_var (pv 7)) (by rfl)))))))))) (fun _ _ _ _ _ => (de_var (pv 9))) (fun _ => rfl))
    (dss_cons (ds_par (i := 10) (j := 11) (by rfl) sc_seen_by.nd (by rfl) (by rfl) (by decide) (by rfl) (by rfl) (de_comp (own := [("other", 9)]) (by rfl) sc_seen_by.nd (di_seq (de_var (pv 8))) (blkOk_by (own := [("other", 9)]) (N := ["building", "standing", "car", "cars", "lit", "floor", "heading", "load", "asked", "other", "above", "below", "one", "own", "told"]) (sc := defScope st_seen_by) (by decide +kernel)) (by decide) (fun _ _ _ _ _ => (dp_name sc_seen_by.nd (by rfl) (by first | exact .inl rfl | exact .inr rfl) (by first | exact .inl rfl | exact .inr rfl))) (fun _ _ _ _ _ => (dts_one (dt_cmp op_gtDD (do_var (pv 9)) (do_var (pv 5)) (nomark _)))) (fun _ _ _ _ _ => (de_bin op_subD (do_var (pv 9)) (do_var (pv 5)))) (fun _ => rfl)) (de_comp (own := [("one", 12)]) (by rfl) sc_seen_by.nd (di_seq (de_var (pv 8))) (blkOk_by (own := [("one", 12)]) (N := ["building", "standing", "car", "cars", "lit", "floor", "heading", "load", "asked", "other", "above", "below", "one", "own", "told"]) (sc := defScope st_seen_by) (by decide +kernel)) (by decide) (fun _ _ _ _ _ => (dp_name sc_seen_by.nd (by rfl) (by first | exact .inl rfl | exact .inr rfl) (by first | exact .inl rfl | exact .inr rfl))) (fun _ _ _ _ _ => (dts_one (dt_cmp (op_ltDD hr.units0) (do_var (pv 12)) (do_var (pv 5)) (nomark _)))) (fun _ _ _ _ _ => (de_bin op_subD (do_var (pv 5)) (do_var (pv 12)))) (fun _ => rfl)) (by rfl) (by rfl) (by rfl))
    (dss_cons (ds_setComp (i := 13) (own := [("other", 9)]) (by rfl) sc_seen_by.nd (by rfl) (by rfl) (by rfl) (di_seq (de_var (pv 4))) (blkOk_by (own := [("other", 9)]) (N := ["building", "standing", "car", "cars", "lit", "floor", "heading", "load", "asked", "other", "above", "below", "one", "own", "told"]) (sc := defScope st_seen_by) (by decide +kernel)) (by decide) (fun _ _ _ _ _ => (dp_name sc_seen_by.nd (by rfl) (by first | exact .inl rfl | exact .inr rfl) (by first | exact .inl rfl | exact .inr rfl))) (fun _ _ _ _ _ => (dts_one (dt_v (de_cl (c_is_own V B) ar_is_own (hr.mono (by omega)) hg (by rfl) (da_cons (de_var (pv 3)) (da_cons (de_var (pv 2)) (da_cons (de_var (pv 9)) da_nil (by rfl)) (by rfl)) (by rfl)))))) (fun _ _ _ _ _ => (de_var (pv 9))) (fun _ => rfl))
    (dss_cons (ds_set (i := 14) sc_seen_by.nd (by rfl) (by first | exact .inl rfl | exact .inr rfl) (de_tup (da_cons (de_cmp (op_inDD (u65 hr)) (do_var (pv 5)) (do_var (pv 4)) (by rfl)) (da_cons (de_cmp (op_inDD (u65 hr)) (do_var (pv 5)) (do_var (pv 7)) (by rfl)) (da_cons (de_cmp (op_ltDD hr.units0) (do_of (de_callB oc_len (by rfl) V.m_len bt_len (doa_cons (do_var (pv 7)) doa_nil (by rfl)))) (do_of (de_item (do_var (pv 0)) (do_of (de_gint (by rfl) V.g_PAIR_steps)) (fun _ _ => rfl))) (nomark _)) (da_cons (de_cmp (op_eqDD hr.units) (do_var (pv 6)) (do_of (de_gstr (by rfl) V.s_UP)) (nomark _)) (da_cons (de_cmp (op_eqDD hr.units) (do_var (pv 6)) (do_of (de_gstr (by rfl) V.s_DOWN)) (nomark _)) (da_cons (de_cmp (op_eqDD hr.units) (do_var (pv 5)) (do_of (de_bin op_subD (do_of (de_item (do_var (pv 0)) (do_of de_i) (fun _ _ => rfl))) (do_of de_i))) (nomark _)) (da_cons (de_cmp (op_eqDD hr.units) (do_var (pv 5)) (do_of de_i) (nomark _)) (da_cons (de_callB (oc_any (by rfl)) (by rfl) V.m_any bt_any (doa_cons (do_of (de_comp (own := [("other", 9)]) (by rfl) sc_seen_by.nd (di_seq (de_var (pv 4))) (blkOk_by (own := [("other", 9)]) (N := ["building", "standing", "car", "cars", "lit", "floor", "heading", "load", "asked", "other", "above", "below", "one", "own", "told"]) (sc := defScope st_seen_by) (by decide +kernel)) (by decide) (fun _ _ _ _ _ => (dp_name sc_seen_by.nd (by rfl) (by first | exact .inl rfl | exact .inr rfl) (by first | exact .inl rfl | exact .inr rfl))) (fun _ _ _ _ _ => dts_nil) (fun _ _ _ _ _ => (de_cmp op_gtDD (do_var (pv 9)) (do_var (pv 5)) (nomark _))) (fun _ => rfl))) doa_nil (by rfl))) (da_cons (de_callB (oc_any (by rfl)) (by rfl) V.m_any bt_any (doa_cons (do_of (de_comp (own := [("other", 9)]) (by rfl) sc_seen_by.nd (di_seq (de_var (pv 4))) (blkOk_by (own := [("other", 9)]) (N := ["building", "standing", "car", "cars", "lit", "floor", "heading", "load", "asked", "other", "above", "below", "one", "own", "told"]) (sc := defScope st_seen_by) (by decide +kernel)) (by decide) (fun _ _ _ _ _ => (dp_name sc_seen_by.nd (by rfl) (by first | exact .inl rfl | exact .inr rfl) (by first | exact .inl rfl | exact .inr rfl))) (fun _ _ _ _ _ => dts_nil) (fun _ _ _ _ _ => (de_cmp (op_ltDD hr.units0) (do_var (pv 9)) (do_var (pv 5)) (nomark _))) (fun _ => rfl))) doa_nil (by rfl))) (da_cons (de_callB (oc_any (by rfl)) (by rfl) V.m_any bt_any (doa_cons (do_of (de_comp (own := [("other", 9)]) (by rfl) sc_seen_by.nd (di_seq (de_var (pv 7))) (blkOk_by (own := [("other", 9)]) (N := ["building", "standing", "car", "cars", "lit", "floor", "heading", "load", "asked", "other", "above", "below", "one", "own", "told"]) (sc := defScope st_seen_by) (by decide +kernel)) (by decide) (fun _ _ _ _ _ => (dp_name sc_seen_by.nd (by rfl) (by first | exact .inl rfl | exact .inr rfl) (by first | exact .inl rfl | exact .inr rfl))) (fun _ _ _ _ _ => dts_nil) (fun _ _ _ _ _ => (de_cmp op_gtDD (do_var (pv 9)) (do_var (pv 5)) (nomark _))) (fun _ => rfl))) doa_nil (by rfl))) (da_cons (de_callB (oc_any (by rfl)) (by rfl) V.m_any bt_any (doa_cons (do_of (de_comp (own := [("other", 9)]) (by rfl) sc_seen_by.nd (di_seq (de_var (pv 7))) (blkOk_by (own := [("other", 9)]) (N := ["building", "standing", "car", "cars", "lit", "floor", "heading", "load", "asked", "other", "above", "below", "one", "own", "told"]) (sc := defScope st_seen_by) (by decide +kernel)) (by decide) (fun _ _ _ _ _ => (dp_name sc_seen_by.nd (by rfl) (by first | exact .inl rfl | exact .inr rfl) (by first | exact .inl rfl | exact .inr rfl))) (fun _ _ _ _ _ => dts_nil) (fun _ _ _ _ _ => (de_cmp (op_ltDD hr.units0) (do_var (pv 9)) (do_var (pv 5)) (nomark _))) (fun _ => rfl))) doa_nil (by rfl))) (da_cons (de_cl (c_is_nearer V B) ar_is_nearer (hr.mono (by omega)) hg (by rfl) (da_cons (de_var (pv 10)) (da_cons (de_var (pv 11)) da_nil (by rfl)) (by rfl))) (da_cons (de_cl (c_is_nearer V B) ar_is_nearer (hr.mono (by omega)) hg (by rfl) (da_cons (de_var (pv 11)) (da_cons (de_var (pv 10)) da_nil (by rfl)) (by rfl))) (da_cons (de_callB (oc_any (by rfl)) (by rfl) V.m_any bt_any (doa_cons (do_of (de_comp (own := [("other", 9)]) (by rfl) sc_seen_by.nd (di_seq (de_var (pv 13))) (blkOk_by (own := [("other", 9)]) (N := ["building", "standing", "car", "cars", "lit", "floor", "heading", "load", "asked", "other", "above", "below", "one", "own", "told"]) (sc := defScope st_seen_by) (by decide +kernel)) (by decide) (fun _ _ _ _ _ => (dp_name sc_seen_by.nd (by rfl) (by first | exact .inl rfl | exact .inr rfl) (by first | exact .inl rfl | exact .inr rfl))) (fun _ _ _ _ _ => dts_nil) (fun _ _ _ _ _ => (de_cmp op_gtDD (do_var (pv 9)) (do_var (pv 5)) (nomark _))) (fun _ => rfl))) doa_nil (by rfl))) (da_cons (de_callB (oc_any (by rfl)) (by rfl) V.m_any bt_any (doa_cons (do_of (de_comp (own := [("other", 9)]) (by rfl) sc_seen_by.nd (di_seq (de_var (pv 13))) (blkOk_by (own := [("other", 9)]) (N := ["building", "standing", "car", "cars", "lit", "floor", "heading", "load", "asked", "other", "above", "below", "one", "own", "told"]) (sc := defScope st_seen_by) (by decide +kernel)) (by decide) (fun _ _ _ _ _ => (dp_name sc_seen_by.nd (by rfl) (by first | exact .inl rfl | exact .inr rfl) (by first | exact .inl rfl | exact .inr rfl))) (fun _ _ _ _ _ => dts_nil) (fun _ _ _ _ _ => (de_cmp (op_ltDD hr.units0) (do_var (pv 9)) (do_var (pv 5)) (nomark _))) (fun _ => rfl))) doa_nil (by rfl))) (da_cons (de_cmp op_gtDD (do_of (de_m1 PySem.F.plainAttrs_list PySem.F.slot_list_count PySem.F.type_list_count (mt_countD (u65 hr)) (do_of (de_comp (own := [("one", 12)]) (by rfl) sc_seen_by.nd (di_seq (de_var (pv 3))) (blkOk_by (own := [("one", 12)]) (N := ["building", "standing", "car", "cars", "lit", "floor", "heading", "load", "asked", "other", "above", "below", "one", "own", "told"]) (sc := defScope st_seen_by) (by decide +kernel)) (by decide) (fun _ _ _ _ _ => (dp_name sc_seen_by.nd (by rfl) (by first | exact .inl rfl | exact .inr rfl) (by first | exact .inl rfl | exact .inr rfl))) (fun _ _ _ _ _ => dts_nil) (fun _ _ _ _ _ => (de_item (do_var (pv 12)) (do_of de_i) (fun _ _ => rfl))) (fun _ => rfl))) (do_var (pv 5)))) (do_of de_i) (nomark _)) da_nil (by rfl)) (by rfl)) (by rfl)) (by rfl)) (by rfl)) (by rfl)) (by rfl)) (by rfl)) (by rfl)) (by rfl)) (by rfl)) (by rfl)) (by rfl)) (by rfl)) (by rfl)) (by rfl))) (by rfl) (.inl rfl))
    (dss_one (ds_ret (de_dictZip (by rfl) (by rfl) V.m_dict (by rfl) V.m_zip (do_of (de_gtup (by rfl) V.g_WORDS)) (do_var (pv 14)))))))))))
theorem c_clause_there (V : Tx K mg) (B : Ec Pr w K mg base excNames fI CS ad fdI) : Cl Pr w K mg base 3 "clause_there" 4 F_clause_there := cl_of V.d_clause_there sc_clause_there fun f cdv A outer s H E F0 P0 hr hg lv hx =>
    (dss_cons (ds_thenF (i := 4) (ds_set (i := 4) sc_clause_there.nd (by rfl) (by first | exact .inl rfl | exact .inr rfl) (de_cl (c_seen_by V B) ar_seen_by (hr.mono (by omega)) hg (by rfl) (da_cons (de_var (pv 0)) (da_cons (de_var (pv 2)) (da_cons (de_var (pv 3)) da_nil (by rfl)) (by rfl)) (by rfl))) (by rfl) (.inl rfl)))
    (dss_cons (ds_for lv.hp (by rfl) (di_enumA (by rfl) V.m_enumerate (da_cons (de_var (pv 1)) da_nil (by rfl)) (by rfl)) (dp_tup rfl (dps_cons (dp_name sc_clause_there.nd (by rfl) (by first | exact .inl rfl | exact .inr rfl) (by first | exact .inl rfl | exact .inr rfl)) (dps_cons (dp_tup rfl (dps_cons (dp_name sc_clause_there.nd (by rfl) (by first | exact .inl rfl | exact .inr rfl) (by first | exact .inl rfl | exact .inr rfl)) (dps_cons (dp_name sc_clause_there.nd (by rfl) (by first | exact .inl rfl | exact .inr rfl) (by first | exact .inl rfl | exact .inr rfl)) dps_nil (by rfl)) (by rfl)) (by rfl) (by rfl)) dps_nil (by rfl)) (by rfl)) (by rfl) (by rfl)) (dss_one (ds_if (dt_v (de_callB (oc_all (by rfl)) (by rfl) V.m_all bt_all (doa_cons (do_of (de_comp (own := [("word", 8), ("due", 9)]) (by rfl) sc_clause_there.nd (di_seq (de_var (pv 6))) (blkOk_by (own := [("word", 8), ("due", 9)]) (N := ["building", "rule", "standing", "car", "seen", "number", "tests", "deed", "word", "due"]) (sc := defScope st_clause_there) (by decide +kernel)) (by decide) (fun _ _ _ _ _ => (dp_tup rfl (dps_cons (dp_name sc_clause_there.nd (by rfl) (by first | exact .inl rfl | exact .inr rfl) (by first | exact .inl rfl | exact .inr rfl)) (dps_cons (dp_name sc_clause_there.nd (by rfl) (by first | exact .inl rfl | exact .inr rfl) (by first | exact .inl rfl | exact .inr rfl)) dps_nil (by rfl)) (by rfl)) (by rfl) (by rfl))) (fun _ _ _ _ _ => dts_nil) (fun _ _ _ _ _ => (de_cmp (op_eqDD hr.units) (do_of (de_dget (hu_of hr) (do_var (pv 4)) (do_var (pv 8)))) (do_var (pv 9)) (nomark _))) (fun _ => rfl))) doa_nil (by rfl)))) (dss_one (ds_retV (pv 5))) dss_nil)) (fun _ => rfl))
    (dss_one (ds_ret de_n))))
theorem c_deed_there (V : Tx K mg) (B : Ec Pr w K mg base excNames fI CS ad fdI) : Cl Pr w K mg base 4 "deed_there" 4 F_deed_there := cl_of V.d_deed_there sc_deed_there fun f cdv A outer s H E F0 P0 hr hg lv hx =>
    (dss_cons (ds_set (i := 4) sc_deed_there.nd (by rfl) (by first | exact .inl rfl | exact .inr rfl) (de_cl (c_clause_there V B) ar_clause_there (hr.mono (by omega)) hg (by rfl) (da_cons (de_var (pv 0)) (da_cons (de_var (pv 1)) (da_cons (de_var (pv 2)) (da_cons (de_var (pv 3)) da_nil (by rfl)) (by rfl)) (by rfl)) (by rfl))) (by rfl) (.inl rfl))
    (dss_one (ds_ret (de_if (dt_cmp op_isNone (do_var (pv 4)) (do_of de_n) (nomark _)) (de_gstr (by rfl) V.s_REST) (de_item (do_of (de_item (do_var (pv 1)) (do_var (pv 4)) (fun _ _ => rfl))) (do_of de_i) (fun _ _ => rfl))))))
theorem c_check_car (V : Tx K mg) (B : Ec Pr w K mg base excNames fI CS ad fdI) : Cl Pr w K mg base 6 "check_car" 3 F_check_car := cl_of V.d_check_car sc_check_car fun f cdv A outer s H E F0 P0 hr hg lv hx =>
    (dss_cons (ds_drop (de_cl (c_check_standing V B) ar_check_standing (hr.mono (by omega)) hg (by rfl) (da_cons (de_var (pv 0)) (da_cons (de_var (pv 1)) da_nil (by rfl)) (by rfl))) (by rfl))
    (dss_one (ds_if (dt_not (dt_v (de_cl (c_is_integer V B) ar_is_integer (hr.mono (by omega)) hg (by rfl) (da_cons (de_var (pv 2)) (da_cons de_i (da_cons (de_bin op_subD (do_of (de_item (do_var (pv 0)) (do_of de_i) (fun _ _ => rfl))) (do_of de_i)) da_nil (by rfl)) (by rfl)) (by rfl))))) (dss_one (ds_raise B.es (by decide +kernel) B.io B.bi lv rfl (hr.mono (by omega)) (by rfl) (de_var (pv 2)))) dss_nil)))
theorem c_sees (V : Tx K mg) (B : Ec Pr w K mg base excNames fI CS ad fdI) : Cl Pr w K mg base 7 "sees" 3 F_sees := cl_of V.d_sees sc_sees fun f cdv A outer s H E F0 P0 hr hg lv hx =>
    (dss_cons (ds_drop (de_cl (c_check_building V B) ar_check_building (hr.mono (by omega)) hg (by rfl) (da_cons (de_var (pv 0)) da_nil (by rfl))) (by rfl))
    (dss_cons (ds_drop (de_cl (c_check_car V B) ar_check_car (hr.mono (by omega)) hg (by rfl) (da_cons (de_var (pv 0)) (da_cons (de_var (pv 1)) (da_cons (de_var (pv 2)) da_nil (by rfl)) (by rfl)) (by rfl))) (by rfl))
    (dss_one (ds_ret (de_cl (c_seen_by V B) ar_seen_by (hr.mono (by omega)) hg (by rfl) (da_cons (de_var (pv 0)) (da_cons (de_var (pv 1)) (da_cons (de_var (pv 2)) da_nil (by rfl)) (by rfl)) (by rfl)))))))
theorem c_clause_of (V : Tx K mg) (B : Ec Pr w K mg base excNames fI CS ad fdI) : Cl Pr w K mg base 7 "clause_of" 4 F_clause_of := cl_of V.d_clause_of sc_clause_of fun f cdv A outer s H E F0 P0 hr hg lv hx =>
    (dss_cons (ds_drop (de_cl (c_check_building V B) ar_check_building (hr.mono (by omega)) hg (by rfl) (da_cons (de_var (pv 0)) da_nil (by rfl))) (by rfl))
    (dss_cons (ds_drop (de_cl (c_check_rule V B) ar_check_rule (hr.mono (by omega)) hg (by rfl) (da_cons (de_var (pv 1)) da_nil (by rfl))) (by rfl))
    (dss_cons (ds_drop (de_cl (c_check_car V B) ar_check_car (hr.mono (by omega)) hg (by rfl) (da_cons (de_var (pv 0)) (da_cons (de_var (pv 2)) (da_cons (de_var (pv 3)) da_nil (by rfl)) (by rfl)) (by rfl))) (by rfl))
    (dss_one (ds_ret (de_cl (c_clause_there V B) ar_clause_there (hr.mono (by omega)) hg (by rfl) (da_cons (de_var (pv 0)) (da_cons (de_var (pv 1)) (da_cons (de_var (pv 2)) (da_cons (de_var (pv 3)) da_nil (by rfl)) (by rfl)) (by rfl)) (by rfl))))))))
theorem c_deed_of (V : Tx K mg) (B : Ec Pr w K mg base excNames fI CS ad fdI) : Cl Pr w K mg base 7 "deed_of" 4 F_deed_of := cl_of V.d_deed_of sc_deed_of fun f cdv A outer s H E F0 P0 hr hg lv hx =>
    (dss_cons (ds_drop (de_cl (c_check_building V B) ar_check_building (hr.mono (by omega)) hg (by rfl) (da_cons (de_var (pv 0)) da_nil (by rfl))) (by rfl))
    (dss_cons (ds_drop (de_cl (c_check_rule V B) ar_check_rule (hr.mono (by omega)) hg (by rfl) (da_cons (de_var (pv 1)) da_nil (by rfl))) (by rfl))
    (dss_cons (ds_drop (de_cl (c_check_car V B) ar_check_car (hr.mono (by omega)) hg (by rfl) (da_cons (de_var (pv 0)) (da_cons (de_var (pv 2)) (da_cons (de_var (pv 3)) da_nil (by rfl)) (by rfl)) (by rfl))) (by rfl))
    (dss_one (ds_ret (de_cl (c_deed_there V B) ar_deed_there (hr.mono (by omega)) hg (by rfl) (da_cons (de_var (pv 0)) (da_cons (de_var (pv 1)) (da_cons (de_var (pv 2)) (da_cons (de_var (pv 3)) da_nil (by rfl)) (by rfl)) (by rfl)) (by rfl))))))))
theorem c__law_pot (V : Tx K mg) (B : Ec Pr w K mg base excNames fI CS ad fdI) : Cl Pr w K mg base 1 "_law_pot" 2 potW := cl_raw V.d__law_pot sc__law_pot fun f cdv A outer s H vs Q E hr h => ⟨tPot (⟨K, w⟩ : KF) 7186 4253 105033 8696 136,
    (pss_cons (ps_set (i := 2) sc__law_pot.nd (by rfl) (.inl rfl) (pe_ifExp (pt_cmpR op_lt (pv 1) (pe_callB call_len_seq (by rfl) V.m_len bt_len (pa_cons (pv 0) pa_nil)) (nomark _)) (pe_ix ix_list (pv 0) (pv 1) (fun _ _ => rfl)) (pe_op op_add (pe_op op_add (pe_op op_mod (pe_callB (cr_sum (by rfl)) (by rfl) V.m_sum bt_sum (pa_cons (pe_slice sl_list (pv 0) po_none (po_some pe_int)) pa_nil)) pe_int) (pe_op op_mul pe_int (pv 1))) pe_int)))
    (pss_cons (ps_set (i := 3) sc__law_pot.nd (by rfl) (.inl rfl) (pe_op op_mul (pe_op op_mod (pe_callTy call_int1 (by rfl) V.m_int bt_int (pa_cons (pe_callB call_abs (by rfl) V.m_abs bt_abs (pa_cons (pv 2) pa_nil)) pa_nil)) (pe_op op_powW (pe_op op_pow pe_int pe_int) pe_int)) (pe_callTy call_int1 (by rfl) V.m_int bt_int (pa_cons (pe_cmpR op_ge (pe_callB call_abs (by rfl) V.m_abs bt_abs (pa_cons (pv 2) pa_nil)) (pe_op op_pow pe_int pe_int) (nomark _)) pa_nil))))
    (pss_cons (ps_set (i := 4) sc__law_pot.nd (by rfl) (.inl rfl) (pe_op op_mod (pe_callTy call_int1 (by rfl) V.m_int bt_int (pa_cons (pv 2) pa_nil)) pe_int))
    (pss_one (ps_ret (pe_lst (pa_cons (pv 3) (pa_cons (pe_op op_mod (pe_callTy call_int1 (by rfl) V.m_int bt_int (pa_cons (pe_op op_add (pe_op op_add (pe_op op_mul (pv 4) pe_int) (pe_op op_mul (pe_op op_mul pe_int (pv 1)) (pv 1))) pe_int) pa_nil)) pe_int) (pa_cons pe_int pa_nil))))))))),
    pot_read (by decide) (by decide) (by decide) rfl h⟩
theorem c__law_take (V : Tx K mg) (B : Ec Pr w K mg base excNames fI CS ad fdI) : Cl Pr w K mg base 1 "_law_take" 2 takeW := cl_raw V.d__law_take sc__law_take fun f cdv A outer s H vs Q E hr h => ⟨tTake (⟨K, w⟩ : KF) 98368 62 10017 108 137,
    (pss_cons (ps_if (pt_cmpR op_gt (pe_ix ix_list (pv 0) pe_int (fun _ _ => rfl)) pe_int (nomark _)) (pss_cons (ps_set (i := 2) sc__law_take.nd (by rfl) (.inl rfl) (pe_op op_mod (pe_callTy call_int1 (by rfl) V.m_int bt_int (pa_cons (pe_ix ix_list (pv 0) pe_int (fun _ _ => rfl)) pa_nil)) (pv 1))) (pss_cons (ps_asg (pe_op op_fdiv (pe_ix ix_list (pv 0) pe_int (fun _ _ => rfl)) (pv 1)) (pg_sub (pv 0) pe_int set_list)) (pss_one (ps_ret (pv 2))))) pss_nil)
    (pss_cons (ps_asg (pe_op op_add (pe_ix ix_list (pv 0) pe_int (fun _ _ => rfl)) pe_int) (pg_sub (pv 0) pe_int set_list))
    (pss_cons (ps_set (i := 3) sc__law_take.nd (by rfl) (.inl rfl) (pe_ix ix_list (pe_lst (pa_cons pe_int (pa_cons pe_int (pa_cons pe_int (pa_cons pe_int (pa_cons pe_int pa_nil)))))) (pe_op op_mod (pe_callTy call_int1 (by rfl) V.m_int bt_int (pa_cons (pe_ix ix_list (pv 0) pe_int (fun _ _ => rfl)) pa_nil)) pe_int) (fun _ _ => rfl)))
    (pss_cons (ps_set (i := 4) sc__law_take.nd (by rfl) (.inl rfl) (pe_op op_mod (pe_callTy call_int1 (by rfl) V.m_int bt_int (pa_cons (pe_op op_pow (pe_callTy call_int1 (by rfl) V.m_int bt_int (pa_cons (pe_op op_add (pe_op op_add (pe_ix ix_list (pv 0) pe_int (fun _ _ => rfl)) (pe_op op_mul (pe_op op_mul pe_int (pe_ix ix_list (pv 0) pe_int (fun _ _ => rfl))) (pe_ix ix_list (pv 0) pe_int (fun _ _ => rfl)))) pe_int) pa_nil)) pe_int) pa_nil)) (pv 3)))
    (pss_cons (ps_set (i := 4) sc__law_take.nd (by rfl) (.inl rfl) (pe_op op_mod (pe_callTy call_int1 (by rfl) V.m_int bt_int (pa_cons (pe_op op_mul (pv 4) (pe_op op_add (pe_op op_mod (pe_callTy call_int1 (by rfl) V.m_int bt_int (pa_cons (pv 4) pa_nil)) pe_int) (pe_op op_mul pe_int (pe_ix ix_list (pv 0) pe_int (fun _ _ => rfl))))) pa_nil)) pe_int))
    (pss_one (ps_ret (pe_op op_mod (pe_callTy call_int1 (by rfl) V.m_int bt_int (pa_cons (pe_op op_fdiv (pv 4) pe_int) pa_nil)) (pv 1))))))))),
    take_read (by decide) (by decide) (by decide) (by decide) (by decide) rfl h⟩
theorem c__law_of (V : Tx K mg) (B : Ec Pr w K mg base excNames fI CS ad fdI) : Cl Pr w K mg base 2 "_law_of" 2 F__law_of := cl_of V.d__law_of sc__law_of fun f cdv A outer s H E F0 P0 hr hg lv hx =>
    (dss_one (ds_ret (de_item (do_var (pv 1)) (do_of (de_cl (c__law_take V B) ar_take (hr.mono (by omega)) hg (by rfl) (da_cons (de_var (pv 0)) (da_cons (de_callB oc_len (by rfl) V.m_len bt_len (doa_cons (do_var (pv 1)) doa_nil (by rfl))) da_nil (by rfl)) (by rfl)))) (fun _ _ => rfl))))
theorem c__law_cells (V : Tx K mg) (B : Ec Pr w K mg base excNames fI CS ad fdI) : Cl Pr w K mg base 1 "_law_cells" 2 F__law_cells := cl_of V.d__law_cells sc__law_cells fun f cdv A outer s H E F0 P0 hr hg lv hx =>
    (dss_one (ds_ret (de_lstRg (by rfl) (by rfl) V.m_list (by rfl) V.m_range (de_callB (oc_max2 (by rfl)) (by rfl) V.m_max bt_max (doa_cons (do_of de_i) (doa_cons (do_of (de_callB (oc_min2 (by rfl)) (by rfl) V.m_min bt_min (doa_cons (do_var (pv 1)) (doa_cons (do_of (de_callB oc_len (by rfl) V.m_len bt_len (doa_cons (do_var (pv 0)) doa_nil (by rfl)))) doa_nil (by rfl)) (by rfl)))) doa_nil (by rfl)) (by rfl))))))
theorem c__law_some (V : Tx K mg) (B : Ec Pr w K mg base excNames fI CS ad fdI) : Cl Pr w K mg base 2 "_law_some" 3 F__law_some := cl_of V.d__law_some sc__law_some fun f cdv A outer s H E F0 P0 hr hg lv hx =>
    (dss_cons (ds_par (i := 3) (j := 4) (by rfl) sc__law_some.nd (by rfl) (by rfl) (by decide) (by rfl) (by rfl) (de_callTy oc_list (by rfl) V.m_list bt_list (doa_cons (do_var (pv 1)) doa_nil (by rfl))) (de_lst da_nil) (by rfl) (by rfl) (by rfl))
    (dss_cons (ds_for lv.hp (by rfl) (di_range1 (by rfl) V.m_range (da_cons (de_var (pv 2)) da_nil (by rfl)) (by rfl)) (dp_name sc__law_some.nd (by rfl) (by first | exact .inl rfl | exact .inr rfl) (by first | exact .inl rfl | exact .inr rfl)) (dss_one (ds_drop (de_own PySem.F.plainAttrs_list PySem.F.slot_list_append PySem.F.type_list_append own_append (pv 4) (da_cons (de_own PySem.F.plainAttrs_list PySem.F.slot_list_pop PySem.F.type_list_pop own_popAt (pv 3) (da_cons (de_cl (c__law_take V B) ar_take (hr.mono (by omega)) hg (by rfl) (da_cons (de_var (pv 0)) (da_cons (de_callB oc_len (by rfl) V.m_len bt_len (doa_cons (do_var (pv 3)) doa_nil (by rfl))) da_nil (by rfl)) (by rfl))) da_nil (by rfl)) (by rfl) (by rfl) (by rfl) (by rfl)) da_nil (by rfl)) (by rfl) (by rfl) (by rfl) (by rfl)) (by rfl))) (fun _ => rfl))
    (dss_one (ds_retV (pv 4)))))
theorem cl_heard (V : Tx K mg) (B : Ec Pr w K mg base excNames fI CS ad fdI) : ClK Pr w K mg base 8 9 "_law_heard" 1 (heardC excNames) := clK_heard V.d__law_heard sc__law_heard (by rfl) (.inl rfl) (fun X e1 _ => h__law_heard (by rw [e1]; exact B.es.lift)) B.es.exm'
theorem c__law_building (V : Tx K mg) (B : Ec Pr w K mg base excNames fI CS ad fdI) : Cl Pr w K mg base 3 "_law_building" 4 F__law_building := cl_of V.d__law_building sc__law_building fun f cdv A outer s H E F0 P0 hr hg lv hx =>
    (dss_cons (ds_set (i := 4) sc__law_building.nd (by rfl) (by first | exact .inl rfl | exact .inr rfl) (de_bin op_addD (do_of de_i) (do_of (de_cl (c__law_take V B) ar_take (hr.mono (by omega)) hg (by rfl) (da_cons (de_var (pv 0)) (da_cons (de_bin op_subD (do_var (pv 1)) (do_of de_i)) da_nil (by rfl)) (by rfl))))) (by rfl) (.inl rfl))
    (dss_cons (ds_set (i := 5) sc__law_building.nd (by rfl) (by first | exact .inl rfl | exact .inr rfl) (de_lst da_nil) (by rfl) (.inl rfl))
    (dss_cons (ds_for lv.hp (by rfl) (di_range1 (by rfl) V.m_range (da_cons (de_var (pv 4)) da_nil (by rfl)) (by rfl)) (dp_name sc__law_building.nd (by rfl) (by first | exact .inl rfl | exact .inr rfl) (by first | exact .inl rfl | exact .inr rfl)) (dss_one (ds_drop (de_own PySem.F.plainAttrs_list PySem.F.slot_list_extend PySem.F.type_list_extend own_extend (pv 5) (da_cons (de_comp (own := [("other", 7)]) (by rfl) sc__law_building.nd (di_range1 (by rfl) V.m_range (da_cons (de_var (pv 4)) da_nil (by rfl)) (by rfl)) (blkOk_by (own := [("other", 7)]) (N := ["pot", "floors", "cars", "room", "many", "trips", "one", "other", "some"]) (sc := defScope st__law_building) (by decide +kernel)) (by decide) (fun _ _ _ _ _ => (dp_name sc__law_building.nd (by rfl) (by first | exact .inl rfl | exact .inr rfl) (by first | exact .inl rfl | exact .inr rfl))) (fun _ _ _ _ _ => (dts_one (dt_cmp (op_neDD hr.units) (do_var (pv 6)) (do_var (pv 7)) (nomark _)))) (fun _ _ _ _ _ => (de_tup (da_cons (de_var (pv 6)) (da_cons (de_var (pv 7)) da_nil (by rfl)) (by rfl)))) (fun _ => rfl)) da_nil (by rfl)) (by rfl) (by rfl) (by rfl) (by rfl)) (by rfl))) (fun _ => rfl))
    (dss_cons (ds_set (i := 8) sc__law_building.nd (by rfl) (by first | exact .inl rfl | exact .inr rfl) (de_cl (c__law_some V B) ar__law_some (hr.mono (by omega)) hg (by rfl) (da_cons (de_var (pv 0)) (da_cons (de_var (pv 5)) (da_cons (de_bin op_addD (do_of de_i) (do_of (de_cl (c__law_take V B) ar_take (hr.mono (by omega)) hg (by rfl) (da_cons (de_var (pv 0)) (da_cons (de_callB oc_len (by rfl) V.m_len bt_len (doa_cons (do_var (pv 5)) doa_nil (by rfl))) da_nil (by rfl)) (by rfl))))) da_nil (by rfl)) (by rfl)) (by rfl))) (by rfl) (.inl rfl))
    (dss_one (ds_ret (de_tup (da_cons (de_var (pv 4)) (da_cons (de_bin op_addD (do_of de_i) (do_of (de_cl (c__law_take V B) ar_take (hr.mono (by omega)) hg (by rfl) (da_cons (de_var (pv 0)) (da_cons (de_var (pv 2)) da_nil (by rfl)) (by rfl))))) (da_cons (de_bin op_addD (do_of de_i) (do_of (de_cl (c__law_take V B) ar_take (hr.mono (by omega)) hg (by rfl) (da_cons (de_var (pv 0)) (da_cons (de_var (pv 3)) da_nil (by rfl)) (by rfl))))) (da_cons (de_callTy oc_tuple (by rfl) V.m_tuple bt_tuple (doa_cons (do_of (de_sorted hr.units (by rfl) V.m_sorted (do_var (pv 8)))) doa_nil (by rfl))) da_nil (by rfl)) (by rfl)) (by rfl)) (by rfl)))))))))
theorem c__law_words (V : Tx K mg) (B : Ec Pr w K mg base excNames fI CS ad fdI) : Cl Pr w K mg base 1 "_law_words" 0 F__law_words := cl_of V.d__law_words sc__law_words fun f cdv A outer s H E F0 P0 hr hg lv hx =>
    (dss_cons (ds_set (i := 0) sc__law_words.nd (by rfl) (by first | exact .inl rfl | exact .inr rfl) (de_lst (da_cons de_s (da_cons de_s (da_cons de_s (da_cons de_s (da_cons de_s (da_cons de_s (da_cons de_s (da_cons de_s (da_cons de_s (da_cons de_s da_nil (by rfl)) (by rfl)) (by rfl)) (by rfl)) (by rfl)) (by rfl)) (by rfl)) (by rfl)) (by rfl)) (by rfl))) (by rfl) (.inl rfl))
    (dss_one (ds_ret (de_bin op_addD (do_var (pv 0)) (do_of (de_lst (da_cons de_s (da_cons de_s (da_cons de_s (da_cons de_s (da_cons de_s (da_cons de_s da_nil (by rfl)) (by rfl)) (by rfl)) (by rfl)) (by rfl)) (by rfl))))))))
theorem c__law_known (V : Tx K mg) (B : Ec Pr w K mg base excNames fI CS ad fdI) : Cl Pr w K mg base 1 "_law_known" 1 F__law_known := cl_of V.d__law_known sc__law_known fun f cdv A outer s H E F0 P0 hr hg lv hx =>
    (dss_cons (ds_par (i := 1) (j := 2) (by rfl) sc__law_known.nd (by rfl) (by rfl) (by decide) (by rfl) (by rfl) de_s (de_lst (da_cons de_s (da_cons de_s da_nil (by rfl)) (by rfl))) (by rfl) (by rfl) (by rfl))
    (dss_cons (ds_if (dt_cmp (op_eqDD hr.units) (do_var (pv 0)) (do_of de_s) (nomark _)) (dss_one (ds_ret (de_bin op_addD (do_var (pv 2)) (do_of (de_lst (da_cons de_s (da_cons de_s (da_cons de_s (da_cons de_s da_nil (by rfl)) (by rfl)) (by rfl)) (by rfl))))))) dss_nil)
    (dss_cons (ds_if (dt_cmp (op_eqDD hr.units) (do_var (pv 0)) (do_of de_s) (nomark _)) (dss_one (ds_ret (de_bin op_addD (do_var (pv 2)) (do_of (de_lst (da_cons de_s (da_cons de_s (da_cons de_s (da_cons de_s da_nil (by rfl)) (by rfl)) (by rfl)) (by rfl))))))) dss_nil)
    (dss_cons (ds_if (dt_cmp (op_eqDD hr.units) (do_var (pv 0)) (do_of de_s) (nomark _)) (dss_cons (ds_set (i := 3) sc__law_known.nd (by rfl) (by first | exact .inl rfl | exact .inr rfl) (de_lst (da_cons de_s (da_cons de_s (da_cons de_s da_nil (by rfl)) (by rfl)) (by rfl))) (by rfl) (.inl rfl))
    (dss_one (ds_ret (de_bin op_addD (do_var (pv 3)) (do_of (de_lst (da_cons de_s (da_cons de_s (da_cons de_s da_nil (by rfl)) (by rfl)) (by rfl)))))))) dss_nil)
    (dss_cons (ds_if (dt_cmp (op_eqDD hr.units) (do_var (pv 0)) (do_of de_s) (nomark _)) (dss_one (ds_set (i := 1) sc__law_known.nd (by rfl) (by first | exact .inl rfl | exact .inr rfl) de_s (by rfl) (.inl rfl))) dss_nil)
    (dss_cons (ds_set (i := 3) sc__law_known.nd (by rfl) (by first | exact .inl rfl | exact .inr rfl) (de_lst (da_cons (de_bin op_addD (do_of (de_bin op_addD (do_of de_s) (do_var (pv 1)))) (do_of de_s)) (da_cons de_s (da_cons (de_bin op_addD (do_of (de_bin op_addD (do_of de_s) (do_var (pv 1)))) (do_of de_s)) da_nil (by rfl)) (by rfl)) (by rfl))) (by rfl) (.inl rfl))
    (dss_cons (ds_set (i := 3) sc__law_known.nd (by rfl) (by first | exact .inl rfl | exact .inr rfl) (de_bin op_addD (do_var (pv 3)) (do_of (de_lst (da_cons de_s (da_cons (de_bin op_addD (do_of (de_bin op_addD (do_of de_s) (do_var (pv 1)))) (do_of de_s)) (da_cons de_s da_nil (by rfl)) (by rfl)) (by rfl))))) (by rfl) (.inl rfl))
    (dss_one (ds_ret (de_bin op_addD (do_of (de_bin op_addD (do_var (pv 2)) (do_var (pv 3)))) (do_of (de_lst (da_cons (de_bin op_addD (do_of (de_bin op_addD (do_of de_s) (do_var (pv 1)))) (do_of de_s)) (da_cons de_s da_nil (by rfl)) (by rfl))))))))))))))
theorem c__law_clause_in (V : Tx K mg) (B : Ec Pr w K mg base excNames fI CS ad fdI) : Cl Pr w K mg base 1 "_law_clause_in" 1 F__law_clause_in := cl_of V.d__law_clause_in sc__law_clause_in fun f cdv A outer s H E F0 P0 hr hg lv hx =>
    (dss_cons (ds_par (i := 1) (j := 2) (by rfl) sc__law_clause_in.nd (by rfl) (by rfl) (by decide) (by rfl) (by rfl) (de_item (do_of (de_m1 PySem.F.plainAttrs_str PySem.F.slot_str_split PySem.F.type_str_split mt_splitD (do_var (pv 0)) (do_of de_s))) (do_of de_i) (fun _ _ => rfl)) (de_slice (do_of (de_m1 PySem.F.plainAttrs_str PySem.F.slot_str_split PySem.F.type_str_split mt_splitD (do_var (pv 0)) (do_of de_s))) (dpo_some de_i) dpo_none) (by rfl) (by rfl) (by rfl))
    (dss_cons (ds_set (i := 3) sc__law_clause_in.nd (by rfl) (by first | exact .inl rfl | exact .inr rfl) (de_lst da_nil) (by rfl) (.inl rfl))
    (dss_cons (ds_for lv.hp (by rfl) (di_seq (de_if (dt_cmp (op_neDD hr.units) (do_var (pv 2)) (do_of (de_lst da_nil)) (nomark _)) (de_m1 PySem.F.plainAttrs_str PySem.F.slot_str_split PySem.F.type_str_split mt_splitD (do_of (de_item (do_var (pv 2)) (do_of de_i) (fun _ _ => rfl))) (do_of de_s)) (de_lst da_nil))) (dp_name sc__law_clause_in.nd (by rfl) (by first | exact .inl rfl | exact .inr rfl) (by first | exact .inl rfl | exact .inr rfl)) (dss_one (ds_drop (de_own PySem.F.plainAttrs_list PySem.F.slot_list_append PySem.F.type_list_append own_append (pv 3) (da_cons (de_if (dt_cmp (op_eqDD hr.units) (do_of (de_slice (do_var (pv 4)) dpo_none (dpo_some de_i))) (do_of de_s) (nomark _)) (de_tup (da_cons (de_slice (do_var (pv 4)) (dpo_some de_i) dpo_none) (da_cons de_b da_nil (by rfl)) (by rfl))) (de_tup (da_cons (de_var (pv 4)) (da_cons de_b da_nil (by rfl)) (by rfl)))) da_nil (by rfl)) (by rfl) (by rfl) (by rfl) (by rfl)) (by rfl))) (fun _ => rfl))
    (dss_one (ds_ret (de_tup (da_cons (de_callTy oc_tuple (by rfl) V.m_tuple bt_tuple (doa_cons (do_var (pv 3)) doa_nil (by rfl))) (da_cons (de_var (pv 1)) da_nil (by rfl)) (by rfl))))))))
theorem c__law_clause (V : Tx K mg) (B : Ec Pr w K mg base excNames fI CS ad fdI) : Cl Pr w K mg base 3 "_law_clause" 1 F__law_clause := cl_of V.d__law_clause sc__law_clause fun f cdv A outer s H E F0 P0 hr hg lv hx =>
    (dss_cons (ds_setComp (i := 1) (own := [("word", 2)]) (by rfl) sc__law_clause.nd (by rfl) (by rfl) (by rfl) (di_seq (de_cl (c__law_some V B) ar__law_some (hr.mono (by omega)) hg (by rfl) (da_cons (de_var (pv 0)) (da_cons (de_cl0 (c__law_words V B) ar__law_words (hr.mono (by omega)) hg (by rfl)) (da_cons (de_cl (c__law_of V B) ar__law_of (hr.mono (by omega)) hg (by rfl) (da_cons (de_var (pv 0)) (da_cons (de_lst (da_cons de_i (da_cons de_i (da_cons de_i (da_cons de_i (da_cons de_i (da_cons de_i (da_cons de_i da_nil (by rfl)) (by rfl)) (by rfl)) (by rfl)) (by rfl)) (by rfl)) (by rfl))) da_nil (by rfl)) (by rfl))) da_nil (by rfl)) (by rfl)) (by rfl)))) (blkOk_by (own := [("word", 2)]) (N := ["pot", "tests", "word"]) (sc := defScope st__law_clause) (by decide +kernel)) (by decide) (fun _ _ _ _ _ => (dp_name sc__law_clause.nd (by rfl) (by first | exact .inl rfl | exact .inr rfl) (by first | exact .inl rfl | exact .inr rfl))) (fun _ _ _ _ _ => dts_nil) (fun _ _ _ _ _ => (de_tup (da_cons (de_var (pv 2)) (da_cons (de_cmp op_gtDD (do_of (de_cl (c__law_take V B) ar_take (hr.mono (by omega)) hg (by rfl) (da_cons (de_var (pv 0)) (da_cons de_i da_nil (by rfl)) (by rfl)))) (do_of de_i) (nomark _)) da_nil (by rfl)) (by rfl)))) (fun _ => rfl))
    (dss_one (ds_ret (de_tup (da_cons (de_callTy oc_tuple (by rfl) V.m_tuple bt_tuple (doa_cons (do_var (pv 1)) doa_nil (by rfl))) (da_cons (de_cl (c__law_of V B) ar__law_of (hr.mono (by omega)) hg (by rfl) (da_cons (de_var (pv 0)) (da_cons (de_lst (da_cons de_s (da_cons de_s (da_cons de_s (da_cons de_s (da_cons de_s da_nil (by rfl)) (by rfl)) (by rfl)) (by rfl)) (by rfl))) da_nil (by rfl)) (by rfl))) da_nil (by rfl)) (by rfl))))))
theorem c__law_rule (V : Tx K mg) (B : Ec Pr w K mg base excNames fI CS ad fdI) : Cl Pr w K mg base 4 "_law_rule" 1 F__law_rule := cl_of V.d__law_rule sc__law_rule fun f cdv A outer s H E F0 P0 hr hg lv hx =>
    (dss_cons (ds_set (i := 1) sc__law_rule.nd (by rfl) (by first | exact .inl rfl | exact .inr rfl) (de_cl (c__law_of V B) ar__law_of (hr.mono (by omega)) hg (by rfl) (da_cons (de_var (pv 0)) (da_cons (de_lst (da_cons de_s (da_cons de_s (da_cons de_s (da_cons de_s (da_cons de_s (da_cons de_s da_nil (by rfl)) (by rfl)) (by rfl)) (by rfl)) (by rfl)) (by rfl))) da_nil (by rfl)) (by rfl))) (by rfl) (.inl rfl))
    (dss_cons (ds_par (i := 2) (j := 3) (by rfl) sc__law_rule.nd (by rfl) (by rfl) (by decide) (by rfl) (by rfl) (de_comp (own := [("row", 4)]) (by rfl) sc__law_rule.nd (di_seq (de_cl (c__law_known V B) ar__law_known (hr.mono (by omega)) hg (by rfl) (da_cons (de_var (pv 1)) da_nil (by rfl)))) (blkOk_by (own := [("row", 4)]) (N := ["pot", "name", "rows", "way", "row", "at", "to", "lap"]) (sc := defScope st__law_rule) (by decide +kernel)) (by decide) (fun _ _ _ _ _ => (dp_name sc__law_rule.nd (by rfl) (by first | exact .inl rfl | exact .inr rfl) (by first | exact .inl rfl | exact .inr rfl))) (fun _ _ _ _ _ => dts_nil) (fun _ _ _ _ _ => (de_cl (c__law_clause_in V B) ar__law_clause_in (hr.mono (by omega)) hg (by rfl) (da_cons (de_var (pv 4)) da_nil (by rfl)))) (fun _ => rfl)) (de_cl (c__law_take V B) ar_take (hr.mono (by omega)) hg (by rfl) (da_cons (de_var (pv 0)) (da_cons de_i da_nil (by rfl)) (by rfl))) (by rfl) (by rfl) (by rfl))
    (dss_cons (ds_par (i := 5) (j := 6) (by rfl) sc__law_rule.nd (by rfl) (by rfl) (by decide) (by rfl) (by rfl) (de_cl (c__law_take V B) ar_take (hr.mono (by omega)) hg (by rfl) (da_cons (de_var (pv 0)) (da_cons (de_callB oc_len (by rfl) V.m_len bt_len (doa_cons (do_var (pv 2)) doa_nil (by rfl))) da_nil (by rfl)) (by rfl))) (de_cl (c__law_take V B) ar_take (hr.mono (by omega)) hg (by rfl) (da_cons (de_var (pv 0)) (da_cons (de_callB oc_len (by rfl) V.m_len bt_len (doa_cons (do_var (pv 2)) doa_nil (by rfl))) da_nil (by rfl)) (by rfl))) (by rfl) (by rfl) (by rfl))
    (dss_cons (ds_if (dt_cmp (op_eqDD hr.units) (do_var (pv 3)) (do_of de_i) (nomark _)) (dss_one (ds_ret (de_callTy oc_tuple (by rfl) V.m_tuple bt_tuple (doa_cons (do_of (de_comp (own := [("lap", 7)]) (by rfl) sc__law_rule.nd (di_range1 (by rfl) V.m_range (da_cons (de_bin op_addD (do_of de_i) (do_of (de_cl (c__law_take V B) ar_take (hr.mono (by omega)) hg (by rfl) (da_cons (de_var (pv 0)) (da_cons de_i da_nil (by rfl)) (by rfl))))) da_nil (by rfl)) (by rfl)) (blkOk_by (own := [("lap", 7)]) (N := ["pot", "name", "rows", "way", "row", "at", "to", "lap"]) (sc := defScope st__law_rule) (by decide +kernel)) (by decide) (fun _ _ _ _ _ => (dp_name sc__law_rule.nd (by rfl) (by first | exact .inl rfl | exact .inr rfl) (by first | exact .inl rfl | exact .inr rfl))) (fun _ _ _ _ _ => dts_nil) (fun _ _ _ _ _ => (de_cl (c__law_clause V B) ar__law_clause (hr.mono (by omega)) hg (by rfl) (da_cons (de_var (pv 0)) da_nil (by rfl)))) (fun _ => rfl))) doa_nil (by rfl))))) dss_nil)
    (dss_cons (ds_if (dt_cmp (op_eqDD hr.units) (do_var (pv 3)) (do_of de_i) (nomark _)) (dss_one (ds_set (i := 2) sc__law_rule.nd (by rfl) (by first | exact .inl rfl | exact .inr rfl) (de_bin op_addD (do_of (de_slice (do_var (pv 2)) dpo_none (dpo_some (de_var (pv 5))))) (do_of (de_slice (do_var (pv 2)) (dpo_some (de_bin op_addD (do_var (pv 5)) (do_of de_i))) dpo_none))) (by rfl) (.inl rfl))) (dss_one (ds_if (dt_cmp (op_eqDD hr.units) (do_var (pv 3)) (do_of de_i) (nomark _)) (dss_one (ds_set (i := 2) sc__law_rule.nd (by rfl) (by first | exact .inl rfl | exact .inr rfl) (de_bin op_addD (do_of (de_bin op_addD (do_of (de_slice (do_var (pv 2)) dpo_none (dpo_some (de_var (pv 5))))) (do_of (de_lst (da_cons (de_cl (c__law_clause V B) ar__law_clause (hr.mono (by omega)) hg (by rfl) (da_cons (de_var (pv 0)) da_nil (by rfl))) da_nil (by rfl)))))) (do_of (de_slice (do_var (pv 2)) (dpo_some (de_var (pv 5))) dpo_none))) (by rfl) (.inl rfl))) (dss_one (ds_if (dt_cmp (op_eqDD hr.units) (do_var (pv 3)) (do_of de_i) (nomark _)) (dss_one (ds_swap (i := 2) (a := 5) (b := 6) (by decide) (by decide) (ps_asg (pe_tup (pa_cons (pe_ix ix_list (pv 2) (pv 6) (fun _ _ => rfl)) (pa_cons (pe_ix ix_list (pv 2) (pv 5) (fun _ _ => rfl)) pa_nil))) (pg_tup rfl (pgs_cons (pg_sub (pv 2) (pv 5) set_list) (pgs_cons (pg_sub (pv 2) (pv 6) set_list) pgs_nil)))))) dss_nil)))))
    (dss_one (ds_ret (de_callTy oc_tuple (by rfl) V.m_tuple bt_tuple (doa_cons (do_var (pv 2)) doa_nil (by rfl))))))))))
theorem c__law_from (V : Tx K mg) (B : Ec Pr w K mg base excNames fI CS ad fdI) : Cl Pr w K mg base 1 "_law_from" 2 F__law_from := cl_of V.d__law_from sc__law_from fun f cdv A outer s H E F0 P0 hr hg lv hx =>
    (dss_one (ds_ret (de_comp (own := [("one", 2), ("other", 3)]) (by rfl) sc__law_from.nd (di_seq (de_item (do_var (pv 0)) (do_of de_i) (fun _ _ => rfl))) (blkOk_by (own := [("one", 2), ("other", 3)]) (N := ["building", "floor", "one", "other"]) (sc := defScope st__law_from) (by decide +kernel)) (by decide) (fun _ _ _ _ _ => (dp_tup rfl (dps_cons (dp_name sc__law_from.nd (by rfl) (by first | exact .inl rfl | exact .inr rfl) (by first | exact .inl rfl | exact .inr rfl)) (dps_cons (dp_name sc__law_from.nd (by rfl) (by first | exact .inl rfl | exact .inr rfl) (by first | exact .inl rfl | exact .inr rfl)) dps_nil (by rfl)) (by rfl)) (by rfl) (by rfl))) (fun _ _ _ _ _ => (dts_one (dt_cmp (op_eqDD hr.units) (do_var (pv 2)) (do_var (pv 1)) (nomark _)))) (fun _ _ _ _ _ => (de_var (pv 3))) (fun _ => rfl))))
theorem c__law_nearer (V : Tx K mg) (B : Ec Pr w K mg base excNames fI CS ad fdI) : Cl Pr w K mg base 1 "_law_nearer" 2 F__law_nearer := cl_of V.d__law_nearer sc__law_nearer fun f cdv A outer s H E F0 P0 hr hg lv hx =>
    (dss_one (ds_ret (de_and (de_cmp (op_neDD hr.units) (do_var (pv 0)) (do_of (de_lst da_nil)) (nomark _)) (de_one (de_or (de_cmp (op_eqDD hr.units) (do_var (pv 1)) (do_of (de_lst da_nil)) (nomark _)) (de_one (de_cmp (op_ltDD hr.units0) (do_of (de_callB (oc_minL (by rfl)) (by rfl) V.m_min bt_min (doa_cons (do_var (pv 0)) doa_nil (by rfl)))) (do_of (de_callB (oc_minL (by rfl)) (by rfl) V.m_min bt_min (doa_cons (do_var (pv 1)) doa_nil (by rfl)))) (nomark _))))))))
theorem c__law_sees (V : Tx K mg) (B : Ec Pr w K mg base excNames fI CS ad fdI) : Cl Pr w K mg base 2 "_law_sees" 3 F__law_sees := cl_of V.d__law_sees sc__law_sees fun f cdv A outer s H E F0 P0 hr hg lv hx =>
    (dss_cons (ds_unp (de_var (pv 1)) (dp_tup rfl (dps_cons (dp_name sc__law_sees.nd (by rfl) (by first | exact .inl rfl | exact .inr rfl) (by first | exact .inl rfl | exact .inr rfl)) (dps_cons (dp_name sc__law_sees.nd (by rfl) (by first | exact .inl rfl | exact .inr rfl) (by first | exact .inl rfl | exact .inr rfl)) dps_nil (by rfl)) (by rfl)) (by rfl) (by rfl)) (by rfl) (by rfl) (by rfl))
    (dss_cons (ds_unp (de_item (do_var (pv 3)) (do_var (pv 2)) (fun _ _ => rfl)) (dp_tup rfl (dps_cons (dp_name sc__law_sees.nd (by rfl) (by first | exact .inl rfl | exact .inr rfl) (by first | exact .inl rfl | exact .inr rfl)) (dps_cons (dp_name sc__law_sees.nd (by rfl) (by first | exact .inl rfl | exact .inr rfl) (by first | exact .inl rfl | exact .inr rfl)) (dps_cons (dp_name sc__law_sees.nd (by rfl) (by first | exact .inl rfl | exact .inr rfl) (by first | exact .inl rfl | exact .inr rfl)) dps_nil (by rfl)) (by rfl)) (by rfl)) (by rfl) (by rfl)) (by rfl) (by rfl) (by rfl))
    (dss_cons (ds_setComp (i := 8) (own := [("one", 9)]) (by rfl) sc__law_sees.nd (by rfl) (by rfl) (by rfl) (di_range1 (by rfl) V.m_range (da_cons (de_item (do_var (pv 0)) (do_of de_i) (fun _ _ => rfl)) da_nil (by rfl)) (by rfl)) (blkOk_by (own := [("one", 9)]) (N := ["building", "standing", "car", "cars", "lit", "floor", "heading", "load", "asked", "one", "above", "below", "own", "rivals", "other", "rival", "found"]) (sc := defScope st__law_sees) (by decide +kernel)) (by decide) (fun _ _ _ _ _ => (dp_name sc__law_sees.nd (by rfl) (by first | exact .inl rfl | exact .inr rfl) (by first | exact .inl rfl | exact .inr rfl))) (fun _ _ _ _ _ => (dts_one (PW.pt (dw_and (dt_cmp (op_neDD hr.units) (do_var (pv 9)) (do_var (pv 5)) (nomark _)) (dw_and1 (PW.pt (dw_or (dt_cmp (op_inDD (u65 hr)) (do_var (pv 9)) (do_var (pv 4)) (by rfl)) (dw_or1 (dt_cmp (op_inDD (u65 hr)) (do_var (pv 9)) (do_var (pv 7)) (by rfl)))))))))) (fun _ _ _ _ _ => (de_var (pv 9))) (fun _ => rfl))
    (dss_cons (ds_par (i := 10) (j := 11) (by rfl) sc__law_sees.nd (by rfl) (by rfl) (by decide) (by rfl) (by rfl) (de_comp (own := [("one", 9)]) (by rfl) sc__law_sees.nd (di_seq (de_var (pv 8))) (blkOk_by (own := [("one", 9)]) (N := ["building", "standing", "car", "cars", "lit", "floor", "heading", "load", "asked", "one", "above", "below", "own", "rivals", "other", "rival", "found"]) (sc := defScope st__law_sees) (by decide +kernel)) (by decide) (fun _ _ _ _ _ => (dp_name sc__law_sees.nd (by rfl) (by first | exact .inl rfl | exact .inr rfl) (by first | exact .inl rfl | exact .inr rfl))) (fun _ _ _ _ _ => (dts_one (dt_cmp op_gtDD (do_var (pv 9)) (do_var (pv 5)) (nomark _)))) (fun _ _ _ _ _ => (de_bin op_subD (do_var (pv 9)) (do_var (pv 5)))) (fun _ => rfl)) (de_comp (own := [("one", 9)]) (by rfl) sc__law_sees.nd (di_seq (de_var (pv 8))) (blkOk_by (own := [("one", 9)]) (N := ["building", "standing", "car", "cars", "lit", "floor", "heading", "load", "asked", "one", "above", "below", "own", "rivals", "other", "rival", "found"]) (sc := defScope st__law_sees) (by decide +kernel)) (by decide) (fun _ _ _ _ _ => (dp_name sc__law_sees.nd (by rfl) (by first | exact .inl rfl | exact .inr rfl) (by first | exact .inl rfl | exact .inr rfl))) (fun _ _ _ _ _ => (dts_one (dt_cmp (op_ltDD hr.units0) (do_var (pv 9)) (do_var (pv 5)) (nomark _)))) (fun _ _ _ _ _ => (de_bin op_subD (do_var (pv 5)) (do_var (pv 9)))) (fun _ => rfl)) (by rfl) (by rfl) (by rfl))
    (dss_cons (ds_set (i := 12) sc__law_sees.nd (by rfl) (by first | exact .inl rfl | exact .inr rfl) (de_lst da_nil) (by rfl) (.inl rfl))
    (dss_cons (ds_for lv.hp (by rfl) (di_seq (de_var (pv 4))) (dp_name sc__law_sees.nd (by rfl) (by first | exact .inl rfl | exact .inr rfl) (by first | exact .inl rfl | exact .inr rfl)) (dss_cons (ds_setComp (i := 13) (own := [("other", 14)]) (by rfl) sc__law_sees.nd (by rfl) (by rfl) (by rfl) (di_range1 (by rfl) V.m_range (da_cons (de_callB oc_len (by rfl) V.m_len bt_len (doa_cons (do_var (pv 3)) doa_nil (by rfl))) da_nil (by rfl)) (by rfl)) (blkOk_by (own := [("other", 14)]) (N := ["building", "standing", "car", "cars", "lit", "floor", "heading", "load", "asked", "one", "above", "below", "own", "rivals", "other", "rival", "found"]) (sc := defScope st__law_sees) (by decide +kernel)) (by decide) (fun _ _ _ _ _ => (dp_name sc__law_sees.nd (by rfl) (by first | exact .inl rfl | exact .inr rfl) (by first | exact .inl rfl | exact .inr rfl))) (fun _ _ _ _ _ => (dts_one (dt_cmp (op_neDD hr.units) (do_var (pv 14)) (do_var (pv 2)) (nomark _)))) (fun _ _ _ _ _ => (de_tup (da_cons (de_callB oc_abs (by rfl) V.m_abs bt_abs (doa_cons (do_of (de_bin op_subD (do_of (de_item (do_of (de_item (do_var (pv 3)) (do_var (pv 14)) (fun _ _ => rfl))) (do_of de_i) (fun _ _ => rfl))) (do_var (pv 9)))) doa_nil (by rfl))) (da_cons (de_var (pv 14)) da_nil (by rfl)) (by rfl)))) (fun _ => rfl))
    (dss_one (ds_if (dt_not (dt_v (de_callB (oc_any (by rfl)) (by rfl) V.m_any bt_any (doa_cons (do_of (de_comp (own := [("rival", 15)]) (by rfl) sc__law_sees.nd (di_seq (de_var (pv 13))) (blkOk_by (own := [("rival", 15)]) (N := ["building", "standing", "car", "cars", "lit", "floor", "heading", "load", "asked", "one", "above", "below", "own", "rivals", "other", "rival", "found"]) (sc := defScope st__law_sees) (by decide +kernel)) (by decide) (fun _ _ _ _ _ => (dp_name sc__law_sees.nd (by rfl) (by first | exact .inl rfl | exact .inr rfl) (by first | exact .inl rfl | exact .inr rfl))) (fun _ _ _ _ _ => dts_nil) (fun _ _ _ _ _ => (de_cmp (op_ltDD hr.units0) (do_var (pv 15)) (do_of (de_tup (da_cons (de_callB oc_abs (by rfl) V.m_abs bt_abs (doa_cons (do_of (de_bin op_subD (do_var (pv 5)) (do_var (pv 9)))) doa_nil (by rfl))) (da_cons (de_var (pv 2)) da_nil (by rfl)) (by rfl)))) (nomark _))) (fun _ => rfl))) doa_nil (by rfl))))) (dss_one (ds_drop (de_own PySem.F.plainAttrs_list PySem.F.slot_list_append PySem.F.type_list_append own_append (pv 12) (da_cons (de_var (pv 9)) da_nil (by rfl)) (by rfl) (by rfl) (by rfl) (by rfl)) (by rfl))) dss_nil))) (fun _ => rfl))
    (dss_cons (ds_set (i := 16) sc__law_sees.nd (by rfl) (by first | exact .inl rfl | exact .inr rfl) (de_disp (dds_cons (de_cmp (op_inDD (u65 hr)) (do_var (pv 5)) (do_var (pv 4)) (by rfl)) (dds_cons (de_cmp (op_inDD (u65 hr)) (do_var (pv 5)) (do_var (pv 7)) (by rfl)) (dds_cons (de_cmp (op_ltDD hr.units0) (do_of (de_callB oc_len (by rfl) V.m_len bt_len (doa_cons (do_var (pv 7)) doa_nil (by rfl)))) (do_of (de_item (do_var (pv 0)) (do_of de_i) (fun _ _ => rfl))) (nomark _)) dds_nil))) (by decide +kernel) (List.cons_ne_nil _ _) (by decide) rfl rfl rfl) (by rfl) (.inl rfl))
    (dss_cons (ds_drop (de_ownD PySem.F.plainAttrs_dict PySem.F.slot_dict_update PySem.F.type_dict_update own_update (pv 16) (da_cons (de_disp (dds_cons (de_cmp (op_eqDD hr.units) (do_var (pv 6)) (do_of de_s) (nomark _)) (dds_cons (de_cmp (op_eqDD hr.units) (do_var (pv 6)) (do_of de_s) (nomark _)) (dds_cons (de_cmp (op_eqDD hr.units) (do_var (pv 5)) (do_of (de_bin op_subD (do_of (de_item (do_var (pv 0)) (do_of de_i) (fun _ _ => rfl))) (do_of de_i))) (nomark _)) (dds_cons (de_cmp (op_eqDD hr.units) (do_var (pv 5)) (do_of de_i) (nomark _)) dds_nil)))) (by decide +kernel) (List.cons_ne_nil _ _) (by decide) rfl rfl rfl) da_nil (by rfl)) (by rfl) (by rfl) (by rfl) (by rfl)) (by rfl))
    (dss_cons (ds_drop (de_ownD PySem.F.plainAttrs_dict PySem.F.slot_dict_update PySem.F.type_dict_update own_update (pv 16) (da_cons (de_disp (dds_cons (de_callB (oc_any (by rfl)) (by rfl) V.m_any bt_any (doa_cons (do_of (de_comp (own := [("one", 9)]) (by rfl) sc__law_sees.nd (di_seq (de_var (pv 4))) (blkOk_by (own := [("one", 9)]) (N := ["building", "standing", "car", "cars", "lit", "floor", "heading", "load", "asked", "one", "above", "below", "own", "rivals", "other", "rival", "found"]) (sc := defScope st__law_sees) (by decide +kernel)) (by decide) (fun _ _ _ _ _ => (dp_name sc__law_sees.nd (by rfl) (by first | exact .inl rfl | exact .inr rfl) (by first | exact .inl rfl | exact .inr rfl))) (fun _ _ _ _ _ => dts_nil) (fun _ _ _ _ _ => (de_cmp op_gtDD (do_var (pv 9)) (do_var (pv 5)) (nomark _))) (fun _ => rfl))) doa_nil (by rfl))) (dds_cons (de_callB (oc_any (by rfl)) (by rfl) V.m_any bt_any (doa_cons (do_of (de_comp (own := [("one", 9)]) (by rfl) sc__law_sees.nd (di_seq (de_var (pv 4))) (blkOk_by (own := [("one", 9)]) (N := ["building", "standing", "car", "cars", "lit", "floor", "heading", "load", "asked", "one", "above", "below", "own", "rivals", "other", "rival", "found"]) (sc := defScope st__law_sees) (by decide +kernel)) (by decide) (fun _ _ _ _ _ => (dp_name sc__law_sees.nd (by rfl) (by first | exact .inl rfl | exact .inr rfl) (by first | exact .inl rfl | exact .inr rfl))) (fun _ _ _ _ _ => dts_nil) (fun _ _ _ _ _ => (de_cmp (op_ltDD hr.units0) (do_var (pv 9)) (do_var (pv 5)) (nomark _))) (fun _ => rfl))) doa_nil (by rfl))) dds_nil)) (by decide +kernel) (List.cons_ne_nil _ _) (by decide) rfl rfl rfl) da_nil (by rfl)) (by rfl) (by rfl) (by rfl) (by rfl)) (by rfl))
    (dss_cons (ds_drop (de_ownD PySem.F.plainAttrs_dict PySem.F.slot_dict_update PySem.F.type_dict_update own_update (pv 16) (da_cons (de_disp (dds_cons (de_callB (oc_any (by rfl)) (by rfl) V.m_any bt_any (doa_cons (do_of (de_comp (own := [("one", 9)]) (by rfl) sc__law_sees.nd (di_seq (de_var (pv 7))) (blkOk_by (own := [("one", 9)]) (N := ["building", "standing", "car", "cars", "lit", "floor", "heading", "load", "asked", "one", "above", "below", "own", "rivals", "other", "rival", "found"]) (sc := defScope st__law_sees) (by decide +kernel)) (by decide) (fun _ _ _ _ _ => (dp_name sc__law_sees.nd (by rfl) (by first | exact .inl rfl | exact .inr rfl) (by first | exact .inl rfl | exact .inr rfl))) (fun _ _ _ _ _ => dts_nil) (fun _ _ _ _ _ => (de_cmp op_gtDD (do_var (pv 9)) (do_var (pv 5)) (nomark _))) (fun _ => rfl))) doa_nil (by rfl))) dds_nil) (by decide +kernel) (List.cons_ne_nil _ _) (by decide) rfl rfl rfl) da_nil (by rfl)) (by rfl) (by rfl) (by rfl) (by rfl)) (by rfl))
    (dss_cons (ds_drop (de_ownD PySem.F.plainAttrs_dict PySem.F.slot_dict_update PySem.F.type_dict_update own_update (pv 16) (da_cons (de_disp (dds_cons (de_callB (oc_any (by rfl)) (by rfl) V.m_any bt_any (doa_cons (do_of (de_comp (own := [("one", 9)]) (by rfl) sc__law_sees.nd (di_seq (de_var (pv 7))) (blkOk_by (own := [("one", 9)]) (N := ["building", "standing", "car", "cars", "lit", "floor", "heading", "load", "asked", "one", "above", "below", "own", "rivals", "other", "rival", "found"]) (sc := defScope st__law_sees) (by decide +kernel)) (by decide) (fun _ _ _ _ _ => (dp_name sc__law_sees.nd (by rfl) (by first | exact .inl rfl | exact .inr rfl) (by first | exact .inl rfl | exact .inr rfl))) (fun _ _ _ _ _ => dts_nil) (fun _ _ _ _ _ => (de_cmp (op_ltDD hr.units0) (do_var (pv 9)) (do_var (pv 5)) (nomark _))) (fun _ => rfl))) doa_nil (by rfl))) dds_nil) (by decide +kernel) (List.cons_ne_nil _ _) (by decide) rfl rfl rfl) da_nil (by rfl)) (by rfl) (by rfl) (by rfl) (by rfl)) (by rfl))
    (dss_cons (ds_drop (de_ownD PySem.F.plainAttrs_dict PySem.F.slot_dict_update PySem.F.type_dict_update own_update (pv 16) (da_cons (de_disp (dds_cons (de_cl (c__law_nearer V B) ar__law_nearer (hr.mono (by omega)) hg (by rfl) (da_cons (de_var (pv 10)) (da_cons (de_var (pv 11)) da_nil (by rfl)) (by rfl))) (dds_cons (de_cl (c__law_nearer V B) ar__law_nearer (hr.mono (by omega)) hg (by rfl) (da_cons (de_var (pv 11)) (da_cons (de_var (pv 10)) da_nil (by rfl)) (by rfl))) dds_nil)) (by decide +kernel) (List.cons_ne_nil _ _) (by decide) rfl rfl rfl) da_nil (by rfl)) (by rfl) (by rfl) (by rfl) (by rfl)) (by rfl))
    (dss_cons (ds_drop (de_ownD PySem.F.plainAttrs_dict PySem.F.slot_dict_update PySem.F.type_dict_update own_update (pv 16) (da_cons (de_disp (dds_cons (de_callB (oc_any (by rfl)) (by rfl) V.m_any bt_any (doa_cons (do_of (de_comp (own := [("one", 9)]) (by rfl) sc__law_sees.nd (di_seq (de_var (pv 12))) (blkOk_by (own := [("one", 9)]) (N := ["building", "standing", "car", "cars", "lit", "floor", "heading", "load", "asked", "one", "above", "below", "own", "rivals", "other", "rival", "found"]) (sc := defScope st__law_sees) (by decide +kernel)) (by decide) (fun _ _ _ _ _ => (dp_name sc__law_sees.nd (by rfl) (by first | exact .inl rfl | exact .inr rfl) (by first | exact .inl rfl | exact .inr rfl))) (fun _ _ _ _ _ => dts_nil) (fun _ _ _ _ _ => (de_cmp op_gtDD (do_var (pv 9)) (do_var (pv 5)) (nomark _))) (fun _ => rfl))) doa_nil (by rfl))) (dds_cons (de_callB (oc_any (by rfl)) (by rfl) V.m_any bt_any (doa_cons (do_of (de_comp (own := [("one", 9)]) (by rfl) sc__law_sees.nd (di_seq (de_var (pv 12))) (blkOk_by (own := [("one", 9)]) (N := ["building", "standing", "car", "cars", "lit", "floor", "heading", "load", "asked", "one", "above", "below", "own", "rivals", "other", "rival", "found"]) (sc := defScope st__law_sees) (by decide +kernel)) (by decide) (fun _ _ _ _ _ => (dp_name sc__law_sees.nd (by rfl) (by first | exact .inl rfl | exact .inr rfl) (by first | exact .inl rfl | exact .inr rfl))) (fun _ _ _ _ _ => dts_nil) (fun _ _ _ _ _ => (de_cmp (op_ltDD hr.units0) (do_var (pv 9)) (do_var (pv 5)) (nomark _))) (fun _ => rfl))) doa_nil (by rfl))) dds_nil)) (by decide +kernel) (List.cons_ne_nil _ _) (by decide) rfl rfl rfl) da_nil (by rfl)) (by rfl) (by rfl) (by rfl) (by rfl)) (by rfl))
    (dss_cons (ds_dput (hu_of hr) (pv 16) (do_of de_s) (de_cmp op_gtDD (do_of (de_callB oc_len (by rfl) V.m_len bt_len (doa_cons (do_of (de_comp (own := [("one", 9)]) (by rfl) sc__law_sees.nd (di_seq (de_var (pv 3))) (blkOk_by (own := [("one", 9)]) (N := ["building", "standing", "car", "cars", "lit", "floor", "heading", "load", "asked", "one", "above", "below", "own", "rivals", "other", "rival", "found"]) (sc := defScope st__law_sees) (by decide +kernel)) (by decide) (fun _ _ _ _ _ => (dp_name sc__law_sees.nd (by rfl) (by first | exact .inl rfl | exact .inr rfl) (by first | exact .inl rfl | exact .inr rfl))) (fun _ _ _ _ _ => (dts_one (dt_cmp (op_eqDD hr.units) (do_of (de_item (do_var (pv 9)) (do_of de_i) (fun _ _ => rfl))) (do_var (pv 5)) (nomark _)))) (fun _ _ _ _ _ => (de_var (pv 9))) (fun _ => rfl))) doa_nil (by rfl)))) (do_of de_i) (nomark _)) (by rfl))
    (dss_one (ds_retV (pv 16)))))))))))))))))
theorem c__law_clause_of (V : Tx K mg) (B : Ec Pr w K mg base excNames fI CS ad fdI) : Cl Pr w K mg base 3 "_law_clause_of" 4 F__law_clause_of := cl_of V.d__law_clause_of sc__law_clause_of fun f cdv A outer s H E F0 P0 hr hg lv hx =>
    (dss_cons (ds_thenF (i := 4) (ds_set (i := 4) sc__law_clause_of.nd (by rfl) (by first | exact .inl rfl | exact .inr rfl) (de_cl (c__law_sees V B) ar__law_sees (hr.mono (by omega)) hg (by rfl) (da_cons (de_var (pv 0)) (da_cons (de_var (pv 2)) (da_cons (de_var (pv 3)) da_nil (by rfl)) (by rfl)) (by rfl))) (by rfl) (.inl rfl)))
    (dss_cons (ds_for lv.hp (by rfl) (di_enumA (by rfl) V.m_enumerate (da_cons (de_var (pv 1)) da_nil (by rfl)) (by rfl)) (dp_tup rfl (dps_cons (dp_name sc__law_clause_of.nd (by rfl) (by first | exact .inl rfl | exact .inr rfl) (by first | exact .inl rfl | exact .inr rfl)) (dps_cons (dp_tup rfl (dps_cons (dp_name sc__law_clause_of.nd (by rfl) (by first | exact .inl rfl | exact .inr rfl) (by first | exact .inl rfl | exact .inr rfl)) (dps_cons (dp_name sc__law_clause_of.nd (by rfl) (by first | exact .inl rfl | exact .inr rfl) (by first | exact .inl rfl | exact .inr rfl)) dps_nil (by rfl)) (by rfl)) (by rfl) (by rfl)) dps_nil (by rfl)) (by rfl)) (by rfl) (by rfl)) (dss_one (ds_if (dt_v (de_callB (oc_all (by rfl)) (by rfl) V.m_all bt_all (doa_cons (do_of (de_comp (own := [("word", 8), ("due", 9)]) (by rfl) sc__law_clause_of.nd (di_seq (de_var (pv 6))) (blkOk_by (own := [("word", 8), ("due", 9)]) (N := ["building", "rule", "standing", "car", "seen", "number", "tests", "deed", "word", "due"]) (sc := defScope st__law_clause_of) (by decide +kernel)) (by decide) (fun _ _ _ _ _ => (dp_tup rfl (dps_cons (dp_name sc__law_clause_of.nd (by rfl) (by first | exact .inl rfl | exact .inr rfl) (by first | exact .inl rfl | exact .inr rfl)) (dps_cons (dp_name sc__law_clause_of.nd (by rfl) (by first | exact .inl rfl | exact .inr rfl) (by first | exact .inl rfl | exact .inr rfl)) dps_nil (by rfl)) (by rfl)) (by rfl) (by rfl))) (fun _ _ _ _ _ => dts_nil) (fun _ _ _ _ _ => (de_cmp (op_eqDD hr.units) (do_of (de_dget (hu_of hr) (do_var (pv 4)) (do_var (pv 8)))) (do_var (pv 9)) (nomark _))) (fun _ => rfl))) doa_nil (by rfl)))) (dss_one (ds_retV (pv 5))) dss_nil)) (fun _ => rfl))
    (dss_one (ds_ret de_n))))
theorem c__law_deed_of (V : Tx K mg) (B : Ec Pr w K mg base excNames fI CS ad fdI) : Cl Pr w K mg base 4 "_law_deed_of" 4 F__law_deed_of := cl_of V.d__law_deed_of sc__law_deed_of fun f cdv A outer s H E F0 P0 hr hg lv hx =>
    (dss_cons (ds_set (i := 4) sc__law_deed_of.nd (by rfl) (by first | exact .inl rfl | exact .inr rfl) (de_cl (c__law_clause_of V B) ar__law_clause_of (hr.mono (by omega)) hg (by rfl) (da_cons (de_var (pv 0)) (da_cons (de_var (pv 1)) (da_cons (de_var (pv 2)) (da_cons (de_var (pv 3)) da_nil (by rfl)) (by rfl)) (by rfl)) (by rfl))) (by rfl) (.inl rfl))
    (dss_one (ds_ret (de_if (dt_cmp op_isNone (do_var (pv 4)) (do_of de_n) (nomark _)) de_s (de_item (do_of (de_item (do_var (pv 1)) (do_var (pv 4)) (fun _ _ => rfl))) (do_of de_i) (fun _ _ => rfl))))))
theorem c__law_standing (V : Tx K mg) (B : Ec Pr w K mg base excNames fI CS ad fdI) : Cl Pr w K mg base 3 "_law_standing" 2 F__law_standing := cl_of V.d__law_standing sc__law_standing fun f cdv A outer s H E F0 P0 hr hg lv hx =>
    (dss_cons (ds_set (i := 2) sc__law_standing.nd (by rfl) (by first | exact .inl rfl | exact .inr rfl) (de_lst da_nil) (by rfl) (.inl rfl))
    (dss_cons (ds_for lv.hp (by rfl) (di_range1 (by rfl) V.m_range (da_cons (de_item (do_var (pv 1)) (do_of de_i) (fun _ _ => rfl)) da_nil (by rfl)) (by rfl)) (dp_name sc__law_standing.nd (by rfl) (by first | exact .inl rfl | exact .inr rfl) (by first | exact .inl rfl | exact .inr rfl)) (dss_cons (ds_set (i := 4) sc__law_standing.nd (by rfl) (by first | exact .inl rfl | exact .inr rfl) (de_sorted hr.units (by rfl) V.m_sorted (do_of (de_comp (own := [("lap", 5)]) (by rfl) sc__law_standing.nd (di_range1 (by rfl) V.m_range (da_cons (de_cl (c__law_take V B) ar_take (hr.mono (by omega)) hg (by rfl) (da_cons (de_var (pv 0)) (da_cons (de_bin op_addD (do_of (de_item (do_var (pv 1)) (do_of de_i) (fun _ _ => rfl))) (do_of de_i)) da_nil (by rfl)) (by rfl))) da_nil (by rfl)) (by rfl)) (blkOk_by (own := [("lap", 5)]) (N := ["pot", "building", "cars", "car", "load", "lap", "floors", "floor"]) (sc := defScope st__law_standing) (by decide +kernel)) (by decide) (fun _ _ _ _ _ => (dp_name sc__law_standing.nd (by rfl) (by first | exact .inl rfl | exact .inr rfl) (by first | exact .inl rfl | exact .inr rfl))) (fun _ _ _ _ _ => dts_nil) (fun _ _ _ _ _ => (de_cl (c__law_take V B) ar_take (hr.mono (by omega)) hg (by rfl) (da_cons (de_var (pv 0)) (da_cons (de_item (do_var (pv 1)) (do_of de_i) (fun _ _ => rfl)) da_nil (by rfl)) (by rfl)))) (fun _ => rfl)))) (by rfl) (.inl rfl))
    (dss_one (ds_drop (de_own PySem.F.plainAttrs_list PySem.F.slot_list_append PySem.F.type_list_append own_append (pv 2) (da_cons (de_tup (da_cons (de_callTy oc_int (by rfl) V.m_int bt_int (doa_cons (do_of (de_cl (c__law_take V B) ar_take (hr.mono (by omega)) hg (by rfl) (da_cons (de_var (pv 0)) (da_cons (de_item (do_var (pv 1)) (do_of de_i) (fun _ _ => rfl)) da_nil (by rfl)) (by rfl)))) doa_nil (by rfl))) (da_cons (de_cl (c__law_of V B) ar__law_of (hr.mono (by omega)) hg (by rfl) (da_cons (de_var (pv 0)) (da_cons (de_lst (da_cons de_s (da_cons de_s (da_cons de_s da_nil (by rfl)) (by rfl)) (by rfl))) da_nil (by rfl)) (by rfl))) (da_cons (de_callTy oc_tuple (by rfl) V.m_tuple bt_tuple (doa_cons (do_var (pv 4)) doa_nil (by rfl))) da_nil (by rfl)) (by rfl)) (by rfl))) da_nil (by rfl)) (by rfl) (by rfl) (by rfl) (by rfl)) (by rfl)))) (fun _ => rfl))
    (dss_cons (ds_setComp (i := 6) (own := [("floor", 7)]) (by rfl) sc__law_standing.nd (by rfl) (by rfl) (by rfl) (di_range1 (by rfl) V.m_range (da_cons (de_item (do_var (pv 1)) (do_of de_i) (fun _ _ => rfl)) da_nil (by rfl)) (by rfl)) (blkOk_by (own := [("floor", 7)]) (N := ["pot", "building", "cars", "car", "load", "lap", "floors", "floor"]) (sc := defScope st__law_standing) (by decide +kernel)) (by decide) (fun _ _ _ _ _ => (dp_name sc__law_standing.nd (by rfl) (by first | exact .inl rfl | exact .inr rfl) (by first | exact .inl rfl | exact .inr rfl))) (fun _ _ _ _ _ => (dts_one (PW.pt (dw_and (dt_cmp (op_neDD hr.units) (do_of (de_cl (c__law_from V B) ar__law_from (hr.mono (by omega)) hg (by rfl) (da_cons (de_var (pv 1)) (da_cons (de_var (pv 7)) da_nil (by rfl)) (by rfl)))) (do_of (de_lst da_nil)) (nomark _)) (dw_and1 (dt_cmp (op_eqDD hr.units) (do_of (de_cl (c__law_take V B) ar_take (hr.mono (by omega)) hg (by rfl) (da_cons (de_var (pv 0)) (da_cons de_i da_nil (by rfl)) (by rfl)))) (do_of de_i) (nomark _))))))) (fun _ _ _ _ _ => (de_var (pv 7))) (fun _ => rfl))
    (dss_one (ds_ret (de_tup (da_cons (de_callTy oc_tuple (by rfl) V.m_tuple bt_tuple (doa_cons (do_var (pv 2)) doa_nil (by rfl))) (da_cons (de_callTy oc_tuple (by rfl) V.m_tuple bt_tuple (doa_cons (do_var (pv 6)) doa_nil (by rfl))) da_nil (by rfl)) (by rfl))))))))
theorem c__law_word (V : Tx K mg) (B : Ec Pr w K mg base excNames fI CS ad fdI) : Cl Pr w K mg base 1 "_law_word" 1 F__law_word := cl_of V.d__law_word sc__law_word fun f cdv A outer s H E F0 P0 hr hg lv hx =>
    (dss_cons (ds_set (i := 1) sc__law_word.nd (by rfl) (by first | exact .inl rfl | exact .inr rfl) (de_lst (da_cons (de_tup (da_cons (de_isE B.es (by decide +kernel) (B.kn _ (by decide +kernel)) (by rfl) V.m_isinstance (by rfl) (do_var (pv 0))) (da_cons de_s da_nil (by rfl)) (by rfl))) (da_cons (de_tup (da_cons (de_isE B.es (by decide +kernel) (B.kn _ (by decide +kernel)) (by rfl) V.m_isinstance (by rfl) (do_var (pv 0))) (da_cons de_s da_nil (by rfl)) (by rfl))) da_nil (by rfl)) (by rfl))) (by rfl) (.inl rfl))
    (dss_cons (ds_drop (de_own PySem.F.plainAttrs_list PySem.F.slot_list_extend PySem.F.type_list_extend own_extend (pv 1) (da_cons (de_lst (da_cons (de_tup (da_cons (de_isE B.es (by decide +kernel) (B.kn _ (by decide +kernel)) (by rfl) V.m_isinstance (by rfl) (do_var (pv 0))) (da_cons de_s da_nil (by rfl)) (by rfl))) (da_cons (de_tup (da_cons (de_isE B.es (by decide +kernel) (B.kn _ (by decide +kernel)) (by rfl) V.m_isinstance (by rfl) (do_var (pv 0))) (da_cons de_s da_nil (by rfl)) (by rfl))) da_nil (by rfl)) (by rfl))) da_nil (by rfl)) (by rfl) (by rfl) (by rfl) (by rfl)) (by rfl))
    (dss_one (ds_ret (de_comp (own := [("is_kind", 2), ("word", 3)]) (by rfl) sc__law_word.nd (di_seq (de_var (pv 1))) (blkOk_by (own := [("is_kind", 2), ("word", 3)]) (N := ["caught", "kinds", "is_kind", "word"]) (sc := defScope st__law_word) (by decide +kernel)) (by decide) (fun _ _ _ _ _ => (dp_tup rfl (dps_cons (dp_name sc__law_word.nd (by rfl) (by first | exact .inl rfl | exact .inr rfl) (by first | exact .inl rfl | exact .inr rfl)) (dps_cons (dp_name sc__law_word.nd (by rfl) (by first | exact .inl rfl | exact .inr rfl) (by first | exact .inl rfl | exact .inr rfl)) dps_nil (by rfl)) (by rfl)) (by rfl) (by rfl))) (fun _ _ _ _ _ => (dts_one (dt_v (de_var (pv 2))))) (fun _ _ _ _ _ => (de_var (pv 3))) (fun _ => rfl))))))
theorem c__law_is_refused (V : Tx K mg) (B : Ec Pr w K mg base excNames fI CS ad fdI) : ClK Pr w K mg base 8 11 "_law_is_refused" 3 F__law_is_refused := cl_ofK V.d__law_is_refused sc__law_is_refused fun f cdv A outer s H E F0 P0 κ hr hg lv hx kk =>
    (dss_cons (ds_set (i := 3) sc__law_is_refused.nd (by rfl) (by first | exact .inl rfl | exact .inr rfl) (de_item (do_of (de_clK (cl_heard V B) arK_heard (kf_on (Nat.le_refl _) rfl kk) (hr.mono (by omega)) hg (by rfl) (da_cons (de_var (pv 0)) da_nil (by rfl)))) (do_of de_i) (fun _ _ => rfl)) (by rfl) (.inl rfl))
    (dss_one (ds_ret (de_and (de_cmp (op_eqDD hr.units) (do_of (de_cl (c__law_word V B) ar__law_word (hr.mono (by omega)) hg (by rfl) (da_cons (de_var (pv 3)) da_nil (by rfl)))) (do_of (de_lst (da_cons (de_var (pv 1)) da_nil (by rfl)))) (nomark _)) (de_one (de_cmp (op_eqDD hr.units) (do_of (de_callB (oc_repr hg (u66 hr)) (by rfl) V.m_repr bt_repr (doa_cons (do_of (de_value B.es (do_var (pv 3)))) doa_nil (by rfl)))) (do_of (de_callB (oc_repr hg (u66 hr)) (by rfl) V.m_repr bt_repr (doa_cons (do_var (pv 2)) doa_nil (by rfl)))) (nomark _)))))))
theorem c__law_are_refused (V : Tx K mg) (B : Ec Pr w K mg base excNames fI CS ad fdI) : Cl Pr w K mg base 12 "_law_are_refused" 4 F__law_are_refused := cl_ofC V.d__law_are_refused sc__law_are_refused fun c P tp f A outer s H E F0 P0 hr hg lv hx =>
    have ld : ∀ n p w1, lamTab lams__law_are_refused n = some (p, w1) → LamDo (cxOf (CXE Pr w) Pr w K mg base ["pot", "building", "rule", "standing", "odd", "car"] "_law_are_refused" (defScope st__law_are_refused) f (.ref c) A outer s H E) 7 n p w1 := lamDo_tab (List.forall_mem_cons.mpr ⟨⟨⟨[], rfl, (lamP_by (N := ["pot", "building", "rule", "standing", "odd", "car"]) (sc := defScope st__law_are_refused) (by decide +kernel) : LamP ["pot", "building", "rule", "standing", "odd", "car"] (defScope st__law_are_refused) (lamX 0).sc []), fun us _ _ _ _ hl => (match us, hl with | [], _ => rfl), fun A1 o1 s1 H1 E1 f1 c1 hr hg =>
      have lv : Lv (lamCxP (cxOf (CXE Pr w) Pr w K mg base ["pot", "building", "rule", "standing", "odd", "car"] "_law_are_refused" (defScope st__law_are_refused) f (.ref c) A outer s H E) A1 o1 s1 H1 E1 0 f1 c1 []) (XX.of E1) := lv_lamP
      have hx := lv.px
      (de_cl (c_sees V B) ar_sees (hr.mono (by omega)) hg (by rfl) (da_cons (de_var (pv 4)) (da_cons de_n (da_cons (de_var (pv 5)) da_nil (by rfl)) (by rfl)) (by rfl)))⟩⟩,
    (List.forall_mem_cons.mpr ⟨⟨⟨[], rfl, (lamP_by (N := ["pot", "building", "rule", "standing", "odd", "car"]) (sc := defScope st__law_are_refused) (by decide +kernel) : LamP ["pot", "building", "rule", "standing", "odd", "car"] (defScope st__law_are_refused) (lamX 1).sc []), fun us _ _ _ _ hl => (match us, hl with | [], _ => rfl), fun A1 o1 s1 H1 E1 f1 c1 hr hg =>
      have lv : Lv (lamCxP (cxOf (CXE Pr w) Pr w K mg base ["pot", "building", "rule", "standing", "odd", "car"] "_law_are_refused" (defScope st__law_are_refused) f (.ref c) A outer s H E) A1 o1 s1 H1 E1 1 f1 c1 []) (XX.of E1) := lv_lamP
      have hx := lv.px
      (de_cl (c_deed_of V B) ar_deed_of (hr.mono (by omega)) hg (by rfl) (da_cons (de_var (pv 4)) (da_cons de_n (da_cons de_n (da_cons (de_var (pv 5)) da_nil (by rfl)) (by rfl)) (by rfl)) (by rfl)))⟩⟩,
    (List.forall_mem_cons.mpr ⟨⟨⟨[], rfl, (lamP_by (N := ["pot", "building", "rule", "standing", "odd", "car"]) (sc := defScope st__law_are_refused) (by decide +kernel) : LamP ["pot", "building", "rule", "standing", "odd", "car"] (defScope st__law_are_refused) (lamX 2).sc []), fun us _ _ _ _ hl => (match us, hl with | [], _ => rfl), fun A1 o1 s1 H1 E1 f1 c1 hr hg =>
      have lv : Lv (lamCxP (cxOf (CXE Pr w) Pr w K mg base ["pot", "building", "rule", "standing", "odd", "car"] "_law_are_refused" (defScope st__law_are_refused) f (.ref c) A outer s H E) A1 o1 s1 H1 E1 2 f1 c1 []) (XX.of E1) := lv_lamP
      have hx := lv.px
      (de_cl (c_deed_of V B) ar_deed_of (hr.mono (by omega)) hg (by rfl) (da_cons (de_var (pv 1)) (da_cons (de_var (pv 4)) (da_cons de_n (da_cons (de_var (pv 5)) da_nil (by rfl)) (by rfl)) (by rfl)) (by rfl)))⟩⟩,
    (List.forall_mem_cons.mpr ⟨⟨⟨[], rfl, (lamP_by (N := ["pot", "building", "rule", "standing", "odd", "car"]) (sc := defScope st__law_are_refused) (by decide +kernel) : LamP ["pot", "building", "rule", "standing", "odd", "car"] (defScope st__law_are_refused) (lamX 3).sc []), fun us _ _ _ _ hl => (match us, hl with | [], _ => rfl), fun A1 o1 s1 H1 E1 f1 c1 hr hg =>
      have lv : Lv (lamCxP (cxOf (CXE Pr w) Pr w K mg base ["pot", "building", "rule", "standing", "odd", "car"] "_law_are_refused" (defScope st__law_are_refused) f (.ref c) A outer s H E) A1 o1 s1 H1 E1 3 f1 c1 []) (XX.of E1) := lv_lamP
      have hx := lv.px
      (de_cl (c_clause_of V B) ar_clause_of (hr.mono (by omega)) hg (by rfl) (da_cons (de_var (pv 1)) (da_cons (de_var (pv 2)) (da_cons (de_var (pv 4)) (da_cons (de_var (pv 5)) da_nil (by rfl)) (by rfl)) (by rfl)) (by rfl)))⟩⟩,
    (List.forall_mem_cons.mpr ⟨⟨⟨[], rfl, (lamP_by (N := ["pot", "building", "rule", "standing", "odd", "car"]) (sc := defScope st__law_are_refused) (by decide +kernel) : LamP ["pot", "building", "rule", "standing", "odd", "car"] (defScope st__law_are_refused) (lamX 4).sc []), fun us _ _ _ _ hl => (match us, hl with | [], _ => rfl), fun A1 o1 s1 H1 E1 f1 c1 hr hg =>
      have lv : Lv (lamCxP (cxOf (CXE Pr w) Pr w K mg base ["pot", "building", "rule", "standing", "odd", "car"] "_law_are_refused" (defScope st__law_are_refused) f (.ref c) A outer s H E) A1 o1 s1 H1 E1 4 f1 c1 []) (XX.of E1) := lv_lamP
      have hx := lv.px
      (de_cl (c_sees V B) ar_sees (hr.mono (by omega)) hg (by rfl) (da_cons (de_var (pv 1)) (da_cons (de_var (pv 4)) (da_cons (de_var (pv 5)) da_nil (by rfl)) (by rfl)) (by rfl)))⟩⟩,
    (List.forall_mem_cons.mpr ⟨⟨⟨[], rfl, (lamP_by (N := ["pot", "building", "rule", "standing", "odd", "car"]) (sc := defScope st__law_are_refused) (by decide +kernel) : LamP ["pot", "building", "rule", "standing", "odd", "car"] (defScope st__law_are_refused) (lamX 5).sc []), fun us _ _ _ _ hl => (match us, hl with | [], _ => rfl), fun A1 o1 s1 H1 E1 f1 c1 hr hg =>
      have lv : Lv (lamCxP (cxOf (CXE Pr w) Pr w K mg base ["pot", "building", "rule", "standing", "odd", "car"] "_law_are_refused" (defScope st__law_are_refused) f (.ref c) A outer s H E) A1 o1 s1 H1 E1 5 f1 c1 []) (XX.of E1) := lv_lamP
      have hx := lv.px
      (de_cl (c_clause_of V B) ar_clause_of (hr.mono (by omega)) hg (by rfl) (da_cons (de_var (pv 1)) (da_cons (de_var (pv 2)) (da_cons (de_var (pv 3)) (da_cons (de_var (pv 5)) da_nil (by rfl)) (by rfl)) (by rfl)) (by rfl)))⟩⟩,
    (List.forall_mem_cons.mpr ⟨⟨⟨[], rfl, (lamP_by (N := ["pot", "building", "rule", "standing", "odd", "car"]) (sc := defScope st__law_are_refused) (by decide +kernel) : LamP ["pot", "building", "rule", "standing", "odd", "car"] (defScope st__law_are_refused) (lamX 6).sc []), fun us _ _ _ _ hl => (match us, hl with | [], _ => rfl), fun A1 o1 s1 H1 E1 f1 c1 hr hg =>
      have lv : Lv (lamCxP (cxOf (CXE Pr w) Pr w K mg base ["pot", "building", "rule", "standing", "odd", "car"] "_law_are_refused" (defScope st__law_are_refused) f (.ref c) A outer s H E) A1 o1 s1 H1 E1 6 f1 c1 []) (XX.of E1) := lv_lamP
      have hx := lv.px
      (de_cl (c_sees V B) ar_sees (hr.mono (by omega)) hg (by rfl) (da_cons (de_var (pv 1)) (da_cons (de_var (pv 3)) (da_cons (de_var (pv 5)) da_nil (by rfl)) (by rfl)) (by rfl)))⟩⟩,
    (fun _ z => nomatch z)⟩)⟩)⟩)⟩)⟩)⟩)⟩)
    (dss_cons (ds_parC (i := 4) (j := 5) (by rfl) sc__law_are_refused.nd (by rfl) (by rfl) (by decide) (by first | exact .inl rfl | exact .inr rfl) (by first | exact .inl rfl | exact .inr rfl) (.inl rfl) (.inl rfl) (de_cl (c__law_of V B) ar__law_of (hr.mono (by omega)) hg (by rfl) (da_cons (de_var (pv 0)) (da_cons (de_lst (da_cons de_n (da_cons de_i (da_cons de_s (da_cons (de_lst (da_cons (de_var (pv 1)) da_nil (by rfl))) (da_cons (de_tup (da_cons de_i (da_cons de_i (da_cons de_i (da_cons (de_tup da_nil) da_nil (by rfl)) (by rfl)) (by rfl)) (by rfl))) da_nil (by rfl)) (by rfl)) (by rfl)) (by rfl)) (by rfl))) da_nil (by rfl)) (by rfl))) (de_cl (c__law_of V B) ar__law_of (hr.mono (by omega)) hg (by rfl) (da_cons (de_var (pv 0)) (da_cons (de_lst (da_cons (de_un op_negD (do_of de_i)) (da_cons (de_item (do_var (pv 1)) (do_of de_i) (fun _ _ => rfl)) (da_cons de_b (da_cons de_n (da_cons de_s da_nil (by rfl)) (by rfl)) (by rfl)) (by rfl)) (by rfl))) da_nil (by rfl)) (by rfl))) (by rfl) (by rfl) (by rfl))
    (dss_cons (ds_if (dt_not (dt_v (de_clK (c__law_is_refused V B) ar__law_is_refused (kf_own ld) (hr.mono (by omega)) hg (by rfl) (da_cons (de_lam B.tu B.tb (by decide +kernel) tp rfl (by rfl) (by rfl) (by rfl) (lamP_by (N := ["pot", "building", "rule", "standing", "odd", "car"]) (sc := defScope st__law_are_refused) (ps := []) (by decide +kernel)).free) (da_cons de_s (da_cons (de_var (pv 4)) da_nil (by rfl)) (by rfl)) (by rfl))))) (dss_one (ds_ret de_b)) dss_nil)
    (dss_cons (ds_if (dt_not (dt_v (de_clK (c__law_is_refused V B) ar__law_is_refused (kf_own ld) (hr.mono (by omega)) hg (by rfl) (da_cons (de_lam B.tu B.tb (by decide +kernel) tp rfl (by rfl) (by rfl) (by rfl) (lamP_by (N := ["pot", "building", "rule", "standing", "odd", "car"]) (sc := defScope st__law_are_refused) (ps := []) (by decide +kernel)).free) (da_cons de_s (da_cons (de_var (pv 4)) da_nil (by rfl)) (by rfl)) (by rfl))))) (dss_one (ds_ret de_b)) dss_nil)
    (dss_cons (ds_if (dt_not (dt_v (de_clK (c__law_is_refused V B) ar__law_is_refused (kf_own ld) (hr.mono (by omega)) hg (by rfl) (da_cons (de_lam B.tu B.tb (by decide +kernel) tp rfl (by rfl) (by rfl) (by rfl) (lamP_by (N := ["pot", "building", "rule", "standing", "odd", "car"]) (sc := defScope st__law_are_refused) (ps := []) (by decide +kernel)).free) (da_cons de_s (da_cons (de_var (pv 4)) da_nil (by rfl)) (by rfl)) (by rfl))))) (dss_one (ds_ret de_b)) dss_nil)
    (dss_cons (ds_if (dt_not (dt_v (de_clK (c__law_is_refused V B) ar__law_is_refused (kf_own ld) (hr.mono (by omega)) hg (by rfl) (da_cons (de_lam B.tu B.tb (by decide +kernel) tp rfl (by rfl) (by rfl) (by rfl) (lamP_by (N := ["pot", "building", "rule", "standing", "odd", "car"]) (sc := defScope st__law_are_refused) (ps := []) (by decide +kernel)).free) (da_cons de_s (da_cons (de_var (pv 4)) da_nil (by rfl)) (by rfl)) (by rfl))))) (dss_one (ds_ret de_b)) dss_nil)
    (dss_cons (ds_if (dt_not (dt_v (de_clK (c__law_is_refused V B) ar__law_is_refused (kf_own ld) (hr.mono (by omega)) hg (by rfl) (da_cons (de_lam B.tu B.tb (by decide +kernel) tp rfl (by rfl) (by rfl) (by rfl) (lamP_by (N := ["pot", "building", "rule", "standing", "odd", "car"]) (sc := defScope st__law_are_refused) (ps := []) (by decide +kernel)).free) (da_cons de_s (da_cons (de_var (pv 4)) da_nil (by rfl)) (by rfl)) (by rfl))))) (dss_one (ds_ret de_b)) dss_nil)
    (dss_cons (ds_if (dt_not (dt_v (de_clK (c__law_is_refused V B) ar__law_is_refused (kf_own ld) (hr.mono (by omega)) hg (by rfl) (da_cons (de_lam B.tu B.tb (by decide +kernel) tp rfl (by rfl) (by rfl) (by rfl) (lamP_by (N := ["pot", "building", "rule", "standing", "odd", "car"]) (sc := defScope st__law_are_refused) (ps := []) (by decide +kernel)).free) (da_cons de_s (da_cons (de_var (pv 5)) da_nil (by rfl)) (by rfl)) (by rfl))))) (dss_one (ds_ret de_b)) dss_nil)
    (dss_one (ds_ret (de_clK (c__law_is_refused V B) ar__law_is_refused (kf_own ld) (hr.mono (by omega)) hg (by rfl) (da_cons (de_lam B.tu B.tb (by decide +kernel) tp rfl (by rfl) (by rfl) (by rfl) (lamP_by (N := ["pot", "building", "rule", "standing", "odd", "car"]) (sc := defScope st__law_are_refused) (ps := []) (by decide +kernel)).free) (da_cons de_s (da_cons (de_var (pv 5)) da_nil (by rfl)) (by rfl)) (by rfl))))))))))))
theorem c__law_right (V : Tx K mg) (B : Ec Pr w K mg base excNames fI CS ad fdI) : Cl Pr w K mg base 13 "_law_right" 1 F__law_right := cl_of V.d__law_right sc__law_right fun f cdv A outer s H E F0 P0 hr hg lv hx =>
    (dss_cons (ds_par (i := 1) (j := 2) (by rfl) sc__law_right.nd (by rfl) (by rfl) (by decide) (by rfl) (by rfl) (de_cl (c__law_building V B) ar__law_building (hr.mono (by omega)) hg (by rfl) (da_cons (de_var (pv 0)) (da_cons de_i (da_cons de_i (da_cons de_i da_nil (by rfl)) (by rfl)) (by rfl)) (by rfl))) (de_cl (c__law_rule V B) ar__law_rule (hr.mono (by omega)) hg (by rfl) (da_cons (de_var (pv 0)) da_nil (by rfl))) (by rfl) (by rfl) (by rfl))
    (dss_cons (ds_for lv.hp (by rfl) (di_range1 (by rfl) V.m_range (da_cons de_i da_nil (by rfl)) (by rfl)) (dp_name sc__law_right.nd (by rfl) (by first | exact .inl rfl | exact .inr rfl) (by first | exact .inl rfl | exact .inr rfl)) (dss_cons (ds_set (i := 4) sc__law_right.nd (by rfl) (by first | exact .inl rfl | exact .inr rfl) (de_cl (c__law_standing V B) ar__law_standing (hr.mono (by omega)) hg (by rfl) (da_cons (de_var (pv 0)) (da_cons (de_var (pv 1)) da_nil (by rfl)) (by rfl))) (by rfl) (.inl rfl))
    (dss_one (ds_for lv.hp (by rfl) (di_range1 (by rfl) V.m_range (da_cons (de_item (do_var (pv 1)) (do_of de_i) (fun _ _ => rfl)) da_nil (by rfl)) (by rfl)) (dp_name sc__law_right.nd (by rfl) (by first | exact .inl rfl | exact .inr rfl) (by first | exact .inl rfl | exact .inr rfl)) (dss_cons (ds_parC (i := 6) (j := 7) (by rfl) sc__law_right.nd (by rfl) (by rfl) (by decide) (by first | exact .inl rfl | exact .inr rfl) (by first | exact .inl rfl | exact .inr rfl) (.inl rfl) (.inl rfl) (de_cl (c__law_sees V B) ar__law_sees (hr.mono (by omega)) hg (by rfl) (da_cons (de_var (pv 1)) (da_cons (de_var (pv 4)) (da_cons (de_var (pv 5)) da_nil (by rfl)) (by rfl)) (by rfl))) (de_cl (c_sees V B) ar_sees (hr.mono (by omega)) hg (by rfl) (da_cons (de_var (pv 1)) (da_cons (de_var (pv 4)) (da_cons (de_var (pv 5)) da_nil (by rfl)) (by rfl)) (by rfl))) (by rfl) (by rfl) (by rfl))
    (dss_cons (ds_if (PW.pt (dw_or (dt_not (dt_v (de_isi (by rfl) V.m_isinstance (ty_dict (by rfl) V.m_dict) (do_var (pv 7))))) (dw_or (dt_cmp (op_neDD hr.units) (do_of (de_sortDct (by rfl) (by rfl) V.m_sorted (do_var (pv 7)))) (do_of (de_sortDct (by rfl) (by rfl) V.m_sorted (do_var (pv 6)))) (nomark _)) (dw_or1 (dt_cmp (op_neDD hr.units) (do_of (de_callB oc_dlen (by rfl) V.m_len bt_len (doa_cons (do_var (pv 6)) doa_nil (by rfl)))) (do_of de_i) (nomark _)))))) (dss_one (ds_ret de_b)) dss_nil)
    (dss_cons (ds_if (dt_cmp (op_neDD hr.units) (do_of (de_callB (oc_repr hg (u66 hr)) (by rfl) V.m_repr bt_repr (doa_cons (do_of (de_comp (own := [("word", 8)]) (by rfl) sc__law_right.nd (di_seq (de_cl0 (c__law_words V B) ar__law_words (hr.mono (by omega)) hg (by rfl))) (blkOk_by (own := [("word", 8)]) (N := ["pot", "building", "rule", "lap", "standing", "car", "due", "seen", "word", "told", "number"]) (sc := defScope st__law_right) (by decide +kernel)) (by decide) (fun _ _ _ _ _ => (dp_name sc__law_right.nd (by rfl) (by first | exact .inl rfl | exact .inr rfl) (by first | exact .inl rfl | exact .inr rfl))) (fun _ _ _ _ _ => dts_nil) (fun _ _ _ _ _ => (de_dget (hu_of hr) (do_var (pv 7)) (do_var (pv 8)))) (fun _ => rfl))) doa_nil (by rfl)))) (do_of (de_callB (oc_repr hg (u66 hr)) (by rfl) V.m_repr bt_repr (doa_cons (do_of (de_comp (own := [("word", 8)]) (by rfl) sc__law_right.nd (di_seq (de_cl0 (c__law_words V B) ar__law_words (hr.mono (by omega)) hg (by rfl))) (blkOk_by (own := [("word", 8)]) (N := ["pot", "building", "rule", "lap", "standing", "car", "due", "seen", "word", "told", "number"]) (sc := defScope st__law_right) (by decide +kernel)) (by decide) (fun _ _ _ _ _ => (dp_name sc__law_right.nd (by rfl) (by first | exact .inl rfl | exact .inr rfl) (by first | exact .inl rfl | exact .inr rfl))) (fun _ _ _ _ _ => dts_nil) (fun _ _ _ _ _ => (de_dget (hu_of hr) (do_var (pv 6)) (do_var (pv 8)))) (fun _ => rfl))) doa_nil (by rfl)))) (nomark _)) (dss_one (ds_ret de_b)) dss_nil)
    (dss_cons (ds_dput (hu_of hr) (pv 7) (do_of de_s) de_s (by rfl))
    (dss_cons (ds_set (i := 9) sc__law_right.nd (by rfl) (by first | exact .inl rfl | exact .inr rfl) (de_tup (da_cons (de_cl (c_clause_of V B) ar_clause_of (hr.mono (by omega)) hg (by rfl) (da_cons (de_var (pv 1)) (da_cons (de_var (pv 2)) (da_cons (de_var (pv 4)) (da_cons (de_var (pv 5)) da_nil (by rfl)) (by rfl)) (by rfl)) (by rfl))) (da_cons (de_cl (c_deed_of V B) ar_deed_of (hr.mono (by omega)) hg (by rfl) (da_cons (de_var (pv 1)) (da_cons (de_var (pv 2)) (da_cons (de_var (pv 4)) (da_cons (de_var (pv 5)) da_nil (by rfl)) (by rfl)) (by rfl)) (by rfl))) da_nil (by rfl)) (by rfl))) (by rfl) (.inl rfl))
    (dss_cons (ds_set (i := 10) sc__law_right.nd (by rfl) (by first | exact .inl rfl | exact .inr rfl) (de_cl (c__law_clause_of V B) ar__law_clause_of (hr.mono (by omega)) hg (by rfl) (da_cons (de_var (pv 1)) (da_cons (de_var (pv 2)) (da_cons (de_var (pv 4)) (da_cons (de_var (pv 5)) da_nil (by rfl)) (by rfl)) (by rfl)) (by rfl))) (by rfl) (.inl rfl))
    (dss_cons (ds_if (dt_cmp (op_neDD hr.units) (do_of (de_callB (oc_repr hg (u66 hr)) (by rfl) V.m_repr bt_repr (doa_cons (do_var (pv 9)) doa_nil (by rfl)))) (do_of (de_callB (oc_repr hg (u66 hr)) (by rfl) V.m_repr bt_repr (doa_cons (do_of (de_tup (da_cons (de_var (pv 10)) (da_cons (de_cl (c__law_deed_of V B) ar__law_deed_of (hr.mono (by omega)) hg (by rfl) (da_cons (de_var (pv 1)) (da_cons (de_var (pv 2)) (da_cons (de_var (pv 4)) (da_cons (de_var (pv 5)) da_nil (by rfl)) (by rfl)) (by rfl)) (by rfl))) da_nil (by rfl)) (by rfl)))) doa_nil (by rfl)))) (nomark _)) (dss_one (ds_ret de_b)) dss_nil)
    (dss_one (ds_if (dt_cmp (op_neDD hr.units) (do_of (de_callB (oc_repr hg (u66 hr)) (by rfl) V.m_repr bt_repr (doa_cons (do_of (de_dget (hu_of hr) (do_of (de_cl (c_sees V B) ar_sees (hr.mono (by omega)) hg (by rfl) (da_cons (de_var (pv 1)) (da_cons (de_var (pv 4)) (da_cons (de_var (pv 5)) da_nil (by rfl)) (by rfl)) (by rfl)))) (do_of de_s))) doa_nil (by rfl)))) (do_of (de_callB (oc_repr hg (u66 hr)) (by rfl) V.m_repr bt_repr (doa_cons (do_of (de_dget (hu_of hr) (do_var (pv 6)) (do_of de_s))) doa_nil (by rfl)))) (nomark _)) (dss_one (ds_ret de_b)) dss_nil))))))))) (fun _ => rfl)))) (fun _ => rfl))
    (dss_one (ds_ret (de_cl (c__law_are_refused V B) ar__law_are_refused (hr.mono (by omega)) hg (by rfl) (da_cons (de_var (pv 0)) (da_cons (de_var (pv 1)) (da_cons (de_var (pv 2)) (da_cons (de_var (pv 4)) da_nil (by rfl)) (by rfl)) (by rfl)) (by rfl)))))))
theorem b_law (V : Tx K mg) (B : Ec Pr w K mg base excNames fI CS ad fdI) {f : Addr} {cdv : Value} {A : Around} {outer : List Env} {s : Shared} {H : Hp} {E : XK} {F0 P0 : PA1} (hr : Room 13 (A.deeper (envOfC "law" (defScope st_law) s.heap.objs.size f cdv))) (hg : A.guards = some []) :
    DSs (cxOf (CXE Pr w) Pr w K mg base ["script", "place", "pot", "lap"] "law" (defScope st_law) f cdv A outer s H E) (XX.fr E F0 P0 H) (defBody st_law) w_law := by
    have lv : Lv (cxOf (CXE Pr w) Pr w K mg base ["script", "place", "pot", "lap"] "law" (defScope st_law) f cdv A outer s H E) (XX.fr E F0 P0 H) := lv_cx
    have hx := lv.px
    exact (dss_cons (ds_for lv.hp (by rfl) (di_seq (de_cl (c__law_cells V B) ar__law_cells (hr.mono (by omega)) hg (by rfl) (da_cons (de_var (pv 0)) (da_cons de_i da_nil (by rfl)) (by rfl)))) (dp_name sc_law.nd (by rfl) (by first | exact .inl rfl | exact .inr rfl) (by first | exact .inl rfl | exact .inr rfl)) (dss_cons (ds_thenF (i := 2) (ds_set (i := 2) sc_law.nd (by rfl) (by first | exact .inl rfl | exact .inr rfl) (de_cl (c__law_pot V B) ar_pot (hr.mono (by omega)) hg (by rfl) (da_cons (de_var (pv 0)) (da_cons (de_var (pv 1)) da_nil (by rfl)) (by rfl))) (by rfl) (.inl rfl)))
    (dss_one (ds_if (dt_not (dt_v (de_callB (oc_all (by rfl)) (by rfl) V.m_all bt_all (doa_cons (do_of (de_comp (own := [("lap", 3)]) (by rfl) sc_law.nd (di_range1 (by rfl) V.m_range (da_cons de_i da_nil (by rfl)) (by rfl)) (blkOk_by (own := [("lap", 3)]) (N := ["script", "place", "pot", "lap"]) (sc := defScope st_law) (by decide +kernel)) (by decide) (fun _ _ _ _ _ => (dp_name sc_law.nd (by rfl) (by first | exact .inl rfl | exact .inr rfl) (by first | exact .inl rfl | exact .inr rfl))) (fun _ _ _ _ _ => dts_nil) (fun _ _ _ _ _ => (de_cl (c__law_right V B) ar__law_right (hr.mono (by omega)) hg (by rfl) (da_cons (de_var (pv 2)) da_nil (by rfl)))) (fun _ => rfl))) doa_nil (by rfl))))) (dss_one (ds_ret de_b)) dss_nil))) (fun _ => rfl))
    (dss_one (ds_ret de_b)))
end
end LW
set_option Elab.async false
set_option linter.all false
set_option maxRecDepth 100000
set_option maxHeartbeats 1000000
set_option autoImplicit false
namespace LW
open PySem PySem.Spec PyProof.Rows L2 NB
def tupB (v : D) (lo hi : Int) : Bool := match v with
  | .tup ds => decide (lo ≤ ds.length) && decide ((ds.length : Int) ≤ hi)
  | _ => false
def intB (v : D) (lo hi : Int) : Bool := match v with
  | .int i => decide (lo ≤ i) && decide (i ≤ hi)
  | _ => false
def wholeB (v : D) : Bool := match v with
  | .int _ => true
  | _ => false
section
variable {t : Nat} {Q : R → Nat → Prop} {E : KX} {v : D} {lo hi : Int}
theorem i_is_tuple (h : okD v = true) : F_is_tuple [v, .int lo, .int hi] t Q E ↔ Q (.im (.bl (tupB v lo hi))) t := by
  cases v <;> simp [F_is_tuple, w_is_tuple, tupB, okD] at h ⊢
  rename_i xs
  by_cases h1 : lo ≤ xs.length <;> simp [h1] <;> (intros; omega)
theorem i_is_whole (h : okD v = true) : F_is_whole [v] t Q E ↔ Q (.im (.bl (wholeB v))) t := by
  cases v <;> simp [F_is_whole, w_is_whole, wholeB, okD] at h ⊢
theorem i_is_integer (h : okD v = true) : F_is_integer [v, .int lo, .int hi] t Q E ↔ Q (.im (.bl (intB v lo hi))) t := by
  simp [F_is_integer, w_is_integer, i_is_whole h]
  cases v <;> simp [wholeB, intB]
  rename_i i
  by_cases h1 : lo ≤ i <;> simp [h1] <;> (intros; omega)
end
def tripB (v : D) (n : Int) : Bool := match v with
  | .tup [.int x, .int y] => (decide (0 ≤ x) && decide (x ≤ n - 1)) && (decide (0 ≤ y) && decide (y ≤ n - 1)) && !decide (x = y)
  | _ => false
theorem okL_cons {d : D} {ds : List D} (h : okL (d :: ds) = true) : okD d = true ∧ okL ds = true := by rw [okL, Bool.and_eq_true] at h; exact h
theorem ok_tup {ds : List D} (h : okD (.tup ds) = true) : okL ds = true := by rw [okD] at h; exact h
theorem intB_int {v : D} {lo hi : Int} (h : intB v lo hi = true) : ∃ i, v = .int i := by
  cases v <;> simp [intB] at h ⊢
section
variable {t : Nat} {Q : R → Nat → Prop} {E : KX} {v : D} {n : Int}
theorem ints_comp {i : Nat} {ρ : List Sl} {ds acc : List D} {Q : List D → Nat → Prop} {w1 : W} (hw : ∀ d ∈ ds, ∀ (Q' : R → List Sl → Nat → Prop) E, w1 (ρ.set i (.im d)) t Q' E ↔ Q' (.im (.bl (intB d 0 (n - 1)))) (ρ.set i (.im d)) t) (hl : acc.length + ds.length ≤ sizeLine) :
    compL (.nm i) yesT w1 ρ ds acc t Q ↔ Q (acc ++ ds.map fun d => .bl (intB d 0 (n - 1))) t := by
  rw [compL_iff (cf := fun _ => true) (f := fun d => .bl (intB d 0 (n - 1))) (fun d hd => ⟨_, rfl, fun _ _ => Iff.rfl, fun _ => ⟨_, rfl, hw d hd⟩⟩) hl, List.filter_eq_self.mpr fun _ _ => rfl]
theorem bls_map (f : D → Bool) : ∀ ds : List D, blsD (ds.map fun d => .bl (f d)) = some (ds.map f)
  | [] => rfl
  | d :: ds => by rw [List.map_cons, blsD, bls_map f ds]; rfl
theorem all_map (f : D → Bool) (ds : List D) : allD (.lst (ds.map fun d => .bl (f d))) = some (.im (.bl (ds.all f))) := by
  simp [bls_map, List.all_map, Function.comp_def]
def neqI (a b : D) : Bool := match a, b with
  | .int x, .int y => !decide (x = y)
  | _, _ => false
theorem tripB_pair {a b : D} {n : Int} : tripB (.tup [a, b]) n = ((intB a 0 (n - 1) && intB b 0 (n - 1)) && neqI a b) := by
  cases a <;> cases b <;> simp [tripB, intB, neqI]
theorem tripB_other {ds : List D} {n : Int} (h : ds.length ≠ 2) : tripB (.tup ds) n = false := by
  match ds, h with
  | [], _ => rfl
  | [a], _ => cases a <;> rfl
  | a :: b :: c :: r, _ => cases a <;> cases b <;> rfl
  | [_, _], h => exact absurd rfl h
theorem i_is_trip (h : okD v = true) : F_is_trip [v, .int n] t Q E ↔ Q (.im (.bl (tripB v n))) t := by
  simp [F_is_trip, w_is_trip, i_is_tuple h]
  cases v with
  | tup ds =>
    match ds, h with
    | [a, b], h =>
      obtain ⟨ha, hb⟩ := okL_cons (ok_tup h)
      have hb := (okL_cons hb).1
      have c1 : ∀ d ∈ [a, b], ∀ (Q' : R → List Sl → Nat → Prop) E, (callW F_is_integer (consD (varW 2) (consD (pureW (.im (.int 0))) (consD (op2W subD (slotO 1) (valO (pureW (.im (.int 1))))) nilW)))) ([Sl.im (.tup [a, b]), .im (.int n), .non].set 2 (.im d)) t Q' E ↔ Q' (.im (.bl (intB d 0 (n - 1)))) ([Sl.im (.tup [a, b]), .im (.int n), .non].set 2 (.im d)) t := by
        intro d hd Q' E
        have : okD d = true := by
          rcases List.mem_cons.mp hd with e | e
          · rw [e]; exact ha
          · rw [List.mem_singleton.mp e]; exact hb
        simp [i_is_integer this]
      simp [tupB]
      rw [ints_comp c1 (by show 2 ≤ sizeLine; decide)]
      simp [blsD]
      rw [tripB_pair]
      cases ea : intB a 0 (n - 1) <;> cases eb : intB b 0 (n - 1) <;> simp
      obtain ⟨x, rfl⟩ := intB_int ea
      obtain ⟨y, rfl⟩ := intB_int eb
      simp [neqI]
    | [], _ => simp [tupB, tripB]
    | [a], _ => rw [tripB_other (by simp)]; simp [tupB]
    | a :: b :: c :: r, _ =>
      rw [tripB_other (by simp)]
      have : ¬ ((r.length : Int) + 1 + 1 + 1 ≤ 2) := by omega
      simp [tupB, this]
  | _ => simp [tupB, tripB]
end
def tP (p : Int × Int) : D := .tup [.int p.1, .int p.2]
theorem trips_of {n : Int} : ∀ {ds : List D}, (ds.all fun d => tripB d n) = true → ∃ l : List (Int × Int), ds = l.map tP ∧ ∀ p ∈ l, (0 ≤ p.1 ∧ p.1 ≤ n - 1) ∧ (0 ≤ p.2 ∧ p.2 ≤ n - 1) ∧ p.1 ≠ p.2
  | [], _ => ⟨[], rfl, fun _ h => nomatch h⟩
  | d :: ds, h => by
    rw [List.all_cons, Bool.and_eq_true] at h
    obtain ⟨l, rfl, hl⟩ := trips_of h.2
    have h1 := h.1
    unfold tripB at h1
    split at h1
    · rename_i x y
      simp at h1
      refine ⟨(x, y) :: l, rfl, fun p hp => ?_⟩
      rcases List.mem_cons.mp hp with e | e
      · rw [e]
        exact ⟨h1.1.1, h1.1.2, h1.2⟩
      · exact hl p e
    · cases h1
def ltT (a b : D) : Bool := match a, b with
  | .tup [.int a, .int b], .tup [.int c, .int d] => HT.lexLt [a, b] [c, d]
  | _, _ => false
def gD (d : D) : Bool := match d with
  | .tup [a, b] => ltT a b
  | _ => false
def risD (ds : List D) : Bool := (zipD ds ds.tail).all gD
theorem cut1D (ds : List D) : NB.cutD ds (some 1) none = ds.tail := by
  unfold NB.cutD
  rw [HT.sIx_none, show HT.sIx ds.length 0 (some 1) = min 1 ds.length from HT.sIx_nat _ 0 1]
  cases ds with
  | nil => rfl
  | cons d ds =>
    rw [List.length_cons, show min 1 (ds.length + 1) = 1 by omega]
    show List.take (ds.length + 1 - 1) ds = ds
    rw [Nat.add_sub_cancel, List.take_length]
theorem zip_mem {l : List (Int × Int)} {d : D} (h : d ∈ zipD (l.map tP) (l.map tP).tail) : ∃ p q : Int × Int, d = .tup [tP p, tP q] := by
  unfold zipD at h
  obtain ⟨⟨a, b⟩, h1, rfl⟩ := List.mem_map.mp h
  obtain ⟨p, _, e1⟩ := List.mem_map.mp (List.of_mem_zip h1).1
  obtain ⟨q, _, e2⟩ := List.mem_map.mp (List.mem_of_mem_tail (List.of_mem_zip h1).2)
  exact ⟨p, q, by rw [← e1, ← e2]⟩
section
variable {t : Nat} {Q : R → Nat → Prop} {E : KX} {v : D} {n : Int}
theorem i_is_rising {l : List (Int × Int)} (hl : l.length ≤ 1000) : F_is_rising [.tup (l.map tP)] t Q E ↔ Q (.im (.bl (risD (l.map tP)))) t := by
  simp [F_is_rising, w_is_rising, cut1D, and_assoc]
  rw [compL_iff (cf := fun _ => true) (f := fun d => .bl (gD d))]
  · simp [bls_map, risD, List.all_map, Function.comp_def]
  · intro d hd
    obtain ⟨p, q, rfl⟩ := zip_mem hd
    refine ⟨_, rfl, fun _ _ => Iff.rfl, fun _ => ⟨.im (.bl (gD (.tup [tP p, tP q]))), rfl, fun Q' E => ?_⟩⟩
    simp [tP, intsD, gD, ltT]
  · have : (zipD (l.map tP) (l.map tP).tail).length ≤ 1000 := by
      unfold zipD
      rw [List.length_map, List.length_zip, List.length_map]
      omega
    have h2 : sizeLine = 16777216 := sizeLine_eq
    simp only [List.length_nil, Nat.zero_add]
    omega
def lenB (ds : List D) : Bool := decide ((1 : Int) ≤ ds.length) && decide ((ds.length : Int) ≤ 56)
def tripsB (a e : D) : Bool := match a, e with
  | .int n, .tup ds => (lenB ds && ds.all fun d => tripB d n) && risD ds
  | _, _ => false
def buildB (v : D) : Bool := match v with
  | .tup [a, b, c, e] => ((intB a 2 8 && intB b 1 3) && intB c 1 4) && tripsB a e
  | _ => false
theorem buildB_other {ds : List D} (h : ds.length ≠ 4) : buildB (.tup ds) = false := by
  unfold buildB
  split
  · rename_i e
    cases e
    exact absurd rfl h
  · rfl
theorem tup4 {ds : List D} (h : ds.length = 4) : ∃ a b c e, ds = [a, b, c, e] := by
  match ds, h with
  | [a, b, c, e], _ => exact ⟨a, b, c, e, rfl⟩
theorem i_is_building (h : okD v = true) : F_is_building [v] t Q E ↔ Q (.im (.bl (buildB v))) t := by
  simp [F_is_building, w_is_building, i_is_tuple h]
  cases v with
  | tup ds =>
    by_cases h4 : ds.length = 4
    · obtain ⟨a, b, c, e, rfl⟩ := tup4 h4
      obtain ⟨ha, h'⟩ := okL_cons (ok_tup h)
      obtain ⟨hb, h'⟩ := okL_cons h'
      obtain ⟨hc, h'⟩ := okL_cons h'
      obtain ⟨he, h'⟩ := okL_cons h'
      simp [tupB, buildB, i_is_integer ha, i_is_integer hb, i_is_integer hc, i_is_tuple he]
      cases ea : intB a 2 8 <;> simp
      obtain ⟨n, rfl⟩ := intB_int ea
      cases eb : intB b 1 3 <;> simp
      cases ec : intB c 1 4 <;> simp
      cases e with
      | tup es =>
        have hk := okL_mem (ok_tup he)
        have hz : sizeLine = 16777216 := sizeLine_eq
        simp [tripsB, tupB]
        cases hl : lenB es with
        | false =>
          have h1 : ¬ ((1 : Int) ≤ es.length ∧ (es.length : Int) ≤ 56) := fun z => by
            unfold lenB at hl
            rw [decide_eq_true z.1, decide_eq_true z.2] at hl
            cases hl
          simp [h1]
          intro _
          omega
        | true =>
          have h1 : (1 : Int) ≤ es.length ∧ (es.length : Int) ≤ 56 := by
            unfold lenB at hl
            simpa using hl
          rw [compL_iff (cf := fun _ => true) (f := fun d => .bl (tripB d n)) (fun d hd => ⟨_, bindP_nm, fun _ _ => Iff.rfl, fun _ => ⟨.im (.bl (tripB d n)), rfl, fun Q' E => by simp [i_is_trip (hk d hd)]⟩⟩) (by simp only [List.length_nil]; omega)]
          have h2 : ¬ (56 : Int) < es.length := by omega
          simp [-List.all_eq_true, -List.all_eq_false, h1, h2, bls_map, List.all_map, Function.comp_def]
          cases ha : es.all fun d => tripB d n with
          | false => simp
          | true =>
            obtain ⟨l, rfl, _⟩ := trips_of ha
            rw [List.length_map] at h1
            simp [i_is_rising (l := l) (Q := fun r t2 => Q r t2) (by omega)]
      | _ => simp [tripsB, tupB]
    · rw [buildB_other h4]
      have : tupB (.tup ds) 4 4 = false := by
        simp [tupB]
        omega
      simp [this]
  | _ => simp [tupB, buildB]
end
end LW
set_option Elab.async false
set_option linter.all false
set_option maxRecDepth 100000
set_option maxHeartbeats 1000000
set_option autoImplicit false
/-! k07: cars and standings. -/
namespace LW
open PySem PySem.Spec PyProof.Rows L2 NB
theorem eqv_str (x y : Str) : D.eqv (.str x) (.str y) = decide (x = y) := by
  rw [D.eqv, D.py, D.py, PyData.eqv]
  by_cases h : x = y <;> simp [h]
theorem okL_strs {zs : List Str} : okL (zs.map .str) = zs.all PyData.strOk := by
  induction zs with
  | nil => rfl
  | cons z zs ih => rw [List.map_cons, okL, okD, ih, List.all_cons]
theorem dpL_strs {zs : List Str} : dpL (zs.map .str) = 0 := by
  induction zs with
  | nil => rfl
  | cons z zs ih => rw [List.map_cons, dpL, dpD, ih]; rfl
theorem any_strs (z : Str) (zs : List Str) : (zs.map D.str).any (fun y => D.eqv y (.str z)) = decide (z ∈ zs) := by
  induction zs with
  | nil => rfl
  | cons y zs ih =>
    rw [List.map_cons, List.any_cons, ih, eqv_str]
    by_cases h : y = z
    · simp [h]
    · have : ¬ z = y := fun e => h e.symm
      simp [h, this]
theorem in_strs_tup {z : Str} {zs : List Str} (h : PyData.strOk z = true) (hz : zs.all PyData.strOk = true) : inB (.str z) (.tup (zs.map .str)) = some (decide (z ∈ zs)) := by
  have : eqOk (.str z) (.tup (zs.map .str)) = true := by
    unfold eqOk
    rw [okD, okD, h, okL_strs, hz, dpD, dpD, dpL_strs]
    rfl
  simp only [inB, this, if_true, any_strs]
def wordB (v : D) (zs : List Str) : Bool := match v with
  | .str z => decide (z ∈ zs)
  | _ => false
theorem heads_ok : k_HEADINGS.all PyData.strOk = true := by decide +kernel
def intsB (n : Int) (ds : List D) : Bool := ds.all fun d => intB d 0 (n - 1)
theorem ints_of {n : Int} : ∀ {ds : List D}, intsB n ds = true → ∃ l : List Int, ds = l.map .int ∧ ∀ k ∈ l, 0 ≤ k ∧ k < n
  | [], _ => ⟨[], rfl, fun _ h => nomatch h⟩
  | d :: ds, h => by
    rw [intsB, List.all_cons, Bool.and_eq_true] at h
    obtain ⟨l, rfl, hl⟩ := ints_of h.2
    obtain ⟨i, rfl⟩ := intB_int h.1
    have h1 := h.1
    simp [intB] at h1
    refine ⟨i :: l, rfl, fun k hk => ?_⟩
    rcases List.mem_cons.mp hk with e | e
    · rw [e]; omega
    · exact hl k e
def intL : List D → List Int
  | .int i :: ds => i :: intL ds
  | _ :: ds => intL ds
  | [] => []
theorem intL_map : ∀ l : List Int, intL (l.map .int) = l
  | [] => rfl
  | i :: l => by rw [List.map_cons, intL, intL_map l]
section
variable {t : Nat} {Q : R → Nat → Prop} {E : KX} {v : D} {n c r : Int}
theorem i_is_word {zs : List Str} (h : okD v = true) (hz : zs.all PyData.strOk = true) : F_is_word [v, .tup (zs.map .str)] t Q E ↔ Q (.im (.bl (wordB v zs))) t := by
  cases v with
  | str z =>
    rw [okD] at h
    simp [-inB, F_is_word, w_is_word, wordB, in_strs_tup h hz]
    by_cases hm : z ∈ zs <;> simp [hm]
  | pot => simp [okD] at h
  | exc _ _ => simp [okD] at h
  | fnv _ => simp [okD] at h
  | clo _ _ => simp [okD] at h
  | dct _ _ => simp [okD] at h
  | ins _ _ => simp [okD] at h
  | _ => simp [F_is_word, w_is_word, wordB]
theorem zip_memI {l : List Int} {d : D} (h : d ∈ zipD (l.map .int) (l.map .int).tail) : ∃ p q : Int, d = .tup [.int p, .int q] := by
  unfold zipD at h
  obtain ⟨⟨a, b⟩, h1, rfl⟩ := List.mem_map.mp h
  obtain ⟨p, _, e1⟩ := List.mem_map.mp (List.of_mem_zip h1).1
  obtain ⟨q, _, e2⟩ := List.mem_map.mp (List.mem_of_mem_tail (List.of_mem_zip h1).2)
  exact ⟨p, q, by rw [← e1, ← e2]⟩
theorem zip_lenI {l : List Int} (hl : l.length ≤ 4000) : (zipD (l.map .int) (l.map .int).tail).length ≤ sizeLine := by
  have h2 : sizeLine = 16777216 := sizeLine_eq
  unfold zipD
  rw [List.length_map, List.length_zip, List.length_map]
  omega
theorem i_is_risingI {l : List Int} (hl : l.length ≤ 4000) : F_is_rising [.tup (l.map .int)] t Q E ↔ Q (.im (.bl (chn ltI l))) t := by
  simp [F_is_rising, w_is_rising, cut1D, and_assoc]
  rw [compL_iff (cf := fun _ => true) (f := fun d => .bl (gR ltI d))]
  · simp [-List.all_eq_true, -List.all_eq_false, bls_map, List.all_map, Function.comp_def, zip_chn]
  · intro d hd
    obtain ⟨p, q, rfl⟩ := zip_memI hd
    refine ⟨_, rfl, fun _ _ => Iff.rfl, fun _ => ⟨.im (.bl (gR ltI (.tup [.int p, .int q]))), rfl, fun Q' E => ?_⟩⟩
    simp [gR, ltI]
  · have := zip_lenI hl
    simp only [List.length_nil, Nat.zero_add]
    exact this
end
def loadB (n r : Int) (v : D) : Bool := match v with
  | .tup ds => (decide ((ds.length : Int) ≤ r) && intsB n ds) && chn leI (intL ds)
  | _ => false
def carB (n r : Int) (v : D) : Bool := match v with
  | .tup [a, b, c] => (intB a 0 (n - 1) && wordB b k_HEADINGS) && loadB n r c
  | _ => false
theorem carB_other {n r : Int} {ds : List D} (h : ds.length ≠ 3) : carB n r (.tup ds) = false := by
  unfold carB
  split
  · rename_i e
    cases e
    exact absurd rfl h
  · rfl
theorem tup3 {ds : List D} (h : ds.length = 3) : ∃ a b c, ds = [a, b, c] := by
  match ds, h with
  | [a, b, c], _ => exact ⟨a, b, c, rfl⟩
theorem tup2 {ds : List D} (h : ds.length = 2) : ∃ a b, ds = [a, b] := by
  match ds, h with
  | [a, b], _ => exact ⟨a, b, rfl⟩
abbrev bD (n c r : Int) (ts : List D) : D := .tup [.int n, .int c, .int r, .tup ts]
section
variable {t : Nat} {Q : R → Nat → Prop} {E : KX} {v : D} {n c r : Int} {ts : List D}
theorem i_is_car (h : okD v = true) (h0 : 0 ≤ r) (h4 : r ≤ 4) : F_is_car [bD n c r ts, v] t Q E ↔ Q (.im (.bl (carB n r v))) t := by
  simp [F_is_car, w_is_car, i_is_tuple h]
  cases v with
  | tup ds =>
    by_cases h3 : ds.length = 3
    · obtain ⟨a, b, e, rfl⟩ := tup3 h3
      obtain ⟨ha, h'⟩ := okL_cons (ok_tup h)
      obtain ⟨hb, h'⟩ := okL_cons h'
      obtain ⟨he, _⟩ := okL_cons h'
      simp [tupB, carB, i_is_integer ha, i_is_word hb heads_ok, i_is_tuple he]
      cases ea : intB a 0 (n - 1) <;> simp
      cases eb : wordB b k_HEADINGS <;> simp
      cases e with
      | tup es =>
        by_cases hl : (es.length : Int) ≤ r
        · have hk := okL_mem (ok_tup he)
          have hz : sizeLine = 16777216 := sizeLine_eq
          have hn : ¬ r < (es.length : Int) := by omega
          simp [tupB, loadB, hl, hn]
          rw [ints_comp (n := n) (fun d hd Q' E => by simp [i_is_integer (hk d hd)]) (by simp only [List.length_nil]; omega)]
          simp [-List.all_eq_true, -List.all_eq_false, bls_map, List.all_map, Function.comp_def]
          show _ ↔ Q (.im (.bl (intsB n es && chn leI (intL es)))) t
          rw [show (es.all fun d => intB d 0 (n - 1)) = intsB n es from rfl]
          cases hi : intsB n es with
          | false => simp
          | true =>
            obtain ⟨l, rfl, _⟩ := ints_of hi
            rw [List.length_map] at hl
            simp [cut1D, and_assoc, intL_map]
            rw [compL_iff (cf := fun _ => true) (f := fun d => .bl (gR leI d))]
            · simp [-List.all_eq_true, -List.all_eq_false, bls_map, List.all_map, Function.comp_def, zip_chn]
            · intro d hd
              obtain ⟨p, q, rfl⟩ := zip_memI hd
              refine ⟨_, rfl, fun _ _ => Iff.rfl, fun _ => ⟨.im (.bl (gR leI (.tup [.int p, .int q]))), rfl, fun Q' E => ?_⟩⟩
              simp [gR, leI]
            · have := zip_lenI (l := l) (by omega)
              simp only [List.length_nil, Nat.zero_add]
              exact this
        · have hn : r < (es.length : Int) := by omega
          simp [tupB, loadB, hl, hn]
      | _ => simp [tupB, loadB]
    · rw [carB_other h3]
      have : tupB (.tup ds) 3 3 = false := by
        simp [tupB]
        omega
      simp [this]
  | _ => simp [tupB, carB]
end
end LW
set_option Elab.async false
set_option linter.all false
set_option maxRecDepth 100000
set_option maxHeartbeats 1000000
set_option autoImplicit false
/-! k07: standings. -/
namespace LW
open PySem PySem.Spec PyProof.Rows L2 NB
theorem bls_maps {α : Type} (f : α → Bool) : ∀ ds : List α, blsD (ds.map fun d => .bl (f d)) = some (ds.map f)
  | [] => rfl
  | d :: ds => by rw [List.map_cons, blsD, bls_maps f ds]; rfl
def callsB (l : List (Int × Int)) (k : Int) : Bool := !(l.filter fun p => decide (p.1 = k)).isEmpty
def floorsB (n : Int) (l : List (Int × Int)) (v : D) : Bool := match v with
  | .tup ds => (intsB n ds && chn ltI (intL ds)) && (intL ds).all (callsB l)
  | _ => false
def carsB (n c r : Int) (v : D) : Bool := match v with
  | .tup cs => decide ((cs.length : Int) = c) && cs.all (carB n r)
  | _ => false
def standB (n c r : Int) (l : List (Int × Int)) (v : D) : Bool := match v with
  | .tup [a, b] => carsB n c r a && floorsB n l b
  | _ => false
theorem standB_other {n c r : Int} {l : List (Int × Int)} {ds : List D} (h : ds.length ≠ 2) : standB n c r l (.tup ds) = false := by
  unfold standB
  split
  · rename_i e
    cases e
    exact absurd rfl h
  · rfl
def fromL (l : List (Int × Int)) (k : Int) : List D := (l.filter fun p => decide (p.1 = k)).map fun p => .int p.2
theorem fromL_ints (l : List (Int × Int)) (k : Int) : fromL l k = ((l.filter fun p => decide (p.1 = k)).map (·.2)).map .int := by
  rw [List.map_map]
  rfl
theorem fromL_calls (l : List (Int × Int)) (k : Int) : (fromL l k).isEmpty = !callsB l k := by
  unfold fromL callsB
  rw [List.isEmpty_map, Bool.not_not]
theorem fromL_len (l : List (Int × Int)) (k : Int) : (fromL l k).length ≤ l.length := by
  unfold fromL
  rw [List.length_map]
  exact List.length_filter_le _ _
section
variable {t : Nat} {Q : R → Nat → Prop} {E : KX} {v : D} {n c r k : Int} {l : List (Int × Int)}
theorem from_comp {ρ : List Sl} {w1 : W} {wt : Wg Bool} {Q : List D → Nat → Prop} (h2 : ρ[2]? ≠ none) (h3 : ρ[3]? ≠ none)
    (ht : ∀ (x y : Int) (Q' : Bool → List Sl → Nat → Prop) E, wt ((ρ.set 2 (.im (.int x))).set 3 (.im (.int y))) t Q' E ↔ Q' (decide (x = k)) ((ρ.set 2 (.im (.int x))).set 3 (.im (.int y))) t)
    (hw : ∀ (x y : Int) (Q' : R → List Sl → Nat → Prop) E, w1 ((ρ.set 2 (.im (.int x))).set 3 (.im (.int y))) t Q' E ↔ Q' (.im (.int y)) ((ρ.set 2 (.im (.int x))).set 3 (.im (.int y))) t) (hl : l.length ≤ 1000) :
    compL (.tp [.nm 2, .nm 3]) wt w1 ρ (l.map tP) [] t Q ↔ Q (fromL l k) t := by
  rw [compL_iff (cf := fun d => match d with | .tup [.int x, .int _] => decide (x = k) | _ => false) (f := fun d => match d with | .tup [.int _, .int y] => .int y | _ => .non)]
  · rw [List.nil_append]
    have : ((l.map tP).filter (fun d => match d with | .tup [.int x, .int _] => decide (x = k) | _ => false)).map (fun d => match d with | .tup [.int _, .int y] => .int y | _ => .non) = fromL l k := by
      rw [List.filter_map, List.map_map]
      rfl
    rw [this]
  · intro d hd
    obtain ⟨p, _, rfl⟩ := List.mem_map.mp hd
    refine ⟨_, rfl, ?_, ?_⟩
    · exact fun Q' E => ht p.1 p.2 Q' E
    · exact fun _ => ⟨_, rfl, fun Q' E => hw p.1 p.2 Q' E⟩
  · have h2 : sizeLine = 16777216 := sizeLine_eq
    rw [List.length_map, List.length_nil]
    omega
theorem i_trips_from (hl : l.length ≤ 1000) : F_trips_from [bD n c r (l.map tP), .int k] t Q E ↔ Q (.im (.tup (fromL l k))) t := by
  simp [F_trips_from, w_trips_from]
  rw [from_comp (k := k) (by simp) (by simp) (fun x y Q' E => by by_cases hx : x = k <;> simp [hx]) (fun x y Q' E => by simp) hl]
theorem i_law_from (hl : l.length ≤ 1000) : F__law_from [bD n c r (l.map tP), .int k] t Q E ↔ Q (.nw (fromL l k)) t := by
  simp [F__law_from, w__law_from]
  rw [from_comp (k := k) (by simp) (by simp) (fun x y Q' E => by by_cases hx : x = k <;> simp [hx]) (fun x y Q' E => by simp) hl]
theorem ne_from_tup {k : Int} : neD (.tup (fromL l k)) (.tup []) = some (.im (.bl (callsB l k))) := by
  have h1 : okL (fromL l k) = true := by rw [fromL_ints]; exact ok_ints _
  have h2 : dpL (fromL l k) ≤ 63 := by rw [fromL_ints, dp_ints]; decide
  simp [eqOk_nil h1 h2, eqv_nil, fromL_calls]
theorem ne_from_lst {k : Int} : neD (.lst (fromL l k)) (.lst []) = some (.im (.bl (callsB l k))) := by
  have h1 : eqOk (.lst (fromL l k)) (.lst []) = true := by rw [fromL_ints]; exact eqOk_ints _ []
  have h2 : D.eqv (.lst (fromL l k)) (.lst []) = !callsB l k := by
    rw [← fromL_calls, fromL_ints]
    show D.eqv (.lst (List.map D.int _)) (.lst (List.map D.int [])) = _
    rw [eqv_lstI, List.isEmpty_map]
    cases (List.filter (fun p => decide (p.1 = k)) l) <;> simp
  simp [h1, h2]
theorem i_is_standing_of (h : okD v = true) (h0 : 0 ≤ r) (h4 : r ≤ 4) (c0 : 0 ≤ c) (c3 : c ≤ 3) (n0 : 0 ≤ n) (n8 : n ≤ 8) (hl : l.length ≤ 1000) : F_is_standing_of [bD n c r (l.map tP), v] t Q E ↔ Q (.im (.bl (standB n c r l v))) t := by
  have hz : sizeLine = 16777216 := sizeLine_eq
  simp [F_is_standing_of, w_is_standing_of, i_is_tuple h]
  cases v with
  | tup ds =>
    by_cases h2 : ds.length = 2
    · obtain ⟨a, b, rfl⟩ := tup2 h2
      obtain ⟨ha, h'⟩ := okL_cons (ok_tup h)
      obtain ⟨hb, _⟩ := okL_cons h'
      have e0 : tupB (.tup [a, b]) 2 2 = true := by simp [tupB]
      simp [e0, standB, i_is_tuple ha, i_is_tuple hb]
      cases a with
      | tup cs =>
        have hk := okL_mem (ok_tup ha)
        by_cases hc : (cs.length : Int) = c
        · have e1 : tupB (.tup cs) c c = true := by simp [tupB]; omega
          simp [e1, carsB, hc]
          rw [compL_iff (cf := fun _ => true) (f := fun d => .bl (carB n r d)) (fun d hd => ⟨_, bindP_nm, fun _ _ => Iff.rfl, fun _ => ⟨.im (.bl (carB n r d)), rfl, fun Q' E => by simp [i_is_car (hk d hd) h0 h4]⟩⟩) (by simp only [List.length_nil]; omega)]
          simp [-List.all_eq_true, -List.all_eq_false, bls_map, List.all_map, Function.comp_def]
          cases cs.all (carB n r) with
          | false => simp
          | true =>
            simp
            cases b with
            | tup es =>
              have hk2 := okL_mem (ok_tup hb)
              by_cases hl2 : (es.length : Int) ≤ n
              · have e2 : tupB (.tup es) 0 n = true := by simp [tupB]; omega
                simp [e2, floorsB]
                rw [ints_comp (n := n) (fun d hd Q' E => by simp [i_is_integer (hk2 d hd)]) (by simp only [List.length_nil]; omega)]
                simp [-List.all_eq_true, -List.all_eq_false, bls_map, List.all_map, Function.comp_def]
                rw [show (es.all fun d => intB d 0 (n - 1)) = intsB n es from rfl]
                cases hi : intsB n es with
                | false => simp
                | true =>
                  obtain ⟨ks, rfl, _⟩ := ints_of hi
                  rw [List.length_map] at hl2
                  simp [intL_map, i_is_risingI (l := ks) (show ks.length ≤ 4000 by omega)]
                  cases chn ltI ks with
                  | false => simp
                  | true =>
                    simp
                    rw [compL_maps (g := .int) (f := fun k => .bl (callsB l k)) (xs := ks) (fun k hk => ⟨_, .im (.bl (callsB l k)), bindP_nm, rfl, fun Q' E => by simp [-neD, i_trips_from hl, ne_from_tup]⟩) (by simp only [List.length_nil]; omega)]
                    simp [-List.all_eq_true, -List.all_eq_false, bls_maps, List.all_map, Function.comp_def]
              · have e2 : tupB (.tup es) 0 n = false := by simp [tupB]; omega
                have e3 : floorsB n l (.tup es) = false := by
                  simp only [floorsB]
                  cases hi : intsB n es with
                  | false => rfl
                  | true =>
                    obtain ⟨ks, rfl, hbd⟩ := ints_of hi
                    rw [intL_map]
                    cases hc' : chn ltI ks with
                    | false => rfl
                    | true =>
                      have := rise_count (chn_lt.mp hc') hbd n0
                      rw [List.length_map] at hl2
                      exact absurd this hl2
                simp [e2, e3]
            | _ => simp [tupB, floorsB]
        · have e1 : tupB (.tup cs) c c = false := by simp [tupB]; omega
          simp [e1, carsB, hc]
      | _ => simp [tupB, carsB]
    · rw [standB_other h2]
      have : tupB (.tup ds) 2 2 = false := by
        simp [tupB]
        omega
      simp [this]
  | _ => simp [tupB, standB]
end
end LW
set_option Elab.async false
set_option linter.all false
set_option maxRecDepth 100000
set_option maxHeartbeats 1000000
set_option autoImplicit false
/-! k07: draws: one of some, odd values, bent values; one value is right. -/
namespace LW
open PySem PySem.Spec PyProof.Rows L2 NB
theorem sz : sizeLine = 16777216 := sizeLine_eq
theorem risD_iff : ∀ {l : List (Int × Int)}, (∀ p ∈ l, In8 p) → (risD (l.map tP) = true ↔ l.Pairwise fun x y => cd x < cd y)
  | [], _ => by simp [risD, zipD]
  | [p], _ => by simp [risD, zipD]
  | p :: q :: l, h => by
    have ih := risD_iff (l := q :: l) fun x hx => h x (List.mem_cons_of_mem _ hx)
    have e : risD ((p :: q :: l).map tP) = (ltT (tP p) (tP q) && risD ((q :: l).map tP)) := by
      simp [risD, zipD, gD]
    have lt : ltT (tP p) (tP q) = decide (cd p < cd q) := lex_cd (h p List.mem_cons_self) (h q (List.mem_cons_of_mem _ List.mem_cons_self))
    rw [e, lt, Bool.and_eq_true, decide_eq_true_eq, ih]
    constructor
    · intro ⟨h1, h2⟩
      refine List.pairwise_cons.mpr ⟨fun y hy => ?_, h2⟩
      rcases List.mem_cons.mp hy with e | e
      · rw [e]; exact h1
      · exact Int.lt_trans h1 ((List.pairwise_cons.mp h2).1 y e)
    · intro h1
      obtain ⟨h2, h3⟩ := List.pairwise_cons.mp h1
      exact ⟨h2 q List.mem_cons_self, h3⟩
theorem g_law_of {ds : List D} (h : ds ≠ []) (hl : ds.length < 1000000) : GivesT F__law_of [.pot, .lst ds] 1 (fun r => ∃ d ∈ ds, r = .im d) := by
  intro t Q E ht q
  have hp : 0 < ds.length := List.length_pos_iff.mpr h
  simp [F__law_of, w__law_of, takeW]
  refine ⟨hp, by omega, by omega, fun k k0 k1 => ?_⟩
  obtain ⟨d, e1, _, e2⟩ := atI_mem k0 k1
  exact ⟨_, ⟨d, e1, rfl⟩, q _ _ (by omega) ⟨d, e2, rfl⟩⟩
theorem g_law_of' {ds : List D} {post : D → Prop} (h : ds ≠ []) (hl : ds.length < 1000000) (hp : ∀ d ∈ ds, post d) : GivesT F__law_of [.pot, .lst ds] 1 (fun r => ∃ d, r = .im d ∧ post d) := fun t Q E ht q =>
  g_law_of h hl t Q E ht fun r t' l ⟨d, hd, e⟩ => q r t' l ⟨d, e, hp d hd⟩
theorem log_int {i : Int} {b : Nat} (h : i.natAbs ≤ b) (hb : b < 10 ^ 30) : i.natAbs.log2 < 1920 := log_small (by omega)
theorem cutS_len (z : Str) (lo hi : Option Int) : (cutS z lo hi).length ≤ z.length := cutS_length z lo hi
structure GoodB (n c r : Int) (l : List (Int × Int)) : Prop where
  n2 : 2 ≤ n
  n8 : n ≤ 8
  c0 : 1 ≤ c
  c3 : c ≤ 3
  r0 : 1 ≤ r
  r4 : r ≤ 4
  ll : l.length ≤ 56
  ok : okD (bD n c r (l.map tP)) = true
  bl : buildB (bD n c r (l.map tP)) = true
  ni : niD 128 (10 ^ 20) (bD n c r (l.map tP)) = true
  wt : wtD (bD n c r (l.map tP)) ≤ 200
  dp : dpD (bD n c r (l.map tP)) ≤ 5
section
variable {n c r : Int} {l : List (Int × Int)} {v : D}
end
end LW
set_option Elab.async false
set_option linter.all false
set_option maxRecDepth 100000
set_option maxHeartbeats 1000000
set_option autoImplicit false
/-! k07: draws: some of some, buildings. -/
namespace LW
open PySem PySem.Spec PyProof.Rows L2 NB
theorem g_law_some {ds : List D} {m : Nat} (hm : m ≤ ds.length) (hl : ds.length ≤ 1000) : GivesT F__law_some [.pot, .lst ds, .int (m : Nat)] m (fun r => ∃ (xs rest : List D), r = .nw (.l xs) ∧ (xs ++ rest).Perm ds ∧ xs.length = m) := by
  intro t Q E ht q
  simp [F__law_some, w__law_some]
  refine ⟨by omega, ?_⟩
  refine forL_inv (j := 0) (fun j ρ t' => ∃ (rests found : List D) (x : Sl), ρ = [.im .pot, .im (.lst ds), .im (.int (m : Nat)), .ow rests, .ow found, x] ∧ (found ++ rests).Perm ds ∧ found.length = j ∧ t' ≤ t + j) ⟨ds, [], .non, rfl, .refl _, rfl, by omega⟩ ?_ ?_
  · intro i d ρ t1 nx hd hI hn
    obtain ⟨hi, rfl⟩ := rangeD_get hd
    obtain ⟨rests, found, x, rfl, pm, fl, tl⟩ := hI
    have len := pm.length_eq
    rw [List.length_append] at len
    have hz : sizeLine = 16777216 := sizeLine_eq
    simp [-popAtF, takeW]
    refine ⟨by omega, by omega, by omega, fun k k0 k1 => ?_⟩
    obtain ⟨d, e1, e2⟩ := popAt_ok k0 k1 (by omega)
    exact ⟨_, _, e2, _, ⟨by omega, rfl⟩, hn _ _ ⟨_, _, _, rfl, pop_perm e1 pm, by rw [List.length_append, List.length_singleton, fl], by omega⟩⟩
  · intro ρ t1 hI
    obtain ⟨rests, found, x, rfl, pm, fl, tl⟩ := hI
    rw [rangeD_len] at fl tl
    simp
    exact q _ _ (by omega) ⟨found, rests, rfl, pm, by omega⟩
structure Drawn (v : D) (n : Nat) (l : List (Int × Int)) : Prop where
  v : ∃ c r : Int, v = .tup [.int (n : Nat), .int c, .int r, .tup (l.map pD)] ∧ (1 ≤ c ∧ c ≤ 3) ∧ 1 ≤ r ∧ r ≤ 4
  n0 : 2 ≤ n
  n1 : n ≤ 8
  rise : l.Pairwise fun x y => cd x < cd y
  bd : ∀ p ∈ l, (0 ≤ p.1 ∧ p.1 ≤ (n : Int) - 1) ∧ (0 ≤ p.2 ∧ p.2 ≤ (n : Int) - 1) ∧ p.1 ≠ p.2
  l0 : 1 ≤ l.length
  l1 : l.length ≤ 56
def neN (i : Nat) (d : D) : Bool := match d with
  | .int k => !decide ((i : Int) = k)
  | _ => false
theorem row_comp (n i : Nat) : ((rangeD 0 n).filter (neN i)).map (fun d => D.tup [.int (i : Nat), d]) = (rowT n i).map pD := by
  unfold rangeD rowT
  rw [List.filter_map, List.map_map, List.map_map]
  have : (neN i ∘ fun (k : Nat) => D.int (0 + (k : Nat))) = fun (k : Nat) => decide (i ≠ k) := by
    funext k
    simp [neN]
    omega
  rw [this]
  refine List.map_congr_left fun k _ => ?_
  simp [pD]
theorem row_len (n i : Nat) : (rowT n i).length ≤ n := by
  unfold rowT
  rw [List.length_map]
  exact Nat.le_trans (List.length_filter_le _ _) (by rw [List.length_range]; exact Nat.le_refl _)
theorem all_len (n : Nat) : ∀ j, (allT n j).length ≤ n * j
  | 0 => by simp [allT]
  | j + 1 => by
    have h1 := all_len n j
    have h2 := row_len n j
    rw [allT_succ, List.length_append, Nat.mul_succ]
    omega
theorem b4 {n : Nat} {l0 : List (Int × Int)} {x6 x7 : Sl} {x5 : Sl} {t : Nat} {k : KS} (n0 : 2 ≤ n) (n1 : n ≤ 8) (nd : l0.Nodup) (hb : ∀ p ∈ l0, (0 ≤ p.1 ∧ p.1 ≤ (n : Int) - 1) ∧ (0 ≤ p.2 ∧ p.2 ≤ (n : Int) - 1) ∧ p.1 ≠ p.2) (h0 : 1 ≤ l0.length) (h1 : l0.length ≤ 56) (ht : t + 2 ≤ 2000000)
    (q : ∀ r t', t' ≤ t + 2 → (∃ n l, Drawn r.d n l) → k.rt r t') : w__law_building_4 [.im .pot, .im (.int 8), .im (.int 3), .im (.int 4), .im (.int (n : Nat)), x5, x6, x7, .ow (l0.map pD)] t k := by
  have hz : sizeLine = 16777216 := sizeLine_eq
  simp [w__law_building_4, takeW, sortW, srt_pairs]
  refine ⟨by omega, fun i i0 i1 => ⟨by omega, fun j j0 j1 => ⟨sortOk_pairs _ (by omega), by omega, q _ _ (by omega) ⟨n, l0.mergeSort leP, ?_⟩⟩⟩⟩
  have pm := List.mergeSort_perm l0 leP
  exact ⟨⟨1 + i, 1 + j, rfl, by omega, by omega⟩, n0, n1, sort_rise nd (fun p hp => by
    obtain ⟨a, b, _⟩ := hb p hp
    exact ⟨by omega, by omega⟩), fun p hp => hb p (pm.mem_iff.mp hp), by rw [pm.length_eq]; exact h0, by rw [pm.length_eq]; exact h1⟩
theorem b3 {n : Nat} {x6 x7 : Sl} {t : Nat} {k : KS} (n0 : 2 ≤ n) (n1 : n ≤ 8) (ht : t + 59 ≤ 2000000)
    (q : ∀ r t', t' ≤ t + 59 → (∃ n l, Drawn r.d n l) → k.rt r t') : w__law_building_3 [.im .pot, .im (.int 8), .im (.int 3), .im (.int 4), .im (.int (n : Nat)), .ow ((allT n n).map pD), x6, x7, .non] t k := by
  have G := good_of n0 n1
  have g0 := G.l0
  have g1 := G.l1
  simp [w__law_building_3, takeW]
  refine ⟨by omega, by omega, by omega, fun i i0 i1 => ?_⟩
  obtain ⟨m, rfl⟩ := Int.eq_ofNat_of_zero_le i0
  have e : (1 : Int) + (m : Nat) = ((m + 1 : Nat) : Int) := by omega
  rw [e]
  refine g_law_some (by rw [List.length_map]; omega) (by rw [List.length_map]; omega) _ _ _ (by omega) fun r t' l1 pr => ?_
  obtain ⟨xs, rest, rfl, pm, lx⟩ := pr
  obtain ⟨l0, rfl, nd, mem⟩ := some_of pm G.nd
  rw [List.length_map] at lx
  refine b4 n0 n1 nd (fun p hp => G.bd p (mem p hp)) (by omega) (by omega) (by omega) fun r t2 l2 pr => q r t2 (by omega) pr
theorem b2 {n : Nat} {t : Nat} {k : KS} (n0 : 2 ≤ n) (n1 : n ≤ 8) (ht : t + 59 ≤ 2000000)
    (q : ∀ r t', t' ≤ t + 59 → (∃ n l, Drawn r.d n l) → k.rt r t') : w__law_building_2 [.im .pot, .im (.int 8), .im (.int 3), .im (.int 4), .im (.int (n : Nat)), .ow (.l []), .non, .non, .non] t k := by
  have hz : sizeLine = 16777216 := sizeLine_eq
  simp [w__law_building_2]
  refine ⟨by omega, ?_⟩
  refine forL_inv (j := 0) (fun j ρ t' => ∃ (x6 x7 : Sl), ρ = [.im .pot, .im (.int 8), .im (.int 3), .im (.int 4), .im (.int (n : Nat)), .ow ((allT n j).map pD), x6, x7, .non] ∧ t' = t) ⟨.non, .non, by simp [allT], rfl⟩ ?_ ?_
  · intro i d ρ t1 nx hd hI hn
    obtain ⟨hi, rfl⟩ := rangeD_get hd
    obtain ⟨x6, x7, rfl, rfl⟩ := hI
    rw [Nat.zero_add] at hn ⊢
    simp
    refine ⟨by omega, ?_⟩
    rw [compL_iff (cf := neN i) (f := fun d => D.tup [.int (i : Nat), d]) (fun d hd => ?_) (by rw [rangeD_len]; simp only [List.length_nil]; omega), row_comp]
    · have h1 := all_len n i
      have h2 := row_len n i
      have h3 : n * i ≤ 8 * 8 := Nat.mul_le_mul n1 (by omega)
      refine ⟨_, ⟨?_, rfl⟩, hn _ _ ⟨.im (.int (i : Nat)), .non, ?_, rfl⟩⟩
      · rw [List.nil_append, List.length_map]
        omega
      · rw [allT_succ, List.map_append, List.nil_append]
    · obtain ⟨j, hj, rfl⟩ := rangeD_mem hd
      refine ⟨_, bindP_nm, fun Q' E => ?_, fun _ => ⟨.im (.tup [.int (i : Nat), .int (j : Nat)]), rfl, fun Q' E => ?_⟩⟩
      · simp [neN]
        by_cases hij : (i : Int) = (j : Int)
        · simp [hij]
        · simp [hij]
      · simp [sizeLine_eq]
  · intro ρ t1 hI
    obtain ⟨x6, x7, rfl, rfl⟩ := hI
    rw [rangeD_len, Nat.zero_add]
    exact b3 n0 n1 ht q
theorem g_building : GivesT F__law_building [.pot, .int 8, .int 3, .int 4] 60 (fun r => ∃ n l, Drawn r.d n l) := by
  intro t Q E ht q
  simp [F__law_building, w__law_building, w__law_building_1, takeW]
  refine ⟨by omega, fun k k0 k1 => ?_⟩
  obtain ⟨m, rfl⟩ := Int.eq_ofNat_of_zero_le k0
  have en : (2 : Int) + (m : Nat) = ((m + 2 : Nat) : Int) := by omega
  rw [en]
  exact b2 (by omega) (by omega) (by omega) fun r t' l pr => q r t' (by omega) pr

theorem good_drawn {v : D} {n : Nat} {l : List (Int × Int)} (h : Drawn v n l) : ∃ c r : Int, v = bD n c r (l.map tP) ∧ GoodB n c r l := by
  obtain ⟨c, r, rfl, hc, hr⟩ := h.v
  have n0 := h.n0
  have n1 := h.n1
  have l0 := h.l0
  have l1 := h.l1
  have w3 : wtL (l.map tP) = 3 * l.length := by
    clear h l0 l1
    induction l with
    | nil => rfl
    | cons p l ih =>
      rw [List.map_cons, wtL, ih, List.length_cons]
      have : wtD (tP p) = 3 := by simp [tP, wtD, wtL]
      omega
  have d1 : dpL (l.map tP) ≤ 1 := dpL_le.mpr fun d hd => by
    obtain ⟨p, _, rfl⟩ := List.mem_map.mp hd
    simp [tP, dpD, dpL]
  have n3 : niL 128 (10 ^ 20) (l.map tP) = true := niL_iff.mpr fun d hd => by
    obtain ⟨p, hp, rfl⟩ := List.mem_map.mp hd
    obtain ⟨⟨b1, b2⟩, ⟨b3, b4⟩, b5⟩ := h.bd p hp
    rw [tP, niD, niL, niL, niL, niD, niD, decide_eq_true (show p.1.natAbs ≤ 10 ^ 20 by omega), decide_eq_true (show p.2.natAbs ≤ 10 ^ 20 by omega)]
    rfl
  refine ⟨c, r, rfl, by omega, by omega, hc.1, hc.2, hr.1, hr.2, l1, ?_, ?_, ?_, ?_, ?_⟩
  · have : okL (l.map tP) = true := niL_ok (by decide) n3
    simp [okD, okL, this]
  · have t1 : ((l.map tP).all fun d => tripB d (n : Nat)) = true := List.all_eq_true.mpr fun d hd => by
      obtain ⟨p, hp, rfl⟩ := List.mem_map.mp hd
      obtain ⟨⟨b1, b2⟩, ⟨b3, b4⟩, b5⟩ := h.bd p hp
      simp [tP, tripB, b1, b2, b3, b4, b5]
    have t2 : risD (l.map tP) = true := (risD_iff (fun p hp => by
      obtain ⟨⟨b1, b2⟩, ⟨b3, b4⟩, b5⟩ := h.bd p hp
      exact ⟨by omega, by omega⟩)).mpr h.rise
    have t3 : lenB (l.map tP) = true := by
      simp [lenB]
      omega
    simp only [buildB, tripsB, t1, t2, t3, intB]
    rw [decide_eq_true (show (2 : Int) ≤ (n : Nat) by omega), decide_eq_true (show ((n : Nat) : Int) ≤ 8 by omega), decide_eq_true hc.1, decide_eq_true hc.2, decide_eq_true hr.1, decide_eq_true hr.2]
    rfl
  · rw [niD, niL, niL, niL, niL, niL, niD, niD, niD, niD, n3, decide_eq_true (show ((n : Nat) : Int).natAbs ≤ 10 ^ 20 by omega), decide_eq_true (show c.natAbs ≤ 10 ^ 20 by omega), decide_eq_true (show r.natAbs ≤ 10 ^ 20 by omega)]
    rfl
  · simp only [wtD, wtL, w3]
    omega
  · simp only [dpD, dpL]
    omega
end LW
set_option Elab.async false
set_option linter.all false
set_option maxRecDepth 100000
set_option maxHeartbeats 1000000
set_option autoImplicit false
/-! k03: tests, clauses, rules. -/
namespace LW
open PySem PySem.Spec PyProof.Rows L2 NB
theorem okL_mem {ds : List D} (h : okL ds = true) : ∀ d ∈ ds, okD d = true := by
  induction ds with
  | nil => exact fun _ h => nomatch h
  | cons a ds ih =>
    obtain ⟨h1, h2⟩ := okL_cons h
    intro d hd
    rcases List.mem_cons.mp hd with e | e
    · rw [e]; exact h1
    · exact ih h2 d e
theorem in_strs_lst {z : Str} {zs : List Str} (h : PyData.strOk z = true) (hz : zs.all PyData.strOk = true) : inB (.str z) (.lst (zs.map .str)) = some (decide (z ∈ zs)) := by
  have : eqOk (.str z) (.lst (zs.map .str)) = true := by
    unfold eqOk
    rw [okD, okD, h, okL_strs, hz, dpD, dpD, dpL_strs]
    rfl
  simp only [inB, this, if_true, any_strs]
def isBl (v : D) : Bool := match v with
  | .bl _ => true
  | _ => false
def testB (v : D) : Bool := match v with
  | .tup [a, b] => wordB a k_WORDS && isBl b
  | _ => false
theorem words_ok : k_WORDS.all PyData.strOk = true := by decide +kernel
theorem deeds_ok : k_DEEDS.all PyData.strOk = true := by decide +kernel
section
variable {t : Nat} {Q : R → Nat → Prop} {E : KX} {v : D} {lo hi : Int}
theorem i_is_test (h : okD v = true) : F_is_test [v] t Q E ↔ Q (.im (.bl (testB v))) t := by
  simp [F_is_test, w_is_test, i_is_tuple h]
  cases v with
  | tup ds =>
    by_cases h2 : ds.length = 2
    · obtain ⟨a, b, rfl⟩ := tup2 h2
      obtain ⟨ha, h'⟩ := okL_cons (ok_tup h)
      obtain ⟨hb, _⟩ := okL_cons h'
      simp [tupB, testB, i_is_word ha words_ok]
      cases ew : wordB a k_WORDS <;> simp
      cases b <;> simp [isBl, okD] at hb ⊢
    · have e1 : tupB (.tup ds) 2 2 = false := by
        simp [tupB]
        omega
      have e2 : testB (.tup ds) = false := by
        unfold testB
        split
        · rename_i e
          cases e
          exact absurd rfl h2
        · rfl
      simp [e1, e2]
  | _ => simp [tupB, testB]
end
end LW
set_option Elab.async false
set_option linter.all false
set_option maxRecDepth 100000
set_option maxHeartbeats 1000000
set_option autoImplicit false
/-! k03: clauses, rules: the program. -/
namespace LW
open PySem PySem.Spec PyProof.Rows L2 NB
def wordOf (v : D) : Str := match v with
  | .tup (.str w :: _) => w
  | _ => Str.empty
def tsB (a : D) : Bool := match a with
  | .tup ts => ts.all testB && decide ((ts.map wordOf).Nodup)
  | _ => false
def clauseB (v : D) : Bool := match v with
  | .tup [a, b] => (tupB a 0 4 && wordB b k_DEEDS) && tsB a
  | _ => false
def ruleB (v : D) : Bool := match v with
  | .tup cs => (decide ((1 : Int) ≤ cs.length) && decide ((cs.length : Int) ≤ 20)) && cs.all clauseB
  | _ => false
theorem clauseB_other {ds : List D} (h : ds.length ≠ 2) : clauseB (.tup ds) = false := by
  unfold clauseB
  split
  · rename_i e
    cases e
    exact absurd rfl h
  · rfl
def tsP (p : Str × Bool) : D := .tup [.str p.1, .bl p.2]
theorem tests_of : ∀ {ts : List D}, ts.all testB = true → ∃ l : List (Str × Bool), ts = l.map tsP ∧ ∀ p ∈ l, p.1 ∈ k_WORDS
  | [], _ => ⟨[], rfl, fun _ h => nomatch h⟩
  | d :: ds, h => by
    rw [List.all_cons, Bool.and_eq_true] at h
    obtain ⟨l, rfl, hl⟩ := tests_of h.2
    have h1 := h.1
    unfold testB at h1
    split at h1
    · rename_i a b
      rw [Bool.and_eq_true] at h1
      cases a <;> simp [wordB] at h1
      cases b <;> simp [isBl] at h1
      rename_i z k
      refine ⟨(z, k) :: l, rfl, fun p hp => ?_⟩
      rcases List.mem_cons.mp hp with e | e
      · rw [e]; exact h1
      · exact hl p e
    · cases h1
theorem map_word (l : List (Str × Bool)) : (l.map tsP).map wordOf = l.map (·.1) := by
  rw [List.map_map]
  rfl
theorem all_count (zs : List Str) : (zs.all fun z => decide (((zs.count z : Nat) : Int) = 1)) = decide zs.Nodup := by
  by_cases h : zs.Nodup
  · rw [decide_eq_true h, List.all_eq_true]
    intro z hz
    have h1 := List.nodup_iff_count.mp h z
    have h2 : 0 < zs.count z := List.count_pos_iff.mpr hz
    exact decide_eq_true (by omega)
  · rw [decide_eq_false h]
    cases e : (zs.all fun z => decide (((zs.count z : Nat) : Int) = 1)) with
    | false => rfl
    | true =>
      refine absurd (List.nodup_iff_count.mpr fun z => ?_) h
      by_cases hz : z ∈ zs
      · have := of_decide_eq_true (List.all_eq_true.mp e z hz)
        omega
      · rw [List.count_eq_zero_of_not_mem hz]
        omega
theorem countP_strs (z : Str) (zs : List Str) : (zs.map D.str).countP (fun y => D.eqv y (.str z)) = zs.count z := by
  rw [List.countP_map, List.count]
  refine List.countP_congr fun y _ => ?_
  simp [eqv_str]
theorem eqOk_str_lst {z : Str} {zs : List Str} (h : PyData.strOk z = true) (hz : zs.all PyData.strOk = true) : eqOk (.str z) (.lst (zs.map .str)) = true := by
  unfold eqOk
  rw [okD, okD, h, okL_strs, hz, dpD, dpD, dpL_strs]
  rfl
theorem bls_mapA {α : Type} (g : α → D) (f : α → Bool) (hg : ∀ x, g x = .bl (f x)) : ∀ ds : List α, blsD (ds.map g) = some (ds.map f)
  | [] => rfl
  | d :: ds => by rw [List.map_cons, hg, blsD, bls_mapA g f hg ds]; rfl
theorem words_strOk {l : List (Str × Bool)} (h : ∀ p ∈ l, p.1 ∈ k_WORDS) : (l.map (·.1)).all PyData.strOk = true := List.all_eq_true.mpr fun z hz => by
  obtain ⟨p, hp, rfl⟩ := List.mem_map.mp hz
  exact List.all_eq_true.mp words_ok _ (h p hp)
section
variable {t : Nat} {Q : R → Nat → Prop} {E : KX} {v : D}
theorem tupB_tup {a : D} {lo hi : Int} (h : tupB a lo hi = true) : ∃ ts, a = .tup ts ∧ lo ≤ ts.length ∧ (ts.length : Int) ≤ hi := by
  cases a <;> simp [tupB] at h
  exact ⟨_, rfl, h⟩
theorem i_is_clause (h : okD v = true) : F_is_clause [v] t Q E ↔ Q (.im (.bl (clauseB v))) t := by
  simp [F_is_clause, w_is_clause, i_is_tuple h]
  cases v with
  | tup ds =>
    by_cases h2 : ds.length = 2
    · obtain ⟨a, b, rfl⟩ := tup2 h2
      obtain ⟨ha, h'⟩ := okL_cons (ok_tup h)
      obtain ⟨hb, _⟩ := okL_cons h'
      simp [show tupB (.tup [a, b]) 2 2 = true from rfl, i_is_tuple ha, i_is_word hb deeds_ok, clauseB]
      cases ea : tupB a 0 4 <;> simp
      cases eb : wordB b k_DEEDS <;> simp
      obtain ⟨ts, rfl, _, h4⟩ := tupB_tup ea
      have hk := okL_mem (ok_tup ha)
      simp
      rw [compL_map (f := fun d => .bl (testB d)) (fun d hd => ⟨_, .im (.bl (testB d)), bindP_nm, rfl, fun Q' E => by simp [i_is_test (hk d hd)]⟩) (by rw [sz]; simp only [List.length_nil]; omega)]
      simp [-List.all_eq_true, -List.all_eq_false, bls_mapA (fun d => D.bl (testB d)) testB (fun _ => rfl), List.all_map, Function.comp_def, tsB]
      cases hts : ts.all testB with
      | false => simp
      | true =>
        obtain ⟨l, rfl, hl⟩ := tests_of hts
        rw [List.length_map] at h4
        have hso := words_strOk hl
        simp
        rw [compL_maps (g := tsP) (f := fun p => .str p.1) (fun p hp => ⟨_, .im (.str p.1), bindP2, rfl, fun Q' E => by simp⟩) (by rw [sz]; simp only [List.length_nil]; omega)]
        simp
        rw [compL_maps (g := fun p : Str × Bool => D.str p.1) (f := fun p => .bl (decide ((((l.map (·.1)).count p.1 : Nat) : Int) = 1))) (fun p hp => ⟨_, .im (.bl (decide ((((l.map (·.1)).count p.1 : Nat) : Int) = 1))), bindP_nm, rfl, fun Q' E => ?_⟩) (by rw [sz]; simp only [List.length_nil]; omega)]
        · simp [-List.all_eq_true, -List.all_eq_false]
          rw [bls_mapA _ (fun p : Str × Bool => decide ((((l.map (·.1)).count p.1 : Nat) : Int) = 1)) (fun z => rfl)]
          have key := all_count (l.map (·.1))
          rw [List.all_map] at key
          simp [-List.all_eq_true, -List.all_eq_false, List.all_map]
          rw [show (wordOf ∘ tsP) = (fun p : Str × Bool => p.1) from rfl, ← key]
          rfl
        · have z1 : PyData.strOk p.1 = true := List.all_eq_true.mp words_ok _ (hl p hp)
          have z2 := eqOk_str_lst z1 hso
          have z3 := countP_strs p.1 (l.map (·.1))
          rw [List.map_map] at z2 z3
          rw [List.countP_map] at z3
          have z2 : eqOk (.str p.1) (.lst (l.map fun p => D.str p.1)) = true := z2
          have z3 : l.countP ((fun y => D.eqv y (.str p.1)) ∘ fun p => D.str p.1) = (l.map (·.1)).count p.1 := z3
          simp [m1W, z2, z3, kindV]
    · have e1 : tupB (.tup ds) 2 2 = false := by
        simp [tupB]
        omega
      simp [e1, clauseB_other h2]
  | _ => simp [tupB, clauseB]
theorem i_is_rule (h : okD v = true) : F_is_rule [v] t Q E ↔ Q (.im (.bl (ruleB v))) t := by
  simp [F_is_rule, w_is_rule, i_is_tuple h]
  cases e1 : tupB v 1 20 with
  | false =>
    have : ruleB v = false := by
      cases v <;> simp [tupB, ruleB] at e1 ⊢
      intro a b
      exact absurd (e1 a) (by omega)
    simp [this]
  | true =>
    obtain ⟨cs, rfl, h1, h2⟩ := tupB_tup e1
    have hk := okL_mem (ok_tup h)
    simp
    rw [compL_map (f := fun d => .bl (clauseB d)) (fun d hd => ⟨_, .im (.bl (clauseB d)), bindP_nm, rfl, fun Q' E => by simp [i_is_clause (hk d hd)]⟩) (by rw [sz]; simp only [List.length_nil]; omega)]
    simp [-List.all_eq_true, -List.all_eq_false, bls_mapA (fun d => D.bl (clauseB d)) clauseB (fun _ => rfl), List.all_map, Function.comp_def, ruleB, h1, h2]
end
end LW
set_option Elab.async false
set_option linter.all false
set_option maxRecDepth 100000
set_option maxHeartbeats 1000000
set_option autoImplicit false
/-! Draws: one of some, odd values, bent values; one value is right. -/
namespace LW
open PySem PySem.Spec PyProof.Rows L2 NB
section
variable {t : Nat} {Q : R → Nat → Prop} {E : KX} {v : D}
theorem i_law_words : F__law_words [] t Q E ↔ Q (.nw (.l (k_WORDS.map .str))) t := by
  simp [F__law_words, w__law_words, sizeLine_eq]
  rfl
end
end LW
set_option Elab.async false
set_option linter.all false
set_option maxRecDepth 100000
set_option maxHeartbeats 1000000
set_option autoImplicit false
/-! k03: known rows. -/
namespace LW
open PySem PySem.Spec PyProof.Rows L2 NB
section
variable {t : Nat} {Q : R → Nat → Prop} {E : KX} {v : D}
theorem known1 : F__law_known [.str "nearest"] t Q E ↔ Q (.nw (.l ((["open if out", "open if here and room", "up if near above", "down if near below", "up if calls above", "up if wishes above"] : List Str).map .str))) t := by
  simp [F__law_known, w__law_known, sizeLine_eq]
theorem known2 : F__law_known [.str "loop"] t Q E ↔ Q (.nw (.l ((["open if out", "open if here and room", "up if bottom", "down if top", "down if down", "up"] : List Str).map .str))) t := by
  simp [F__law_known, w__law_known, sizeLine_eq, osE]
theorem known3 : F__law_known [.str "collect"] t Q E ↔ Q (.nw (.l ((["open if out", "open if here and room", "up if up and calls above", "up if up and wishes above", "down if down and calls below", "down if down and wishes below", "up if calls above", "up if wishes above", "down if calls below", "down if wishes below"] : List Str).map .str))) t := by
  simp (config := { decide := true }) [F__law_known, w__law_known, sizeLine_eq, osE, osL, osA]
theorem known4 : F__law_known [.str "group"] t Q E ↔ Q (.nw (.l ((["open if out", "open if here and room", "up if up and own above", "up if up and wishes above", "down if down and own below", "down if down and wishes below", "up if own above", "up if wishes above", "down if own below", "down if wishes below"] : List Str).map .str))) t := by
  simp (config := { decide := true }) [F__law_known, w__law_known, sizeLine_eq, osE, osL, osA]
theorem known5 : F__law_known [.str "highest"] t Q E ↔ Q (.nw (.l ((["open if out", "open if here and room and no calls above", "up if calls above and room", "down if calls below and room", "up if wishes above", "down if wishes below"] : List Str).map .str))) t := by
  simp (config := { decide := true }) [F__law_known, w__law_known, sizeLine_eq, osE, osL, osA]
end
end LW
set_option Elab.async false
set_option linter.all false
set_option maxRecDepth 100000
set_option maxHeartbeats 1000000
set_option autoImplicit false
/-! k03: the clause of a row. -/
namespace LW
open PySem PySem.Spec PyProof.Rows L2 NB
def testIn (x : Str) : D := if cutS x none (some 3) = "no " then .tup [.str (cutS x (some 3) none), .bl false] else .tup [.str x, .bl true]
def testsOf : List Str → List Str
  | _ :: r :: _ => Txt.split r " and "
  | _ => []
def deedOf : List Str → Str
  | d :: _ => d
  | [] => Str.empty
def clauseIn (z : Str) : D := .tup [.tup ((testsOf (Txt.split z " if ")).map testIn), .str (deedOf (Txt.split z " if "))]
def rowOk (z : Str) : Bool := ((Txt.split z " if ").all PyData.strOk) && ((decide (z.length ≤ 1000) && decide ((Txt.split z " if ").length ≤ 100)) && (!(Txt.split z " if ").isEmpty && ((Txt.split z " if ").all fun x => decide (x.length ≤ 1000)) && (decide ((testsOf (Txt.split z " if ")).length ≤ 100) && (testsOf (Txt.split z " if ")).all fun x => decide (x.length ≤ 1000))))
section
variable {z : Str}
theorem sep_if : ¬ (Str.ofString " if ").length = 0 := by decide +kernel
theorem sep_and : ¬ (Str.ofString " and ").length = 0 := by decide +kernel
theorem eqOk_strs_nil {zs : List Str} (h : zs.all PyData.strOk = true) : eqOk (.lst (zs.map .str)) (.lst []) = true := by
  unfold eqOk
  rw [okD, okD, okL_strs, h, dpD, dpD, dpL_strs]
  rfl
theorem eqv_cons_nil {d : D} {ds : List D} : D.eqv (.lst (d :: ds)) (.lst []) = false := by
  simp [D.eqv, D.py, pyL, PyData.eqv, PyData.eqvAll]
theorem eqv_nil_nil : D.eqv (.lst []) (.lst []) = true := by
  simp [D.eqv, D.py, pyL, PyData.eqv, PyData.eqvAll]
theorem g_clause_in (h : rowOk z = true) : Gives F__law_clause_in [.str z] (.im (clauseIn z)) := by
  intro t Q E q
  unfold rowOk at h
  rw [Bool.and_eq_true] at h
  obtain ⟨h0, h⟩ := h
  simp only [Bool.and_eq_true, decide_eq_true_eq, Bool.not_eq_true', List.all_eq_true (p := fun x : Str => decide (x.length ≤ 1000))] at h
  obtain ⟨⟨h1, h2⟩, ⟨h3, h4⟩, h5, h6⟩ := h
  unfold clauseIn at q
  have hz : z.length + 2 ≤ sizeLine := by rw [sz]; omega
  cases hs : Txt.split z " if " with
  | nil => rw [hs] at h3; cases h3
  | cons d rest =>
    rw [hs] at h0 h2 h4 h5 h6 q
    rw [List.all_cons, Bool.and_eq_true] at h0
    have o1 := eqOk_strs_nil h0.2
    have c1 : NB.cutD (.str d :: rest.map D.str) (some 1) none = rest.map D.str := by
      rw [show (1 : Int) = ((1 : Nat) : Int) from rfl, cut_drop (by simp)]
      rfl
    have h4' : ∀ x ∈ d :: rest, x.length ≤ 1000 := fun x hx => h4 x hx
    have o2 : eqOk (.lst []) (.lst []) = true := by decide +kernel
    cases rest with
    | nil =>
      have c1 : NB.cutD [.str d] (some 1) none = [] := c1
      simp [F__law_clause_in, w__law_clause_in, m1W, kindV, hz, hs, sep_if, c1, o2, eqv_nil_nil, forL]
      simp [testsOf, deedOf] at q
      exact ⟨by rw [sz]; decide, q⟩
    | cons r rest =>
      have o1 : eqOk (.lst (.str r :: rest.map D.str)) (.lst []) = true := o1
      have c1 : NB.cutD (.str d :: .str r :: rest.map D.str) (some 1) none = .str r :: rest.map D.str := c1
      have hr : r.length + 2 ≤ sizeLine := by
        have := h4' r (by simp)
        rw [sz]; omega
      simp only [testsOf] at h5 h6 q
      have h6' : ∀ x ∈ Txt.split r " and ", x.length ≤ 1000 := fun x hx => h6 x hx
      simp [F__law_clause_in, w__law_clause_in, m1W, kindV, hz, hs, sep_if, sep_and, c1, o1, eqv_cons_nil, hr]
      generalize Txt.split r " and " = xs at h5 h6' q ⊢
      refine forL_inv (j := 0) (fun j ρ t' => ∃ x, ρ = [.im (.str z), .im (.str d), .ow (.str r :: rest.map D.str), .ow ((xs.take j).map testIn), x] ∧ t' = t) ⟨.non, by simp, rfl⟩ ?_ ?_
      · intro i e ρ t1 nx he hI hn
        obtain ⟨x, rfl, rfl⟩ := hI
        rw [Nat.zero_add] at hn ⊢
        rw [List.getElem?_map] at he
        obtain ⟨y, hy, rfl⟩ := Option.map_eq_some_iff.mp he
        have hi : i < xs.length := (List.getElem?_eq_some_iff.mp hy).1
        have hm : y ∈ xs := List.mem_of_getElem? hy
        have hy1 : y.length ≤ sizeLine := by have := h6' y hm; rw [sz]; omega
        have tk : (xs.take (i + 1)).map testIn = (xs.take i).map testIn ++ [testIn y] := by
          rw [List.take_add_one, hy, List.map_append]
          rfl
        rw [tk] at hn
        have hl : min i xs.length < sizeLine := by rw [sz]; omega
        have h22 : 2 ≤ sizeLine := by rw [sz]; decide
        by_cases hno : cutS y none (some 3) = "no "
        · simp [hy1, hno, hl, h22]
          refine hn _ _ ⟨.im (.str y), ?_, rfl⟩
          simp [testIn, hno]
        · simp [hy1, hno, hl, h22]
          refine hn _ _ ⟨.im (.str y), ?_, rfl⟩
          simp [testIn, hno]
      · intro ρ t1 hI
        obtain ⟨x, rfl, rfl⟩ := hI
        rw [List.length_map, Nat.zero_add, List.take_length]
        simp [deedOf] at q
        simp
        exact ⟨by rw [sz]; decide, q⟩
end
end LW
set_option Elab.async false
set_option linter.all false
set_option maxRecDepth 100000
set_option maxHeartbeats 1000000
set_option autoImplicit false
/-! k03: drawn rules. -/
namespace LW
open PySem PySem.Spec PyProof.Rows L2 NB
def goodC (d : D) : Bool := (clauseB d && niD 128 (10 ^ 20) d) && (decide (wtD d ≤ 200) && decide (dpD d ≤ 3))
theorem goodC_iff {d : D} : goodC d = true ↔ clauseB d = true ∧ niD 128 (10 ^ 20) d = true ∧ wtD d ≤ 200 ∧ dpD d ≤ 3 := by
  unfold goodC
  rw [Bool.and_eq_true, Bool.and_eq_true, Bool.and_eq_true, decide_eq_true_eq, decide_eq_true_eq, and_assoc]
def strOf (d : D) : Str := match d with
  | .str z => z
  | _ => Str.empty
theorem words_small : (k_WORDS.all fun z => sgS 128 z && decide (z.length ≤ 13)) = true := by decide +kernel
theorem g_law_clause : GivesT F__law_clause [.pot] 12 (fun r => ∃ d, r = .im d ∧ goodC d = true) := by
  intro t Q E ht q
  have hz := sz
  simp [F__law_clause, w__law_clause, sizeLine_eq]
  simp [i_law_words]
  refine g_law_of' (post := fun d => ∃ m : Nat, d = .int m ∧ m ≤ 4) (by simp) (by simp) (fun d hd => ?_) _ _ _ (by omega) fun r t1 l1 pr => ?_
  · simp at hd
    rcases hd with rfl | rfl | rfl | rfl | rfl
    · exact ⟨0, rfl, by omega⟩
    · exact ⟨1, rfl, by omega⟩
    · exact ⟨2, rfl, by omega⟩
    · exact ⟨3, rfl, by omega⟩
    · exact ⟨4, rfl, by omega⟩
  · obtain ⟨_, rfl, m, rfl, hm⟩ := pr
    simp
    refine g_law_some (by rw [List.length_map]; exact Nat.le_trans hm (by decide)) (by rw [List.length_map]; decide) _ _ _ (by omega) fun r t2 l2 pr => ?_
    obtain ⟨xs, rest, rfl, pm, lx⟩ := pr
    have mem : ∀ x ∈ xs, ∃ z ∈ k_WORDS, x = .str z := fun x hx => by
      have := pm.mem_iff.mp (List.mem_append_left rest hx)
      obtain ⟨z, h1, h2⟩ := List.mem_map.mp this
      exact ⟨z, h1, h2.symm⟩
    have nd : (xs.map strOf).Nodup := by
      have p2 := pm.map strOf
      rw [List.map_append] at p2
      have e : (k_WORDS.map D.str).map strOf = k_WORDS := by decide +kernel
      rw [e] at p2
      have n2 : (xs.map strOf ++ rest.map strOf).Nodup := p2.nodup_iff.mpr (by decide +kernel)
      exact (List.nodup_append.mp n2).1
    simp
    refine compL_drawK (post := fun x => testB x = true ∧ niD 128 (10 ^ 20) x = true ∧ wtD x ≤ 16 ∧ dpD x ≤ 1) (κ := wordOf) (κ' := strOf) (n := 1) (fun d hd => ⟨_, bindP_nm, fun t Q' E h1 hq => ?_⟩) (by simp only [List.length_nil]; omega) (by omega) fun ys t' l3 py ky => ?_
    · obtain ⟨z, hz, rfl⟩ := mem d hd
      have ws := List.all_eq_true.mp words_small z hz
      rw [Bool.and_eq_true, decide_eq_true_eq] at ws
      simp [takeW, sizeLine_eq]
      refine ⟨by omega, fun k k0 k1 => hq _ _ (by omega) ⟨?_, ?_, ?_, ?_⟩ rfl⟩
      · simp [testB, wordB, isBl, hz]
      · simp [niD, niL, ws.1]
      · simp only [R_im, wtD, wtL]; omega
      · simp [dpD, dpL]
    · have ly : ys.length = xs.length := by
        have := congrArg List.length ky
        rwa [List.length_map, List.length_map] at this
      rw [← ky] at nd
      simp
      refine g_law_of' (post := fun d => ∃ z ∈ k_DEEDS, d = .str z) (by simp) (by simp) (fun d hd => ?_) _ _ _ (by omega) fun r t4 l4 pr => ?_
      · simp at hd
        rcases hd with rfl | rfl | rfl | rfl
        all_goals exact ⟨_, by decide +kernel, rfl⟩
      · obtain ⟨_, rfl, z, hz, rfl⟩ := pr
        refine q _ _ (by omega) ⟨_, rfl, goodC_iff.mpr ⟨?_, ?_, ?_, ?_⟩⟩
        · have a1 : (ys.all testB) = true := List.all_eq_true.mpr fun y hy => (py y hy).1
          have a2 : tupB (.tup ys) 0 4 = true := by
            simp [tupB]
            omega
          simp only [clauseB, tsB, a1, a2, wordB, decide_eq_true nd, Bool.and_true, Bool.true_and]
          exact decide_eq_true hz
        · have a1 : niL 128 (10 ^ 20) ys = true := niL_iff.mpr fun y hy => (py y hy).2.1
          have a2 : sgS 128 z = true := (List.all_eq_true (p := fun z => sgS 128 z)).mp (by decide +kernel) z hz
          simp only [R_im, niD, niL, a1, a2, Bool.and_true]
        · have a1 := wtL_le fun y hy => (py y hy).2.2.1
          have a2 : z.length ≤ 4 := of_decide_eq_true ((List.all_eq_true (p := fun z : Str => decide (z.length ≤ 4))).mp (by decide +kernel) z hz)
          simp only [R_im, wtD, wtL]
          omega
        · have a1 : dpL ys ≤ 1 := dpL_le.mpr fun y hy => (py y hy).2.2.2
          simp only [R_im, dpD, dpL]
          omega
structure RuleD (d : D) : Prop where
  rl : ruleB d = true
  ni : niD 128 (10 ^ 20) d = true
  wt : wtD d ≤ 3000
  dp : dpD d ≤ 4
theorem ruleD_of {L : List D} (h : ∀ d ∈ L, goodC d = true) (h1 : 1 ≤ L.length) (h2 : L.length ≤ 14) : RuleD (.tup L) := by
  have h' := fun d hd => goodC_iff.mp (h d hd)
  refine ⟨?_, ?_, ?_, ?_⟩
  · have a1 : L.all clauseB = true := List.all_eq_true.mpr fun d hd => (h' d hd).1
    simp only [ruleB, a1, Bool.and_true, Bool.and_eq_true, decide_eq_true_eq]
    omega
  · rw [niD]
    exact niL_iff.mpr fun d hd => (h' d hd).2.1
  · have := wtL_le fun d hd => (h' d hd).2.2.1
    rw [wtD]
    omega
  · rw [dpD]
    have : dpL L ≤ 3 := dpL_le.mpr fun d hd => (h' d hd).2.2.2
    omega
section
variable {L : List D} {way at_ to : Int} {x1 x4 x7 : Sl} {t : Nat} {k : KS}
theorem rule_5 (h : ∀ d ∈ L, goodC d = true) (h1 : 1 ≤ L.length) (h2 : L.length ≤ 14) (q : ∀ d, RuleD d → k.rt (.im d) t) : w__law_rule_5 [.im .pot, x1, .ow L, .im (.int way), x4, .im (.int at_), .im (.int to), x7] t k := by
  simp [w__law_rule_5]
  exact q _ (ruleD_of h h1 h2)
theorem rule_4 (h : ∀ d ∈ L, goodC d = true) (h1 : 5 ≤ L.length) (h2 : L.length ≤ 11) (a0 : 0 ≤ at_) (a1 : at_ < L.length) (b0 : 0 ≤ to) (b1 : to < L.length) (ht : t + 20 ≤ 2000000) (q : ∀ d t', t' ≤ t + 20 → RuleD d → k.rt (.im d) t') :
    w__law_rule_4 [.im .pot, x1, .ow L, .im (.int way), x4, .im (.int at_), .im (.int to), x7] t k := by
  have hz := sz
  obtain ⟨m, rfl⟩ := Int.eq_ofNat_of_zero_le a0
  have hm : m < L.length := by omega
  have ct := cut_take (ds := L) (k := m) (by omega)
  have cd1 : NB.cutD L (some ((m : Int) + 1)) none = L.drop (m + 1) := by
    have := cut_drop (ds := L) (k := m + 1) (by omega)
    rwa [show (((m + 1 : Nat) : Int)) = ((m : Int) + 1) from by omega] at this
  have cd0 := cut_drop (ds := L) (k := m) (by omega)
  have ht' : ∀ d ∈ L.take m, goodC d = true := fun d hd => h d (List.mem_of_mem_take hd)
  have hd' : ∀ n, ∀ d ∈ L.drop n, goodC d = true := fun n d hd => h d (List.mem_of_mem_drop hd)
  by_cases w1 : way = 1
  · simp [w__law_rule_4, w1, ct, cd1]
    refine ⟨_, ⟨by omega, rfl⟩, ?_⟩
    refine rule_5 (fun d hd => ?_) (by simp; omega) (by simp; omega) fun d hd => q d t (by omega) hd
    rcases List.mem_append.mp hd with hd | hd
    · exact ht' d hd
    · exact hd' _ d hd
  · by_cases w2 : way = 2
    · simp [w__law_rule_4, w2, ct, cd0]
      refine g_law_clause _ _ _ (by omega) fun r t1 l1 pr => ?_
      obtain ⟨c, rfl, gc⟩ := pr
      refine ⟨by omega, _, ⟨by omega, rfl⟩, _, if_pos ?_, ?_⟩
      · simp; omega
      · refine rule_5 (fun d hd => ?_) (by simp; omega) (by simp; omega) fun d hd => q d t1 (by omega) hd
        rcases List.mem_append.mp hd with hd | hd
        · rcases List.mem_append.mp hd with hd | hd
          · exact ht' d hd
          · rw [List.mem_singleton.mp hd]; exact gc
        · exact hd' _ d hd
    · by_cases w3 : way = 3
      · obtain ⟨n, rfl⟩ := Int.eq_ofNat_of_zero_le b0
        have hn : n < L.length := by omega
        have i1 : ixN L.length (m : Int) = some m := by unfold ixN; rw [if_pos (by omega), if_pos (by omega)]; rfl
        have i2 : ixN L.length (n : Int) = some n := by unfold ixN; rw [if_pos (by omega), if_pos (by omega)]; rfl
        simp [w__law_rule_4, w3, swapS]
        refine ⟨m, i1, n, i2, _, List.getElem?_eq_getElem hm, _, List.getElem?_eq_getElem hn, ?_⟩
        refine rule_5 (fun d hd => ?_) (by simp; omega) (by simp; omega) fun d hd => q d t (by omega) hd
        rcases List.mem_or_eq_of_mem_set hd with hd | hd
        · rcases List.mem_or_eq_of_mem_set hd with hd | hd
          · exact h d hd
          · rw [hd]; exact h _ (List.getElem_mem hn)
        · rw [hd]; exact h _ (List.getElem_mem hm)
      · simp [w__law_rule_4, w1, w2, w3]
        exact rule_5 h (by omega) (by omega) fun d hd => q d t (by omega) hd
theorem rule_3 (h : ∀ d ∈ L, goodC d = true) (h1 : 5 ≤ L.length) (h2 : L.length ≤ 11) (a0 : 0 ≤ at_) (a1 : at_ < L.length) (b0 : 0 ≤ to) (b1 : to < L.length) (ht : t + 200 ≤ 2000000) (q : ∀ d t', t' ≤ t + 200 → RuleD d → k.rt (.im d) t') :
    w__law_rule_3 [.im .pot, x1, .ow L, .im (.int way), x4, .im (.int at_), .im (.int to), x7] t k := by
  have hz := sz
  by_cases w0 : way = 0
  · simp [w__law_rule_3, w0, takeW]
    refine ⟨by omega, fun j j0 j1 => ?_⟩
    obtain ⟨m, rfl⟩ := Int.eq_ofNat_of_zero_le j0
    have e : ((1 : Int) + (m : Nat)).toNat = m + 1 := by omega
    refine ⟨by omega, by omega, ?_⟩
    rw [e]
    refine compL_draw (post := fun x => goodC x = true) (n := 12) (fun d hd => ⟨_, bindP_nm, fun t Q' E h1 hq => ?_⟩) (by rw [rangeD_len]; simp only [List.length_nil]; omega) (by rw [rangeD_len]; omega) fun ys t3 l3 py le3 => ?_
    · simp
      refine g_law_clause _ _ _ (by omega) fun r t1 l1 pr => ?_
      obtain ⟨c, rfl, gc⟩ := pr
      exact hq _ _ (by omega) gc
    · rw [rangeD_len] at l3 le3
      simp
      exact q _ _ (by omega) (ruleD_of py (by omega) (by omega))
  · simp [w__law_rule_3, w0]
    exact rule_4 h h1 h2 a0 a1 b0 b1 (by omega) fun d t' l hd => q d t' (by omega) hd
theorem rule_2 (h : ∀ d ∈ L, goodC d = true) (h1 : 5 ≤ L.length) (h2 : L.length ≤ 11) (ht : t + 202 ≤ 2000000) (q : ∀ d t', t' ≤ t + 202 → RuleD d → k.rt (.im d) t') :
    w__law_rule_2 [.im .pot, x1, .ow L, .im (.int way), x4, .non, .non, x7] t k := by
  simp [w__law_rule_2, takeW]
  refine ⟨by omega, by omega, by omega, fun a a0 a1 => ⟨by omega, by omega, by omega, fun b b0 b1 => ?_⟩⟩
  exact rule_3 h h1 h2 a0 a1 b0 b1 (by omega) fun d t' l hd => q d t' (by omega) hd
end
theorem rule_1 {n : Str} {zs : List Str} {t : Nat} {k : KS} (hk : ∀ t Q E, F__law_known [.str n] t Q E ↔ Q (.nw (.l (zs.map .str))) t) (h : (zs.all fun z => rowOk z && goodC (clauseIn z)) = true) (h1 : 5 ≤ zs.length) (h2 : zs.length ≤ 11) (ht : t + 203 ≤ 2000000)
    (q : ∀ d t', t' ≤ t + 203 → RuleD d → k.rt (.im d) t') : w__law_rule_1 [.im .pot, .im (.str n), .non, .non, .non, .non, .non, .non] t k := by
  have hz := sz
  have ha : ∀ z ∈ zs, rowOk z = true ∧ goodC (clauseIn z) = true := fun z hm => by
    have := List.all_eq_true.mp h z hm
    rwa [Bool.and_eq_true] at this
  simp [w__law_rule_1, hk]
  have main : ∀ (Q' : List D → Nat → Prop), Q' (zs.map clauseIn) t → compL (.nm 4) yesT (callW F__law_clause_in (consD (varW 4) nilW)) [.im .pot, .im (.str n), .non, .non, .non, .non, .non, .non] (zs.map .str) [] t Q' := by
    intro Q' hq
    refine compL_gives (f := clauseIn) (fun z hm => ⟨_, .im (clauseIn z), bindP_nm, rfl, fun Q' E hq => ?_⟩) (by simp only [List.length_nil]; omega) (by rw [List.nil_append]; exact hq)
    simp
    exact g_clause_in (ha z hm).1 _ _ _ hq
  refine main _ ?_
  simp [takeW]
  refine ⟨by omega, fun w w0 w1 => ?_⟩
  refine rule_2 (fun d hd => ?_) (by rw [List.length_map]; exact h1) (by rw [List.length_map]; exact h2) (by omega) fun d t' l hd => q d t' (by omega) hd
  obtain ⟨z, hm, rfl⟩ := List.mem_map.mp hd
  exact (ha z hm).2
theorem g_law_rule : GivesT F__law_rule [.pot] 210 (fun r => ∃ d, r = .im d ∧ RuleD d) := by
  intro t Q E ht q
  simp [F__law_rule, w__law_rule, sizeLine_eq]
  refine g_law_of (by simp) (by simp) _ _ _ (by omega) fun r t1 l1 pr => ?_
  obtain ⟨d, hd, rfl⟩ := pr
  simp at hd
  have fin : ∀ d t', t' ≤ t1 + 203 → RuleD d → Q (.im d) t' := fun d t' l hd => q _ _ (by omega) ⟨d, rfl, hd⟩
  rcases hd with rfl | rfl | rfl | rfl | rfl
  · simp
    exact rule_1 (fun _ _ _ => known3) (by decide +kernel) (by decide) (by decide) (by omega) fin
  · simp
    exact rule_1 (fun _ _ _ => known2) (by decide +kernel) (by decide) (by decide) (by omega) fin
  · simp
    exact rule_1 (fun _ _ _ => known1) (by decide +kernel) (by decide) (by decide) (by omega) fin
  · simp
    exact rule_1 (fun _ _ _ => known5) (by decide +kernel) (by decide) (by decide) (by omega) fin
  · simp
    exact rule_1 (fun _ _ _ => known4) (by decide +kernel) (by decide) (by decide) (by omega) fin
end LW
set_option Elab.async false
set_option linter.all false
set_option maxRecDepth 100000
set_option maxHeartbeats 1000000
set_option autoImplicit false
/-! k04: rules, their texts both ways. -/
namespace LW
open PySem PySem.Spec PyProof.Rows L2 NB
abbrev Cl4 := List (Str × Bool) × Str
def clD (c : Cl4) : D := .tup [.tup (c.1.map tsP), .str c.2]
abbrev ruD (cs : List Cl4) : D := .tup (cs.map clD)
structure GoodC (c : Cl4) : Prop where
  ln : c.1.length ≤ 4
  wd : ∀ p ∈ c.1, p.1 ∈ k_WORDS
  nd : (c.1.map (·.1)).Nodup
  de : c.2 ∈ k_DEEDS
structure GoodR (cs : List Cl4) : Prop where
  l1 : 1 ≤ cs.length
  l20 : cs.length ≤ 20
  all : ∀ c ∈ cs, GoodC c
theorem GoodC.bl {c : Cl4} (G : GoodC c) : clauseB (clD c) = true := by
  have := G.ln
  have h1 : tupB (.tup (c.1.map tsP)) 0 4 = true := by
    simp [tupB]
    omega
  have h2 : tsB (.tup (c.1.map tsP)) = true := by
    have t1 : (c.1.map tsP).all testB = true := List.all_eq_true.mpr fun d hd => by
      obtain ⟨p, hp, rfl⟩ := List.mem_map.mp hd
      have := G.wd p hp
      simp [tsP, testB, wordB, isBl, this]
    simp only [tsB, t1, map_word, decide_eq_true G.nd]
    rfl
  simp only [clD, clauseB, h1, h2, wordB, decide_eq_true G.de]
  rfl
theorem GoodR.bl {cs : List Cl4} (G : GoodR cs) : ruleB (ruD cs) = true := by
  have := G.l1; have := G.l20
  have h1 : (cs.map clD).all clauseB = true := List.all_eq_true.mpr fun d hd => by
    obtain ⟨c, hc, rfl⟩ := List.mem_map.mp hd
    exact (G.all c hc).bl
  simp only [ruleB, h1, List.length_map]
  rw [decide_eq_true (by omega), decide_eq_true (by omega)]
  rfl
theorem clauseB_inv {v : D} (h : clauseB v = true) : ∃ c, v = clD c ∧ GoodC c := by
  unfold clauseB at h
  split at h
  · rename_i a b
    rw [Bool.and_eq_true, Bool.and_eq_true] at h
    obtain ⟨⟨h1, h2⟩, h3⟩ := h
    obtain ⟨ts, rfl, _, h4⟩ := tupB_tup h1
    cases b <;> simp [wordB] at h2
    rename_i z
    rw [tsB, Bool.and_eq_true] at h3
    obtain ⟨l, rfl, hl⟩ := tests_of h3.1
    have nd := of_decide_eq_true h3.2
    rw [map_word] at nd
    rw [List.length_map] at h4
    exact ⟨(l, z), rfl, (show l.length ≤ 4 by omega), hl, nd, h2⟩
  · cases h
theorem clauses_inv : ∀ {ds : List D}, ds.all clauseB = true → ∃ cs : List Cl4, ds = cs.map clD ∧ ∀ c ∈ cs, GoodC c
  | [], _ => ⟨[], rfl, fun _ h => nomatch h⟩
  | d :: ds, h => by
    rw [List.all_cons, Bool.and_eq_true] at h
    obtain ⟨c, rfl, hc⟩ := clauseB_inv h.1
    obtain ⟨cs, rfl, hcs⟩ := clauses_inv h.2
    refine ⟨c :: cs, rfl, fun e he => ?_⟩
    rcases List.mem_cons.mp he with e1 | e1
    · rw [e1]; exact hc
    · exact hcs e e1
theorem ruleB_inv {v : D} (h : ruleB v = true) : ∃ cs, v = ruD cs ∧ GoodR cs := by
  unfold ruleB at h
  split at h
  · rw [Bool.and_eq_true, Bool.and_eq_true, decide_eq_true_eq, decide_eq_true_eq] at h
    obtain ⟨⟨h1, h2⟩, h3⟩ := h
    obtain ⟨cs, rfl, hcs⟩ := clauses_inv h3
    rw [List.length_map] at h1 h2
    exact ⟨cs, rfl, by omega, by omega, hcs⟩
  · cases h
/-! ### texts -/
def testS (p : Str × Bool) : Str := if p.2 = true then p.1 else Str.ofString "no " ++ p.1
def clauseS (c : Cl4) : Str := if c.1 = [] then c.2 else c.2 ++ Str.ofString " if " ++ Txt.join " and " (c.1.map testS)
def ruleS (cs : List Cl4) : Str := Txt.join "\n" (cs.map clauseS)
theorem words_small2 {z : Str} (h : z ∈ k_WORDS) : sgS 128 z = true ∧ z.length ≤ 13 := by
  have := List.all_eq_true.mp words_small z h
  rw [Bool.and_eq_true, decide_eq_true_eq] at this
  exact this
theorem deeds_small : (k_DEEDS.all fun z => sgS 128 z && decide (z.length ≤ 4)) = true := by decide +kernel
theorem deeds_small2 {z : Str} (h : z ∈ k_DEEDS) : sgS 128 z = true ∧ z.length ≤ 4 := by
  have := List.all_eq_true.mp deeds_small z h
  rw [Bool.and_eq_true, decide_eq_true_eq] at this
  exact this
theorem no_len : (Str.ofString "no ").length = 3 := osL "no "
theorem if_len : (Str.ofString " if ").length = 4 := osL " if "
theorem and_len : (Str.ofString " and ").length = 5 := osL " and "
theorem feed_len : (Str.ofString "\n").length = 1 := osL "\n"
theorem join_len (s : Str) : ∀ zs : List Str, (Txt.join s zs).length ≤ (zs.map (·.length)).sum + zs.length * s.length
  | [] => by
    have : (Txt.join s []).length = 0 := rfl
    omega
  | z :: zs => by
    have := len_join_cons s z zs
    rw [TL.join_eq, this, List.length_cons, Nat.add_mul]
    simp only [List.map_cons, List.sum_cons]
    omega
theorem sum_le {B : Nat} : ∀ {zs : List Nat}, (∀ z ∈ zs, z ≤ B) → zs.sum ≤ B * zs.length
  | [], _ => by simp
  | z :: zs, h => by
    have h1 := h z List.mem_cons_self
    have h2 := sum_le fun y hy => h y (List.mem_cons_of_mem _ hy)
    rw [List.sum_cons, List.length_cons, Nat.mul_succ]
    omega
theorem test_len {p : Str × Bool} (h : p.1 ∈ k_WORDS) : (testS p).length ≤ 16 := by
  have := (words_small2 h).2
  unfold testS
  split
  · omega
  · rw [strLen_append, no_len]
    omega
theorem tests_len {c : Cl4} (G : GoodC c) : ((c.1.map testS).map (·.length)).sum + (c.1.map testS).length * (Str.ofString " and ").length ≤ 84 := by
  have := G.ln
  have h := sum_le (B := 16) (zs := (c.1.map testS).map (·.length)) fun z hz => by
    obtain ⟨y, hy, rfl⟩ := List.mem_map.mp hz
    obtain ⟨p, hp, rfl⟩ := List.mem_map.mp hy
    exact test_len (G.wd p hp)
  rw [List.length_map, List.length_map] at h
  rw [and_len, List.length_map]
  omega
theorem clause_len {c : Cl4} (G : GoodC c) : (clauseS c).length ≤ 92 := by
  have h1 := (deeds_small2 G.de).2
  have h2 := tests_len G
  have h3 := join_len " and " (c.1.map testS)
  unfold clauseS
  split
  · omega
  · rw [strLen_append, strLen_append, if_len]
    omega
theorem rule_total {cs : List Cl4} (G : GoodR cs) : ((cs.map clauseS).map (·.length)).sum + (cs.map clauseS).length * (Str.ofString "\n").length ≤ 1900 := by
  have := G.l20
  have h := sum_le (B := 92) (zs := (cs.map clauseS).map (·.length)) fun z hz => by
    obtain ⟨y, hy, rfl⟩ := List.mem_map.mp hz
    obtain ⟨c, hc, rfl⟩ := List.mem_map.mp hy
    exact clause_len (G.all c hc)
  rw [List.length_map, List.length_map] at h
  rw [feed_len, List.length_map]
  omega
theorem rule_len {cs : List Cl4} (G : GoodR cs) : (ruleS cs).length ≤ 1900 := by
  have h1 := rule_total G
  have h2 := join_len "\n" (cs.map clauseS)
  unfold ruleS
  omega
theorem ok_tests {c : Cl4} (G : GoodC c) : okL (c.1.map tsP) = true ∧ dpL (c.1.map tsP) ≤ 63 := by
  have key : ∀ l : List (Str × Bool), (∀ p ∈ l, p.1 ∈ k_WORDS) → okL (l.map tsP) = true ∧ dpL (l.map tsP) ≤ 1 := by
    intro l
    induction l with
    | nil => exact fun _ => ⟨rfl, by decide⟩
    | cons p l ih =>
      intro h
      obtain ⟨h1, h2⟩ := ih fun q hq => h q (List.mem_cons_of_mem _ hq)
      have z1 : PyData.strOk p.1 = true := List.all_eq_true.mp words_ok _ (h p List.mem_cons_self)
      refine ⟨?_, ?_⟩
      · rw [List.map_cons, okL, h1, tsP, okD, okL, okL, okL, okD, okD, z1]
        rfl
      · rw [List.map_cons, dpL]
        have : dpD (tsP p) = 1 := rfl
        omega
  have := key c.1 G.wd
  exact ⟨this.1, by omega⟩
theorem GoodR.ni {cs : List Cl4} (G : GoodR cs) : niD 128 (10 ^ 20) (ruD cs) = true := by
  rw [niD, niL_iff]
  intro d hd
  obtain ⟨c, hc, rfl⟩ := List.mem_map.mp hd
  have g := G.all c hc
  have h1 : niL 128 (10 ^ 20) (c.1.map tsP) = true := niL_iff.mpr fun d hd => by
    obtain ⟨p, hp, rfl⟩ := List.mem_map.mp hd
    rw [tsP, niD, niL, niL, niL, niD, niD, (words_small2 (g.wd p hp)).1]
    rfl
  rw [clD, niD, niL, niL, niL, niD, niD, h1, (deeds_small2 g.de).1]
  rfl
theorem GoodR.fine {cs : List Cl4} (G : GoodR cs) : Fine (ruD cs) := by
  have h20 := G.l20
  refine ⟨ni_mono (by decide) (by decide) G.ni, ?_, ?_⟩
  · have h := wtL_le (k := 100) (ds := cs.map clD) fun d hd => by
      obtain ⟨c, hc, rfl⟩ := List.mem_map.mp hd
      have g := G.all c hc
      have hl := g.ln
      have h1 := wtL_le (k := 16) (ds := c.1.map tsP) fun d hd => by
        obtain ⟨p, hp, rfl⟩ := List.mem_map.mp hd
        have := (words_small2 (g.wd p hp)).2
        simp only [tsP, wtD, wtL]
        omega
      rw [List.length_map] at h1
      have h2 := (deeds_small2 g.de).2
      simp only [clD, wtD, wtL]
      omega
    rw [List.length_map] at h
    rw [wtD]
    omega
  · have h : dpL (cs.map clD) ≤ 3 := dpL_le.mpr fun d hd => by
      obtain ⟨c, hc, rfl⟩ := List.mem_map.mp hd
      have h1 : dpL (c.1.map tsP) ≤ 1 := dpL_le.mpr fun d hd => by
        obtain ⟨p, hp, rfl⟩ := List.mem_map.mp hd
        simp [tsP, dpD, dpL]
      simp only [clD, dpD, dpL]
      omega
    rw [dpD]
    omega
theorem GoodR.ok {cs : List Cl4} (G : GoodR cs) : okD (ruD cs) = true := G.fine.ok
end LW
set_option Elab.async false
set_option linter.all false
set_option maxRecDepth 100000
set_option maxHeartbeats 1000000
set_option autoImplicit false
/-! k05: drawn standings. -/
namespace LW
open PySem PySem.Spec PyProof.Rows L2 NB
theorem niL_ints {b : Nat} {L : List Int} (h : ∀ k ∈ L, k.natAbs ≤ b) {c : Nat} : niL c b (L.map .int) = true := niL_iff.mpr fun d hd => by
  obtain ⟨k, hk, rfl⟩ := List.mem_map.mp hd
  rw [niD]
  exact decide_eq_true (h k hk)
theorem wt_ints : ∀ L : List Int, wtL (L.map .int) = L.length
  | [] => rfl
  | k :: L => by rw [List.map_cons, wtL, wt_ints L, wtD, List.length_cons]; omega
theorem head_sg {z : Str} (h : z ∈ k_HEADINGS) : sgS 128 z = true := (List.all_eq_true (p := fun z => sgS 128 z)).mp (by decide +kernel) z h
theorem head_len {z : Str} (h : z ∈ k_HEADINGS) : z.length ≤ 4 := of_decide_eq_true ((List.all_eq_true (p := fun z : Str => decide (z.length ≤ 4))).mp (by decide +kernel) z h)
/-- a car: floor, heading, load -/
abbrev Car := Int × Str × List Int
def carD (c : Car) : D := .tup [.int c.1, .str c.2.1, .tup (c.2.2.map .int)]
abbrev stD (cs : List Car) (F : List Int) : D := .tup [.tup (cs.map carD), .tup (F.map .int)]
structure GoodCar (n r : Int) (x : Car) : Prop where
  f0 : 0 ≤ x.1
  f1 : x.1 < n
  hd : x.2.1 ∈ k_HEADINGS
  bd : ∀ k ∈ x.2.2, 0 ≤ k ∧ k < n
  ris : x.2.2.Pairwise (· ≤ ·)
  len : (x.2.2.length : Int) ≤ r
structure GoodS (n r : Int) (cn : Nat) (l : List (Int × Int)) (cs : List Car) (F : List Int) : Prop where
  len : cs.length = cn
  cd : ∀ x ∈ cs, GoodCar n r x
  ris : F.Pairwise (· < ·)
  bd : ∀ k ∈ F, 0 ≤ k ∧ k < n
  fl : F.length ≤ 9
  calls : ∀ k ∈ F, callsB l k = true
theorem ints_bd {n : Int} {L : List Int} (h : ∀ k ∈ L, 0 ≤ k ∧ k < n) : intsB n (L.map .int) = true := List.all_eq_true.mpr fun d hd => by
  obtain ⟨k, hk, rfl⟩ := List.mem_map.mp hd
  have := h k hk
  simp only [intB]
  rw [decide_eq_true this.1, decide_eq_true (show k ≤ n - 1 by omega)]
  rfl
theorem GoodCar.ok {n r : Int} {x : Car} (G : GoodCar n r x) : carB n r (carD x) = true := by
  simp only [carD, carB, loadB, intB, wordB, ints_bd G.bd, intL_map, chn_le.mpr G.ris, List.length_map]
  have := G.f1
  rw [decide_eq_true G.f0, decide_eq_true (show x.1 ≤ n - 1 by omega), decide_eq_true G.hd, decide_eq_true G.len]
  rfl
theorem GoodCar.ni {n r : Int} {x : Car} (G : GoodCar n r x) (n8 : n ≤ 8) : niD 128 (10 ^ 20) (carD x) = true := by
  have := G.f0; have := G.f1
  rw [carD, niD, niL, niL, niL, niL, niD, niD, niD, niL_ints fun k hk => by have := G.bd k hk; omega, head_sg G.hd, decide_eq_true (show x.1.natAbs ≤ 10 ^ 20 by omega)]
  rfl
theorem GoodCar.wt {n r : Int} {x : Car} (G : GoodCar n r x) (r4 : r ≤ 4) : wtD (carD x) ≤ 20 := by
  have := head_len G.hd; have := G.len
  simp only [carD, wtD, wtL, wt_ints]
  omega
theorem dp_car (x : Car) : dpD (carD x) ≤ 2 := by
  simp only [carD, dpD, dpL, dp_ints]
  decide
theorem GoodS.ok {n r : Int} {cn : Nat} {l : List (Int × Int)} {cs : List Car} {F : List Int} (G : GoodS n r cn l cs F) : standB n cn r l (stD cs F) = true := by
  have h2 : (cs.map carD).all (carB n r) = true := List.all_eq_true.mpr fun d hd => by
    obtain ⟨x, hx, rfl⟩ := List.mem_map.mp hd
    exact (G.cd x hx).ok
  have h3 : F.all (callsB l) = true := List.all_eq_true.mpr G.calls
  simp only [standB, carsB, floorsB, ints_bd G.bd, h2, h3, intL_map, chn_lt.mpr G.ris, List.length_map, G.len]
  simp
theorem GoodS.fine {n r : Int} {cn : Nat} {l : List (Int × Int)} {cs : List Car} {F : List Int} (G : GoodS n r cn l cs F) (n8 : n ≤ 8) (r4 : r ≤ 4) (c3 : (cn : Int) ≤ 3) : Fn 100 5 (stD cs F) := by
  have w1 : wtL (cs.map carD) ≤ 20 * (cs.map carD).length := wtL_le fun d hd => by
    obtain ⟨x, hx, rfl⟩ := List.mem_map.mp hd
    exact (G.cd x hx).wt r4
  have d1 : dpL (cs.map carD) ≤ 2 := dpL_le.mpr fun d hd => by
    obtain ⟨x, hx, rfl⟩ := List.mem_map.mp hd
    exact dp_car x
  have := G.len; have := G.fl
  rw [List.length_map] at w1
  refine ⟨?_, ?_, ?_⟩
  · rw [niD, niL, niL, niL, niD, niD, niL_ints fun k hk => by have := G.bd k hk; omega, niL_iff.mpr fun d hd => by
      obtain ⟨x, hx, rfl⟩ := List.mem_map.mp hd
      exact (G.cd x hx).ni n8]
    rfl
  · simp only [wtD, wtL, wt_ints]
    omega
  · simp only [dpD, dpL, dp_ints]
    omega
abbrev rS (n c r : Int) (l : List (Int × Int)) (cs : List Car) (x3 x4 x5 : Sl) : List Sl := [.im .pot, .im (bD n c r (l.map tP)), .ow (cs.map carD), x3, x4, x5, .non, .non]
theorem compL_subP {p : Pt} {c : Wg Bool} {e : W} {ρw : List Sl} {n : Nat} {cf : D → Bool} {Q : List D → Nat → Prop} : ∀ {ds acc : List D} {t : Nat},
    (∀ d ∈ ds, ∃ ρ', bindP p d ρw = some ρ' ∧ (∀ t Q' E, t + n ≤ 2000000 → (∀ b t', t' ≤ t + n → (b = true → cf d = true) → Q' b ρ' t') → c ρ' t Q' E) ∧ ∀ t Q' E, Q' (.im d) ρ' t → e ρ' t Q' E) → acc.length + ds.length ≤ sizeLine → t + n * ds.length ≤ 2000000 →
    (∀ xs t', t' ≤ t + n * ds.length → xs.Sublist ds → (∀ x ∈ xs, cf x = true) → Q (acc ++ xs) t') → compL p c e ρw ds acc t Q
  | [], acc, t, _, _, _, q => by
    rw [compL]
    have := q [] t (by simp) (List.Sublist.refl _) (fun _ h => nomatch h)
    simpa using this
  | d :: ds, acc, t, h, hl, ht, q => by
    obtain ⟨ρ', h1, h2, h3⟩ := h d List.mem_cons_self
    rw [compL]
    rw [List.length_cons, Nat.mul_succ] at ht
    rw [List.length_cons] at hl
    refine ⟨ρ', h1, h2 t _ _ (by omega) fun b t1 l1 hb => ⟨rfl, ?_⟩⟩
    cases b with
    | true =>
      rw [if_pos rfl]
      refine h3 _ _ _ ⟨rfl, by omega, ?_⟩
      refine compL_subP (n := n) (fun d hd => h d (List.mem_cons_of_mem _ hd)) (by rw [List.length_append, List.length_singleton]; omega) (by omega) fun xs t' l2 sb hx => ?_
      rw [List.append_assoc]
      exact q (d :: xs) t' (by rw [List.length_cons, Nat.mul_succ]; omega) (sb.cons₂ d) fun x hm => (List.mem_cons.mp hm).elim (fun z => z ▸ hb rfl) (hx x)
    | false =>
      rw [if_neg (by decide)]
      refine compL_subP (n := n) (fun d hd => h d (List.mem_cons_of_mem _ hd)) (by omega) (by omega) fun xs t' l2 sb hx => ?_
      exact q xs t' (by rw [List.length_cons, Nat.mul_succ]; omega) (sb.cons d) hx
def callsD (l : List (Int × Int)) (d : D) : Bool := match d with
  | .int k => callsB l k
  | _ => false
theorem st2 {n r : Int} {cn : Nat} {l : List (Int × Int)} {cs : List Car} {x3 x4 x5 : Sl} {t : Nat} {k : KS} (G : GoodB n cn r l) (cl : cs.length = cn) (cd : ∀ d ∈ cs, GoodCar n r d) (ht : t + 20 ≤ 2000000)
    (q : ∀ cs F t', t' ≤ t + 20 → GoodS n r cn l cs F → k.rt (.im (stD cs F)) t') : w__law_standing_2 (rS n cn r l cs x3 x4 x5) t k := by
  have := G.r0; have := G.r4; have := G.c0; have := G.c3; have := G.n2; have := G.n8; have := G.ll
  have hz := sz
  obtain ⟨nn, rfl⟩ := Int.eq_ofNat_of_zero_le (show 0 ≤ n by omega)
  simp [w__law_standing_2, w__law_standing_3]
  refine ⟨by omega, ?_⟩
  refine compL_subP (n := 1) (cf := callsD l) (fun d hd => ?_) (by rw [rangeD_len]; simp only [List.length_nil]; omega) (by rw [rangeD_len]; omega) fun xs t1 l1 sb hx => ?_
  · obtain ⟨i, hi, rfl⟩ : ∃ i : Int, (0 ≤ i ∧ i < nn) ∧ d = .int i := by
      unfold rangeD at hd
      obtain ⟨j, hj, rfl⟩ := List.mem_map.mp hd
      have := List.mem_range.mp hj
      exact ⟨0 + (j : Nat), by omega, rfl⟩
    refine ⟨_, bindP_nm, fun t Q' E h1 h2 => ?_, fun t Q' E h => by simpa using h⟩
    simp [-neD, i_law_from (show l.length ≤ 1000 by omega), ne_from_lst]
    cases hc : callsB l i with
    | false => exact .inl ⟨rfl, h2 false _ (by omega) (fun z => nomatch z)⟩
    | true =>
      refine .inr ⟨rfl, ?_⟩
      simp [takeW]
      refine ⟨by omega, fun j j0 j1 => ?_⟩
      by_cases hj : j = 0
      · exact .inr ⟨hj, h2 true _ (Nat.le_refl _) (fun _ => hc)⟩
      · exact .inl ⟨hj, h2 false _ (Nat.le_refl _) (fun z => nomatch z)⟩
  · rw [rangeD_len] at l1
    obtain ⟨F, rfl, ris, bd, fl⟩ := sub_range sb
    rw [List.nil_append]
    refine ⟨by omega, q cs F _ (by omega) ⟨cl, cd, ris, fun k hk => by have := bd k hk; omega, by omega, fun k hk => hx (.int k) (List.mem_map_of_mem hk)⟩⟩
theorem load_draw {n r c : Int} {l : List (Int × Int)} {cs : List Car} {x3 x4 x5 : Sl} {t : Nat} {Q : R → List Sl → Nat → Prop} {E : KX} (r1 : 1 ≤ r) (r4 : r ≤ 4) (n2 : 2 ≤ n) (n8 : n ≤ 8) (ht : t + 5 ≤ 2000000)
    (q : ∀ (L : List Int) t', t' ≤ t + 5 → (∀ k ∈ L, 0 ≤ k ∧ k < n) → (L.length : Int) ≤ r → L.Pairwise (· ≤ ·) → Q (.nw (.l (L.map .int))) (rS n c r l cs x3 x4 .non) t') :
    (sortW (valO (compW (range1I (consD (callW takeW (consD (varW 0) (consD (op2W addD (valO (op2W itemD (slotO 1) (valO (pureW (.im (.int 2)))))) (valO (pureW (.im (.int 1))))) nilW))) nilW)) [5] (.nm 5) yesT (callW takeW (consD (varW 0) (consD (op2W itemD (slotO 1) (valO (pureW (.im (.int 0))))) nilW)))))) (rS n c r l cs x3 x4 x5) t Q E := by
  have hz := sz
  simp [takeW]
  refine ⟨by omega, by omega, by omega, fun k k0 k1 => ⟨by omega, by omega, ?_⟩⟩
  obtain ⟨m, rfl⟩ := Int.eq_ofNat_of_zero_le k0
  rw [show ((m : Nat) : Int).toNat = m by omega]
  refine compL_draw (n := 1) (t := t + 1) (ds := rangeD 0 m) (acc := []) (post := fun d => ∃ i, d = .int i ∧ (0 ≤ i ∧ i < n)) (fun d hd => ⟨_, bindP_nm, fun t Q' E h1 h2 => ?_⟩) (by rw [rangeD_len]; simp only [List.length_nil]; omega) (by rw [rangeD_len]; omega) fun xs t' l1 px lx => ?_
  · simp [takeW]
    exact ⟨by omega, by omega, by omega, fun j j0 j1 => h2 _ _ (by omega) ⟨j, rfl, j0, j1⟩⟩
  · obtain ⟨L, rfl, hL⟩ := ints_all px
    rw [rangeD_len] at lx l1
    rw [List.length_map] at lx
    rw [List.nil_append, srt_ints]
    have pm := List.mergeSort_perm L fun a b => decide (a ≤ b)
    have := pm.length_eq
    exact ⟨sortOk_ints L (by omega), q _ t' (by omega) (fun k hk => hL k (pm.mem_iff.mp hk)) (by omega) (sort_le L)⟩
theorem add_draw {n r c : Int} {l : List (Int × Int)} {cs : List Car} {x3 x5 : Sl} {L : List Int} {t : Nat} {k : KS} (r1 : 1 ≤ r) (r4 : r ≤ 4) (n2 : 2 ≤ n) (n8 : n ≤ 8) (hL : ∀ k ∈ L, 0 ≤ k ∧ k < n) (lL : (L.length : Int) ≤ r)
    (hp : L.Pairwise (· ≤ ·)) (cl : cs.length ≤ 10) (ht : t + 2 ≤ 2000000)
    (q : ∀ d t', t' ≤ t + 2 → GoodCar n r d → k.nx (rS n c r l (cs ++ [d]) x3 (.ow (.l (L.map .int))) x5) t') :
    (dropS (ownW 2 (consD (tupW (consD (opNW (g1 intD) (consO (valO (callW takeW (consD (varW 0) (consD (op2W itemD (slotO 1) (valO (pureW (.im (.int 0))))) nilW)))) nilW)) (consD (callW F__law_of (consD (varW 0) (consD (lstW (consD (pureW (.im (.str "none"))) (consD (pureW (.im (.str "up"))) (consD (pureW (.im (.str "down"))) nilW)))) nilW))) (consD (opNW (g1 tupOfD) (consO (slotO 4) nilW)) nilW)))) nilW) appendF)) (rS n c r l cs x3 (.ow (.l (L.map .int))) x5) t k := by
  have hz := sz
  simp [takeW]
  refine ⟨by omega, by omega, by omega, fun j j0 j1 => ⟨by omega, ?_⟩⟩
  refine g_law_of' (post := fun d => ∃ z, d = .str z ∧ z ∈ k_HEADINGS) (by simp) (by simp) (by simp [k_HEADINGS]) _ _ _ (by omega) fun x t' l1 ⟨d, e1, z, e2, hz⟩ => ?_
  subst e2
  subst e1
  have g := q (j, z, L) t' (by omega) ⟨j0, j1, hz, hL, hp, lL⟩
  rw [rS, List.map_append] at g
  exact ⟨by omega, _, ⟨by omega, rfl⟩, g⟩
theorem st1 {n r : Int} {cn : Nat} {l : List (Int × Int)} {t : Nat} {k : KS} (G : GoodB n cn r l) (ht : t + 60 ≤ 2000000)
    (q : ∀ cs F t', t' ≤ t + 60 → GoodS n r cn l cs F → k.rt (.im (stD cs F)) t') : w__law_standing_1 [.im .pot, .im (bD n cn r (l.map tP)), .ow (.l []), .non, .non, .non, .non, .non] t k := by
  have := G.r0; have := G.r4; have := G.c0; have := G.c3; have := G.n2; have := G.n8; have := G.ll
  have hz := sz
  simp [w__law_standing_1]
  refine ⟨by omega, ?_⟩
  refine forL_inv (j := 0) (fun j ρ t' => ∃ (cs : List Car) (x3 x4 : Sl), ρ = rS n cn r l cs x3 x4 .non ∧ cs.length = j ∧ (∀ d ∈ cs, GoodCar n r d) ∧ t' ≤ t + 12 * j) ⟨[], _, _, rfl, rfl, (fun _ h => nomatch h), by omega⟩ ?_ ?_
  · intro i d ρ t1 nx hd hI hn
    obtain ⟨hi, rfl⟩ := rangeD_get hd
    obtain ⟨cs, x3, x4, rfl, cl, cd, tl⟩ := hI
    simp only [turnS, seqS, setS]
    refine ⟨_, bindP_nm, ?_⟩
    refine load_draw (t := t1) (by omega) (by omega) (by omega) (by omega) (by omega) fun L t2 l2 hL lL hp => ?_
    refine add_draw (t := t2) (L := L) (by omega) (by omega) (by omega) (by omega) hL lL hp (by omega) (by omega) fun d t4 l4 hc => ?_
    exact hn _ _ ⟨cs ++ [d], _, _, rfl, by simp [cl], fun e he => (List.mem_append.mp he).elim (cd e) fun z => by rw [List.mem_singleton.mp z]; exact hc, by omega⟩
  · intro ρ t1 hI
    obtain ⟨cs, x3, x4, rfl, cl, cd, tl⟩ := hI
    rw [rangeD_len] at cl tl
    exact st2 G (by omega) cd (by omega) fun cs F t' l1 h => q cs F t' (by omega) h
theorem g_standing {n r : Int} {cn : Nat} {l : List (Int × Int)} (G : GoodB n cn r l) : GivesT F__law_standing [.pot, bD n cn r (l.map tP)] 60 (fun x => ∃ cs F, x = .im (stD cs F) ∧ GoodS n r cn l cs F) := by
  intro t Q E ht q
  simp [F__law_standing, w__law_standing]
  exact st1 G ht fun cs F t' l1 h => q _ _ l1 ⟨cs, F, rfl, h⟩
end LW
set_option Elab.async false
set_option linter.all false
set_option maxRecDepth 100000
set_option maxHeartbeats 1000000
set_option autoImplicit false
/-! k05: steps of comprehensions and expressions; near ones, own ones. -/
namespace LW
open PySem PySem.Spec PyProof.Rows L2 NB
theorem compG {α : Type} {p : Pt} {c : Wg Bool} {e : W} {ρw : List Sl} {g : α → D} {cf : α → Bool} {f : α → D} {t : Nat} {Q : List D → Nat → Prop} : ∀ {xs : List α} {acc : List D},
    (∀ x ∈ xs, ∃ ρ', bindP p (g x) ρw = some ρ' ∧ (∀ Q' E, c ρ' t Q' E ↔ Q' (cf x) ρ' t) ∧ (cf x = true → ∃ r : R, r.d = f x ∧ ∀ Q' E, e ρ' t Q' E ↔ Q' r ρ' t)) → acc.length + xs.length ≤ 1000 →
    (compL p c e ρw (xs.map g) acc t Q ↔ Q (acc ++ (xs.filter cf).map f) t)
  | [], acc, _, _ => by simp [compL]
  | x :: xs, acc, h, hl => by
    obtain ⟨ρ', h1, h2, h3⟩ := h x List.mem_cons_self
    have := sz
    rw [List.map_cons, compL]
    simp only [h1, Option.some.injEq, exists_eq_left', h2, true_and]
    rw [List.length_cons] at hl
    cases hc : cf x with
    | false =>
      rw [if_neg Bool.false_ne_true, compG (fun d hd => h d (List.mem_cons_of_mem _ hd)) (by omega), List.filter_cons_of_neg (by rw [hc]; exact Bool.false_ne_true)]
    | true =>
      obtain ⟨r, e1, e2⟩ := h3 hc
      rw [if_pos rfl, e2, compG (fun d hd => h d (List.mem_cons_of_mem _ hd)) (by rw [List.length_append, List.length_singleton]; omega), List.filter_cons_of_pos hc, e1, List.map_cons, List.append_assoc]
      simp only [true_and, List.singleton_append, and_iff_right_iff_imp]
      intro _
      omega
/-- a word's value, and the slots behind it -/
def Ev (ρ : List Sl) (w : W) (r : R) (ρ' : List Sl) : Prop := ∀ t Q E, Q r ρ' t → w ρ t Q E
theorem ev_cons {ρ ρ' : List Sl} {a : W} {r : R} {w : Wg (List D)} {t : Nat} {Q : List D → List Sl → Nat → Prop} {E : KX} (h : Ev ρ a r ρ') (g : w ρ' t (fun ds ρ2 t2 => Q (r.d :: ds) ρ2 t2) E) : consD a w ρ t Q E := h _ _ _ g
theorem set_same {ρ : List Sl} {j : Nat} {s : Sl} (h : ρ[j]? = some s) : ρ.set j s = ρ := by
  obtain ⟨hj, e⟩ := List.getElem?_eq_some_iff.mp h
  rw [← e]
  exact List.set_getElem_self hj
theorem eqv_int (x y : Int) : D.eqv (.int x) (.int y) = decide (x = y) := by
  have e : D.eqv (.int x) (.int y) = (x == y) := by simp [D.eqv, D.py, PyData.eqv]
  rw [e]
  rfl
theorem any_intsE (k : Int) (L : List Int) : (L.map D.int).any (fun y => D.eqv y (.int k)) = decide (k ∈ L) := by
  rw [List.any_map]
  induction L with
  | nil => rfl
  | cons a L ih =>
    rw [List.any_cons, ih, Function.comp_apply, eqv_int]
    by_cases h : a = k
    · simp [h]
    · simp [h, fun z : k = a => h z.symm]
      intro z
      exact absurd z.symm h
theorem okL_ints : ∀ L : List Int, okL (L.map .int) = true
  | [] => rfl
  | _ :: L => by rw [List.map_cons, okL, okL_ints L]; rfl
theorem in_ints {k : Int} {L : List Int} : inD (.int k) (.tup (L.map .int)) = some (.im (.bl (decide (k ∈ L)))) := by
  have e : inB (.int k) (.tup (L.map .int)) = some (decide (k ∈ L)) := by
    have h : eqOk (.int k) (.tup (L.map .int)) = true := by
      simp [eqOk, okD, okL_ints, dpD, dp_ints]
    rw [inB, if_pos h, any_intsE]
  rw [inD, e]
  rfl
/-- any of them greater, less -/
theorem ev_anyGt {ρ ρ0 ρ' : List Sl} {i j m : Nat} {d : D} {L : List Int} {k : Int} (hv : Ev ρ (varW i) (.im d) ρ0) (hd : itemsD d = some (L.map .int)) (e : wipeR ρ0 [j] = ρ') (hj : ρ'[j]? = some .non) (hm : ρ'[m]? = some (.im (.int k))) (jm : j ≠ m) (hl : L.length ≤ 1000) :
    Ev ρ (opNW (g1 anyD) (consO (valO (compW (seqI (varW i)) [j] (.nm j) yesT (op2W gtD (slotO j) (slotO m)))) nilW)) (.im (.bl (L.any fun x => decide (k < x)))) ρ' := fun t Q E q => by
  have hjl : j < ρ'.length := (List.getElem?_eq_some_iff.mp hj).1
  simp only [opNW, consO, valO, compW, seqI]
  refine hv _ _ _ ⟨_, hd, ?_⟩
  rw [e, compG (cf := fun _ => true) (f := fun x => .bl (decide (k < x))) (fun x _ => ⟨_, bindP_nm, fun Q' E => Iff.rfl, fun _ => ⟨.im (.bl (decide (k < x))), rfl, fun Q' E => by
    have h1 : (ρ'.set j (.im (.int x)))[j]? = some (.im (.int x)) := by rw [List.getElem?_set_self hjl]
    have h2 : (ρ'.set j (.im (.int x)))[m]? = some (.im (.int k)) := by rw [List.getElem?_set_ne jm, hm]
    simp [h1, h2]⟩⟩) (by simpa using hl), List.nil_append, List.filter_eq_self.mpr fun _ _ => rfl]
  refine ⟨[.lst (L.map fun x => .bl (decide (k < x)))], .im (.bl (L.any fun x => decide (k < x))), rfl, ?_, q⟩
  simp [g1, bls_maps, List.any_map, Function.comp_def]
theorem ev_anyLt {ρ ρ0 ρ' : List Sl} {i j m : Nat} {d : D} {L : List Int} {k : Int} (hv : Ev ρ (varW i) (.im d) ρ0) (hd : itemsD d = some (L.map .int)) (e : wipeR ρ0 [j] = ρ') (hj : ρ'[j]? = some .non) (hm : ρ'[m]? = some (.im (.int k))) (jm : j ≠ m) (hl : L.length ≤ 1000) :
    Ev ρ (opNW (g1 anyD) (consO (valO (compW (seqI (varW i)) [j] (.nm j) yesT (op2W ltD (slotO j) (slotO m)))) nilW)) (.im (.bl (L.any fun x => decide (x < k)))) ρ' := fun t Q E q => by
  have hjl : j < ρ'.length := (List.getElem?_eq_some_iff.mp hj).1
  simp only [opNW, consO, valO, compW, seqI]
  refine hv _ _ _ ⟨_, hd, ?_⟩
  rw [e, compG (cf := fun _ => true) (f := fun x => .bl (decide (x < k))) (fun x _ => ⟨_, bindP_nm, fun Q' E => Iff.rfl, fun _ => ⟨.im (.bl (decide (x < k))), rfl, fun Q' E => by
    have h1 : (ρ'.set j (.im (.int x)))[j]? = some (.im (.int x)) := by rw [List.getElem?_set_self hjl]
    have h2 : (ρ'.set j (.im (.int x)))[m]? = some (.im (.int k)) := by rw [List.getElem?_set_ne jm, hm]
    simp [h1, h2]⟩⟩) (by simpa using hl), List.nil_append, List.filter_eq_self.mpr fun _ _ => rfl]
  refine ⟨[.lst (L.map fun x => .bl (decide (x < k)))], .im (.bl (L.any fun x => decide (x < k))), rfl, ?_, q⟩
  simp [g1, bls_maps, List.any_map, Function.comp_def]
/-- the nearer ones -/
def nearB (a b : List Int) : Bool := !a.isEmpty && (b.isEmpty || (match leastI a, leastI b with
  | some x, some y => decide (x < y)
  | _, _ => false))
theorem leastI_ne : ∀ {l : List Int}, l ≠ [] → ∃ m, leastI l = some m
  | [], h => absurd rfl h
  | [a], _ => ⟨a, rfl⟩
  | a :: b :: l, _ => by
    obtain ⟨m, h⟩ := leastI_ne (l := b :: l) (by simp)
    rw [leastI, h]
    · exact ⟨_, rfl⟩
    · intro z; cases z
theorem intsD_map : ∀ L : List Int, intsD (L.map .int) = some L
  | [] => rfl
  | a :: L => by rw [List.map_cons, intsD, intsD_map L]; rfl
theorem dec_nil (L : List Int) : decide (L = []) = L.isEmpty := by cases L <;> rfl
theorem eqL_nil (L : List Int) : eqD (.lst (L.map .int)) (.lst []) = some (.im (.bl L.isEmpty)) := by
  show (if eqOk (.lst (L.map .int)) (.lst (([] : List Int).map .int)) = true then some (R.im (.bl (D.eqv (.lst (L.map .int)) (.lst (([] : List Int).map .int))))) else none) = _
  rw [if_pos (eqOk_ints L []), eqv_lstI L [], dec_nil]
theorem neL_nil (L : List Int) : neD (.lst (L.map .int)) (.lst []) = some (.im (.bl (!L.isEmpty))) := by
  show (if eqOk (.lst (L.map .int)) (.lst (([] : List Int).map .int)) = true then some (R.im (.bl (!(D.eqv (.lst (L.map .int)) (.lst (([] : List Int).map .int)))))) else none) = _
  rw [if_pos (eqOk_ints L []), eqv_lstI L [], dec_nil]
theorem emp_ne {a : List Int} (h : a.isEmpty = false) : a ≠ [] := fun z => by rw [z] at h; cases h
theorem g_near (a b : List Int) : Gives F_is_nearer [.lst (a.map .int), .lst (b.map .int)] (.im (.bl (nearB a b))) := fun t Q E q => by
  have s0 : (0 : Nat) ≤ sizeLine := Nat.zero_le _
  cases ea : a.isEmpty with
  | true => simpa [F_is_nearer, w_is_nearer, s0, -neD, -eqD, neL_nil a, ea, nearB] using q
  | false =>
    obtain ⟨m, hm⟩ := leastI_ne (emp_ne ea)
    cases eb : b.isEmpty with
    | true => simpa [F_is_nearer, w_is_nearer, s0, -neD, -eqD, neL_nil a, eqL_nil b, ea, eb, nearB] using q
    | false =>
      obtain ⟨m', hm'⟩ := leastI_ne (emp_ne eb)
      simpa [F_is_nearer, w_is_nearer, s0, -neD, -eqD, neL_nil a, eqL_nil b, ea, eb, nearB, intsD_map, hm, hm'] using q
theorem g_law_near (a b : List Int) : Gives F__law_nearer [.lst (a.map .int), .lst (b.map .int)] (.im (.bl (nearB a b))) := fun t Q E q => g_near a b t Q E q
end LW
set_option Elab.async false
set_option linter.all false
set_option maxRecDepth 100000
set_option maxHeartbeats 1000000
set_option autoImplicit false
/-! k05: whose own a lit floor is. -/
namespace LW
open PySem PySem.Spec PyProof.Rows L2 NB
theorem atI_nat {α : Type} {xs : List α} {i : Nat} {x : α} (h : xs[i]? = some x) : atI xs ((i : Nat) : Int) = some x := by
  have hi := (List.getElem?_eq_some_iff.mp h).1
  obtain ⟨d, e1, e2, _⟩ := atI_mem (ds := xs) (k := ((i : Nat) : Int)) (by omega) (by omega)
  rw [e1]
  rw [show ((i : Nat) : Int).toNat = i by omega, h] at e2
  exact e2.symm
def absI (x : Int) : Int := if x < 0 then -x else x
theorem item_car {cs : List Car} {i : Nat} {c : Car} (h : cs[i]? = some c) : itemD (.tup (cs.map carD)) (.int (i : Nat)) = some (.im (carD c)) := by
  have e : atI (cs.map carD) ((i : Nat) : Int) = some (carD c) := atI_nat (by rw [List.getElem?_map, h]; rfl)
  rw [itemD, e]
  rfl
theorem car_0 (c : Car) : itemD (carD c) (.int 0) = some (.im (.int c.1)) := rfl
def othersL (cs : List Car) (i : Nat) (k : Int) : List Int := (cs.zipIdx.filter fun p => !decide (p.2 = i)).map fun p => absI (p.1.1 - k) - (if p.2 < i then 1 else 0)
def ownB (cs : List Car) (i : Nat) (f k : Int) : Bool := (othersL cs i k).all fun o => decide (absI (f - k) ≤ o)
def enumP (p : Car × Nat) : D := .tup [.int (p.2 : Nat), carD p.1]
theorem enum_cars (cs : List Car) : enumD (cs.map carD) = cs.zipIdx.map enumP := by
  unfold enumD
  rw [List.zipIdx_map, List.map_map]
  rfl
theorem g_own {cs : List Car} {i : Nat} {c : Car} {k : Int} (h : cs[i]? = some c) (hl : cs.length ≤ 10) : Gives F_is_own [.tup (cs.map carD), .int (i : Nat), .int k] (.im (.bl (ownB cs i c.1 k))) := fun t Q E q => by
  have hz := sz
  have lo : (othersL cs i k).length ≤ 10 := by
    unfold othersL
    rw [List.length_map]
    exact Nat.le_trans (List.length_filter_le _ _) (by rw [List.length_zipIdx]; exact hl)
  simp [-itemD, F_is_own, w_is_own, item_car h, car_0, enum_cars]
  rw [compG (g := enumP) (cf := fun p : Car × Nat => !decide (p.2 = i)) (f := fun p : Car × Nat => .int (absI (p.1.1 - k) - (if p.2 < i then 1 else 0))) (fun p hp => ?_) (by simp; omega)]
  · have e : (cs.zipIdx.filter fun p : Car × Nat => !decide (p.2 = i)).map (fun p : Car × Nat => D.int (absI (p.1.1 - k) - (if p.2 < i then 1 else 0))) = (othersL cs i k).map .int := by
      unfold othersL
      rw [List.map_map]
      rfl
    rw [List.nil_append, e]
    rw [compG (cf := fun _ : Int => true) (f := fun o => .bl (decide (absI (c.1 - k) ≤ o))) (fun o _ => ⟨_, bindP_nm, fun Q' E => Iff.rfl, fun _ => ⟨.im (.bl (decide (absI (c.1 - k) ≤ o))), rfl, fun Q' E => by simp; exact Iff.rfl⟩⟩) (by simp only [List.length_nil]; omega)]
    rw [List.nil_append, List.filter_eq_self.mpr fun _ _ => rfl]
    refine ⟨_, ⟨_, bls_maps _ _, rfl⟩, ?_⟩
    rw [List.all_map]
    exact q
  · refine ⟨_, bindP2, fun Q' E => ?_, fun _ => ⟨.im (.int (absI (p.1.1 - k) - (if p.2 < i then 1 else 0))), rfl, fun Q' E => ?_⟩⟩
    · by_cases hx : p.2 = i
      · simp [hx]
      · have : ¬ ((p.2 : Nat) : Int) = (i : Nat) := by omega
        simp [hx, this]
    · by_cases hx : p.2 < i
      · simp [-itemD, car_0, hx, absI]
      · simp [-itemD, car_0, hx, absI]
end LW
set_option Elab.async false
set_option linter.all false
set_option maxRecDepth 100000
set_option maxHeartbeats 1000000
set_option autoImplicit false
/-! k05: what a car sees, word by word. -/
namespace LW
open PySem PySem.Spec PyProof.Rows L2 NB
def askedL (n : Int) (F : List Int) (f : Int) (load : List Int) : List Int := ((List.range n.toNat).filter fun j : Nat => !decide (0 + (j : Int) = f) && (decide (0 + (j : Int) ∈ F) || decide (0 + (j : Int) ∈ load))).map fun j : Nat => 0 + (j : Int)
def aboveL (f : Int) (A : List Int) : List Int := (A.filter fun x => decide (f < x)).map fun x => x - f
def belowL (f : Int) (A : List Int) : List Int := (A.filter fun x => decide (x < f)).map fun x => f - x
def sight (n r : Int) (cs : List Car) (F : List Int) (i : Nat) (c : Car) : List Bool :=
  let A := askedL n F c.1 c.2.2
  let a := aboveL c.1 A
  let b := belowL c.1 A
  let o := F.filter fun k => ownB cs i c.1 k
  [decide (c.1 ∈ F), decide (c.1 ∈ c.2.2), decide ((c.2.2.length : Int) < r), decide (c.2.1 = "up"), decide (c.2.1 = "down"), decide (c.1 = n - 1), decide (c.1 = 0), F.any fun x => decide (c.1 < x), F.any fun x => decide (x < c.1),
    c.2.2.any fun x => decide (c.1 < x), c.2.2.any fun x => decide (x < c.1), nearB a b, nearB b a, o.any fun x => decide (c.1 < x), o.any fun x => decide (x < c.1), decide (1 < ((cs.map (·.1)).count c.1 : Int))]
abbrev sightD (n r : Int) (cs : List Car) (F : List Int) (i : Nat) (c : Car) : Ob := .d (k_WORDS.map .str) ((sight n r cs F i c).map .bl)
section
variable {ρ ρ1 ρ2 : List Sl} {n c r f k : Int} {ts : List D} {cs : List Car} {F load L a b : List Int} {i j m : Nat} {h : Str} {d : D}
theorem ev_im (e : ρ[i]? = some (.im d)) : Ev ρ (varW i) (.im d) ρ := fun t Q E q => by
  simp only [varW, e]
  exact q
theorem ev_ow {o : Ob} (e : ρ[i]? = some (.ow o)) : Ev ρ (varW i) (.im o.dat) (ρ.set i (.im o.dat)) := fun t Q E q => by
  simp only [varW, e]
  exact q
theorem ev_in (h5 : ρ[i]? = some (.im (.int k))) (h4 : ρ[j]? = some (.im (.tup (L.map .int)))) : Ev ρ (op2W inD (slotO i) (slotO j)) (.im (.bl (decide (k ∈ L)))) ρ := fun t Q E q => by
  simp [-inD, -inB, h5, h4, in_ints]
  exact q
theorem ev_room (h0 : ρ[0]? = some (.im (bD n c r ts))) (h7 : ρ[i]? = some (.im (.tup (L.map .int)))) : Ev ρ (op2W ltD (valO (opNW (g1 lenD) (consO (slotO i) nilW))) (valO (op2W itemD (slotO 0) (valO (pureW (.im (.int 2))))))) (.im (.bl (decide ((L.length : Int) < r)))) ρ := fun t Q E q => by
  simp [h0, h7]
  exact q
theorem ev_isS {z : Str} (h6 : ρ[i]? = some (.im (.str h))) : Ev ρ (op2W eqD (slotO i) (valO (pureW (.im (.str z))))) (.im (.bl (decide (h = z)))) ρ := fun t Q E q => by
  simp [h6]
  exact q
theorem ev_top (h0 : ρ[0]? = some (.im (bD n c r ts))) (h5 : ρ[i]? = some (.im (.int f))) : Ev ρ (op2W eqD (slotO i) (valO (op2W subD (valO (op2W itemD (slotO 0) (valO (pureW (.im (.int 0)))))) (valO (pureW (.im (.int 1))))))) (.im (.bl (decide (f = n - 1)))) ρ := fun t Q E q => by
  simp [h0, h5]
  exact q
theorem ev_isI {z : Int} (h5 : ρ[i]? = some (.im (.int f))) : Ev ρ (op2W eqD (slotO i) (valO (pureW (.im (.int z))))) (.im (.bl (decide (f = z)))) ρ := fun t Q E q => by
  simp [h5]
  exact q
theorem ev_call2 {W2 : WF} {x y : R} {w1 w2 : W} {rr : R} (e1 : Ev ρ w1 x ρ1) (e2 : Ev ρ1 w2 y ρ2) (g : Gives W2 [x.d, y.d] rr) : Ev ρ (callW W2 (consD w1 (consD w2 nilW))) rr ρ2 := fun t Q E q => by
  simp only [callW, consD, nilW]
  exact e1 _ _ _ (e2 _ _ _ (g _ _ _ q))
theorem compV {α : Type} {p : Pt} {c : Wg Bool} {e : W} {ρw : List Sl} {g : α → D} {cf : α → Bool} {f : α → D} {t : Nat} {Q : List D → Nat → Prop} : ∀ {xs : List α} {acc : List D},
    (∀ x ∈ xs, ∃ ρ', bindP p (g x) ρw = some ρ' ∧ (∀ Q' E, Q' (cf x) ρ' t → c ρ' t Q' E) ∧ (cf x = true → ∃ r : R, r.d = f x ∧ ∀ Q' E, Q' r ρ' t → e ρ' t Q' E)) → acc.length + xs.length ≤ 1000 → Q (acc ++ (xs.filter cf).map f) t → compL p c e ρw (xs.map g) acc t Q
  | [], acc, _, _, q => by simpa [compL] using q
  | x :: xs, acc, h, hl, q => by
    obtain ⟨ρ', h1, h2, h3⟩ := h x List.mem_cons_self
    have := sz
    rw [List.map_cons, compL]
    rw [List.length_cons] at hl
    refine ⟨ρ', h1, h2 _ _ ⟨rfl, ?_⟩⟩
    cases hc : cf x with
    | false =>
      rw [if_neg Bool.false_ne_true]
      refine compV (fun d hd => h d (List.mem_cons_of_mem _ hd)) (by omega) ?_
      rw [List.filter_cons_of_neg (by rw [hc]; exact Bool.false_ne_true)] at q
      exact q
    | true =>
      obtain ⟨r, e1, e2⟩ := h3 hc
      rw [if_pos rfl]
      refine e2 _ _ ⟨rfl, by omega, compV (fun d hd => h d (List.mem_cons_of_mem _ hd)) (by rw [List.length_append, List.length_singleton]; omega) ?_⟩
      rw [List.filter_cons_of_pos hc, List.map_cons] at q
      rw [e1, List.append_assoc]
      exact q
/-- some of the walked, bent -/
theorem ev_compV {α : Type} {w : W} {g : α → D} {cf : α → Bool} {ff : α → D} {xs : List α} {e : W} {cw : Wg Bool} {p : Pt} {vs : List Nat} (hv : Ev ρ w (.im d) ρ1) (hd : itemsD d = some (xs.map g)) (hw : wipeR ρ1 vs = ρ1) (hl : xs.length ≤ 1000)
    (h : ∀ x ∈ xs, ∃ ρ', bindP p (g x) ρ1 = some ρ' ∧ (∀ t Q' E, Q' (cf x) ρ' t → cw ρ' t Q' E) ∧ (cf x = true → ∃ r : R, r.d = ff x ∧ ∀ t Q' E, Q' r ρ' t → e ρ' t Q' E)) :
    Ev ρ (compW (seqI w) vs p cw e) (.nw (.l ((xs.filter cf).map ff))) ρ1 := fun t Q E q => by
  simp only [compW, seqI]
  refine hv _ _ _ ⟨_, hd, ?_⟩
  rw [hw]
  refine compV (cf := cf) (f := ff) (fun x hx => ?_) (by simpa using hl) (by rw [List.nil_append]; exact q)
  obtain ⟨ρ', h1, h2, h3⟩ := h x hx
  exact ⟨ρ', h1, fun Q' E => h2 t Q' E, fun z => by obtain ⟨r, e1, e2⟩ := h3 z; exact ⟨r, e1, fun Q' E => e2 t Q' E⟩⟩
theorem ev_comp {α : Type} {w : W} {g : α → D} {cf : α → Bool} {ff : α → D} {xs : List α} {e : W} {cw : Wg Bool} {p : Pt} {vs : List Nat} (hv : Ev ρ w (.im d) ρ1) (hd : itemsD d = some (xs.map g)) (hw : wipeR ρ1 vs = ρ1) (hl : xs.length ≤ 1000)
    (h : ∀ x ∈ xs, ∃ ρ', bindP p (g x) ρ1 = some ρ' ∧ (∀ t Q' E, cw ρ' t Q' E ↔ Q' (cf x) ρ' t) ∧ (cf x = true → ∃ r : R, r.d = ff x ∧ ∀ t Q' E, e ρ' t Q' E ↔ Q' r ρ' t)) :
    Ev ρ (compW (seqI w) vs p cw e) (.nw (.l ((xs.filter cf).map ff))) ρ1 := ev_compV hv hd hw hl fun x hx => by
  obtain ⟨ρ', h1, h2, h3⟩ := h x hx
  exact ⟨ρ', h1, fun t Q' E => (h2 t Q' E).mpr, fun z => by obtain ⟨r, e1, e2⟩ := h3 z; exact ⟨r, e1, fun t Q' E => (e2 t Q' E).mpr⟩⟩
theorem ev_compR {cf : Nat → Bool} {ff : Nat → D} {e : W} {cw : Wg Bool} {p : Pt} {vs : List Nat} {wa : W} {m : Nat} (hv : Ev ρ wa (.im (.int (m : Nat))) ρ1) (hw : wipeR ρ1 vs = ρ1) (hl : m ≤ 1000)
    (h : ∀ x : Nat, x < m → ∃ ρ', bindP p (.int (0 + (x : Nat))) ρ1 = some ρ' ∧ (∀ t Q' E, cw ρ' t Q' E ↔ Q' (cf x) ρ' t) ∧ (cf x = true → ∃ r : R, r.d = ff x ∧ ∀ t Q' E, e ρ' t Q' E ↔ Q' r ρ' t)) :
    Ev ρ (compW (range1I (consD wa nilW)) vs p cw e) (.nw (.l (((List.range m).filter cf).map ff))) ρ1 := fun t Q E q => by
  simp only [compW, range1I, consD, nilW]
  refine hv _ _ _ ⟨_, rfl, by omega, by omega, ?_⟩
  have e : (((m : Nat) : Int)).toNat = m := by omega
  unfold rangeD
  rw [e, hw]
  refine compV (g := fun x : Nat => D.int (0 + (x : Nat))) (cf := cf) (f := ff) (fun x hx => ?_) (by simpa using hl) (by rw [List.nil_append]; exact q)
  obtain ⟨ρ', h1, h2, h3⟩ := h x (List.mem_range.mp hx)
  exact ⟨ρ', h1, fun Q' E => (h2 t Q' E).mpr, fun z => by obtain ⟨r, e1, e2⟩ := h3 z; exact ⟨r, e1, fun Q' E => (e2 t Q' E).mpr⟩⟩
end
theorem unp_ev {ρ ρ1 ρ2 : List Sl} {w : W} {r : R} {p : Pt} {rest : WS} {t : Nat} {k : KS} (h : Ev ρ w r ρ1) (hb : bindP p r.d ρ1 = some ρ2) (g : rest ρ2 t k) : seqS (unpS p w) rest ρ t k := h _ _ _ ⟨_, hb, g⟩
theorem set_ev {ρ ρ1 : List Sl} {w : W} {r : R} {i : Nat} {rest : WS} {t : Nat} {k : KS} (h : Ev ρ w r ρ1) (g : rest (ρ1.set i (slOf r)) t k) : seqS (setS i w) rest ρ t k := h _ _ _ g
theorem par_ev {ρ ρ1 ρ2 : List Sl} {w1 w2 : W} {r1 r2 : R} {i j : Nat} {rest : WS} {t : Nat} {k : KS} (h1 : Ev ρ w1 r1 ρ1) (h2 : Ev ρ1 w2 r2 ρ2) (g : rest ((ρ2.set j (slOf r2)).set i (slOf r1)) t k) : seqS (parS i j w1 w2) rest ρ t k := h1 _ _ _ (h2 _ _ _ g)
theorem ev_tup {ρ ρ' : List Sl} {a : Wg (List D)} {ds : List D} (h : ∀ t Q E, Q ds ρ' t → a ρ t Q E) (hl : ds.length ≤ 1000) : Ev ρ (tupW a) (.im (.tup ds)) ρ' := fun t Q E q => h _ _ _ ⟨by rw [sz]; omega, q⟩
theorem evs_nil {ρ : List Sl} : ∀ t Q E, Q ([] : List D) ρ t → (nilW : Wg (List D)) ρ t Q E := fun _ _ _ q => q
theorem evs_cons {ρ ρ1 ρ2 : List Sl} {w : W} {r : R} {a : Wg (List D)} {ds : List D} (h : Ev ρ w r ρ1) (g : ∀ t Q E, Q ds ρ2 t → a ρ1 t Q E) : ∀ t Q E, Q (r.d :: ds) ρ2 t → consD w a ρ t Q E := fun t Q E q => h _ _ _ (g _ _ _ q)
theorem ev_item {ρ : List Sl} {i j : Nat} {d e : D} {r : R} (h1 : ρ[i]? = some (.im d)) (h2 : ρ[j]? = some (.im e)) (h : itemD d e = some r) : Ev ρ (op2W itemD (slotO i) (slotO j)) r ρ := fun t Q E q => by
  simp [-itemD, h1, h2, h]
  exact q
theorem ev_itemC {ρ : List Sl} {i : Nat} {d : D} {k : Int} {r : R} (h1 : ρ[i]? = some (.im d)) (h : itemD d (.int k) = some r) : Ev ρ (op2W itemD (slotO i) (valO (pureW (.im (.int k))))) r ρ := fun t Q E q => by
  simp [-itemD, h1, h]
  exact q
end LW
set_option Elab.async false
set_option linter.all false
set_option maxRecDepth 100000
set_option maxHeartbeats 1000000
set_option autoImplicit false
/-! k05: seen_by. -/
namespace LW
open PySem PySem.Spec PyProof.Rows L2 NB
theorem asked_map (n : Int) (F : List Int) (f : Int) (load : List Int) : ((List.range n.toNat).filter fun j : Nat => !decide (0 + (j : Int) = f) && (decide (0 + (j : Int) ∈ F) || decide (0 + (j : Int) ∈ load))).map (fun j : Nat => D.int (0 + (j : Int))) = (askedL n F f load).map .int := by
  unfold askedL
  rw [List.map_map]
  rfl
theorem above_map (f : Int) (A : List Int) : (A.filter fun x => decide (f < x)).map (fun x => D.int (x - f)) = (aboveL f A).map .int := by
  unfold aboveL
  rw [List.map_map]
  rfl
theorem below_map (f : Int) (A : List Int) : (A.filter fun x => decide (x < f)).map (fun x => D.int (f - x)) = (belowL f A).map .int := by
  unfold belowL
  rw [List.map_map]
  rfl
theorem asked_len (n : Nat) (F : List Int) (f : Int) (load : List Int) : (askedL n F f load).length ≤ n := by
  unfold askedL
  rw [List.length_map]
  exact Nat.le_trans (List.length_filter_le _ _) (by rw [List.length_range]; omega)
theorem words_nd : k_WORDS.Nodup := by decide +kernel
section
variable {ρ ρ1 : List Sl} {n c r f : Int} {nn : Nat} {ts : List D} {F load A : List Int} {h : Str} {d : D} {u : Nat}
theorem ev_asked (hn : nn ≤ 1000) (h0 : ρ[0]? = some (.im (bD nn c r ts))) (h4 : ρ[4]? = some (.im (.tup (F.map .int)))) (h5 : ρ[5]? = some (.im (.int f))) (h7 : ρ[7]? = some (.im (.tup (load.map .int)))) (h9 : ρ[9]? = some .non) :
    Ev ρ (compW (range1I (consD (op2W itemD (slotO 0) (valO (pureW (.im (.int 0))))) nilW)) [9] (.nm 9) (andT (testW (op2W neD (slotO 9) (slotO 5))) (orT (testW (op2W inD (slotO 9) (slotO 4))) (testW (op2W inD (slotO 9) (slotO 7))))) (varW 9)) (.nw (.l ((askedL nn F f load).map .int))) ρ := by
  have hl : 9 < ρ.length := (List.getElem?_eq_some_iff.mp h9).1
  have g := ev_compR (ρ := ρ) (ρ1 := ρ) (m := nn) (wa := op2W itemD (slotO 0) (valO (pureW (.im (.int 0))))) (vs := [9]) (p := .nm 9) (cw := andT (testW (op2W neD (slotO 9) (slotO 5))) (orT (testW (op2W inD (slotO 9) (slotO 4))) (testW (op2W inD (slotO 9) (slotO 7))))) (e := varW 9)
    (cf := fun j : Nat => !decide (0 + (j : Int) = f) && (decide (0 + (j : Int) ∈ F) || decide (0 + (j : Int) ∈ load))) (ff := fun j : Nat => .int (0 + (j : Int))) (ev_itemC h0 rfl) (set_same h9) hn fun x hx => ⟨_, bindP_nm, fun t Q' E => ?_, fun _ => ⟨.im (.int (0 + (x : Nat))), rfl, fun t Q' E => ?_⟩⟩
  · rw [show (nn : Int) = (nn : Int) from rfl, ← asked_map, show ((nn : Nat) : Int).toNat = nn by omega]
    exact g
  · have e9 : (ρ.set 9 (.im (.int (0 + (x : Nat)))))[9]? = some (.im (.int (0 + (x : Nat)))) := by rw [List.getElem?_set_self hl]
    have e5 : (ρ.set 9 (.im (.int (0 + (x : Nat)))))[5]? = some (.im (.int f)) := by rw [List.getElem?_set_ne (by decide), h5]
    have e4 : (ρ.set 9 (.im (.int (0 + (x : Nat)))))[4]? = some (.im (.tup (F.map .int))) := by rw [List.getElem?_set_ne (by decide), h4]
    have e7 : (ρ.set 9 (.im (.int (0 + (x : Nat)))))[7]? = some (.im (.tup (load.map .int))) := by rw [List.getElem?_set_ne (by decide), h7]
    generalize (ρ.set 9 (.im (.int (0 + (x : Nat))))) = ρ' at *
    generalize (0 + ((x : Nat) : Int)) = y at *
    simp only [andT, testW, op2W, slotO, e9, e5, rsv, neD, orT, e4, e7, in_ints]
    by_cases q1 : y = f <;> by_cases q2 : y ∈ F <;> by_cases q3 : y ∈ load <;> simp [-inB, -inD, in_ints, q1, q2, q3]
  · have e9 : (ρ.set 9 (.im (.int (0 + (x : Nat)))))[9]? = some (.im (.int (0 + (x : Nat)))) := by rw [List.getElem?_set_self hl]
    simp only [varW, e9]
theorem ev_above (e : Ev ρ (varW 8) (.im (.lst (A.map .int))) ρ1) (h5 : ρ1[5]? = some (.im (.int f))) (hu : ρ1[u]? = some .non) (u5 : u ≠ 5) (hl : A.length ≤ 1000) :
    Ev ρ (compW (seqI (varW 8)) [u] (.nm u) (testW (op2W gtD (slotO u) (slotO 5))) (op2W subD (slotO u) (slotO 5))) (.nw (.l ((aboveL f A).map .int))) ρ1 := by
  have ul : u < ρ1.length := (List.getElem?_eq_some_iff.mp hu).1
  rw [← above_map]
  refine ev_comp e rfl (set_same hu) hl fun x _ => ⟨_, bindP_nm, fun t Q' E => ?_, fun _ => ⟨.im (.int (x - f)), rfl, fun t Q' E => ?_⟩⟩
  · have e9 : (ρ1.set u (.im (.int x)))[u]? = some (.im (.int x)) := by rw [List.getElem?_set_self ul]
    have e5 : (ρ1.set u (.im (.int x)))[5]? = some (.im (.int f)) := by rw [List.getElem?_set_ne u5, h5]
    by_cases hx : f < x
    · simp [e9, e5, hx, Int.not_le.mpr hx]
    · simp [e9, e5, hx, Int.not_lt.mp hx]
  · have e9 : (ρ1.set u (.im (.int x)))[u]? = some (.im (.int x)) := by rw [List.getElem?_set_self ul]
    have e5 : (ρ1.set u (.im (.int x)))[5]? = some (.im (.int f)) := by rw [List.getElem?_set_ne u5, h5]
    simp [e9, e5]
theorem ev_below (e : Ev ρ (varW 8) (.im (.lst (A.map .int))) ρ1) (h5 : ρ1[5]? = some (.im (.int f))) (hu : ρ1[u]? = some .non) (u5 : u ≠ 5) (hl : A.length ≤ 1000) :
    Ev ρ (compW (seqI (varW 8)) [u] (.nm u) (testW (op2W ltD (slotO u) (slotO 5))) (op2W subD (slotO 5) (slotO u))) (.nw (.l ((belowL f A).map .int))) ρ1 := by
  have ul : u < ρ1.length := (List.getElem?_eq_some_iff.mp hu).1
  rw [← below_map]
  refine ev_comp e rfl (set_same hu) hl fun x _ => ⟨_, bindP_nm, fun t Q' E => ?_, fun _ => ⟨.im (.int (f - x)), rfl, fun t Q' E => ?_⟩⟩
  · have e9 : (ρ1.set u (.im (.int x)))[u]? = some (.im (.int x)) := by rw [List.getElem?_set_self ul]
    have e5 : (ρ1.set u (.im (.int x)))[5]? = some (.im (.int f)) := by rw [List.getElem?_set_ne u5, h5]
    by_cases hx : x < f
    · simp [e9, e5, hx, Int.not_le.mpr hx]
    · simp [e9, e5, hx, Int.not_lt.mp hx]
  · have e9 : (ρ1.set u (.im (.int x)))[u]? = some (.im (.int x)) := by rw [List.getElem?_set_self ul]
    have e5 : (ρ1.set u (.im (.int x)))[5]? = some (.im (.int f)) := by rw [List.getElem?_set_ne u5, h5]
    simp [e9, e5]
end
theorem at_ev {rest : WS} {ρ ρ' : List Sl} {t : Nat} {k : KS} (e : ρ = ρ') (g : rest ρ' t k) : rest ρ t k := e ▸ g
abbrev sS (B S : D) (i : Nat) (cs : List Car) (F : List Int) (c : Car) (x8 x9 x10 x11 x12 x13 x14 : Sl) : List Sl := [.im B, .im S, .im (.int (i : Nat)), .im (.tup (cs.map carD)), .im (.tup (F.map .int)), .im (.int c.1), .im (.str c.2.1), .im (.tup (c.2.2.map .int)), x8, x9, x10, x11, x12, x13, x14]
theorem countP_ints (z : Int) : ∀ zs : List Int, (zs.map D.int).countP (fun y => D.eqv y (.int z)) = zs.count z
  | [] => rfl
  | a :: zs => by
    rw [List.map_cons, List.countP_cons, countP_ints z zs, List.count_cons, eqv_int]
    by_cases h : a = z <;> simp [h]
theorem ev_company {cs : List Car} {f : Int} {ρ : List Sl} (h3 : ρ[3]? = some (.im (.tup (cs.map carD)))) (h5 : ρ[5]? = some (.im (.int f))) (h12 : ρ[12]? = some .non) (hl : cs.length ≤ 1000) :
    Ev ρ (op2W gtD (valO (m1W "list" countD (valO (compW (seqI (varW 3)) [12] (.nm 12) yesT (op2W itemD (slotO 12) (valO (pureW (.im (.int 0))))))) (slotO 5))) (valO (pureW (.im (.int 1))))) (.im (.bl (decide (1 < ((cs.map (·.1)).count f : Int))))) ρ := fun t Q E q => by
  have hl12 : 12 < ρ.length := (List.getElem?_eq_some_iff.mp h12).1
  have g := ev_comp (ρ := ρ) (ρ1 := ρ) (vs := [12]) (p := .nm 12) (cw := yesT) (e := op2W itemD (slotO 12) (valO (pureW (.im (.int 0))))) (g := carD) (cf := fun _ : Car => true) (ff := fun c : Car => .int c.1) (ev_im h3) rfl (set_same h12) hl fun x _ => ⟨_, bindP_nm, fun t Q' E => Iff.rfl, fun _ => ⟨.im (.int x.1), rfl, fun t Q' E => by
    have e12 : (ρ.set 12 (.im (carD x)))[12]? = some (.im (carD x)) := by rw [List.getElem?_set_self hl12]
    simp [-itemD, e12, car_0]⟩⟩
  rw [List.filter_eq_self.mpr fun _ _ => rfl, show cs.map (fun c : Car => D.int c.1) = (cs.map (·.1)).map .int by rw [List.map_map]; rfl] at g
  have hc : countD (.lst ((cs.map (·.1)).map .int)) (.int f) = some (.im (.int (((cs.map (·.1)).count f : Nat) : Int))) := by
    generalize cs.map (·.1) = zs
    have h1 : eqOk (.int f) (.lst (zs.map .int)) = true := by simp [eqOk, okD, okL_ints, dpD, dp_ints]
    rw [countD, if_pos h1, countP_ints]
  have key : Ev ρ (m1W "list" countD (valO (compW (seqI (varW 3)) [12] (.nm 12) yesT (op2W itemD (slotO 12) (valO (pureW (.im (.int 0))))))) (slotO 5)) (.im (.int (((cs.map (·.1)).count f : Nat) : Int))) ρ := fun t Q E q => by
    unfold m1W
    refine g _ _ _ ⟨⟨_, rfl, trivial⟩, ?_⟩
    simp only [slotO, h5]
    exact ⟨_, _, _, rfl, by simp only [rsv, h5], hc, q⟩
  simp only [op2W]
  refine key _ _ _ ?_
  exact ⟨_, _, _, rfl, rfl, rfl, q⟩
theorem ev_own {cs : List Car} {F : List Int} {i : Nat} {x : Car} {ρ : List Sl} (hx : cs[i]? = some x) (hl : cs.length ≤ 10) (h3 : ρ[3]? = some (.im (.tup (cs.map carD)))) (h2 : ρ[2]? = some (.im (.int (i : Nat)))) (h4 : ρ[4]? = some (.im (.tup (F.map .int)))) (h9 : ρ[9]? = some .non) (hF : F.length ≤ 10) :
    Ev ρ (compW (seqI (varW 4)) [9] (.nm 9) (testW (callW F_is_own (consD (varW 3) (consD (varW 2) (consD (varW 9) nilW))))) (varW 9)) (.nw (.l ((F.filter fun k => ownB cs i x.1 k).map .int))) ρ := by
  have hl9 : 9 < ρ.length := (List.getElem?_eq_some_iff.mp h9).1
  refine ev_compV (ev_im h4) rfl (set_same h9) (by omega) fun k _ => ⟨_, bindP_nm, fun t Q' E q => ?_, fun _ => ⟨.im (.int k), rfl, fun t Q' E q => ?_⟩⟩
  · have e9 : (ρ.set 9 (.im (.int k)))[9]? = some (.im (.int k)) := by rw [List.getElem?_set_self hl9]
    have e3 : (ρ.set 9 (.im (.int k)))[3]? = some (.im (.tup (cs.map carD))) := by rw [List.getElem?_set_ne (by decide), h3]
    have e2 : (ρ.set 9 (.im (.int k)))[2]? = some (.im (.int (i : Nat))) := by rw [List.getElem?_set_ne (by decide), h2]
    simp only [testW, callW, consD, nilW, varW, e9, e3, e2]
    exact g_own hx hl _ _ _ ⟨_, rfl, q⟩
  · have e9 : (ρ.set 9 (.im (.int k)))[9]? = some (.im (.int k)) := by rw [List.getElem?_set_self hl9]
    simp only [varW, e9]
    exact q
theorem g_seen {n r c : Int} {ts : List D} {cs : List Car} {F : List Int} {i : Nat} {x : Car} (hx : cs[i]? = some x) (hl : cs.length ≤ 10) (hn : 0 ≤ n ∧ n ≤ 10) (hF : F.length ≤ 10) (hL : x.2.2.length ≤ 10) : Gives F_seen_by [bD n c r ts, stD cs F, .int (i : Nat)] (.nw (sightD n r cs F i x)) := fun t Q E q => by
  obtain ⟨nn, rfl⟩ := Int.eq_ofNat_of_zero_le hn.1
  have al := asked_len nn F x.1 x.2.2
  refine def_of rfl ?_
  unfold w_seen_by
  refine unp_ev (ev_im (i := 1) (d := stD cs F) rfl) bindP2 ?_
  refine unp_ev (ev_item (i := 3) (j := 2) rfl rfl (item_car hx)) bindP3 ?_
  refine at_ev (ρ' := sS (bD nn c r ts) (stD cs F) i cs F x .non .non .non .non .non .non .non) rfl ?_
  refine set_ev (ev_asked (by omega) rfl rfl rfl rfl rfl) ?_
  refine at_ev (ρ' := sS (bD nn c r ts) (stD cs F) i cs F x (.ow (.l ((askedL nn F x.1 x.2.2).map .int))) .non .non .non .non .non .non) rfl ?_
  generalize hA : askedL (nn : Int) F x.1 x.2.2 = A at al
  have e1 := ev_above (f := x.1) (A := A) (u := 9) (ρ := sS (bD nn c r ts) (stD cs F) i cs F x (.ow (.l (A.map .int))) .non .non .non .non .non .non) (ρ1 := sS (bD nn c r ts) (stD cs F) i cs F x (.im (.lst (A.map .int))) .non .non .non .non .non .non) (ev_ow (o := .l (A.map .int)) rfl) rfl rfl (by decide) (by omega)
  have e2 := ev_below (f := x.1) (A := A) (u := 12) (ρ := sS (bD nn c r ts) (stD cs F) i cs F x (.im (.lst (A.map .int))) .non .non .non .non .non .non) (ρ1 := sS (bD nn c r ts) (stD cs F) i cs F x (.im (.lst (A.map .int))) .non .non .non .non .non .non) (ev_im rfl) rfl rfl (by decide) (by omega)
  refine par_ev e1 e2 ?_
  refine at_ev (ρ' := sS (bD nn c r ts) (stD cs F) i cs F x (.im (.lst (A.map .int))) .non (.ow (.l ((aboveL x.1 A).map .int))) (.ow (.l ((belowL x.1 A).map .int))) .non .non .non) rfl ?_
  refine set_ev (ev_own hx hl rfl rfl rfl rfl hF) ?_
  generalize hO : F.filter (fun k => ownB cs i x.1 k) = O
  have lO : O.length ≤ 1000 := by rw [← hO]; exact Nat.le_trans (List.length_filter_le _ _) (by omega)
  refine at_ev (ρ' := sS (bD nn c r ts) (stD cs F) i cs F x (.im (.lst (A.map .int))) .non (.ow (.l ((aboveL x.1 A).map .int))) (.ow (.l ((belowL x.1 A).map .int))) .non (.ow (.l (O.map .int))) .non) rfl ?_
  let S0 : List Sl := sS (bD nn c r ts) (stD cs F) i cs F x (.im (.lst (A.map .int))) .non (.ow (.l ((aboveL x.1 A).map .int))) (.ow (.l ((belowL x.1 A).map .int))) .non (.ow (.l (O.map .int))) .non
  let S1 : List Sl := sS (bD nn c r ts) (stD cs F) i cs F x (.im (.lst (A.map .int))) .non (.im (.lst ((aboveL x.1 A).map .int))) (.ow (.l ((belowL x.1 A).map .int))) .non (.ow (.l (O.map .int))) .non
  let S2 : List Sl := sS (bD nn c r ts) (stD cs F) i cs F x (.im (.lst (A.map .int))) .non (.im (.lst ((aboveL x.1 A).map .int))) (.im (.lst ((belowL x.1 A).map .int))) .non (.ow (.l (O.map .int))) .non
  let S3 : List Sl := sS (bD nn c r ts) (stD cs F) i cs F x (.im (.lst (A.map .int))) .non (.im (.lst ((aboveL x.1 A).map .int))) (.im (.lst ((belowL x.1 A).map .int))) .non (.im (.lst (O.map .int))) .non
  have q1 : Ev S0 (callW F_is_nearer (consD (varW 10) (consD (varW 11) nilW))) (.im (.bl (nearB (aboveL x.1 A) (belowL x.1 A)))) S2 := ev_call2 (ρ1 := S1) (x := .im (.lst ((aboveL x.1 A).map .int))) (y := .im (.lst ((belowL x.1 A).map .int))) (ev_ow (o := .l ((aboveL x.1 A).map .int)) rfl) (ev_ow (o := .l ((belowL x.1 A).map .int)) rfl) (g_near _ _)
  have q2 : Ev S2 (callW F_is_nearer (consD (varW 11) (consD (varW 10) nilW))) (.im (.bl (nearB (belowL x.1 A) (aboveL x.1 A)))) S2 := ev_call2 (ρ1 := S2) (x := .im (.lst ((belowL x.1 A).map .int))) (y := .im (.lst ((aboveL x.1 A).map .int))) (ev_im rfl) (ev_im rfl) (g_near _ _)
  have q3 := ev_anyGt (ρ := S2) (ρ0 := S3) (ρ' := S3) (i := 13) (j := 9) (m := 5) (d := .lst (O.map .int)) (L := O) (k := x.1) (ev_ow (o := .l (O.map .int)) rfl) rfl rfl rfl rfl (by decide) lO
  have q4 := ev_anyLt (ρ := S3) (ρ0 := S3) (ρ' := S3) (i := 13) (j := 9) (m := 5) (d := .lst (O.map .int)) (L := O) (k := x.1) (ev_im rfl) rfl rfl rfl rfl (by decide) lO
  have f1 := ev_anyGt (ρ := S0) (ρ0 := S0) (ρ' := S0) (i := 4) (j := 9) (m := 5) (d := .tup (F.map .int)) (L := F) (k := x.1) (ev_im rfl) rfl rfl rfl rfl (by decide) (by omega)
  have f2 := ev_anyLt (ρ := S0) (ρ0 := S0) (ρ' := S0) (i := 4) (j := 9) (m := 5) (d := .tup (F.map .int)) (L := F) (k := x.1) (ev_im rfl) rfl rfl rfl rfl (by decide) (by omega)
  have f3 := ev_anyGt (ρ := S0) (ρ0 := S0) (ρ' := S0) (i := 7) (j := 9) (m := 5) (d := .tup (x.2.2.map .int)) (L := x.2.2) (k := x.1) (ev_im rfl) rfl rfl rfl rfl (by decide) (by omega)
  have f4 := ev_anyLt (ρ := S0) (ρ0 := S0) (ρ' := S0) (i := 7) (j := 9) (m := 5) (d := .tup (x.2.2.map .int)) (L := x.2.2) (k := x.1) (ev_im rfl) rfl rfl rfl rfl (by decide) (by omega)
  have l1 := ev_in (ρ := S0) (i := 5) (j := 4) (k := x.1) (L := F) rfl rfl
  have l2 := ev_in (ρ := S0) (i := 5) (j := 7) (k := x.1) (L := x.2.2) rfl rfl
  have l3 := ev_room (ρ := S0) (i := 7) (n := nn) (c := c) (r := r) (ts := ts) (L := x.2.2) rfl rfl
  have l4 := ev_isS (ρ := S0) (i := 6) (h := x.2.1) (z := "up") rfl
  have l5 := ev_isS (ρ := S0) (i := 6) (h := x.2.1) (z := "down") rfl
  have l6 := ev_top (ρ := S0) (i := 5) (n := nn) (c := c) (r := r) (ts := ts) (f := x.1) rfl rfl
  have l7 := ev_isI (ρ := S0) (i := 5) (f := x.1) (z := 0) rfl
  have q5 := ev_company (ρ := S3) (cs := cs) (f := x.1) rfl rfl rfl (by omega)
  refine set_ev (ev_tup (evs_cons l1 (evs_cons l2 (evs_cons l3 (evs_cons l4 (evs_cons l5 (evs_cons l6 (evs_cons l7 (evs_cons f1 (evs_cons f2 (evs_cons f3 (evs_cons f4 (evs_cons q1 (evs_cons q2 (evs_cons q3 (evs_cons q4 (evs_cons q5 evs_nil)))))))))))))))) (by simp)) ?_
  refine ret_of ?_
  simp only [dictZipW, valO, pureW, slotO]
  refine ⟨k_WORDS, _, rfl, rfl, rfl, words_nd, ?_⟩
  subst hA hO
  exact q
end LW
set_option Elab.async false
set_option linter.all false
set_option maxRecDepth 100000
set_option maxHeartbeats 1000000
set_option autoImplicit false
/-! k05: the law's own look, its steps. -/
namespace LW
open PySem PySem.Spec PyProof.Rows L2 NB
theorem keq_strs (a b : Str) : keq (.str a) (.str b) = decide (a = b) := by rw [keq]
theorem put_newK {k : Str} : ∀ {ks : List Str}, k ∉ ks → putKs (ks.map .str) (.str k) = (ks ++ [k]).map .str
  | [], _ => rfl
  | a :: ks, h => by
    have n1 : ¬ a = k := fun e => h (e ▸ List.mem_cons_self)
    rw [List.map_cons, putKs, keq_strs, if_neg (by simpa using n1), put_newK fun z => h (List.mem_cons_of_mem _ z)]
    rfl
theorem put_newV {k : Str} {v : D} : ∀ {ks : List Str} {vs : List D}, k ∉ ks → ks.length = vs.length → putVs (ks.map .str) vs (.str k) v = vs ++ [v]
  | [], [], _, _ => rfl
  | a :: ks, w :: vs, h, l => by
    have n1 : ¬ a = k := fun e => h (e ▸ List.mem_cons_self)
    rw [List.map_cons, putVs, keq_strs, if_neg (by simpa using n1), put_newV (fun z => h (List.mem_cons_of_mem _ z)) (by simpa using l)]
    rfl
theorem merge_new : ∀ {ls ks : List Str} {ws vs : List D}, ks.length = vs.length → ls.length = ws.length → (ks ++ ls).Nodup → mergeD (ks.map .str) vs (ls.map .str) ws = ((ks ++ ls).map .str, vs ++ ws)
  | [], ks, [], vs, _, _, _ => by simp [mergeD]
  | l :: ls, ks, w :: ws, vs, h1, h2, nd => by
    have hn : l ∉ ks := fun z => by
      rw [List.nodup_append] at nd
      exact nd.2.2 l z l List.mem_cons_self rfl
    rw [List.map_cons, mergeD, put_newK hn, put_newV hn h1, merge_new (by simp [h1]) (by simpa using h2) (by simpa using nd)]
    simp
theorem flat_strs {ks : List Str} (h : ks ≠ []) : flatK (ks.map .str) = true := by
  cases ks with
  | nil => exact absurd rfl h
  | cons _ _ => rfl
theorem upd_ev {i : Nat} {ls ks : List Str} {ws vs : List D} {ρ ρ1 : List Sl} {a : Wg (List D)} {rest : WS} {t : Nat} {k : KS} (h : ∀ t Q E, Q ws ρ1 t → a ρ t Q E) (h0 : ρ[i]? = some (.ow (.d (ks.map .str) vs))) (h1 : ρ1[i]? = some (.ow (.d (ks.map .str) vs)))
    (l1 : ks.length = vs.length) (l2 : ls.length = ws.length) (nd : (ks ++ ls).Nodup) (k0 : ks ≠ []) (k1 : ls ≠ []) (k2 : ks.length + ls.length ≤ 1000) (g : rest (ρ1.set i (.ow (.d ((ks ++ ls).map .str) (vs ++ ws)))) t k) :
    seqS (dropS (ownDW i (consD (dispW ls a) nilW) updateF)) rest ρ t k := by
  have hz := sz
  simp only [seqS, dropS, ownDW, consD, dispW, nilW]
  refine ⟨⟨_, h0, flat_strs k0⟩, ?_⟩
  refine h _ _ _ ⟨by rw [← l2], .d (ks.map .str) vs, .d ((ks ++ ls).map .str) (vs ++ ws), .non, h1, ?_, g⟩
  show updateF (.d (ks.map .str) vs) [.dct (ls.map .str) ws] = some (.d ((ks ++ ls).map .str) (vs ++ ws), .non)
  rw [updateF, if_pos ⟨⟨flat_strs k0, flat_strs k1⟩, by simp only [List.length_map]; omega⟩, merge_new l1 l2 nd]
theorem put_ev {i : Nat} {ks : List Str} {key : Str} {vs : List D} {ρ ρ1 : List Sl} {w : W} {r : R} {rest : WS} {t : Nat} {k : KS} (h : Ev ρ w r ρ1) (h1 : ρ1[i]? = some (.ow (.d (ks.map .str) vs))) (l1 : ks.length = vs.length) (nd : key ∉ ks) (k0 : ks ≠ []) (k2 : ks.length ≤ 1000)
    (g : rest (ρ1.set i (.ow (.d ((ks ++ [key]).map .str) (vs ++ [r.d])))) t k) : seqS (dputS i (valO (pureW (.im (.str key)))) w) rest ρ t k := by
  have hz := sz
  simp only [seqS, dputS, valO, pureW]
  refine h _ _ _ ⟨⟨_, h1⟩, _, _, _, h1, flat_strs k0, rfl, rfl, by rw [List.length_map]; omega, ?_⟩
  show rest (ρ1.set i (.ow (.d (putKs (ks.map .str) (.str key)) (putVs (ks.map .str) vs (.str key) r.d)))) t k
  rw [put_newK nd, put_newV nd l1]
  exact g
/-- the law's rivals -/
def rivD (k : Int) (p : Car × Nat) : D := .tup [.int (absI (p.1.1 - k)), .int (p.2 : Nat)]
theorem range_cars (cs : List Car) : rangeD 0 cs.length = cs.zipIdx.map fun p => D.int (0 + (p.2 : Nat)) := by
  unfold rangeD
  have e : List.range cs.length = cs.zipIdx.map Prod.snd := by rw [List.zipIdx_map_snd, List.range_eq_range']
  rw [e, List.map_map]
  rfl
theorem zip_at {cs : List Car} {p : Car × Nat} (h : p ∈ cs.zipIdx) : cs[p.2]? = some p.1 := by
  obtain ⟨c, j⟩ := p
  exact List.mem_zipIdx_iff_getElem?.mp h
theorem lex_own {a b : Int} {j i : Nat} (h : j ≠ i) : (!HT.lexLt [a, (j : Int)] [b, (i : Int)]) = decide (b ≤ a - if j < i then 1 else 0) := by
  have ne : ¬ ((j : Nat) : Int) = (i : Nat) := by omega
  simp only [HT.lexLt, if_neg ne]
  by_cases e : a = b
  · subst e
    by_cases l : j < i
    · have : ((j : Nat) : Int) < (i : Nat) := by omega
      simp [l, this]
      omega
    · have : ¬ ((j : Nat) : Int) < (i : Nat) := by omega
      simp [l, this]
  · rw [if_neg e]
    by_cases l : a < b
    · by_cases z : j < i
      · simp [l, z]; omega
      · simp [l, z]
    · by_cases z : j < i
      · simp [l, z]; omega
      · simp [l, z]; omega
def rivB (cs : List Car) (i : Nat) (f k : Int) : Bool := (cs.zipIdx.filter fun p => !decide (p.2 = i)).any fun p => HT.lexLt [absI (p.1.1 - k), (p.2 : Int)] [absI (f - k), (i : Int)]
theorem all_eqs {α : Type} {f g : α → Bool} : ∀ {l : List α}, (∀ x ∈ l, f x = g x) → l.all f = l.all g
  | [], _ => rfl
  | a :: l, h => by rw [List.all_cons, List.all_cons, h a List.mem_cons_self, all_eqs fun x hx => h x (List.mem_cons_of_mem _ hx)]
theorem riv_own (cs : List Car) (i : Nat) (f k : Int) : (!rivB cs i f k) = ownB cs i f k := by
  unfold rivB ownB othersL
  rw [List.all_map, List.not_any_eq_all_not]
  refine all_eqs fun p hp => ?_
  have : p.2 ≠ i := by simpa using (List.mem_filter.mp hp).2
  exact lex_own this
end LW
set_option Elab.async false
set_option linter.all false
set_option maxRecDepth 100000
set_option maxHeartbeats 1000000
set_option autoImplicit false
/-! k05: the law's own look. -/
namespace LW
open PySem PySem.Spec PyProof.Rows L2 NB
abbrev lS (B S : D) (i : Nat) (cs : List Car) (F : List Int) (c : Car) (x8 x9 x10 x11 x12 x13 x16 : Sl) : List Sl := [.im B, .im S, .im (.int (i : Nat)), .im (.tup (cs.map carD)), .im (.tup (F.map .int)), .im (.int c.1), .im (.str c.2.1), .im (.tup (c.2.2.map .int)), x8, x9, x10, x11, x12, x13, .non, .non, x16]
def rivW : W := compW (range1I (consD (opNW (g1 lenD) (consO (slotO 3) nilW)) nilW)) [14] (.nm 14) (testW (op2W neD (slotO 14) (slotO 2))) (tupW (consD (opNW (g1 absD) (consO (valO (op2W subD (valO (op2W itemD (valO (op2W itemD (slotO 3) (slotO 14))) (valO (pureW (.im (.int 0)))))) (slotO 9))) nilW)) (consD (varW 14) nilW)))
def anyW : W := opNW (g1 anyD) (consO (valO (compW (seqI (varW 13)) [15] (.nm 15) yesT (op2W ltD (slotO 15) (valO (tupW (consD (opNW (g1 absD) (consO (valO (op2W subD (slotO 5) (slotO 9))) nilW)) (consD (varW 2) nilW))))))) nilW)
section
variable {B S : D} {i : Nat} {cs : List Car} {F : List Int} {x : Car} {x8 x10 x11 x12 x13 x16 : Sl} {k : Int}
def rivs (cs : List Car) (i : Nat) : List (Car × Nat) := cs.zipIdx.filter fun p => !decide (p.2 = i)
theorem ev_riv (hl : cs.length ≤ 10) : Ev (lS B S i cs F x x8 (.im (.int k)) x10 x11 x12 x13 x16) rivW (.nw (.l ((rivs cs i).map (rivD k)))) (lS B S i cs F x x8 (.im (.int k)) x10 x11 x12 x13 x16) := fun t Q E q => by
  have hz := sz
  have h2 : 2 ≤ sizeLine := by omega
  unfold rivW
  simp [-itemD]
  rw [range_cars]
  refine ⟨by omega, ?_⟩
  refine compV (acc := []) (xs := cs.zipIdx) (g := fun p : Car × Nat => D.int (0 + (p.2 : Nat))) (cf := fun p : Car × Nat => !decide (p.2 = i)) (f := rivD k) (fun p hp => ⟨_, bindP_nm, fun Q' E q => ?_, fun _ => ⟨.im (rivD k p), rfl, fun Q' E q => ?_⟩⟩) (by simp only [List.length_nil, List.length_zipIdx]; omega) ?_
  · by_cases hx : p.2 = i
    · simp [hx] at q ⊢
      exact q
    · have : ¬ ((p.2 : Nat) : Int) = (i : Nat) := by omega
      simp [hx, this] at q ⊢
      exact q
  · have e := item_car (zip_at hp)
    have z0 : (0 : Int) + (p.2 : Nat) = (p.2 : Nat) := by omega
    rw [z0] at q ⊢
    simp [-itemD, e, car_0, h2]
    exact q
  · rw [List.nil_append]
    exact q
theorem ev_anyR (hl : cs.length ≤ 10) : Ev (lS B S i cs F x x8 (.im (.int k)) x10 x11 x12 (.ow (.l ((rivs cs i).map (rivD k)))) x16) anyW (.im (.bl (rivB cs i x.1 k))) (lS B S i cs F x x8 (.im (.int k)) x10 x11 x12 (.im (.lst ((rivs cs i).map (rivD k)))) x16) := fun t Q E q => by
  have hz := sz
  have h2 : 2 ≤ sizeLine := by omega
  have lr : (rivs cs i).length ≤ 10 := Nat.le_trans (List.length_filter_le _ _) (by rw [List.length_zipIdx]; exact hl)
  unfold anyW
  simp [-itemD, -ltD]
  refine compV (acc := []) (cf := fun _ : Car × Nat => true) (f := fun p : Car × Nat => .bl (HT.lexLt [absI (p.1.1 - k), (p.2 : Int)] [absI (x.1 - k), (i : Int)])) (fun p hp => ⟨_, bindP_nm, fun Q' E q => q, fun _ => ⟨.im (.bl (HT.lexLt [absI (p.1.1 - k), (p.2 : Int)] [absI (x.1 - k), (i : Int)])), rfl, fun Q' E q => ?_⟩⟩) (by simp only [List.length_nil]; omega) ?_
  · simp [-itemD, h2, rivD, intsD]
    exact q
  · rw [List.nil_append, List.filter_eq_self.mpr fun _ _ => rfl]
    refine ⟨_, ⟨_, bls_maps _ _, rfl⟩, ?_⟩
    rw [List.any_map]
    exact q
end
theorem ifnot_ev {ρ ρ1 : List Sl} {w : W} {b : Bool} {A B : WS} {t : Nat} {k : KS} (h : Ev ρ w (.im (.bl b)) ρ1) (g : (!b) = true → A ρ1 t k) (g2 : (!b) = false → B ρ1 t k) : ifS (notT (testW w)) A B ρ t k := by
  simp only [ifS, notT, testW]
  refine h _ _ _ ⟨b, rfl, ?_⟩
  cases hb : !b with
  | true => exact g hb
  | false => exact g2 hb
theorem app_ev {ρ ρ1 : List Sl} {w : W} {r : R} {i : Nat} {ds : List D} {t : Nat} {k : KS} {ds0 : List D} (h0 : ρ[i]? = some (.ow (.l ds0))) (h : Ev ρ w r ρ1) (h1 : ρ1[i]? = some (.ow (.l ds))) (hl : ds.length ≤ 1000) (g : k.nx (ρ1.set i (.ow (.l (ds ++ [r.d])))) t) : dropS (ownW i (consD w nilW) appendF) ρ t k := by
  have hz := sz
  simp only [dropS, ownW, consD, nilW]
  exact ⟨⟨_, h0⟩, h _ _ _ ⟨ds, _, .non, h1, if_pos (by omega), g⟩⟩
theorem own_loop {B S : D} {i : Nat} {cs : List Car} {F : List Int} {x : Car} {x8 x10 x11 x16 : Sl} {rest : WS} {t : Nat} {k : KS} (hl : cs.length ≤ 10) (hF : F.length ≤ 10) (g : ∀ x9 x13, rest (lS B S i cs F x x8 x9 x10 x11 (.ow (.l ((F.filter fun k => ownB cs i x.1 k).map .int))) x13 x16) t k) :
    seqS (forS (seqI (varW 4)) (.nm 9) (seqS (setS 13 rivW) (ifS (notT (testW anyW)) (dropS (ownW 12 (consD (varW 9) nilW) appendF)) nextS))) rest (lS B S i cs F x x8 .non x10 x11 (.ow (.l [])) .non x16) t k := by
  have hz := sz
  simp only [seqS, forS, seqI, varW]
  refine ⟨F.map .int, rfl, ?_⟩
  refine forL_inv (j := 0) (fun j ρ t' => ∃ x9 x13, ρ = lS B S i cs F x x8 x9 x10 x11 (.ow (.l (((F.take j).filter fun k => ownB cs i x.1 k).map .int))) x13 x16 ∧ t' = t) ⟨_, _, rfl, rfl⟩ ?_ ?_
  · intro j d ρ t1 nx hd hI hn
    obtain ⟨x9, x13, rfl, rfl⟩ := hI
    rw [Nat.zero_add] at *
    rw [List.getElem?_map] at hd
    obtain ⟨y, hy, rfl⟩ := Option.map_eq_some_iff.mp hd
    have tk : F.take (j + 1) = F.take j ++ [y] := by rw [List.take_succ, hy]; rfl
    have lt : (F.take j).length ≤ 10 := by rw [List.length_take]; omega
    have lf : ((F.take j).filter fun k => ownB cs i x.1 k).length ≤ 10 := Nat.le_trans (List.length_filter_le _ _) lt
    refine ⟨_, bindP_nm, ?_⟩
    refine set_ev (r := .nw (.l ((rivs cs i).map (rivD y)))) (ρ1 := lS B S i cs F x x8 (.im (.int y)) x10 x11 (.ow (.l (((F.take j).filter fun k => ownB cs i x.1 k).map .int))) x13 x16) (ev_riv hl) ?_
    refine ifnot_ev (b := rivB cs i x.1 y) (ρ1 := lS B S i cs F x x8 (.im (.int y)) x10 x11 (.ow (.l (((F.take j).filter fun k => ownB cs i x.1 k).map .int))) (.im (.lst ((rivs cs i).map (rivD y)))) x16) (ev_anyR hl) ?_ ?_
    · intro ho
      rw [riv_own] at ho
      refine app_ev (i := 12) (ds0 := ((F.take j).filter fun k => ownB cs i x.1 k).map .int) rfl (ev_im (i := 9) (d := .int y) rfl) (ds := ((F.take j).filter fun k => ownB cs i x.1 k).map .int) rfl (by rw [List.length_map]; omega) ?_
      refine hn _ _ ⟨.im (.int y), .im (.lst ((rivs cs i).map (rivD y))), ?_, rfl⟩
      rw [tk, List.filter_append, show [y].filter (fun k => ownB cs i x.1 k) = [y] by simp [ho], List.map_append]
      rfl
    · intro ho
      rw [riv_own] at ho
      refine hn _ _ ⟨.im (.int y), .im (.lst ((rivs cs i).map (rivD y))), ?_, rfl⟩
      rw [tk, List.filter_append, show [y].filter (fun k => ownB cs i x.1 k) = [] by simp [ho], List.append_nil]
  · intro ρ t1 hI
    obtain ⟨x9, x13, rfl, rfl⟩ := hI
    rw [Nat.zero_add, List.length_map, List.take_length]
    exact g _ _
end LW
set_option Elab.async false
set_option linter.all false
set_option maxRecDepth 100000
set_option maxHeartbeats 1000000
set_option autoImplicit false
/-! k05: the law's own look tells the same. -/
namespace LW
open PySem PySem.Spec PyProof.Rows L2 NB
theorem ev_companyL {cs : List Car} {f : Int} {ρ : List Sl} (h3 : ρ[3]? = some (.im (.tup (cs.map carD)))) (h5 : ρ[5]? = some (.im (.int f))) (h9 : ρ[9]? = some .non) (hl : cs.length ≤ 1000) :
    Ev ρ (op2W gtD (valO (opNW (g1 lenD) (consO (valO (compW (seqI (varW 3)) [9] (.nm 9) (testW (op2W eqD (valO (op2W itemD (slotO 9) (valO (pureW (.im (.int 0)))))) (slotO 5))) (varW 9))) nilW))) (valO (pureW (.im (.int 1))))) (.im (.bl (decide (1 < ((cs.map (·.1)).count f : Int))))) ρ := fun t Q E q => by
  have hl9 : 9 < ρ.length := (List.getElem?_eq_some_iff.mp h9).1
  have g := ev_comp (ρ := ρ) (ρ1 := ρ) (vs := [9]) (p := .nm 9) (cw := testW (op2W eqD (valO (op2W itemD (slotO 9) (valO (pureW (.im (.int 0)))))) (slotO 5))) (e := varW 9) (g := carD) (cf := fun c : Car => decide (c.1 = f)) (ff := fun c : Car => carD c) (ev_im h3) rfl (set_same h9) hl fun x _ => ⟨_, bindP_nm, fun t Q' E => by
    have e9 : (ρ.set 9 (.im (carD x)))[9]? = some (.im (carD x)) := by rw [List.getElem?_set_self hl9]
    have e5 : (ρ.set 9 (.im (carD x)))[5]? = some (.im (.int f)) := by rw [List.getElem?_set_ne (by decide), h5]
    by_cases hx : x.1 = f
    · simp [-itemD, e9, e5, car_0, hx]
    · simp [-itemD, e9, e5, car_0, hx], fun _ => ⟨.im (carD x), rfl, fun t Q' E => by
    have e9 : (ρ.set 9 (.im (carD x)))[9]? = some (.im (carD x)) := by rw [List.getElem?_set_self hl9]
    simp only [varW, e9]⟩⟩
  have ec : ((cs.filter fun c : Car => decide (c.1 = f)).map carD).length = (cs.map (·.1)).count f := by
    rw [List.length_map, List.count_eq_countP, List.countP_map, List.countP_eq_length_filter]
    congr 1
  simp only [op2W, opNW, consO, valO, nilW, pureW]
  refine g _ _ _ ⟨_, _, rfl, rfl, ?_⟩
  show ∃ d e r, some (D.int (((cs.filter fun c : Car => decide (c.1 = f)).map carD).length : Nat)) = some d ∧ some (D.int 1) = some e ∧ gtD d e = some r ∧ Q r ρ t
  rw [ec]
  exact ⟨_, _, _, rfl, rfl, rfl, q⟩
abbrev wA : List Str := ["here", "out", "room"]
abbrev wB : List Str := ["up", "down", "top", "bottom"]
abbrev wC : List Str := ["calls above", "calls below"]
abbrev wD : List Str := ["wishes above"]
abbrev wE : List Str := ["wishes below"]
abbrev wF : List Str := ["near above", "near below"]
abbrev wG : List Str := ["own above", "own below"]
abbrev Dk (ks : List Str) (vs : List D) : Sl := .ow (.d (ks.map .str) vs)
theorem g_lsees {n r c : Int} {ts : List D} {cs : List Car} {F : List Int} {i : Nat} {x : Car} (hx : cs[i]? = some x) (hl : cs.length ≤ 10) (hn : 0 ≤ n ∧ n ≤ 10) (hF : F.length ≤ 10) (hL : x.2.2.length ≤ 10) : Gives F__law_sees [bD n c r ts, stD cs F, .int (i : Nat)] (.nw (sightD n r cs F i x)) := fun t Q E q => by
  obtain ⟨nn, rfl⟩ := Int.eq_ofNat_of_zero_le hn.1
  have al := asked_len nn F x.1 x.2.2
  refine def_of rfl ?_
  unfold w__law_sees
  refine unp_ev (ev_im (i := 1) (d := stD cs F) rfl) bindP2 ?_
  refine unp_ev (ev_item (i := 3) (j := 2) rfl rfl (item_car hx)) bindP3 ?_
  refine at_ev (ρ' := lS (bD nn c r ts) (stD cs F) i cs F x .non .non .non .non .non .non .non) rfl ?_
  refine set_ev (ev_asked (by omega) rfl rfl rfl rfl rfl) ?_
  generalize hA : askedL (nn : Int) F x.1 x.2.2 = A at al
  have e1 := ev_above (f := x.1) (A := A) (u := 9) (ρ := lS (bD nn c r ts) (stD cs F) i cs F x (.ow (.l (A.map .int))) .non .non .non .non .non .non) (ρ1 := lS (bD nn c r ts) (stD cs F) i cs F x (.im (.lst (A.map .int))) .non .non .non .non .non .non) (ev_ow (o := .l (A.map .int)) rfl) rfl rfl (by decide) (by omega)
  have e2 := ev_below (f := x.1) (A := A) (u := 9) (ρ := lS (bD nn c r ts) (stD cs F) i cs F x (.im (.lst (A.map .int))) .non .non .non .non .non .non) (ρ1 := lS (bD nn c r ts) (stD cs F) i cs F x (.im (.lst (A.map .int))) .non .non .non .non .non .non) (ev_im rfl) rfl rfl (by decide) (by omega)
  refine par_ev e1 e2 ?_
  have hz := sz
  refine set_ev (r := .nw (.l [])) (ρ1 := lS (bD nn c r ts) (stD cs F) i cs F x (.im (.lst (A.map .int))) .non (.ow (.l ((aboveL x.1 A).map .int))) (.ow (.l ((belowL x.1 A).map .int))) .non .non .non) (fun t Q E q => ⟨Nat.zero_le _, q⟩) ?_
  refine own_loop (i := i) (cs := cs) (F := F) (x := x) (x16 := .non) hl hF fun x9 x13 => ?_
  generalize hO : F.filter (fun k => ownB cs i x.1 k) = O
  have lO : O.length ≤ 1000 := by rw [← hO]; exact Nat.le_trans (List.length_filter_le _ _) (by omega)
  let T (x9 x10 x11 x12 x16 : Sl) : List Sl := lS (bD nn c r ts) (stD cs F) i cs F x (.im (.lst (A.map .int))) x9 x10 x11 x12 x13 x16
  let a' : Sl := .ow (.l ((aboveL x.1 A).map .int))
  let b' : Sl := .ow (.l ((belowL x.1 A).map .int))
  let a2 : Sl := .im (.lst ((aboveL x.1 A).map .int))
  let b2 : Sl := .im (.lst ((belowL x.1 A).map .int))
  let o1 : Sl := .ow (.l (O.map .int))
  let o2 : Sl := .im (.lst (O.map .int))
  have l1 := ev_in (ρ := T x9 a' b' o1 .non) (i := 5) (j := 4) (k := x.1) (L := F) rfl rfl
  have l2 := ev_in (ρ := T x9 a' b' o1 .non) (i := 5) (j := 7) (k := x.1) (L := x.2.2) rfl rfl
  have l3 := ev_room (ρ := T x9 a' b' o1 .non) (i := 7) (n := nn) (c := c) (r := r) (ts := ts) (L := x.2.2) rfl rfl
  let bl (b : Bool) : D := .bl b
  let vA : List D := [.bl (decide (x.1 ∈ F)), .bl (decide (x.1 ∈ x.2.2)), .bl (decide ((x.2.2.length : Int) < r))]
  let vB : List D := [.bl (decide (x.2.1 = "up")), .bl (decide (x.2.1 = "down")), .bl (decide (x.1 = nn - 1)), .bl (decide (x.1 = 0))]
  let vC : List D := [.bl (F.any fun y => decide (x.1 < y)), .bl (F.any fun y => decide (y < x.1))]
  let vD : List D := [.bl (x.2.2.any fun y => decide (x.1 < y))]
  let vE : List D := [.bl (x.2.2.any fun y => decide (y < x.1))]
  let vF : List D := [.bl (nearB (aboveL x.1 A) (belowL x.1 A)), .bl (nearB (belowL x.1 A) (aboveL x.1 A))]
  let vG : List D := [.bl (O.any fun y => decide (x.1 < y)), .bl (O.any fun y => decide (y < x.1))]
  refine set_ev (r := .nw (.d (wA.map .str) vA)) (ρ1 := T x9 a' b' o1 .non) (fun t Q E q => evs_cons l1 (evs_cons l2 (evs_cons l3 evs_nil)) _ _ _ ⟨rfl, q⟩) ?_
  refine at_ev (ρ' := (T x9 a' b' o1 (Dk (wA) (vA)))) rfl ?_
  have hwB0 := ev_isS (ρ := (T x9 a' b' o1 (Dk (wA) (vA)))) (i := 6) (h := x.2.1) (z := "up") rfl
  have hwB1 := ev_isS (ρ := (T x9 a' b' o1 (Dk (wA) (vA)))) (i := 6) (h := x.2.1) (z := "down") rfl
  have hwB2 := ev_top (ρ := (T x9 a' b' o1 (Dk (wA) (vA)))) (i := 5) (n := nn) (c := c) (r := r) (ts := ts) (f := x.1) rfl rfl
  have hwB3 := ev_isI (ρ := (T x9 a' b' o1 (Dk (wA) (vA)))) (i := 5) (f := x.1) (z := 0) rfl
  refine upd_ev (i := 16) (ls := wB) (ks := wA) (ws := vB) (vs := vA) (ρ := (T x9 a' b' o1 (Dk (wA) (vA)))) (ρ1 := (T x9 a' b' o1 (Dk (wA) (vA)))) (evs_cons hwB0 (evs_cons hwB1 (evs_cons hwB2 (evs_cons hwB3 evs_nil)))) rfl rfl rfl rfl (by decide +kernel) (by simp) (by simp) (by decide) ?_
  refine at_ev (ρ' := (T x9 a' b' o1 (Dk (wA ++ wB) (vA ++ vB)))) rfl ?_
  have hwC0 := ev_anyGt (ρ := (T x9 a' b' o1 (Dk (wA ++ wB) (vA ++ vB)))) (ρ0 := (T x9 a' b' o1 (Dk (wA ++ wB) (vA ++ vB)))) (ρ' := (T .non a' b' o1 (Dk (wA ++ wB) (vA ++ vB)))) (i := 4) (j := 9) (m := 5) (d := .tup (F.map .int)) (L := F) (k := x.1) (ev_im rfl) rfl rfl rfl rfl (by decide) (by omega)
  have hwC1 := ev_anyLt (ρ := (T .non a' b' o1 (Dk (wA ++ wB) (vA ++ vB)))) (ρ0 := (T .non a' b' o1 (Dk (wA ++ wB) (vA ++ vB)))) (ρ' := (T .non a' b' o1 (Dk (wA ++ wB) (vA ++ vB)))) (i := 4) (j := 9) (m := 5) (d := .tup (F.map .int)) (L := F) (k := x.1) (ev_im rfl) rfl rfl rfl rfl (by decide) (by omega)
  refine upd_ev (i := 16) (ls := wC) (ks := wA ++ wB) (ws := vC) (vs := vA ++ vB) (ρ := (T x9 a' b' o1 (Dk (wA ++ wB) (vA ++ vB)))) (ρ1 := (T .non a' b' o1 (Dk (wA ++ wB) (vA ++ vB)))) (evs_cons hwC0 (evs_cons hwC1 evs_nil)) rfl rfl rfl rfl (by decide +kernel) (by simp) (by simp) (by decide) ?_
  refine at_ev (ρ' := (T .non a' b' o1 (Dk (wA ++ wB ++ wC) (vA ++ vB ++ vC)))) rfl ?_
  have hwD0 := ev_anyGt (ρ := (T .non a' b' o1 (Dk (wA ++ wB ++ wC) (vA ++ vB ++ vC)))) (ρ0 := (T .non a' b' o1 (Dk (wA ++ wB ++ wC) (vA ++ vB ++ vC)))) (ρ' := (T .non a' b' o1 (Dk (wA ++ wB ++ wC) (vA ++ vB ++ vC)))) (i := 7) (j := 9) (m := 5) (d := .tup (x.2.2.map .int)) (L := x.2.2) (k := x.1) (ev_im rfl) rfl rfl rfl rfl (by decide) (by omega)
  refine upd_ev (i := 16) (ls := wD) (ks := wA ++ wB ++ wC) (ws := vD) (vs := vA ++ vB ++ vC) (ρ := (T .non a' b' o1 (Dk (wA ++ wB ++ wC) (vA ++ vB ++ vC)))) (ρ1 := (T .non a' b' o1 (Dk (wA ++ wB ++ wC) (vA ++ vB ++ vC)))) (evs_cons hwD0 evs_nil) rfl rfl rfl rfl (by decide +kernel) (by simp) (by simp) (by decide) ?_
  refine at_ev (ρ' := (T .non a' b' o1 (Dk (wA ++ wB ++ wC ++ wD) (vA ++ vB ++ vC ++ vD)))) rfl ?_
  have hwE0 := ev_anyLt (ρ := (T .non a' b' o1 (Dk (wA ++ wB ++ wC ++ wD) (vA ++ vB ++ vC ++ vD)))) (ρ0 := (T .non a' b' o1 (Dk (wA ++ wB ++ wC ++ wD) (vA ++ vB ++ vC ++ vD)))) (ρ' := (T .non a' b' o1 (Dk (wA ++ wB ++ wC ++ wD) (vA ++ vB ++ vC ++ vD)))) (i := 7) (j := 9) (m := 5) (d := .tup (x.2.2.map .int)) (L := x.2.2) (k := x.1) (ev_im rfl) rfl rfl rfl rfl (by decide) (by omega)
  refine upd_ev (i := 16) (ls := wE) (ks := wA ++ wB ++ wC ++ wD) (ws := vE) (vs := vA ++ vB ++ vC ++ vD) (ρ := (T .non a' b' o1 (Dk (wA ++ wB ++ wC ++ wD) (vA ++ vB ++ vC ++ vD)))) (ρ1 := (T .non a' b' o1 (Dk (wA ++ wB ++ wC ++ wD) (vA ++ vB ++ vC ++ vD)))) (evs_cons hwE0 evs_nil) rfl rfl rfl rfl (by decide +kernel) (by simp) (by simp) (by decide) ?_
  refine at_ev (ρ' := (T .non a' b' o1 (Dk (wA ++ wB ++ wC ++ wD ++ wE) (vA ++ vB ++ vC ++ vD ++ vE)))) rfl ?_
  have hwF0 := (ev_call2 (ρ := (T .non a' b' o1 (Dk (wA ++ wB ++ wC ++ wD ++ wE) (vA ++ vB ++ vC ++ vD ++ vE)))) (ρ1 := (T .non a2 b' o1 (Dk (wA ++ wB ++ wC ++ wD ++ wE) (vA ++ vB ++ vC ++ vD ++ vE)))) (ρ2 := (T .non a2 b2 o1 (Dk (wA ++ wB ++ wC ++ wD ++ wE) (vA ++ vB ++ vC ++ vD ++ vE)))) (x := .im (.lst ((aboveL x.1 A).map .int))) (y := .im (.lst ((belowL x.1 A).map .int))) (show Ev (T .non a' b' o1 (Dk (wA ++ wB ++ wC ++ wD ++ wE) (vA ++ vB ++ vC ++ vD ++ vE))) (varW 10) (.im (.lst ((aboveL x.1 A).map .int))) (T .non a2 b' o1 (Dk (wA ++ wB ++ wC ++ wD ++ wE) (vA ++ vB ++ vC ++ vD ++ vE))) from ev_ow (i := 10) (o := .l ((aboveL x.1 A).map .int)) rfl) (show Ev (T .non a2 b' o1 (Dk (wA ++ wB ++ wC ++ wD ++ wE) (vA ++ vB ++ vC ++ vD ++ vE))) (varW 11) (.im (.lst ((belowL x.1 A).map .int))) (T .non a2 b2 o1 (Dk (wA ++ wB ++ wC ++ wD ++ wE) (vA ++ vB ++ vC ++ vD ++ vE))) from ev_ow (i := 11) (o := .l ((belowL x.1 A).map .int)) rfl) (g_law_near _ _))
  have hwF1 := (ev_call2 (ρ := (T .non a2 b2 o1 (Dk (wA ++ wB ++ wC ++ wD ++ wE) (vA ++ vB ++ vC ++ vD ++ vE)))) (ρ1 := (T .non a2 b2 o1 (Dk (wA ++ wB ++ wC ++ wD ++ wE) (vA ++ vB ++ vC ++ vD ++ vE)))) (ρ2 := (T .non a2 b2 o1 (Dk (wA ++ wB ++ wC ++ wD ++ wE) (vA ++ vB ++ vC ++ vD ++ vE)))) (x := .im (.lst ((belowL x.1 A).map .int))) (y := .im (.lst ((aboveL x.1 A).map .int))) (show Ev (T .non a2 b2 o1 (Dk (wA ++ wB ++ wC ++ wD ++ wE) (vA ++ vB ++ vC ++ vD ++ vE))) (varW 11) (.im (.lst ((belowL x.1 A).map .int))) (T .non a2 b2 o1 (Dk (wA ++ wB ++ wC ++ wD ++ wE) (vA ++ vB ++ vC ++ vD ++ vE))) from ev_im (i := 11) rfl) (show Ev (T .non a2 b2 o1 (Dk (wA ++ wB ++ wC ++ wD ++ wE) (vA ++ vB ++ vC ++ vD ++ vE))) (varW 10) (.im (.lst ((aboveL x.1 A).map .int))) (T .non a2 b2 o1 (Dk (wA ++ wB ++ wC ++ wD ++ wE) (vA ++ vB ++ vC ++ vD ++ vE))) from ev_im (i := 10) rfl) (g_law_near _ _))
  refine upd_ev (i := 16) (ls := wF) (ks := wA ++ wB ++ wC ++ wD ++ wE) (ws := vF) (vs := vA ++ vB ++ vC ++ vD ++ vE) (ρ := (T .non a' b' o1 (Dk (wA ++ wB ++ wC ++ wD ++ wE) (vA ++ vB ++ vC ++ vD ++ vE)))) (ρ1 := (T .non a2 b2 o1 (Dk (wA ++ wB ++ wC ++ wD ++ wE) (vA ++ vB ++ vC ++ vD ++ vE)))) (evs_cons hwF0 (evs_cons hwF1 evs_nil)) rfl rfl rfl rfl (by decide +kernel) (by simp) (by simp) (by decide) ?_
  refine at_ev (ρ' := (T .non a2 b2 o1 (Dk (wA ++ wB ++ wC ++ wD ++ wE ++ wF) (vA ++ vB ++ vC ++ vD ++ vE ++ vF)))) rfl ?_
  have hwG0 := ev_anyGt (ρ := (T .non a2 b2 o1 (Dk (wA ++ wB ++ wC ++ wD ++ wE ++ wF) (vA ++ vB ++ vC ++ vD ++ vE ++ vF)))) (ρ0 := (T .non a2 b2 o2 (Dk (wA ++ wB ++ wC ++ wD ++ wE ++ wF) (vA ++ vB ++ vC ++ vD ++ vE ++ vF)))) (ρ' := (T .non a2 b2 o2 (Dk (wA ++ wB ++ wC ++ wD ++ wE ++ wF) (vA ++ vB ++ vC ++ vD ++ vE ++ vF)))) (i := 12) (j := 9) (m := 5) (d := .lst (O.map .int)) (L := O) (k := x.1) (ev_ow (o := .l (O.map .int)) rfl) rfl rfl rfl rfl (by decide) (by omega)
  have hwG1 := ev_anyLt (ρ := (T .non a2 b2 o2 (Dk (wA ++ wB ++ wC ++ wD ++ wE ++ wF) (vA ++ vB ++ vC ++ vD ++ vE ++ vF)))) (ρ0 := (T .non a2 b2 o2 (Dk (wA ++ wB ++ wC ++ wD ++ wE ++ wF) (vA ++ vB ++ vC ++ vD ++ vE ++ vF)))) (ρ' := (T .non a2 b2 o2 (Dk (wA ++ wB ++ wC ++ wD ++ wE ++ wF) (vA ++ vB ++ vC ++ vD ++ vE ++ vF)))) (i := 12) (j := 9) (m := 5) (d := .lst (O.map .int)) (L := O) (k := x.1) (ev_im rfl) rfl rfl rfl rfl (by decide) (by omega)
  refine upd_ev (i := 16) (ls := wG) (ks := wA ++ wB ++ wC ++ wD ++ wE ++ wF) (ws := vG) (vs := vA ++ vB ++ vC ++ vD ++ vE ++ vF) (ρ := (T .non a2 b2 o1 (Dk (wA ++ wB ++ wC ++ wD ++ wE ++ wF) (vA ++ vB ++ vC ++ vD ++ vE ++ vF)))) (ρ1 := (T .non a2 b2 o2 (Dk (wA ++ wB ++ wC ++ wD ++ wE ++ wF) (vA ++ vB ++ vC ++ vD ++ vE ++ vF)))) (evs_cons hwG0 (evs_cons hwG1 evs_nil)) rfl rfl rfl rfl (by decide +kernel) (by simp) (by simp) (by decide) ?_
  refine at_ev (ρ' := (T .non a2 b2 o2 (Dk (wA ++ wB ++ wC ++ wD ++ wE ++ wF ++ wG) (vA ++ vB ++ vC ++ vD ++ vE ++ vF ++ vG)))) rfl ?_
  refine put_ev (i := 16) (ks := wA ++ wB ++ wC ++ wD ++ wE ++ wF ++ wG) (vs := vA ++ vB ++ vC ++ vD ++ vE ++ vF ++ vG) (ev_companyL (ρ := (T .non a2 b2 o2 (Dk (wA ++ wB ++ wC ++ wD ++ wE ++ wF ++ wG) (vA ++ vB ++ vC ++ vD ++ vE ++ vF ++ vG)))) (cs := cs) (f := x.1) rfl rfl rfl (by omega)) rfl rfl (by decide +kernel) (by simp) (by decide) ?_
  subst hA hO
  exact q
end LW
set_option Elab.async false
set_option linter.all false
set_option maxRecDepth 100000
set_option maxHeartbeats 1000000
set_option autoImplicit false
/-! k05: the clause that fits, its deed. -/
namespace LW
open PySem PySem.Spec PyProof.Rows L2 NB
def valB (bs : List Bool) (z : Str) : Bool := match lookD (k_WORDS.map .str) (bs.map .bl) (.str z) with
  | some (.bl b) => b
  | _ => false
theorem look_some {z : Str} : ∀ {ks : List Str} {bs : List Bool}, ks.length = bs.length → z ∈ ks → ∃ b, lookD (ks.map .str) (bs.map .bl) (.str z) = some (.bl b)
  | k :: ks, b :: bs, h, hz => by
    rw [List.map_cons, List.map_cons, lookD, keq_strs]
    by_cases e : k = z
    · exact ⟨b, by rw [if_pos (by simpa using e)]⟩
    · obtain ⟨c, hc⟩ := look_some (ks := ks) (bs := bs) (by simpa using h) ((List.mem_cons.mp hz).resolve_left fun q => e q.symm)
      exact ⟨c, by rw [if_neg (by simpa using e), hc]⟩
theorem look_val {bs : List Bool} {z : Str} (h : k_WORDS.length = bs.length) (hz : z ∈ k_WORDS) : dgetD (.dct (k_WORDS.map .str) (bs.map .bl)) (.str z) = some (.im (.bl (valB bs z))) := by
  obtain ⟨b, hb⟩ := look_some h hz
  show (match keyOf (.str z) with | some _ => if flatK (k_WORDS.map .str) = true then (lookD (k_WORDS.map .str) (bs.map .bl) (.str z)).map R.im else none | none => none) = _
  unfold valB
  rw [hb]
  rfl
theorem eq_bls (a b : Bool) : eqD (.bl a) (.bl b) = some (.im (.bl (decide (a = b)))) := by cases a <;> cases b <;> rfl
def fits (bs : List Bool) (c : Cl4) : Bool := c.1.all fun p => decide (valB bs p.1 = p.2)
def ixD (o : Option Nat) : D := match o with
  | none => .non
  | some m => .int (m : Nat)
abbrev cS (B U S : D) (i : Nat) (d : D) (x5 x6 x7 : Sl) : List Sl := [.im B, .im U, .im S, .im (.int (i : Nat)), .im d, x5, x6, x7, .non, .non]
def allW1 : W := opNW (g1 allD) (consO (valO (compW (seqI (varW 6)) [8, 9] (.tp [(.nm 8), (.nm 9)]) yesT (op2W eqD (valO (op2W dgetD (slotO 4) (slotO 8))) (slotO 9)))) nilW)
theorem ev_fits {B U S : D} {i : Nat} {bs : List Bool} {c : Cl4} {x5 x7 : Sl} (h : k_WORDS.length = bs.length) (G : GoodC c) : Ev (cS B U S i (.dct (k_WORDS.map .str) (bs.map .bl)) x5 (.im (.tup (c.1.map tsP))) x7) allW1 (.im (.bl (fits bs c))) (cS B U S i (.dct (k_WORDS.map .str) (bs.map .bl)) x5 (.im (.tup (c.1.map tsP))) x7) := fun t Q E q => by
  unfold allW1
  have hl : c.1.length ≤ 4 := by
    have := G.ln
    omega
  have g := ev_comp (ρ := cS B U S i (.dct (k_WORDS.map .str) (bs.map .bl)) x5 (.im (.tup (c.1.map tsP))) x7) (ρ1 := cS B U S i (.dct (k_WORDS.map .str) (bs.map .bl)) x5 (.im (.tup (c.1.map tsP))) x7) (vs := [8, 9]) (p := .tp [(.nm 8), (.nm 9)]) (cw := yesT) (e := op2W eqD (valO (op2W dgetD (slotO 4) (slotO 8))) (slotO 9)) (g := tsP) (xs := c.1) (cf := fun _ : Str × Bool => true) (ff := fun p : Str × Bool => .bl (decide (valB bs p.1 = p.2))) (ev_im (i := 6) (d := .tup (c.1.map tsP)) rfl) rfl rfl (by omega) fun p hp => ⟨_, bindP2, fun t Q' E => Iff.rfl, fun _ => ⟨.im (.bl (decide (valB bs p.1 = p.2))), rfl, fun t Q' E => by
    simp [-dgetD, -eqD, look_val h (G.wd p hp), eq_bls]⟩⟩
  rw [List.filter_eq_self.mpr fun _ _ => rfl] at g
  simp only [opNW, consO, valO, nilW]
  refine g _ _ _ ⟨_, .im (.bl (fits bs c)), rfl, ?_, q⟩
  show allD (.lst (c.1.map fun p : Str × Bool => D.bl (decide (valB bs p.1 = p.2)))) = _
  simp [bls_maps, List.all_map, Function.comp_def, fits]
theorem fit_loop {B U S : D} {i : Nat} {bs : List Bool} {t : Nat} {k : KS} (h : k_WORDS.length = bs.length) : ∀ {cls : List Cl4} {j : Nat} {x5 x6 x7 : Sl}, (∀ c ∈ cls, GoodC c) → (∀ m, cls.findIdx? (fits bs) = some m → k.rt (.im (.int (j + m : Nat))) t) → (cls.findIdx? (fits bs) = none → ∀ x5 x6 x7, k.nx (cS B U S i (.dct (k_WORDS.map .str) (bs.map .bl)) x5 x6 x7) t) →
    forL (turnS (.tp [(.nm 5), (.tp [(.nm 6), (.nm 7)])]) (ifS (testW allW1) (retV 5) nextS)) (((cls.map clD).zipIdx j).map fun p => D.tup [.int (p.2 : Nat), p.1]) (cS B U S i (.dct (k_WORDS.map .str) (bs.map .bl)) x5 x6 x7) t k
  | [], j, x5, x6, x7, _, _, q => q rfl _ _ _
  | c :: cls, j, x5, x6, x7, G, q1, q2 => by
    rw [List.map_cons, List.zipIdx_cons, List.map_cons, forL]
    refine ⟨cS B U S i (.dct (k_WORDS.map .str) (bs.map .bl)) (.im (.int (j : Nat))) (.im (.tup (c.1.map tsP))) (.im (.str c.2)), rfl, ?_⟩
    simp only [ifS, testW]
    refine ev_fits h (G c List.mem_cons_self) _ _ _ ⟨_, rfl, ?_⟩
    rw [List.findIdx?_cons] at q1 q2
    cases hf : fits bs c with
    | true =>
      rw [if_pos rfl]
      exact q1 0 (by rw [hf]; rfl)
    | false =>
      rw [if_neg (by decide)]
      refine fit_loop h (fun c hc => G c (List.mem_cons_of_mem _ hc)) (fun m hm => ?_) fun hm => ?_
      · have := q1 (m + 1) (by rw [hf, hm]; rfl)
        rw [show j + 1 + m = j + (m + 1) by omega]
        exact this
      · exact q2 (by rw [hf, hm]; rfl)
theorem enum_rule (cls : List Cl4) : enumD (cls.map clD) = ((cls.map clD).zipIdx 0).map fun p => D.tup [.int (p.2 : Nat), p.1] := rfl
theorem fit_def {FS : WF} {B S : D} {i : Nat} {bs : List Bool} {cls : List Cl4} (h : k_WORDS.length = bs.length) (G : GoodR cls) (g : Gives FS [B, S, .int (i : Nat)] (.nw (.d (k_WORDS.map .str) (bs.map .bl)))) :
    Gives (defW 4 10 (seqS (thenF 4 (setS 4 (callW FS (consD (varW 0) (consD (varW 2) (consD (varW 3) nilW)))))) (seqS (forS (enumAI (consD (varW 1) nilW)) (.tp [(.nm 5), (.tp [(.nm 6), (.nm 7)])]) (ifS (testW allW1) (retV 5) nextS)) (retS (pureW (.im .non)))))) [B, ruD cls, S, .int (i : Nat)] (.im (ixD (cls.findIdx? (fits bs)))) := fun t Q E q => by
  refine def_of rfl ?_
  refine setF_of ?_
  simp only [callW, consD, nilW]
  refine g _ _ _ ?_
  refine at_ev (ρ' := cS B (ruD cls) S i (.dct (k_WORDS.map .str) (bs.map .bl)) .non .non .non) (rest := seqS (forS (enumAI (consD (varW 1) nilW)) (.tp [(.nm 5), (.tp [(.nm 6), (.nm 7)])]) (ifS (testW allW1) (retV 5) nextS)) (retS (pureW (.im .non)))) rfl ?_
  simp only [seqS, forS, enumAI, consD, nilW]
  refine ⟨cls.map clD, .inr rfl, ?_⟩
  rw [enum_rule]
  refine fit_loop h G.all (fun m hm => ?_) fun hm x5 x6 x7 => ?_
  · rw [hm] at q
    rw [Nat.zero_add]
    exact q
  · rw [hm] at q
    exact q
theorem g_clause_there {B S : D} {i : Nat} {bs : List Bool} {cls : List Cl4} (h : k_WORDS.length = bs.length) (G : GoodR cls) (g : Gives F_seen_by [B, S, .int (i : Nat)] (.nw (.d (k_WORDS.map .str) (bs.map .bl)))) : Gives F_clause_there [B, ruD cls, S, .int (i : Nat)] (.im (ixD (cls.findIdx? (fits bs)))) := fit_def h G g
theorem g_law_clause_of {B S : D} {i : Nat} {bs : List Bool} {cls : List Cl4} (h : k_WORDS.length = bs.length) (G : GoodR cls) (g : Gives F__law_sees [B, S, .int (i : Nat)] (.nw (.d (k_WORDS.map .str) (bs.map .bl)))) : Gives F__law_clause_of [B, ruD cls, S, .int (i : Nat)] (.im (ixD (cls.findIdx? (fits bs)))) := fit_def h G g
def deedL (cls : List Cl4) (o : Option Nat) : Str := match o with
  | none => "rest"
  | some m => (cls[m]?.getD ([], "rest")).2
theorem deed_def {FC : WF} {B S : D} {i : Nat} {cls : List Cl4} {o : Option Nat} (ho : ∀ m, o = some m → m < cls.length) (g : Gives FC [B, ruD cls, S, .int (i : Nat)] (.im (ixD o))) :
    Gives (defW 4 5 (seqS (setS 4 (callW FC (consD (varW 0) (consD (varW 1) (consD (varW 2) (consD (varW 3) nilW)))))) (retS (ifV (testW (op2W isNoneD (slotO 4) (valO (pureW (.im .non))))) (pureW (.im (.str "rest"))) (op2W itemD (valO (op2W itemD (slotO 1) (slotO 4))) (valO (pureW (.im (.int 1))))))))) [B, ruD cls, S, .int (i : Nat)] (.im (.str (deedL cls o))) := fun t Q E q => by
  refine def_of rfl ?_
  refine set_of ?_
  simp only [callW, consD, nilW]
  refine g _ _ _ ?_
  refine ret_of ?_
  cases o with
  | none => simpa [ixD, deedL] using q
  | some m =>
    have hm := ho m rfl
    have hc := List.getElem?_eq_getElem hm
    generalize cls[m] = c at hc
    have e : (cls.map clD)[m]? = some (clD c) := by rw [List.getElem?_map, hc]; rfl
    have e2 : itemD (ruD cls) (.int (m : Nat)) = some (.im (clD c)) := by
      rw [itemD, atI_nat e]
      rfl
    have e3 : itemD (clD c) (.int 1) = some (.im (.str c.2)) := rfl
    simp [-itemD, ixD, e2, e3]
    simpa [deedL, hc] using q
theorem idx_lt {cls : List Cl4} {f : Cl4 → Bool} : ∀ m, cls.findIdx? f = some m → m < cls.length := fun m h => by
  rw [List.findIdx?_eq_some_iff_getElem] at h
  exact h.1
end LW
set_option Elab.async false
set_option linter.all false
set_option maxRecDepth 100000
set_option maxHeartbeats 1000000
set_option autoImplicit false
/-! k05: what is checked first. -/
namespace LW
open PySem PySem.Spec PyProof.Rows L2 NB
/-- a def leaves as an exception -/
def Rz (F : WF) (ds : List D) (c : Str) (v : D) : Prop := ∀ t Q E, E c v t → F ds t Q E
theorem drop_g {F : WF} {a : Wg (List D)} {ds : List D} {ρ ρ' : List Sl} {r : R} {rest : WS} {t : Nat} {k : KS} (g : Gives F ds r) (ha : ∀ Q E, Q ds ρ' t → a ρ t Q E) (h : rest ρ' t k) : seqS (dropS (callW F a)) rest ρ t k := ha _ _ (g _ _ _ h)
theorem drop_x {F : WF} {a : Wg (List D)} {ds : List D} {ρ ρ' : List Sl} {rest : WS} {c : Str} {v : D} {t : Nat} {k : KS} (g : Rz F ds c v) (ha : ∀ Q E, Q ds ρ' t → a ρ t Q E) (h : k.ex c v t) : seqS (dropS (callW F a)) rest ρ t k := ha _ _ (g _ _ _ h)
theorem chk_g {F : WF} {a : Wg (List D)} {ds : List D} {ρ ρ' : List Sl} {w : W} {c : Str} {t : Nat} {k : KS} (g : Gives F ds (.im (.bl true))) (ha : ∀ Q E, Q ds ρ' t → a ρ t Q E) (h : k.nx ρ' t) : ifS (notT (testW (callW F a))) (raiseS c w) nextS ρ t k := ha _ _ (g _ _ _ ⟨_, rfl, h⟩)
theorem chk_x {F : WF} {a : Wg (List D)} {ds : List D} {ρ ρ' : List Sl} {w : W} {c : Str} {v : D} {t : Nat} {k : KS} (g : Gives F ds (.im (.bl false))) (ha : ∀ Q E, Q ds ρ' t → a ρ t Q E) (hw : Ev ρ' w (.im v) ρ') (h : k.ex c v t) : ifS (notT (testW (callW F a))) (raiseS c w) nextS ρ t k := ha _ _ (g _ _ _ ⟨_, rfl, hw _ _ _ h⟩)
section
variable {v : D}
theorem g_chk_b (ok : okD v = true) (h : buildB v = true) : Gives F_check_building [v] (.im .non) := fun t Q E q => def_of rfl (chk_g (ds := [v]) (ρ' := [.im v]) (fun t Q E q => (i_is_building ok).mpr (by rw [h]; exact q)) (fun Q E h => h) q)
theorem x_chk_b (ok : okD v = true) (h : buildB v = false) : Rz F_check_building [v] "BadBuilding" v := fun t Q E q => def_of rfl (chk_x (ds := [v]) (ρ' := [.im v]) (v := v) (fun t Q E q => (i_is_building ok).mpr (by rw [h]; exact q)) (fun Q E h => h) (ev_im rfl) q)
theorem g_chk_r (ok : okD v = true) (h : ruleB v = true) : Gives F_check_rule [v] (.im .non) := fun t Q E q => def_of rfl (chk_g (ds := [v]) (ρ' := [.im v]) (fun t Q E q => (i_is_rule ok).mpr (by rw [h]; exact q)) (fun Q E h => h) q)
theorem x_chk_r (ok : okD v = true) (h : ruleB v = false) : Rz F_check_rule [v] "BadRule" v := fun t Q E q => def_of rfl (chk_x (ds := [v]) (ρ' := [.im v]) (v := v) (fun t Q E q => (i_is_rule ok).mpr (by rw [h]; exact q)) (fun Q E h => h) (ev_im rfl) q)
variable {n c r : Int} {l : List (Int × Int)}
theorem g_chk_s (G : GoodB n c r l) (ok : okD v = true) {b : Bool} (h : standB n c r l v = b) : Gives F_is_standing_of [bD n c r (l.map tP), v] (.im (.bl b)) := fun t Q E q => by
  have := G.r0; have := G.r4; have := G.c0; have := G.c3; have := G.n2; have := G.n8; have := G.ll
  refine (i_is_standing_of ok (by omega) (by omega) (by omega) (by omega) (by omega) (by omega) (by omega)).mpr ?_
  rw [h]
  exact q
theorem g_chk_st (G : GoodB n c r l) (ok : okD v = true) (h : standB n c r l v = true) : Gives F_check_standing [bD n c r (l.map tP), v] (.im .non) := fun t Q E q => def_of rfl (chk_g (ds := [bD n c r (l.map tP), v]) (ρ' := [.im (bD n c r (l.map tP)), .im v]) (g_chk_s G ok h) (fun Q E h => h) q)
theorem x_chk_st (G : GoodB n c r l) (ok : okD v = true) (h : standB n c r l v = false) : Rz F_check_standing [bD n c r (l.map tP), v] "BadStanding" v := fun t Q E q => def_of rfl (chk_x (ds := [bD n c r (l.map tP), v]) (ρ' := [.im (bD n c r (l.map tP)), .im v]) (v := v) (g_chk_s G ok h) (fun Q E h => h) (ev_im (i := 1) rfl) q)
theorem ev_args {B v w : D} {t : Nat} : ∀ (Q : List D → List Sl → Nat → Prop) (E : KX), Q [w, .int 0, .int (c - 1)] [.im (bD n c r (l.map tP)), .im v, .im w] t → (consD (varW 2) (consD (pureW (.im (.int 0))) (consD (op2W subD (valO (op2W itemD (slotO 0) (valO (pureW (.im (.int 1)))))) (valO (pureW (.im (.int 1))))) nilW))) [.im (bD n c r (l.map tP)), .im v, .im w] t Q E := fun Q E q => by
  simp
  exact q
theorem g_chk_car (G : GoodB n c r l) {S w : D} (ok : okD S = true) (h : standB n c r l S = true) (okw : okD w = true) (hw : intB w 0 (c - 1) = true) : Gives F_check_car [bD n c r (l.map tP), S, w] (.im .non) := fun t Q E q => def_of rfl (drop_g (ds := [bD n c r (l.map tP), S]) (ρ' := [.im (bD n c r (l.map tP)), .im S, .im w]) (g_chk_st G ok h) (fun Q E h => h)
  (chk_g (ds := [w, .int 0, .int (c - 1)]) (ρ' := [.im (bD n c r (l.map tP)), .im S, .im w]) (fun t Q E q => (i_is_integer okw).mpr (by rw [hw]; exact q)) (fun Q E h => ev_args (B := S) Q E h) q))
theorem x_chk_cs (G : GoodB n c r l) {S w : D} (ok : okD S = true) (h : standB n c r l S = false) : Rz F_check_car [bD n c r (l.map tP), S, w] "BadStanding" S := fun t Q E q => def_of rfl (drop_x (ds := [bD n c r (l.map tP), S]) (ρ' := [.im (bD n c r (l.map tP)), .im S, .im w]) (x_chk_st G ok h) (fun Q E h => h) q)
theorem x_chk_car (G : GoodB n c r l) {S w : D} (ok : okD S = true) (h : standB n c r l S = true) (okw : okD w = true) (hw : intB w 0 (c - 1) = false) : Rz F_check_car [bD n c r (l.map tP), S, w] "BadCar" w := fun t Q E q => def_of rfl (drop_g (ds := [bD n c r (l.map tP), S]) (ρ' := [.im (bD n c r (l.map tP)), .im S, .im w]) (g_chk_st G ok h) (fun Q E h => h)
  (chk_x (ds := [w, .int 0, .int (c - 1)]) (ρ' := [.im (bD n c r (l.map tP)), .im S, .im w]) (v := w) (fun t Q E q => (i_is_integer okw).mpr (by rw [hw]; exact q)) (fun Q E h => ev_args (B := S) Q E h) (ev_im (i := 2) rfl) q))
/-! ### sees -/
theorem x_sees_b (ok : okD v = true) (h : buildB v = false) {a b : D} : Rz F_sees [v, a, b] "BadBuilding" v := fun t Q E q => def_of rfl (drop_x (ds := [v]) (ρ' := [.im v, .im a, .im b]) (x_chk_b ok h) (fun Q E h => h) q)
theorem x_sees_s (G : GoodB n c r l) (ok : okD v = true) (h : standB n c r l v = false) {b : D} : Rz F_sees [bD n c r (l.map tP), v, b] "BadStanding" v := fun t Q E q => def_of rfl (drop_g (ds := [bD n c r (l.map tP)]) (ρ' := [.im (bD n c r (l.map tP)), .im v, .im b]) (g_chk_b G.ok G.bl) (fun Q E h => h) (drop_x (ds := [bD n c r (l.map tP), v, b]) (ρ' := [.im (bD n c r (l.map tP)), .im v, .im b]) (x_chk_cs G ok h) (fun Q E h => h) q))
theorem x_sees_c (G : GoodB n c r l) {S : D} (ok : okD S = true) (h : standB n c r l S = true) (okw : okD v = true) (hw : intB v 0 (c - 1) = false) : Rz F_sees [bD n c r (l.map tP), S, v] "BadCar" v := fun t Q E q => def_of rfl (drop_g (ds := [bD n c r (l.map tP)]) (ρ' := [.im (bD n c r (l.map tP)), .im S, .im v]) (g_chk_b G.ok G.bl) (fun Q E h => h) (drop_x (ds := [bD n c r (l.map tP), S, v]) (ρ' := [.im (bD n c r (l.map tP)), .im S, .im v]) (x_chk_car G ok h okw hw) (fun Q E h => h) q))
theorem g_sees (G : GoodB n c r l) {S w : D} {x : R} (ok : okD S = true) (h : standB n c r l S = true) (okw : okD w = true) (hw : intB w 0 (c - 1) = true) (g : Gives F_seen_by [bD n c r (l.map tP), S, w] x) : Gives F_sees [bD n c r (l.map tP), S, w] x := fun t Q E q => def_of rfl (drop_g (ds := [bD n c r (l.map tP)]) (ρ' := [.im (bD n c r (l.map tP)), .im S, .im w]) (g_chk_b G.ok G.bl) (fun Q E h => h) (drop_g (ds := [bD n c r (l.map tP), S, w]) (ρ' := [.im (bD n c r (l.map tP)), .im S, .im w]) (g_chk_car G ok h okw hw) (fun Q E h => h)
  (ret_of (call_of (ds := [bD n c r (l.map tP), S, w]) (ρ' := [.im (bD n c r (l.map tP)), .im S, .im w]) (fun Q E h => h) (g _ _ _ q)))))
/-! ### clause_of, deed_of -/
variable {U S w : D}
theorem x_clause_s (G : GoodB n c r l) (oku : okD U = true) (hu : ruleB U = true) (ok : okD v = true) (h : standB n c r l v = false) {b : D} : Rz F_clause_of [bD n c r (l.map tP), U, v, b] "BadStanding" v := fun t Q E q => def_of rfl (drop_g (ds := [bD n c r (l.map tP)]) (ρ' := [.im (bD n c r (l.map tP)), .im U, .im v, .im b]) (g_chk_b G.ok G.bl) (fun Q E h => h) (drop_g (ds := [U]) (ρ' := [.im (bD n c r (l.map tP)), .im U, .im v, .im b]) (g_chk_r oku hu) (fun Q E h => h)
  (drop_x (ds := [bD n c r (l.map tP), v, b]) (ρ' := [.im (bD n c r (l.map tP)), .im U, .im v, .im b]) (x_chk_cs G ok h) (fun Q E h => h) q)))
theorem x_clause_c (G : GoodB n c r l) (oku : okD U = true) (hu : ruleB U = true) (ok : okD S = true) (h : standB n c r l S = true) (okw : okD v = true) (hw : intB v 0 (c - 1) = false) : Rz F_clause_of [bD n c r (l.map tP), U, S, v] "BadCar" v := fun t Q E q => def_of rfl (drop_g (ds := [bD n c r (l.map tP)]) (ρ' := [.im (bD n c r (l.map tP)), .im U, .im S, .im v]) (g_chk_b G.ok G.bl) (fun Q E h => h) (drop_g (ds := [U]) (ρ' := [.im (bD n c r (l.map tP)), .im U, .im S, .im v]) (g_chk_r oku hu) (fun Q E h => h)
  (drop_x (ds := [bD n c r (l.map tP), S, v]) (ρ' := [.im (bD n c r (l.map tP)), .im U, .im S, .im v]) (x_chk_car G ok h okw hw) (fun Q E h => h) q)))
theorem g_clause (G : GoodB n c r l) {x : R} (oku : okD U = true) (hu : ruleB U = true) (ok : okD S = true) (h : standB n c r l S = true) (okw : okD w = true) (hw : intB w 0 (c - 1) = true) (g : Gives F_clause_there [bD n c r (l.map tP), U, S, w] x) : Gives F_clause_of [bD n c r (l.map tP), U, S, w] x := fun t Q E q => def_of rfl (drop_g (ds := [bD n c r (l.map tP)]) (ρ' := [.im (bD n c r (l.map tP)), .im U, .im S, .im w]) (g_chk_b G.ok G.bl) (fun Q E h => h) (drop_g (ds := [U]) (ρ' := [.im (bD n c r (l.map tP)), .im U, .im S, .im w]) (g_chk_r oku hu) (fun Q E h => h)
  (drop_g (ds := [bD n c r (l.map tP), S, w]) (ρ' := [.im (bD n c r (l.map tP)), .im U, .im S, .im w]) (g_chk_car G ok h okw hw) (fun Q E h => h) (ret_of (call_of (ds := [bD n c r (l.map tP), U, S, w]) (ρ' := [.im (bD n c r (l.map tP)), .im U, .im S, .im w]) (fun Q E h => h) (g _ _ _ q))))))
theorem x_deed_b (ok : okD v = true) (h : buildB v = false) {a b e : D} : Rz F_deed_of [v, a, b, e] "BadBuilding" v := fun t Q E q => def_of rfl (drop_x (ds := [v]) (ρ' := [.im v, .im a, .im b, .im e]) (x_chk_b ok h) (fun Q E h => h) q)
theorem x_deed_r (G : GoodB n c r l) (ok : okD v = true) (h : ruleB v = false) {b e : D} : Rz F_deed_of [bD n c r (l.map tP), v, b, e] "BadRule" v := fun t Q E q => def_of rfl (drop_g (ds := [bD n c r (l.map tP)]) (ρ' := [.im (bD n c r (l.map tP)), .im v, .im b, .im e]) (g_chk_b G.ok G.bl) (fun Q E h => h) (drop_x (ds := [v]) (ρ' := [.im (bD n c r (l.map tP)), .im v, .im b, .im e]) (x_chk_r ok h) (fun Q E h => h) q))
theorem g_deed (G : GoodB n c r l) {x : R} (oku : okD U = true) (hu : ruleB U = true) (ok : okD S = true) (h : standB n c r l S = true) (okw : okD w = true) (hw : intB w 0 (c - 1) = true) (g : Gives F_deed_there [bD n c r (l.map tP), U, S, w] x) : Gives F_deed_of [bD n c r (l.map tP), U, S, w] x := fun t Q E q => def_of rfl (drop_g (ds := [bD n c r (l.map tP)]) (ρ' := [.im (bD n c r (l.map tP)), .im U, .im S, .im w]) (g_chk_b G.ok G.bl) (fun Q E h => h) (drop_g (ds := [U]) (ρ' := [.im (bD n c r (l.map tP)), .im U, .im S, .im w]) (g_chk_r oku hu) (fun Q E h => h)
  (drop_g (ds := [bD n c r (l.map tP), S, w]) (ρ' := [.im (bD n c r (l.map tP)), .im U, .im S, .im w]) (g_chk_car G ok h okw hw) (fun Q E h => h) (ret_of (call_of (ds := [bD n c r (l.map tP), U, S, w]) (ρ' := [.im (bD n c r (l.map tP)), .im U, .im S, .im w]) (fun Q E h => h) (g _ _ _ q))))))
end
end LW
set_option Elab.async false
set_option linter.all false
set_option maxRecDepth 100000
set_option maxHeartbeats 1000000
set_option autoImplicit false
/-! k05: refusals. -/
namespace LW
open PySem PySem.Spec PyProof.Rows L2 NB
/-- the error and its word -/
inductive Kw : Str → Str → Prop where
  | b : Kw "BadBuilding" "building"
  | r : Kw "BadRule" "rule"
  | s : Kw "BadStanding" "standing"
  | c : Kw "BadCar" "car"
theorem Kw.mem {c z : Str} (h : Kw c z) : c ∈ excNames := by cases h <;> decide +kernel
theorem g_word {c z : Str} {v : D} (h : Kw c z) : Gives F__law_word [.exc c v] (.nw (.l [.str z])) := fun t Q E q => by
  have hz := sz
  have h1 : (1 : Nat) < sizeLine := by omega
  have h0 : (0 : Nat) < sizeLine := by omega
  have h2 : (2 : Nat) ≤ sizeLine := by omega
  have h4 : (4 : Nat) ≤ sizeLine := by omega
  have h3 : (3 : Nat) < sizeLine := by omega
  cases h <;> simp [F__law_word, w__law_word, excNames, isE, osE, h1, h2, h4, h0, compL, bindP2, h3]
  all_goals exact q
theorem Kw.eq {c z : Str} (h : Kw c z) : eqD (.lst [.str z]) (.lst [.str z]) = some (.im (.bl true)) := by
  have h1 : eqOk (.lst [.str z]) (.lst [.str z]) = true := by cases h <;> decide +kernel
  have h2 : D.eqv (.lst [.str z]) (.lst [.str z]) = true := by cases h <;> decide +kernel
  show (if eqOk (.lst [.str z]) (.lst [.str z]) = true then some (R.im (.bl (D.eqv (.lst [.str z]) (.lst [.str z])))) else none) = _
  rw [if_pos h1, h2]
theorem eq_str (z : Str) : eqD (.str z) (.str z) = some (.im (.bl true)) := by simp [eqD]
theorem g_refused {κ : D → WF} {n : Nat} {cl : List (Str × Addr)} {c z : Str} {v : D} (hk : Kw c z) (hv : Fine v) (hx : Rz (κ (.clo n cl)) [] c v) : Gives (F__law_is_refused κ) [.clo n cl, .str z, v] (.im (.bl true)) := fun t Q E q => by
  have hz := sz
  refine def_of rfl ?_
  refine set_of ?_
  simp only [op2W, valO, callKW, consD, nilW, pureW]
  refine ⟨⟨n, cl, rfl⟩, _, rfl, ?_⟩
  refine hx _ _ _ ⟨hk.mem, _, _, _, rfl, rfl, rfl, ?_⟩
  refine ret_of ?_
  simp only [andV, op2W, valO, callW, consD, nilW]
  refine g_word hk _ _ _ ⟨le_sl rfl, _, _, _, rfl, rfl, hk.eq, ?_⟩
  refine ⟨true, rfl, ?_⟩
  rw [if_pos rfl]
  have hr : reprD v = some (.im (.str v.py.shown)) := if_pos hv.show
  have he : excVD excNames (.exc c v) = some (.im v) := if_pos hk.mem
  simp only [opNW, consO, valO, op1W, nilW, slotO]
  refine ⟨_, _, rfl, he, _, _, rfl, hr, _, _, rfl, hr, _, _, _, rfl, rfl, eq_str _, q⟩
/-- what a call of one of the lambdas does -/
theorem rz_lam {cl : List (Str × Addr)} {lams : Nat → Option (Nat × W)} {ρ : List Sl} {n : Nat} {w : W} {F : WF} {a : Wg (List D)} {ds : List D} {c : Str} {v : D} {ρ' : List Sl} (hl : lams n = some (0, w)) (hw : w = callW F a) (ha : ∀ t Q E, Q ds ρ' t → a (hidR ρ) t Q E) (x : Rz F ds c v) : Rz (kap cl lams ρ (.clo n cl)) [] c v := fun t Q E q => by
  refine ⟨n, 0, w, rfl, hl, rfl, ?_⟩
  subst hw
  rw [List.map_nil, List.append_nil]
  exact ha _ _ _ (x _ _ _ q)
theorem if_g {κ : List Sl → D → WF} {F : (D → WF) → WF} {a : Wg (List D)} {ds : List D} {ρ ρ' : List Sl} {A rest : WS} {t : Nat} {k : KS} (g : Gives (F (κ ρ')) ds (.im (.bl true))) (ha : ∀ t Q E, Q ds ρ' t → a ρ t Q E) (h : rest ρ' t k) : seqS (ifS (notT (testW (callKW κ F a))) A nextS) rest ρ t k := ha _ _ _ (g _ _ _ ⟨_, rfl, h⟩)
/-- values that are refused everywhere -/
structure OddV (n c r : Int) (l : List (Int × Int)) (d : D) : Prop where
  fine : Fine d
  b : buildB d = false
  ru : ruleB d = false
  s : standB n c r l d = false
structure OddC (c : Int) (d : D) : Prop where
  fine : Fine d
  c : intB d 0 (c - 1) = false
abbrev aS (B U S o w : D) : List Sl := [.im .pot, .im B, .im U, .im S, .im o, .im w]
theorem are_tail {n c r : Int} {l : List (Int × Int)} {U S o w : D} {cl : List (Str × Addr)} {t : Nat} {k : KS} (G : GoodB n c r l) (oku : okD U = true) (hu : ruleB U = true) (oks : okD S = true) (hs : standB n c r l S = true) (O : OddV n c r l o) (W : OddC c w) {rest : WS}
    (he : rest = (seqS (ifS (notT (testW (callKW (kap cl (lamTab lams__law_are_refused)) F__law_is_refused (consD (lamW 0 cl) (consD (pureW (.im (.str "building"))) (consD (varW 4) nilW)))))) (retS (pureW (.im (.bl false)))) nextS)
    (seqS (ifS (notT (testW (callKW (kap cl (lamTab lams__law_are_refused)) F__law_is_refused (consD (lamW 1 cl) (consD (pureW (.im (.str "building"))) (consD (varW 4) nilW)))))) (retS (pureW (.im (.bl false)))) nextS)
    (seqS (ifS (notT (testW (callKW (kap cl (lamTab lams__law_are_refused)) F__law_is_refused (consD (lamW 2 cl) (consD (pureW (.im (.str "rule"))) (consD (varW 4) nilW)))))) (retS (pureW (.im (.bl false)))) nextS)
    (seqS (ifS (notT (testW (callKW (kap cl (lamTab lams__law_are_refused)) F__law_is_refused (consD (lamW 3 cl) (consD (pureW (.im (.str "standing"))) (consD (varW 4) nilW)))))) (retS (pureW (.im (.bl false)))) nextS)
    (seqS (ifS (notT (testW (callKW (kap cl (lamTab lams__law_are_refused)) F__law_is_refused (consD (lamW 4 cl) (consD (pureW (.im (.str "standing"))) (consD (varW 4) nilW)))))) (retS (pureW (.im (.bl false)))) nextS)
    (seqS (ifS (notT (testW (callKW (kap cl (lamTab lams__law_are_refused)) F__law_is_refused (consD (lamW 5 cl) (consD (pureW (.im (.str "car"))) (consD (varW 5) nilW)))))) (retS (pureW (.im (.bl false)))) nextS)
    (retS (callKW (kap cl (lamTab lams__law_are_refused)) F__law_is_refused (consD (lamW 6 cl) (consD (pureW (.im (.str "car"))) (consD (varW 5) nilW))))))))))))
    (q : k.rt (.im (.bl true)) t) : rest (aS (bD n c r (l.map tP)) U S o w) t k := by
  subst he
  refine if_g (ds := [.clo 0 cl, .str "building", o]) (ρ' := aS (bD n c r (l.map tP)) U S o w) (g_refused .b O.fine (rz_lam (ρ' := aS (bD n c r (l.map tP)) U S o w) (ds := [o, .non, w]) rfl rfl (fun t Q E h => h) (x_sees_b O.fine.ok O.b))) (fun t Q E h => h) ?_
  refine if_g (ds := [.clo 1 cl, .str "building", o]) (ρ' := aS (bD n c r (l.map tP)) U S o w) (g_refused .b O.fine (rz_lam (ρ' := aS (bD n c r (l.map tP)) U S o w) (ds := [o, .non, .non, w]) rfl rfl (fun t Q E h => h) (x_deed_b O.fine.ok O.b))) (fun t Q E h => h) ?_
  refine if_g (ds := [.clo 2 cl, .str "rule", o]) (ρ' := aS (bD n c r (l.map tP)) U S o w) (g_refused .r O.fine (rz_lam (ρ' := aS (bD n c r (l.map tP)) U S o w) (ds := [bD n c r (l.map tP), o, .non, w]) rfl rfl (fun t Q E h => h) (x_deed_r G O.fine.ok O.ru))) (fun t Q E h => h) ?_
  refine if_g (ds := [.clo 3 cl, .str "standing", o]) (ρ' := aS (bD n c r (l.map tP)) U S o w) (g_refused .s O.fine (rz_lam (ρ' := aS (bD n c r (l.map tP)) U S o w) (ds := [bD n c r (l.map tP), U, o, w]) rfl rfl (fun t Q E h => h) (x_clause_s G oku hu O.fine.ok O.s))) (fun t Q E h => h) ?_
  refine if_g (ds := [.clo 4 cl, .str "standing", o]) (ρ' := aS (bD n c r (l.map tP)) U S o w) (g_refused .s O.fine (rz_lam (ρ' := aS (bD n c r (l.map tP)) U S o w) (ds := [bD n c r (l.map tP), o, w]) rfl rfl (fun t Q E h => h) (x_sees_s G O.fine.ok O.s))) (fun t Q E h => h) ?_
  refine if_g (ds := [.clo 5 cl, .str "car", w]) (ρ' := aS (bD n c r (l.map tP)) U S o w) (g_refused .c W.fine (rz_lam (ρ' := aS (bD n c r (l.map tP)) U S o w) (ds := [bD n c r (l.map tP), U, S, w]) rfl rfl (fun t Q E h => h) (x_clause_c G oku hu oks hs W.fine.ok W.c))) (fun t Q E h => h) ?_
  exact g_refused (n := 6) (cl := cl) .c W.fine (rz_lam (n := 6) (ρ := aS (bD n c r (l.map tP)) U S o w) (ρ' := aS (bD n c r (l.map tP)) U S o w) (ds := [bD n c r (l.map tP), S, w]) rfl rfl (fun t Q E h => h) (x_sees_c G oks hs W.fine.ok W.c)) _ _ _ q
end LW
set_option Elab.async false
set_option linter.all false
set_option maxRecDepth 100000
set_option maxHeartbeats 1000000
set_option autoImplicit false
/-! k05: odd values are refused. -/
namespace LW
open PySem PySem.Spec PyProof.Rows L2 NB
theorem GoodB.fine {n c r : Int} {l : List (Int × Int)} (G : GoodB n c r l) : Fine (bD n c r (l.map tP)) := ⟨ni_mono (by decide) (by decide) G.ni, by have := G.wt; omega, by have := G.dp; omega⟩
theorem GoodB.odd {n c r : Int} {l : List (Int × Int)} (G : GoodB n c r l) : ∀ d ∈ [D.non, D.int 7, D.str "a", D.lst [bD n c r (l.map tP)], D.tup [D.int 2, D.int 1, D.int 1, D.tup []]], OddV n c r l d := by
  intro d hd
  simp only [List.mem_cons, List.not_mem_nil, or_false] at hd
  rcases hd with rfl | rfl | rfl | rfl | rfl
  · exact ⟨fine_iff.mp (by decide +kernel), rfl, rfl, rfl⟩
  · exact ⟨fine_iff.mp (by decide +kernel), rfl, rfl, rfl⟩
  · exact ⟨fine_iff.mp (by decide +kernel), rfl, rfl, rfl⟩
  · have f : Fine (.lst [bD n c r (l.map tP)]) := by
      have h := G.fine
      refine ⟨?_, ?_, ?_⟩
      · rw [niD, niL, niL, h.ni]; rfl
      · have := G.wt
        rw [wtD, wtL, wtL]; omega
      · have := G.dp
        rw [dpD, dpL, dpL]; omega
    exact ⟨f, rfl, rfl, rfl⟩
  · exact ⟨fine_iff.mp (by decide +kernel), rfl, rfl, standB_other (by simp)⟩
theorem GoodB.oddC {n c r : Int} {l : List (Int × Int)} (G : GoodB n c r l) : ∀ d ∈ [D.int (-1), D.int c, D.bl true, D.non, D.str "0"], OddC c d := by
  have := G.c0; have := G.c3
  intro d hd
  simp only [List.mem_cons, List.not_mem_nil, or_false] at hd
  rcases hd with rfl | rfl | rfl | rfl | rfl
  · exact ⟨fine_iff.mp (by decide +kernel), rfl⟩
  · refine ⟨⟨by rw [niD]; exact decide_eq_true (by omega), by simp [wtD], by simp [dpD]⟩, ?_⟩
    simp [intB]
    omega
  · exact ⟨fine_iff.mp (by decide +kernel), rfl⟩
  · exact ⟨fine_iff.mp (by decide +kernel), rfl⟩
  · exact ⟨fine_iff.mp (by decide +kernel), rfl⟩
theorem par_of {i j : Nat} {w1 w2 : W} {rest : WS} {ρ : List Sl} {t : Nat} {k : KS} (h : w1 ρ t (fun r ρ1 t1 => w2 ρ1 t1 (fun q ρ2 t2 => rest ((ρ2.set j (slOf q)).set i (slOf r)) t2 k) k.ex) k.ex) : seqS (parS i j w1 w2) rest ρ t k := h
theorem unp_of {p : Pt} {w : W} {rest : WS} {ρ : List Sl} {t : Nat} {k : KS} (h : w ρ t (fun r ρ1 t1 => ∃ ρ2, bindP p r.d ρ1 = some ρ2 ∧ rest ρ2 t1 k) k.ex) : seqS (unpS p w) rest ρ t k := h
theorem tup2_of' {a b : W} {ρ : List Sl} {t : Nat} {Q : R → List Sl → Nat → Prop} {E : KX} (h : a ρ t (fun x ρ1 t1 => b ρ1 t1 (fun y ρ2 t2 => 2 ≤ sizeLine ∧ Q (.im (.tup [x.d, y.d])) ρ2 t2) E) E) : tupW (consD a (consD b nilW)) ρ t Q E := h
theorem g_are {n c r : Int} {l : List (Int × Int)} {U S : D} (G : GoodB n c r l) (oku : okD U = true) (hu : ruleB U = true) (oks : okD S = true) (hs : standB n c r l S = true) : GivesT F__law_are_refused [.pot, bD n c r (l.map tP), U, S] 2 (fun x => x = .im (.bl true)) := fun t Q E ht q => by
  refine ⟨rfl, fun cl => ?_⟩
  refine def_of rfl ?_
  unfold w__law_are_refused
  refine par_of ?_
  refine call_of (ds := [.pot, .lst [D.non, D.int 7, D.str "a", D.lst [bD n c r (l.map tP)], D.tup [D.int 2, D.int 1, D.int 1, D.tup []]]]) (ρ' := [.im .pot, .im (bD n c r (l.map tP)), .im U, .im S, .non, .non]) (fun Q E h => ?_) ?_
  · exact ⟨le_sl rfl, ⟨le_sl rfl, ⟨le_sl rfl, ⟨le_sl rfl, h⟩⟩⟩⟩
  · refine g_law_of' (by simp) (by simp) G.odd _ _ _ (by omega) fun x t1 l1 ⟨o, e, ho⟩ => ?_
    subst e
    refine call_of (ds := [.pot, .lst [D.int (-1), D.int c, D.bl true, D.non, D.str "0"]]) (ρ' := [.im .pot, .im (bD n c r (l.map tP)), .im U, .im S, .non, .non]) (fun Q E h => ?_) ?_
    · exact ⟨_, _, rfl, rfl, _, _, _, rfl, rfl, rfl, le_sl rfl, h⟩
    · refine g_law_of' (by simp) (by simp) G.oddC _ _ _ (by omega) fun x t2 l2 ⟨w, e, hw⟩ => ?_
      subst e
      refine at_ev (ρ' := aS (bD n c r (l.map tP)) U S o w) rfl ?_
      exact are_tail (cl := cl) (U := U) (S := S) (o := o) (w := w) G oku hu oks hs ho hw rfl (q _ _ (by omega) rfl)
end LW
set_option Elab.async false
set_option linter.all false
set_option maxRecDepth 100000
set_option maxHeartbeats 1000000
set_option autoImplicit false
/-! k05: one building, its standings: steps. -/
namespace LW
open PySem PySem.Spec PyProof.Rows L2 NB
def leS (a b : Str) : Prop := a.cps.toList ≤ b.cps.toList
theorem leS_of {a b : Str} (h : ltCps b.cps.toList a.cps.toList = false) : leS a b := by
  rw [ltCps_eq] at h
  exact of_decide_eq_false h
theorem rising_pw : ∀ {l : List Str} {p : Str}, risingS p l = true → (p :: l).Pairwise leS
  | [], p, _ => List.pairwise_singleton _ _
  | x :: r, p, h => by
    rw [risingS, Bool.and_eq_true] at h
    have h1 : leS p x := leS_of (by simpa using h.1)
    have h2 := rising_pw h.2
    refine List.pairwise_cons.mpr ⟨fun y hy => ?_, h2⟩
    rcases List.mem_cons.mp hy with e | e
    · rw [e]; exact h1
    · exact List.le_trans h1 ((List.pairwise_cons.mp h2).1 y e)
theorem sortedS_pw : ∀ {l : List Str}, sortedS l = true → l.Pairwise leS
  | [], _ => .nil
  | x :: r, h => rising_pw h
theorem str_ext {a b : Str} (h : a.cps.toList = b.cps.toList) : a = b := by
  cases a
  cases b
  congr 1
  exact Array.toList_inj.mp h
theorem sorted_one {xs ys zs : List Str} (h1 : ys.Perm xs) (h2 : sortedS ys = true) (h3 : zs.Perm xs) (h4 : sortedS zs = true) : ys = zs :=
  List.Perm.eq_of_pairwise (le := leS) (fun a b _ _ p q => str_ext (List.le_antisymm p q)) (sortedS_pw h2) (sortedS_pw h4) (h1.trans h3.symm)
theorem eqv_strs (ys : List Str) : D.eqv (.lst (ys.map .str)) (.lst (ys.map .str)) = true := by
  unfold D.eqv
  rw [D.py, PyData.eqv]
  induction ys with
  | nil => rfl
  | cons y ys ih => rw [List.map_cons, pyL, PyData.eqvAll, ih, D.py, PyData.eqv]; simp
theorem ne_strs {ys : List Str} (h : ys.all PyData.strOk = true) : neD (.lst (ys.map .str)) (.lst (ys.map .str)) = some (.im (.bl false)) := by
  have h1 : eqOk (.lst (ys.map .str)) (.lst (ys.map .str)) = true := by
    unfold eqOk
    rw [okD, okL_strs, h, dpD, dpL_strs]
    rfl
  show (if eqOk (.lst (ys.map .str)) (.lst (ys.map .str)) = true then some (R.im (.bl (!(D.eqv (.lst (ys.map .str)) (.lst (ys.map .str)))))) else none) = _
  rw [if_pos h1, eqv_strs]
  rfl
theorem ne_same (a : Str) : neD (.str a) (.str a) = some (.im (.bl false)) := by simp
/-- a test that is not so -/
def No (ρ : List Sl) (c : Wg Bool) (ρ1 : List Sl) : Prop := ∀ t Q E, Q false ρ1 t → c ρ t Q E
theorem if_no {c : Wg Bool} {a rest : WS} {ρ ρ1 : List Sl} {t : Nat} {k : KS} (h : No ρ c ρ1) (g : rest ρ1 t k) : seqS (ifS c a nextS) rest ρ t k := h _ _ _ g
theorem if_noE {c : Wg Bool} {a : WS} {ρ ρ1 : List Sl} {t : Nat} {k : KS} (h : No ρ c ρ1) (g : k.nx ρ1 t) : ifS c a nextS ρ t k := h _ _ _ g
/-- two alike are shown alike -/
theorem no_repr {ρ ρ1 ρ2 : List Sl} {a b : WO} {d : D} (hf : Fine d) (ha : ∀ t Q E, (∃ o, rsv ρ1 o = some d ∧ Q o ρ1 t) → a ρ t Q E) (hb : ∀ t Q E, (∃ o, rsv ρ2 o = some d ∧ Q o ρ2 t) → b ρ1 t Q E) : True := trivial
def EvO (ρ : List Sl) (a : WO) (d : D) (ρ1 : List Sl) : Prop := ∃ o, rsv ρ1 o = some d ∧ ∀ t Q E, Q o ρ1 t → a ρ t Q E
theorem evo_of {ρ ρ1 : List Sl} {w : W} {r : R} (h : Ev ρ w r ρ1) : EvO ρ (valO w) r.d ρ1 := ⟨.va r.d, rfl, fun t Q E q => h _ _ _ q⟩
theorem evo_im {ρ : List Sl} {i : Nat} {d : D} (h : ρ[i]? = some (.im d)) : EvO ρ (slotO i) d ρ := ⟨.sl i, by simp only [rsv, h], fun t Q E q => by
  simp only [slotO, h]
  exact q⟩
theorem evo_ow {ρ : List Sl} {i : Nat} {o : Ob} (h : ρ[i]? = some (.ow o)) : EvO ρ (slotO i) o.dat ρ := ⟨.sl i, by simp only [rsv, h], fun t Q E q => by
  simp only [slotO, h]
  exact q⟩
theorem ev_repr {ρ ρ1 : List Sl} {a : WO} {d : D} (hf : Fine d) (h : EvO ρ a d ρ1) : Ev ρ (opNW (g1 reprD) (consO a nilW)) (.im (.str d.py.shown)) ρ1 := fun t Q E q => by
  obtain ⟨o, ho, g⟩ := h
  simp only [opNW, consO, nilW]
  refine g _ _ _ ⟨[d], .im (.str d.py.shown), by simp only [rsvs, ho], if_pos hf.show, q⟩
theorem no_ne {ρ ρ1 ρ2 : List Sl} {w1 w2 : W} {z : Str} (h1 : Ev ρ w1 (.im (.str z)) ρ1) (h2 : Ev ρ1 w2 (.im (.str z)) ρ2) : No ρ (testW (op2W neD (valO w1) (valO w2))) ρ2 := fun t Q E q => by
  simp only [testW, op2W, valO]
  exact h1 _ _ _ (h2 _ _ _ ⟨_, _, _, rfl, rfl, ne_same z, false, rfl, q⟩)
theorem ev_dget {ρ ρ1 ρ2 : List Sl} {a b : WO} {d e : D} {r : R} (h1 : EvO ρ a d ρ1) (h2 : EvO ρ1 b e ρ2) (hp : ∀ o, rsv ρ1 o = some d → rsv ρ2 o = some d) (h : dgetD d e = some r) : Ev ρ (op2W dgetD a b) r ρ2 := fun t Q E q => by
  obtain ⟨o, ho, g⟩ := h1
  obtain ⟨o', ho', g'⟩ := h2
  simp only [op2W]
  exact g _ _ _ (g' _ _ _ ⟨_, _, _, hp o ho, ho', h, q⟩)
theorem ev_words {ρ : List Sl} : Ev ρ (callW F__law_words nilW) (.nw (.l (k_WORDS.map .str))) ρ := fun t Q E q => i_law_words.mpr q
theorem ev_compVr {α : Type} {ρ ρ1 : List Sl} {r0 : R} {w : W} {g : α → D} {ff : α → D} {xs : List α} {e : W} {p : Pt} {vs : List Nat} (hv : Ev ρ w r0 ρ1) (hd : itemsD r0.d = some (xs.map g)) (hw : wipeR ρ1 vs = ρ1) (hl : xs.length ≤ 1000)
    (h : ∀ x ∈ xs, ∃ ρ', bindP p (g x) ρ1 = some ρ' ∧ ∃ r : R, r.d = ff x ∧ Ev ρ' e r ρ') :
    Ev ρ (compW (seqI w) vs p yesT e) (.nw (.l (xs.map ff))) ρ1 := fun t Q E q => by
  simp only [compW, seqI]
  refine hv _ _ _ ⟨_, hd, ?_⟩
  rw [hw]
  refine compV (cf := fun _ => true) (f := ff) (fun x hx => ?_) (by simpa using hl) (by rw [List.nil_append, List.filter_eq_self.mpr fun _ _ => rfl]; exact q)
  obtain ⟨ρ', h1, r, e1, e2⟩ := h x hx
  exact ⟨ρ', h1, fun Q' E z => z, fun _ => ⟨r, e1, fun Q' E => e2 t Q' E⟩⟩
theorem ev_call3 {F : WF} {ρ : List Sl} {i j m : Nat} {a b c : D} {r : R} (h1 : ρ[i]? = some (.im a)) (h2 : ρ[j]? = some (.im b)) (h3 : ρ[m]? = some (.im c)) (g : Gives F [a, b, c] r) : Ev ρ (callW F (consD (varW i) (consD (varW j) (consD (varW m) nilW)))) r ρ := fun t Q E q => by
  simp only [callW, consD, nilW, varW, h1, h2, h3]
  exact g _ _ _ q
theorem ev_call4 {F : WF} {ρ : List Sl} {i j m n : Nat} {a b c d : D} {r : R} (h1 : ρ[i]? = some (.im a)) (h2 : ρ[j]? = some (.im b)) (h3 : ρ[m]? = some (.im c)) (h4 : ρ[n]? = some (.im d)) (g : Gives F [a, b, c, d] r) : Ev ρ (callW F (consD (varW i) (consD (varW j) (consD (varW m) (consD (varW n) nilW))))) r ρ := fun t Q E q => by
  simp only [callW, consD, nilW, varW, h1, h2, h3, h4]
  exact g _ _ _ q
/-- the first tests: a dict, the same words, sixteen -/
theorem no_first {ρ : List Sl} {bs cs : List D} (h7 : ρ[7]? = some (.ow (.d (k_WORDS.map .str) bs))) (h6 : ρ[6]? = some (.ow (.d (k_WORDS.map .str) cs))) :
    No ρ (orT (notT (testW (isiW .dict (slotO 7)))) (orT (testW (op2W neD (valO (sortDctW (slotO 7))) (valO (sortDctW (slotO 6))))) (testW (op2W neD (valO (opNW (g1 dlenD) (consO (slotO 6) nilW))) (valO (pureW (.im (.int 16)))))))) ρ := fun t Q E q => by
  have ws : k_WORDS.all PyData.strOk = true := words_ok
  simp only [orT, notT, testW, isiW, slotO, h7]
  have r7 : rsv ρ (.sl 7) = some (.dct (k_WORDS.map .str) bs) := by simp only [rsv, h7, Ob.dat]
  have r6 : rsv ρ (.sl 6) = some (.dct (k_WORDS.map .str) cs) := by simp only [rsv, h6, Ob.dat]
  refine ⟨_, true, r7, rfl, true, rfl, ?_⟩
  rw [if_neg (by decide)]
  simp only [op2W, valO, sortDctW, slotO, h7, h6]
  refine ⟨k_WORDS, bs, r7, by decide, by decide, fun ys p1 s1 => ?_⟩
  refine ⟨k_WORDS, cs, r6, by decide, by decide, fun zs p2 s2 => ?_⟩
  have e := sorted_one p1 s1 p2 s2
  subst e
  have hy : ys.all PyData.strOk = true := List.all_eq_true.mpr fun z hz => List.all_eq_true.mp ws z (p1.mem_iff.mp hz)
  refine ⟨_, _, _, rfl, rfl, ne_strs hy, false, rfl, ?_⟩
  rw [if_neg (by decide)]
  simp only [opNW, consO, slotO, h6, nilW, pureW]
  exact ⟨[.dct (k_WORDS.map .str) cs], .im (.int 16), by simp only [rsvs, r6], rfl, _, _, _, rfl, rfl, rfl, false, rfl, q⟩
end LW
set_option Elab.async false
set_option linter.all false
set_option maxRecDepth 100000
set_option maxHeartbeats 1000000
set_option autoImplicit false
/-! k05: the law holds. -/
namespace LW
open PySem PySem.Spec PyProof.Rows L2 NB
def bodyW : WS := (seqS (parS 6 7 (callW F__law_sees (consD (varW 1) (consD (varW 4) (consD (varW 5) nilW)))) (callW F_sees (consD (varW 1) (consD (varW 4) (consD (varW 5) nilW)))))
    (seqS (ifS (orT (notT (testW (isiW .dict (slotO 7)))) (orT (testW (op2W neD (valO (sortDctW (slotO 7))) (valO (sortDctW (slotO 6))))) (testW (op2W neD (valO (opNW (g1 dlenD) (consO (slotO 6) nilW))) (valO (pureW (.im (.int 16)))))))) (retS (pureW (.im (.bl false)))) nextS)
    (seqS (ifS (testW (op2W neD (valO (opNW (g1 reprD) (consO (valO (compW (seqI (callW F__law_words nilW)) [8] (.nm 8) yesT (op2W dgetD (slotO 7) (slotO 8)))) nilW))) (valO (opNW (g1 reprD) (consO (valO (compW (seqI (callW F__law_words nilW)) [8] (.nm 8) yesT (op2W dgetD (slotO 6) (slotO 8)))) nilW))))) (retS (pureW (.im (.bl false)))) nextS)
    (seqS (dputS 7 (valO (pureW (.im (.str "here")))) (pureW (.im (.str "no"))))
    (seqS (setS 9 (tupW (consD (callW F_clause_of (consD (varW 1) (consD (varW 2) (consD (varW 4) (consD (varW 5) nilW))))) (consD (callW F_deed_of (consD (varW 1) (consD (varW 2) (consD (varW 4) (consD (varW 5) nilW))))) nilW))))
    (seqS (setS 10 (callW F__law_clause_of (consD (varW 1) (consD (varW 2) (consD (varW 4) (consD (varW 5) nilW))))))
    (seqS (ifS (testW (op2W neD (valO (opNW (g1 reprD) (consO (slotO 9) nilW))) (valO (opNW (g1 reprD) (consO (valO (tupW (consD (varW 10) (consD (callW F__law_deed_of (consD (varW 1) (consD (varW 2) (consD (varW 4) (consD (varW 5) nilW))))) nilW)))) nilW))))) (retS (pureW (.im (.bl false)))) nextS)
    (ifS (testW (op2W neD (valO (opNW (g1 reprD) (consO (valO (op2W dgetD (valO (callW F_sees (consD (varW 1) (consD (varW 4) (consD (varW 5) nilW))))) (valO (pureW (.im (.str "here")))))) nilW))) (valO (opNW (g1 reprD) (consO (valO (op2W dgetD (slotO 6) (valO (pureW (.im (.str "here")))))) nilW))))) (retS (pureW (.im (.bl false)))) nextS))))))))
abbrev rL (B U lap S : D) (i : Nat) (x6 x7 x8 x9 x10 : Sl) : List Sl := [.im .pot, .im B, .im U, .im lap, .im S, .im (.int (i : Nat)), x6, x7, x8, x9, x10]
theorem fine_bls (bs : List Bool) (h : bs.length ≤ 100) : Fine (.lst (bs.map .bl)) := by
  have n : ∀ bs : List Bool, niL 0x110000 (10 ^ 29) (bs.map .bl) = true := fun bs => niL_iff.mpr fun d hd => by
    obtain ⟨b, _, rfl⟩ := List.mem_map.mp hd
    rfl
  have w : ∀ bs : List Bool, wtL (bs.map .bl) = bs.length := fun bs => by
    induction bs with
    | nil => rfl
    | cons b bs ih => rw [List.map_cons, wtL, ih, wtD, List.length_cons]; omega
  have dp : ∀ bs : List Bool, dpL (bs.map .bl) = 0 := fun bs => by
    induction bs with
    | nil => rfl
    | cons b bs ih => rw [List.map_cons, dpL, ih]; rfl
  refine ⟨?_, ?_, ?_⟩
  · rw [niD, n]
  · rw [wtD, w]; omega
  · rw [dpD, dp]; decide
theorem fine_told {cls : List Cl4} {o : Option Nat} (G : GoodR cls) (ho : ∀ m, o = some m → m < cls.length) : Fine (.tup [ixD o, .str (deedL cls o)]) := by
  have hl := G.l20
  have hs : sgS 128 (deedL cls o) = true ∧ (deedL cls o).length ≤ 4 := by
    cases o with
    | none => exact ⟨(show sgS 128 (Str.ofString "rest") = true by decide +kernel), (show (Str.ofString "rest").length ≤ 4 by decide +kernel)⟩
    | some m =>
      have hm := ho m rfl
      have hc := List.getElem?_eq_getElem hm
      have hmem := List.mem_of_getElem? hc
      generalize cls[m] = c at hc hmem
      have := deeds_small2 (G.all c hmem).de
      simpa [deedL, hc] using this
  have h1 : niD 128 (10 ^ 20) (ixD o) = true ∧ wtD (ixD o) = 1 ∧ dpD (ixD o) = 0 := by
    cases o with
    | none => exact ⟨rfl, rfl, rfl⟩
    | some m =>
      have hm := ho m rfl
      exact ⟨by rw [ixD, niD]; exact decide_eq_true (by omega), rfl, rfl⟩
  have f : niD 128 (10 ^ 20) (.tup [ixD o, .str (deedL cls o)]) = true := by rw [niD, niL, niL, niL, h1.1, niD, hs.1]; rfl
  refine ⟨ni_mono (by decide) (by decide) f, ?_, ?_⟩
  · have := hs.2
    simp only [wtD, wtL, h1.2.1]
    omega
  · simp only [dpD, dpL, h1.2.2]
    decide
theorem sight_len {n r : Int} {cs : List Car} {F : List Int} {i : Nat} {c : Car} : k_WORDS.length = (sight n r cs F i c).length := rfl
theorem get_no {ks vs : List D} {ρ : List Sl} {rest : WS} {t : Nat} {k : KS} (h7 : ρ[7]? = some (.ow (.d ks vs))) (hf : flatK ks = true) (hl : ks.length ≤ 1000) (g : ∀ x7, rest (ρ.set 7 x7) t k) : seqS (dputS 7 (valO (pureW (.im (.str "here")))) (pureW (.im (.str "no")))) rest ρ t k := by
  have hz := sz
  simp only [seqS, dputS, valO, pureW]
  exact ⟨⟨_, h7⟩, ks, vs, _, h7, hf, rfl, rfl, by omega, g _⟩
section
variable {n r : Int} {cn : Nat} {l : List (Int × Int)} {cs : List Car} {F : List Int} {cls : List Cl4} {lap : D} {i : Nat} {x : Car}
theorem ev_shown {B U S : D} {bs : List Bool} {x6 x7 x8 x9 x10 : Sl} {m : Nat} (hm : m = 6 ∨ m = 7) (hb : k_WORDS.length = bs.length) (h : (rL B U lap S i x6 x7 .non x9 x10)[m]? = some (.ow (.d (k_WORDS.map .str) (bs.map .bl)))) (h8 : x8 = .non) :
    Ev (rL B U lap S i x6 x7 x8 x9 x10) (opNW (g1 reprD) (consO (valO (compW (seqI (callW F__law_words nilW)) [8] (.nm 8) yesT (op2W dgetD (slotO m) (slotO 8)))) nilW)) (.im (.str (D.lst ((k_WORDS.map (valB bs)).map .bl)).py.shown)) (rL B U lap S i x6 x7 x8 x9 x10) := by
  subst h8
  have g := ev_compVr (ρ := rL B U lap S i x6 x7 .non x9 x10) (ρ1 := rL B U lap S i x6 x7 .non x9 x10) (g := D.str) (xs := k_WORDS) (ff := fun z => .bl (valB bs z)) (vs := [8]) (p := .nm 8) (e := op2W dgetD (slotO m) (slotO 8)) ev_words rfl rfl (by decide) fun z hz => ⟨rL B U lap S i x6 x7 (.im (.str z)) x9 x10, bindP_nm, .im (.bl (valB bs z)), rfl, ?_⟩
  · have e := ev_repr (d := .lst (k_WORDS.map fun z => D.bl (valB bs z))) (by have := fine_bls (k_WORDS.map (valB bs)) (by rw [List.length_map]; decide); rw [List.map_map] at this; exact this) (evo_of g)
    rw [List.map_map]
    exact e
  · refine ev_dget (d := .dct (k_WORDS.map .str) (bs.map .bl)) (e := .str z) (ρ1 := rL B U lap S i x6 x7 (.im (.str z)) x9 x10) (evo_ow (o := .d (k_WORDS.map .str) (bs.map .bl)) ?_) (evo_im rfl) (fun _ h => h) (look_val hb hz)
    rcases hm with rfl | rfl <;> exact h
theorem body_ok (G : GoodB n cn r l) (GS : GoodS n r cn l cs F) (GR : GoodR cls) (hx : cs[i]? = some x) {x6 x7 x9 x10 : Sl} {t : Nat} {k : KS} (q : ∀ x6 x7 x9 x10, k.nx (rL (bD n cn r (l.map tP)) (ruD cls) lap (stD cs F) i x6 x7 .non x9 x10) t) :
    bodyW (rL (bD n cn r (l.map tP)) (ruD cls) lap (stD cs F) i x6 x7 .non x9 x10) t k := by
  have := G.r0; have := G.r4; have := G.c0; have := G.c3; have := G.n2; have := G.n8; have := G.ll
  have hl := GS.len
  have hi : i < cs.length := (List.getElem?_eq_some_iff.mp hx).1
  have gx := GS.cd x (List.mem_of_getElem? hx)
  have oks : okD (stD cs F) = true := ((GS.fine (by omega) (by omega) (by omega)).fine (by decide)).ok
  have hw : intB (.int (i : Nat)) 0 ((cn : Int) - 1) = true := by
    simp only [intB]
    rw [decide_eq_true (by omega), decide_eq_true (by omega)]
    rfl
  have lF := GS.fl; have lL := gx.len
  have sb : k_WORDS.length = (sight n r cs F i x).length := rfl
  have g1 : Gives F_seen_by [bD n cn r (l.map tP), stD cs F, .int (i : Nat)] (.nw (sightD n r cs F i x)) := g_seen hx (by omega) (by omega) (by omega) (by omega)
  have g2 : Gives F__law_sees [bD n cn r (l.map tP), stD cs F, .int (i : Nat)] (.nw (sightD n r cs F i x)) := g_lsees hx (by omega) (by omega) (by omega) (by omega)
  have g3 := g_sees G oks GS.ok (w := .int (i : Nat)) rfl hw g1
  have g4 := g_clause_there sb GR g1
  have g5 := g_law_clause_of sb GR g2
  have g6 := g_clause G GR.ok GR.bl oks GS.ok (w := .int (i : Nat)) rfl hw g4
  have g7 : Gives F_deed_there [bD n cn r (l.map tP), ruD cls, stD cs F, .int (i : Nat)] _ := deed_def idx_lt g4
  have g8 : Gives F__law_deed_of [bD n cn r (l.map tP), ruD cls, stD cs F, .int (i : Nat)] _ := deed_def idx_lt g5
  have g9 := g_deed G GR.ok GR.bl oks GS.ok (w := .int (i : Nat)) rfl hw g7
  have ft := fine_told (o := cls.findIdx? (fits (sight n r cs F i x))) GR idx_lt
  have fh : Fine (.bl (valB (sight n r cs F i x) "here")) := ⟨rfl, by simp [wtD], by simp [dpD]⟩
  have hin : ("here" : Str) ∈ k_WORDS := by decide +kernel
  have lh := look_val sb hin
  generalize hO : cls.findIdx? (fits (sight n r cs F i x)) = o at g4 g5 g6 g7 g8 g9 ft
  let st (x6 x7 x8 x9 x10 : Sl) : List Sl := rL (bD n cn r (l.map tP)) (ruD cls) lap (stD cs F) i x6 x7 x8 x9 x10
  let dk : Sl := .ow (sightD n r cs F i x)
  unfold bodyW
  refine par_ev (ρ1 := st x6 x7 .non x9 x10) (ρ2 := st x6 x7 .non x9 x10) (ev_call3 rfl rfl rfl g2) (ev_call3 rfl rfl rfl g3) ?_
  refine at_ev (ρ' := st dk dk .non x9 x10) rfl ?_
  refine if_no (no_first rfl rfl) ?_
  refine if_no (ρ1 := st dk dk .non x9 x10) (no_ne (ρ1 := st dk dk .non x9 x10) (ev_shown (bs := sight n r cs F i x) (m := 7) (.inr rfl) sb rfl rfl) (ev_shown (bs := sight n r cs F i x) (m := 6) (.inl rfl) sb rfl rfl)) ?_
  refine get_no (ks := k_WORDS.map .str) (vs := (sight n r cs F i x).map .bl) rfl rfl (by decide) fun x7' => ?_
  refine at_ev (ρ' := st dk x7' .non x9 x10) rfl ?_
  refine set_ev (r := .im (.tup [ixD o, .str (deedL cls o)])) (ρ1 := st dk x7' .non x9 x10) (ev_tup (evs_cons (ev_call4 rfl rfl rfl rfl g6) (evs_cons (ev_call4 rfl rfl rfl rfl g9) evs_nil)) (by simp)) ?_
  refine at_ev (ρ' := st dk x7' .non (.im (.tup [ixD o, .str (deedL cls o)])) x10) rfl ?_
  refine set_ev (r := .im (ixD o)) (ρ1 := st dk x7' .non (.im (.tup [ixD o, .str (deedL cls o)])) x10) (ev_call4 rfl rfl rfl rfl g5) ?_
  refine at_ev (ρ' := st dk x7' .non (.im (.tup [ixD o, .str (deedL cls o)])) (.im (ixD o))) rfl ?_
  have t1 : Ev (st dk x7' .non (.im (.tup [ixD o, .str (deedL cls o)])) (.im (ixD o))) (tupW (consD (varW 10) (consD (callW F__law_deed_of (consD (varW 1) (consD (varW 2) (consD (varW 4) (consD (varW 5) nilW))))) nilW))) (.im (.tup [ixD o, .str (deedL cls o)])) (st dk x7' .non (.im (.tup [ixD o, .str (deedL cls o)])) (.im (ixD o))) := ev_tup (evs_cons (ev_im (i := 10) (d := ixD o) rfl) (evs_cons (ev_call4 rfl rfl rfl rfl g8) evs_nil)) (by simp)
  refine if_no (no_ne (ev_repr ft (evo_im (i := 9) rfl)) (ev_repr ft (evo_of t1))) ?_
  have t2 : Ev (st dk x7' .non (.im (.tup [ixD o, .str (deedL cls o)])) (.im (ixD o))) (callW F_sees (consD (varW 1) (consD (varW 4) (consD (varW 5) nilW)))) (.nw (sightD n r cs F i x)) (st dk x7' .non (.im (.tup [ixD o, .str (deedL cls o)])) (.im (ixD o))) := ev_call3 rfl rfl rfl g3
  have t3 : Ev (st dk x7' .non (.im (.tup [ixD o, .str (deedL cls o)])) (.im (ixD o))) (pureW (.im (.str "here"))) (.im (.str "here")) (st dk x7' .non (.im (.tup [ixD o, .str (deedL cls o)])) (.im (ixD o))) := fun t Q E q => q
  refine if_noE (no_ne (ev_repr fh (evo_of (ev_dget (evo_of t2) (evo_of t3) (fun _ h => h) lh))) (ev_repr fh (evo_of (ev_dget (evo_ow (i := 6) (o := sightD n r cs F i x) rfl) (evo_of t3) (fun _ h => h) lh)))) ?_
  exact q _ _ _ _
end
end LW
set_option Elab.async false
set_option linter.all false
set_option maxRecDepth 100000
set_option maxHeartbeats 1000000
set_option autoImplicit false
/-! k05: the law holds. -/
namespace LW
open PySem PySem.Spec PyProof.Rows L2 NB
theorem for_ev {a : Wg (List D)} {b rest : WS} {p : Pt} {ρ ρ1 : List Sl} {m t : Nat} {k : KS} (ha : ∀ t Q E, Q [D.int (m : Nat)] ρ1 t → a ρ t Q E) (hm : m ≤ 1000) (g : forL (turnS p b) (rangeD 0 m) ρ1 t { k with nx := fun ρ' t' => rest ρ' t' k }) : seqS (forS (range1I a) p b) rest ρ t k := by
  simp only [seqS, forS, range1I]
  exact ha _ _ _ ⟨_, rfl, by omega, by omega, by rw [show ((m : Nat) : Int).toNat = m by omega]; exact g⟩
theorem for_evE {a : Wg (List D)} {b : WS} {p : Pt} {ρ ρ1 : List Sl} {m t : Nat} {k : KS} (ha : ∀ t Q E, Q [D.int (m : Nat)] ρ1 t → a ρ t Q E) (hm : m ≤ 1000) (g : forL (turnS p b) (rangeD 0 m) ρ1 t k) : forS (range1I a) p b ρ t k := by
  simp only [forS, range1I]
  exact ha _ _ _ ⟨_, rfl, by omega, by omega, by rw [show ((m : Nat) : Int).toNat = m by omega]; exact g⟩
theorem im_tup {x : R} {xs : List D} (h : x.d = .tup xs) : x = .im (.tup xs) := by
  cases x with
  | im d => exact congrArg R.im h
  | nw o => cases o <;> cases h
section
variable {n r : Int} {cn : Nat} {l : List (Int × Int)} {cls : List Cl4}
abbrev wL (B U : D) (x3 x4 x5 x6 x7 x9 x10 : Sl) : List Sl := [.im .pot, .im B, .im U, x3, x4, x5, x6, x7, .non, x9, x10]
theorem right_2 {cs : List Car} {F : List Int} (G : GoodB n cn r l) (GS : GoodS n r cn l cs F) (GR : GoodR cls) {x3 x5 x6 x7 x9 x10 : Sl} {t : Nat} {k : KS} (ht : t + 2 ≤ 2000000) (q : ∀ t', t' ≤ t + 2 → k.rt (.im (.bl true)) t') : w__law_right_2 (wL (bD n cn r (l.map tP)) (ruD cls) x3 (.im (stD cs F)) x5 x6 x7 x9 x10) t k := by
  have := G.r4; have := G.c3; have := G.n8
  have oks : okD (stD cs F) = true := ((GS.fine (by omega) (by omega) (by omega)).fine (by decide)).ok
  refine ret_of (call_of (ds := [.pot, bD n cn r (l.map tP), ruD cls, stD cs F]) (ρ' := wL (bD n cn r (l.map tP)) (ruD cls) x3 (.im (stD cs F)) x5 x6 x7 x9 x10) (fun Q E h => h) ?_)
  refine g_are G GR.ok GR.bl oks GS.ok _ _ _ ht fun x t' l1 e => ?_
  subst e
  exact q _ l1
theorem right_1 (G : GoodB n cn r l) (GR : GoodR cls) {t : Nat} {k : KS} (ht : t + 800 ≤ 2000000) (q : ∀ t', t' ≤ t + 800 → k.rt (.im (.bl true)) t') : w__law_right_1 (wL (bD n cn r (l.map tP)) (ruD cls) .non .non .non .non .non .non .non) t k := by
  have := G.c3
  have e : w__law_right_1 = seqS (forS (range1I (consD (pureW (.im (.int 12))) nilW)) (.nm 3) (seqS (setS 4 (callW F__law_standing (consD (varW 0) (consD (varW 1) nilW)))) (forS (range1I (consD (op2W itemD (slotO 1) (valO (pureW (.im (.int 1))))) nilW)) (.nm 5) bodyW))) w__law_right_2 := rfl
  rw [e]
  refine for_ev (m := 12) (ρ1 := wL (bD n cn r (l.map tP)) (ruD cls) .non .non .non .non .non .non .non) (fun t Q E q => q) (by decide) ?_
  refine forL_inv (j := 0) (fun j ρ t' => ∃ x3 x4 x5 x6 x7 x9 x10, ρ = wL (bD n cn r (l.map tP)) (ruD cls) x3 x4 x5 x6 x7 x9 x10 ∧ (0 < j → ∃ cs F, x4 = .im (stD cs F) ∧ GoodS n r cn l cs F) ∧ t' ≤ t + 60 * j) ⟨_, _, _, _, _, _, _, rfl, fun z => absurd z (by decide), by omega⟩ ?_ ?_
  · intro i d ρ t1 nx hd hI hn
    obtain ⟨hi, rfl⟩ := rangeD_get hd
    obtain ⟨x3, x4, x5, x6, x7, x9, x10, rfl, _, tl⟩ := hI
    rw [Nat.zero_add] at hn tl
    refine ⟨_, bindP_nm, ?_⟩
    refine set_of (call_of (ds := [.pot, bD n cn r (l.map tP)]) (ρ' := wL (bD n cn r (l.map tP)) (ruD cls) (.im (.int (i : Nat))) x4 x5 x6 x7 x9 x10) (fun Q E h => h) (g_standing G _ _ _ (by omega) fun x t2 l2 ⟨cs, F, e, GS⟩ => ?_))
    subst e
    refine at_ev (ρ' := wL (bD n cn r (l.map tP)) (ruD cls) (.im (.int (i : Nat))) (.im (stD cs F)) x5 x6 x7 x9 x10) rfl ?_
    refine for_evE (m := cn) (ρ1 := wL (bD n cn r (l.map tP)) (ruD cls) (.im (.int (i : Nat))) (.im (stD cs F)) x5 x6 x7 x9 x10) (fun t Q E q => ?_) (by omega) ?_
    · simp only [consD, nilW]
      exact ev_itemC (i := 1) (d := bD n cn r (l.map tP)) (k := 1) (r := .im (.int (cn : Nat))) rfl rfl _ _ _ q
    · refine forL_inv (j := 0) (fun j ρ t' => ∃ x5 x6 x7 x9 x10, ρ = wL (bD n cn r (l.map tP)) (ruD cls) (.im (.int (i : Nat))) (.im (stD cs F)) x5 x6 x7 x9 x10 ∧ t' = t2) ⟨_, _, _, _, _, rfl, rfl⟩ ?_ ?_
      · intro c d ρ t3 nx2 hd hI hn2
        obtain ⟨hc, rfl⟩ := rangeD_get hd
        obtain ⟨x5, x6, x7, x9, x10, rfl, rfl⟩ := hI
        have hcs : c < cs.length := by rw [GS.len]; exact hc
        refine ⟨_, bindP_nm, ?_⟩
        refine at_ev (ρ' := rL (bD n cn r (l.map tP)) (ruD cls) (.int (i : Nat)) (stD cs F) c x6 x7 .non x9 x10) (rest := bodyW) rfl ?_
        exact body_ok G GS GR (List.getElem?_eq_getElem hcs) fun x6 x7 x9 x10 => hn2 _ _ ⟨.im (.int (c : Nat)), x6, x7, x9, x10, rfl, rfl⟩
      · intro ρ t3 hI
        obtain ⟨x5, x6, x7, x9, x10, rfl, rfl⟩ := hI
        exact hn _ _ ⟨_, _, _, _, _, _, _, rfl, fun _ => ⟨cs, F, rfl, GS⟩, by omega⟩
  · intro ρ t1 hI
    obtain ⟨x3, x4, x5, x6, x7, x9, x10, rfl, h4, tl⟩ := hI
    rw [rangeD_len] at h4 tl
    obtain ⟨cs, F, rfl, GS⟩ := h4 (by decide)
    exact right_2 (x3 := x3) (x5 := x5) (x6 := x6) (x7 := x7) (x9 := x9) (x10 := x10) G GS GR (by omega) fun t' l2 => q t' (by omega)
end
theorem g_law_right : GivesT F__law_right [.pot] 1200 (fun x => x = .im (.bl true)) := fun t Q E ht q => by
  refine def_of rfl ?_
  refine par_of ?_
  refine call_of (ds := [.pot, .int 8, .int 3, .int 4]) (ρ' := [.im .pot, .non, .non, .non, .non, .non, .non, .non, .non, .non, .non]) (fun Q E h => h) ?_
  refine g_building _ _ _ (by omega) fun x t1 l1 ⟨n, l, hd⟩ => ?_
  obtain ⟨c, r, e, G⟩ := good_drawn hd
  have := G.c0
  obtain ⟨cn, rfl⟩ := Int.eq_ofNat_of_zero_le (show 0 ≤ c by omega)
  have ex := im_tup e
  subst ex
  refine call_of (ds := [.pot]) (ρ' := [.im .pot, .non, .non, .non, .non, .non, .non, .non, .non, .non, .non]) (fun Q E h => h) ?_
  refine g_law_rule _ _ _ (by omega) fun x t2 l2 ⟨d, e2, hr⟩ => ?_
  subst e2
  obtain ⟨cls, rfl, GR⟩ := ruleB_inv hr.rl
  refine at_ev (ρ' := wL (bD n cn r (l.map tP)) (ruD cls) .non .non .non .non .non .non .non) (rest := w__law_right_1) rfl ?_
  exact right_1 G GR (by omega) fun t' l3 => q _ _ (by omega) rfl
theorem g_cells {ns : List Int} (hl : ns.length ≤ 63) : GivesT F__law_cells [.scr ns, .int 3] 0 (fun r => ∃ m : Nat, m ≤ 3 ∧ r = .nw (.l (rangeD 0 m))) := by
  intro t Q E ht q
  simp [F__law_cells, w__law_cells]
  obtain ⟨m, hm, e⟩ : ∃ m : Nat, m ≤ 3 ∧ (if 1 < (if (ns.length : Int) < 3 then (ns.length : Int) else 3) then (if (ns.length : Int) < 3 then (ns.length : Int) else 3) else 1) = (m : Int) := by
    by_cases h1 : (ns.length : Int) < 3
    · rw [if_pos h1]
      by_cases h2 : 1 < (ns.length : Int)
      · rw [if_pos h2]; exact ⟨ns.length, by omega, rfl⟩
      · rw [if_neg h2]; exact ⟨1, by omega, rfl⟩
    · rw [if_neg h1]
      exact ⟨3, by omega, rfl⟩
  rw [e]
  exact ⟨by omega, by omega, q _ t (by omega) ⟨m, hm, by rw [Int.toNat_natCast]⟩⟩
theorem R_imd (d : D) : (R.im d).d = d := rfl
theorem law_ok : LawW F_law 63 := by
  intro ns hl
  have hz := sz
  refine def_of rfl ?_
  unfold w_law
  simp only [seqS, forS, seqI]
  refine call_of (ds := [.scr ns, .int 3]) (ρ' := [.im (.scr ns), .non, .non, .non]) (fun Q E h => h) ?_
  refine g_cells hl _ _ _ (by omega) fun r t2 l2 ⟨m, hm, e⟩ => ?_
  subst e
  refine ⟨_, rfl, ?_⟩
  refine forL_inv (j := 0) (fun j ρ t' => ∃ (x1 x2 x3 : Sl), ρ = [.im (.scr ns), x1, x2, x3] ∧ t' ≤ t2 + j * 3000) ⟨.non, .non, .non, rfl, by omega⟩ ?_ ?_
  · intro i d ρ t3 nx hd hI hn
    obtain ⟨hi, rfl⟩ := rangeD_get hd
    obtain ⟨x1, x2, x3, rfl, l3⟩ := hI
    rw [Nat.zero_add] at hn l3
    refine ⟨_, bindP_nm, ?_⟩
    refine setF_of (call_of (ds := [.scr ns, .int (i : Nat)]) (ρ' := [.im (.scr ns), .im (.int (i : Nat)), x2, x3]) (fun Q E h => h) ⟨ns, i, rfl, by omega, by omega, ?_⟩)
    simp only [ifS, notT, testW, opNW, consO, valO, compW, range1I, consD, pureW, nilW, R_imd, wipeR]
    refine ⟨2, rfl, by decide, by decide, ?_⟩
    refine compL_draw (n := 1200) (post := fun x => x = .bl true) (t := t3) (acc := []) (ds := rangeD 0 2) (fun d hd => ⟨_, bindP_nm, fun t Q' E h1 h2 => ?_⟩) (by rw [rangeD_len]; simp only [List.length_nil]; omega) (by rw [rangeD_len]; omega) fun xs t4 l4 px lx => ?_
    · refine call_of (ds := [.pot]) (ρ' := [.im (.scr ns), .im (.int (i : Nat)), .im .pot, .im d]) (fun Q E h => h) ?_
      exact g_law_right _ _ _ h1 fun x t' l5 hx => h2 x t' l5 (by rw [hx]; rfl)
    · rw [rangeD_len] at l4
      rw [List.nil_append]
      exact ⟨_, _, rfl, allD_yes px, true, rfl, hn _ _ ⟨_, _, _, rfl, by rw [Nat.add_mul]; omega⟩⟩
  · intro ρ t3 hI
    obtain ⟨x1, x2, x3, rfl, l3⟩ := hI
    rfl
end LW
set_option Elab.async false
set_option linter.all false
set_option maxRecDepth 100000
set_option autoImplicit false
/-! The text behind the top; the law. -/
namespace LW
open PySem PySem.Spec PyProof.Rows L2 NB
set_option maxHeartbeats 4000000
theorem tx_of {K : PySem.W.Frag} {h : Heap} {mg : Str → Option Value} (X : K.In h) (G : h.Ns mainGlobals mg)
    (a_is_tuple : At K "is_tuple" st_is_tuple)
    (a_is_whole : At K "is_whole" st_is_whole)
    (a_is_integer : At K "is_integer" st_is_integer)
    (a_is_word : At K "is_word" st_is_word)
    (a_is_rising : At K "is_rising" st_is_rising)
    (a_is_trip : At K "is_trip" st_is_trip)
    (a_is_building : At K "is_building" st_is_building)
    (a_check_building : At K "check_building" st_check_building)
    (a_trips_from : At K "trips_from" st_trips_from)
    (a_is_test : At K "is_test" st_is_test)
    (a_is_clause : At K "is_clause" st_is_clause)
    (a_is_rule : At K "is_rule" st_is_rule)
    (a_check_rule : At K "check_rule" st_check_rule)
    (a_is_car : At K "is_car" st_is_car)
    (a_is_standing_of : At K "is_standing_of" st_is_standing_of)
    (a_check_standing : At K "check_standing" st_check_standing)
    (a_is_own : At K "is_own" st_is_own)
    (a_is_nearer : At K "is_nearer" st_is_nearer)
    (a_seen_by : At K "seen_by" st_seen_by)
    (a_clause_there : At K "clause_there" st_clause_there)
    (a_deed_there : At K "deed_there" st_deed_there)
    (a_check_car : At K "check_car" st_check_car)
    (a_sees : At K "sees" st_sees)
    (a_clause_of : At K "clause_of" st_clause_of)
    (a_deed_of : At K "deed_of" st_deed_of)
    (a__law_pot : At K "_law_pot" st__law_pot)
    (a__law_take : At K "_law_take" st__law_take)
    (a__law_of : At K "_law_of" st__law_of)
    (a__law_cells : At K "_law_cells" st__law_cells)
    (a__law_some : At K "_law_some" st__law_some)
    (a__law_heard : At K "_law_heard" st__law_heard)
    (a__law_building : At K "_law_building" st__law_building)
    (a__law_words : At K "_law_words" st__law_words)
    (a__law_known : At K "_law_known" st__law_known)
    (a__law_clause_in : At K "_law_clause_in" st__law_clause_in)
    (a__law_clause : At K "_law_clause" st__law_clause)
    (a__law_rule : At K "_law_rule" st__law_rule)
    (a__law_from : At K "_law_from" st__law_from)
    (a__law_nearer : At K "_law_nearer" st__law_nearer)
    (a__law_sees : At K "_law_sees" st__law_sees)
    (a__law_clause_of : At K "_law_clause_of" st__law_clause_of)
    (a__law_deed_of : At K "_law_deed_of" st__law_deed_of)
    (a__law_standing : At K "_law_standing" st__law_standing)
    (a__law_word : At K "_law_word" st__law_word)
    (a__law_is_refused : At K "_law_is_refused" st__law_is_refused)
    (a__law_are_refused : AtL K "_law_are_refused" st__law_are_refused)
    (a__law_right : At K "_law_right" st__law_right)
    {t_UP : Nat} (s_UP : PySem.W.nsIn K mainGlobals "UP" = some (some (.str "up" t_UP)))
    {t_DOWN : Nat} (s_DOWN : PySem.W.nsIn K mainGlobals "DOWN" = some (some (.str "down" t_DOWN)))
    {t_REST : Nat} (s_REST : PySem.W.nsIn K mainGlobals "REST" = some (some (.str "rest" t_REST)))
    {t_LEAST_FLOORS : Nat} (g_LEAST_FLOORS : PySem.W.nsIn K mainGlobals "LEAST_FLOORS" = some (some (.int 2 t_LEAST_FLOORS)))
    {t_MOST_FLOORS : Nat} (g_MOST_FLOORS : PySem.W.nsIn K mainGlobals "MOST_FLOORS" = some (some (.int 8 t_MOST_FLOORS)))
    {t_MOST_CARS : Nat} (g_MOST_CARS : PySem.W.nsIn K mainGlobals "MOST_CARS" = some (some (.int 3 t_MOST_CARS)))
    {t_MOST_ROOM : Nat} (g_MOST_ROOM : PySem.W.nsIn K mainGlobals "MOST_ROOM" = some (some (.int 4 t_MOST_ROOM)))
    {t_MOST_TRIPS : Nat} (g_MOST_TRIPS : PySem.W.nsIn K mainGlobals "MOST_TRIPS" = some (some (.int 56 t_MOST_TRIPS)))
    {t_PAIR_buildings : Nat} (g_PAIR_buildings : PySem.W.nsIn K mainGlobals "PAIR_buildings" = some (some (.int 2 t_PAIR_buildings)))
    {t_TRIPLE_buildings : Nat} (g_TRIPLE_buildings : PySem.W.nsIn K mainGlobals "TRIPLE_buildings" = some (some (.int 3 t_TRIPLE_buildings)))
    {t_FOUR : Nat} (g_FOUR : PySem.W.nsIn K mainGlobals "FOUR" = some (some (.int 4 t_FOUR)))
    {t_MOST_CLAUSES : Nat} (g_MOST_CLAUSES : PySem.W.nsIn K mainGlobals "MOST_CLAUSES" = some (some (.int 20 t_MOST_CLAUSES)))
    {t_MOST_TESTS : Nat} (g_MOST_TESTS : PySem.W.nsIn K mainGlobals "MOST_TESTS" = some (some (.int 4 t_MOST_TESTS)))
    {t_PAIR_rules : Nat} (g_PAIR_rules : PySem.W.nsIn K mainGlobals "PAIR_rules" = some (some (.int 2 t_PAIR_rules)))
    {t_PAIR_steps : Nat} (g_PAIR_steps : PySem.W.nsIn K mainGlobals "PAIR_steps" = some (some (.int 2 t_PAIR_steps)))
    {t_TRIPLE_steps : Nat} (g_TRIPLE_steps : PySem.W.nsIn K mainGlobals "TRIPLE_steps" = some (some (.int 3 t_TRIPLE_steps)))
    (g_WORDS : AtT K "WORDS" k_WORDS)
    (g_DEEDS : AtT K "DEEDS" k_DEEDS)
    (g_HEADINGS : AtT K "HEADINGS" k_HEADINGS)
    (m_ValueError : PySem.W.nsIn K mainGlobals "ValueError" = some none)
    (m_abs : PySem.W.nsIn K mainGlobals "abs" = some none)
    (m_all : PySem.W.nsIn K mainGlobals "all" = some none)
    (m_any : PySem.W.nsIn K mainGlobals "any" = some none)
    (m_bool : PySem.W.nsIn K mainGlobals "bool" = some none)
    (m_dict : PySem.W.nsIn K mainGlobals "dict" = some none)
    (m_enumerate : PySem.W.nsIn K mainGlobals "enumerate" = some none)
    (m_int : PySem.W.nsIn K mainGlobals "int" = some none)
    (m_isinstance : PySem.W.nsIn K mainGlobals "isinstance" = some none)
    (m_len : PySem.W.nsIn K mainGlobals "len" = some none)
    (m_list : PySem.W.nsIn K mainGlobals "list" = some none)
    (m_max : PySem.W.nsIn K mainGlobals "max" = some none)
    (m_min : PySem.W.nsIn K mainGlobals "min" = some none)
    (m_range : PySem.W.nsIn K mainGlobals "range" = some none)
    (m_repr : PySem.W.nsIn K mainGlobals "repr" = some none)
    (m_sorted : PySem.W.nsIn K mainGlobals "sorted" = some none)
    (m_str : PySem.W.nsIn K mainGlobals "str" = some none)
    (m_sum : PySem.W.nsIn K mainGlobals "sum" = some none)
    (m_tuple : PySem.W.nsIn K mainGlobals "tuple" = some none)
    (m_zip : PySem.W.nsIn K mainGlobals "zip" = some none) : Tx K mg where
  d_is_tuple := df_of X G a_is_tuple fun _ _ _ _ _ _ us hl => match us, hl with | [_, _, _], _ => rfl
  d_is_whole := df_of X G a_is_whole fun _ _ _ _ _ _ us hl => match us, hl with | [_], _ => rfl
  d_is_integer := df_of X G a_is_integer fun _ _ _ _ _ _ us hl => match us, hl with | [_, _, _], _ => rfl
  d_is_word := df_of X G a_is_word fun _ _ _ _ _ _ us hl => match us, hl with | [_, _], _ => rfl
  d_is_rising := df_of X G a_is_rising fun _ _ _ _ _ _ us hl => match us, hl with | [_], _ => rfl
  d_is_trip := df_of X G a_is_trip fun _ _ _ _ _ _ us hl => match us, hl with | [_, _], _ => rfl
  d_is_building := df_of X G a_is_building fun _ _ _ _ _ _ us hl => match us, hl with | [_], _ => rfl
  d_check_building := df_of X G a_check_building fun _ _ _ _ _ _ us hl => match us, hl with | [_], _ => rfl
  d_trips_from := df_of X G a_trips_from fun _ _ _ _ _ _ us hl => match us, hl with | [_, _], _ => rfl
  d_is_test := df_of X G a_is_test fun _ _ _ _ _ _ us hl => match us, hl with | [_], _ => rfl
  d_is_clause := df_of X G a_is_clause fun _ _ _ _ _ _ us hl => match us, hl with | [_], _ => rfl
  d_is_rule := df_of X G a_is_rule fun _ _ _ _ _ _ us hl => match us, hl with | [_], _ => rfl
  d_check_rule := df_of X G a_check_rule fun _ _ _ _ _ _ us hl => match us, hl with | [_], _ => rfl
  d_is_car := df_of X G a_is_car fun _ _ _ _ _ _ us hl => match us, hl with | [_, _], _ => rfl
  d_is_standing_of := df_of X G a_is_standing_of fun _ _ _ _ _ _ us hl => match us, hl with | [_, _], _ => rfl
  d_check_standing := df_of X G a_check_standing fun _ _ _ _ _ _ us hl => match us, hl with | [_, _], _ => rfl
  d_is_own := df_of X G a_is_own fun _ _ _ _ _ _ us hl => match us, hl with | [_, _, _], _ => rfl
  d_is_nearer := df_of X G a_is_nearer fun _ _ _ _ _ _ us hl => match us, hl with | [_, _], _ => rfl
  d_seen_by := df_of X G a_seen_by fun _ _ _ _ _ _ us hl => match us, hl with | [_, _, _], _ => rfl
  d_clause_there := df_of X G a_clause_there fun _ _ _ _ _ _ us hl => match us, hl with | [_, _, _, _], _ => rfl
  d_deed_there := df_of X G a_deed_there fun _ _ _ _ _ _ us hl => match us, hl with | [_, _, _, _], _ => rfl
  d_check_car := df_of X G a_check_car fun _ _ _ _ _ _ us hl => match us, hl with | [_, _, _], _ => rfl
  d_sees := df_of X G a_sees fun _ _ _ _ _ _ us hl => match us, hl with | [_, _, _], _ => rfl
  d_clause_of := df_of X G a_clause_of fun _ _ _ _ _ _ us hl => match us, hl with | [_, _, _, _], _ => rfl
  d_deed_of := df_of X G a_deed_of fun _ _ _ _ _ _ us hl => match us, hl with | [_, _, _, _], _ => rfl
  d__law_pot := df_of X G a__law_pot fun _ _ _ _ _ _ us hl => match us, hl with | [_, _], _ => rfl
  d__law_take := df_of X G a__law_take fun _ _ _ _ _ _ us hl => match us, hl with | [_, _], _ => rfl
  d__law_of := df_of X G a__law_of fun _ _ _ _ _ _ us hl => match us, hl with | [_, _], _ => rfl
  d__law_cells := df_of X G a__law_cells fun _ _ _ _ _ _ us hl => match us, hl with | [_, _], _ => rfl
  d__law_some := df_of X G a__law_some fun _ _ _ _ _ _ us hl => match us, hl with | [_, _, _], _ => rfl
  d__law_heard := df_of X G a__law_heard fun _ _ _ _ _ _ us hl => match us, hl with | [_], _ => rfl
  d__law_building := df_of X G a__law_building fun _ _ _ _ _ _ us hl => match us, hl with | [_, _, _, _], _ => rfl
  d__law_words := df_of X G a__law_words fun _ _ _ _ _ _ us hl => match us, hl with | [], _ => rfl
  d__law_known := df_of X G a__law_known fun _ _ _ _ _ _ us hl => match us, hl with | [_], _ => rfl
  d__law_clause_in := df_of X G a__law_clause_in fun _ _ _ _ _ _ us hl => match us, hl with | [_], _ => rfl
  d__law_clause := df_of X G a__law_clause fun _ _ _ _ _ _ us hl => match us, hl with | [_], _ => rfl
  d__law_rule := df_of X G a__law_rule fun _ _ _ _ _ _ us hl => match us, hl with | [_], _ => rfl
  d__law_from := df_of X G a__law_from fun _ _ _ _ _ _ us hl => match us, hl with | [_, _], _ => rfl
  d__law_nearer := df_of X G a__law_nearer fun _ _ _ _ _ _ us hl => match us, hl with | [_, _], _ => rfl
  d__law_sees := df_of X G a__law_sees fun _ _ _ _ _ _ us hl => match us, hl with | [_, _, _], _ => rfl
  d__law_clause_of := df_of X G a__law_clause_of fun _ _ _ _ _ _ us hl => match us, hl with | [_, _, _, _], _ => rfl
  d__law_deed_of := df_of X G a__law_deed_of fun _ _ _ _ _ _ us hl => match us, hl with | [_, _, _, _], _ => rfl
  d__law_standing := df_of X G a__law_standing fun _ _ _ _ _ _ us hl => match us, hl with | [_, _], _ => rfl
  d__law_word := df_of X G a__law_word fun _ _ _ _ _ _ us hl => match us, hl with | [_], _ => rfl
  d__law_is_refused := df_of X G a__law_is_refused fun _ _ _ _ _ _ us hl => match us, hl with | [_, _, _], _ => rfl
  d__law_are_refused := dfl_of X G a__law_are_refused fun _ _ _ _ _ _ us hl => match us, hl with | [_, _, _, _], _ => rfl
  d__law_right := df_of X G a__law_right fun _ _ _ _ _ _ us hl => match us, hl with | [_], _ => rfl
  s_UP := gs_of X G s_UP
  s_DOWN := gs_of X G s_DOWN
  s_REST := gs_of X G s_REST
  g_LEAST_FLOORS := gi_of X G g_LEAST_FLOORS
  g_MOST_FLOORS := gi_of X G g_MOST_FLOORS
  g_MOST_CARS := gi_of X G g_MOST_CARS
  g_MOST_ROOM := gi_of X G g_MOST_ROOM
  g_MOST_TRIPS := gi_of X G g_MOST_TRIPS
  g_PAIR_buildings := gi_of X G g_PAIR_buildings
  g_TRIPLE_buildings := gi_of X G g_TRIPLE_buildings
  g_FOUR := gi_of X G g_FOUR
  g_MOST_CLAUSES := gi_of X G g_MOST_CLAUSES
  g_MOST_TESTS := gi_of X G g_MOST_TESTS
  g_PAIR_rules := gi_of X G g_PAIR_rules
  g_PAIR_steps := gi_of X G g_PAIR_steps
  g_TRIPLE_steps := gi_of X G g_TRIPLE_steps
  g_WORDS := gt_of X G g_WORDS
  g_DEEDS := gt_of X G g_DEEDS
  g_HEADINGS := gt_of X G g_HEADINGS
  m_ValueError := PySem.W.mg_none_of X G m_ValueError
  m_abs := PySem.W.mg_none_of X G m_abs
  m_all := PySem.W.mg_none_of X G m_all
  m_any := PySem.W.mg_none_of X G m_any
  m_bool := PySem.W.mg_none_of X G m_bool
  m_dict := PySem.W.mg_none_of X G m_dict
  m_enumerate := PySem.W.mg_none_of X G m_enumerate
  m_int := PySem.W.mg_none_of X G m_int
  m_isinstance := PySem.W.mg_none_of X G m_isinstance
  m_len := PySem.W.mg_none_of X G m_len
  m_list := PySem.W.mg_none_of X G m_list
  m_max := PySem.W.mg_none_of X G m_max
  m_min := PySem.W.mg_none_of X G m_min
  m_range := PySem.W.mg_none_of X G m_range
  m_repr := PySem.W.mg_none_of X G m_repr
  m_sorted := PySem.W.mg_none_of X G m_sorted
  m_str := PySem.W.mg_none_of X G m_str
  m_sum := PySem.W.mg_none_of X G m_sum
  m_tuple := PySem.W.mg_none_of X G m_tuple
  m_zip := PySem.W.mg_none_of X G m_zip
theorem init_of {K : PySem.W.Frag} {mg : Str → Option Value} {fI : Addr} (Pr : Program) (w : World) (V : Tx K mg) (a : AtI K st_init fI) : ∃ fd, InitS Pr w K mg fI fd := by
  obtain ⟨⟨oc, od, kV, doc, pm, an, cd, ct, sl, l, c, k⟩, ve⟩ := a
  have F := fun_mk l c k
  exact ⟨_, ⟨fun base => Fun.ok F sc_init (fun vs H Q E h => by obtain ⟨_, _, _, rfl, _⟩ := h; rfl) fun cdv A outer s H vs Q E hr h => ⟨_, pss_cons (ps_expr (pe_veinit (by rfl) V.m_ValueError ve (pa_cons (pv 0) (pa_cons (pv 1) pa_nil)))) (pss_one (ps_ost (pv 0) (pv 1))), init_read h⟩,
    F.binds fun _ _ _ _ _ _ us hl => match us, hl with | [_, _], _ => rfl⟩⟩
theorem exc_of {K : PySem.W.Frag} {h : Heap} {mg : Str → Option Value} {fI CS : Addr} {C_BadBuilding : Addr} {C_BadRule : Addr} {C_BadStanding : Addr} {C_BadCar : Addr} (X : K.In h) (G : h.Ns mainGlobals mg) (l : PySem.W.nsIn K mainGlobals "LiftError" = some (some (.ref CS))) (tf : PySem.W.typeIn K (.ref fI) = some (.type "function"))
    (e_BadBuilding : ExcN K "BadBuilding" C_BadBuilding fI CS) (e_BadRule : ExcN K "BadRule" C_BadRule fI CS) (e_BadStanding : ExcN K "BadStanding" C_BadStanding fI CS) (e_BadCar : ExcN K "BadCar" C_BadCar fI CS) (k_BadBuilding_BadBuilding : PySem.W.kitOne K (.ref C_BadBuilding) (.ref C_BadBuilding) = some true) (k_BadBuilding_BadRule : PySem.W.kitOne K (.ref C_BadBuilding) (.ref C_BadRule) = some false) (k_BadBuilding_BadStanding : PySem.W.kitOne K (.ref C_BadBuilding) (.ref C_BadStanding) = some false) (k_BadBuilding_BadCar : PySem.W.kitOne K (.ref C_BadBuilding) (.ref C_BadCar) = some false) (k_BadRule_BadBuilding : PySem.W.kitOne K (.ref C_BadRule) (.ref C_BadBuilding) = some false) (k_BadRule_BadRule : PySem.W.kitOne K (.ref C_BadRule) (.ref C_BadRule) = some true) (k_BadRule_BadStanding : PySem.W.kitOne K (.ref C_BadRule) (.ref C_BadStanding) = some false) (k_BadRule_BadCar : PySem.W.kitOne K (.ref C_BadRule) (.ref C_BadCar) = some false) (k_BadStanding_BadBuilding : PySem.W.kitOne K (.ref C_BadStanding) (.ref C_BadBuilding) = some false) (k_BadStanding_BadRule : PySem.W.kitOne K (.ref C_BadStanding) (.ref C_BadRule) = some false) (k_BadStanding_BadStanding : PySem.W.kitOne K (.ref C_BadStanding) (.ref C_BadStanding) = some true) (k_BadStanding_BadCar : PySem.W.kitOne K (.ref C_BadStanding) (.ref C_BadCar) = some false) (k_BadCar_BadBuilding : PySem.W.kitOne K (.ref C_BadCar) (.ref C_BadBuilding) = some false) (k_BadCar_BadRule : PySem.W.kitOne K (.ref C_BadCar) (.ref C_BadRule) = some false) (k_BadCar_BadStanding : PySem.W.kitOne K (.ref C_BadCar) (.ref C_BadStanding) = some false) (k_BadCar_BadCar : PySem.W.kitOne K (.ref C_BadCar) (.ref C_BadCar) = some true) : ∃ ad : Str → Addr, ExcS K mg excNames fI CS ad ∧ ∀ c ∈ excNames, PySem.W.kitOne K (.type "NoneType") (.ref (ad c)) = some false := by
  have E : ∀ c ∈ excNames, ExcN K c ((fun x => if x = "BadBuilding" then C_BadBuilding else if x = "BadRule" then C_BadRule else if x = "BadStanding" then C_BadStanding else C_BadCar : Str → Addr) c) fI CS := (List.forall_mem_cons.mpr ⟨e_BadBuilding, (List.forall_mem_cons.mpr ⟨e_BadRule, (List.forall_mem_cons.mpr ⟨e_BadStanding, (List.forall_mem_cons.mpr ⟨e_BadCar, (fun _ z => nomatch z)⟩)⟩)⟩)⟩)
  exact ⟨_, excS_of X G l tf E ((List.forall_mem_cons.mpr ⟨(List.forall_mem_cons.mpr ⟨k_BadBuilding_BadBuilding, (List.forall_mem_cons.mpr ⟨k_BadBuilding_BadRule, (List.forall_mem_cons.mpr ⟨k_BadBuilding_BadStanding, (List.forall_mem_cons.mpr ⟨k_BadBuilding_BadCar, (fun _ z => nomatch z)⟩)⟩)⟩)⟩), (List.forall_mem_cons.mpr ⟨(List.forall_mem_cons.mpr ⟨k_BadRule_BadBuilding, (List.forall_mem_cons.mpr ⟨k_BadRule_BadRule, (List.forall_mem_cons.mpr ⟨k_BadRule_BadStanding, (List.forall_mem_cons.mpr ⟨k_BadRule_BadCar, (fun _ z => nomatch z)⟩)⟩)⟩)⟩), (List.forall_mem_cons.mpr ⟨(List.forall_mem_cons.mpr ⟨k_BadStanding_BadBuilding, (List.forall_mem_cons.mpr ⟨k_BadStanding_BadRule, (List.forall_mem_cons.mpr ⟨k_BadStanding_BadStanding, (List.forall_mem_cons.mpr ⟨k_BadStanding_BadCar, (fun _ z => nomatch z)⟩)⟩)⟩)⟩), (List.forall_mem_cons.mpr ⟨(List.forall_mem_cons.mpr ⟨k_BadCar_BadBuilding, (List.forall_mem_cons.mpr ⟨k_BadCar_BadRule, (List.forall_mem_cons.mpr ⟨k_BadCar_BadStanding, (List.forall_mem_cons.mpr ⟨k_BadCar_BadCar, (fun _ z => nomatch z)⟩)⟩)⟩)⟩), (fun _ z => nomatch z)⟩)⟩)⟩)⟩)), fun c hc => (E c hc).kn⟩
theorem law_at {Pr : Program} {w : World} {K : PySem.W.Frag} {h : Heap} {mg : Str → Option Value} {fa : Addr} (X : K.In h) (G : h.Ns mainGlobals mg) (V : Tx K mg) {fI CS : Addr} (EE : ∃ ad, ExcS K mg excNames fI CS ad ∧ ∀ c ∈ excNames, PySem.W.kitOne K (.type "NoneType") (.ref (ad c)) = some false) (ii : AtI K st_init fI) (tu : tabUB K = true) (tn : tabNB K = true) (hfa : mg "law" = some (.ref fa))
    (a : At K "law" st_law) :
    (∀ x ∈ lamNames, ∀ c P, PySem.W.tabIn K x = some (c, P) → K.lookup P = none) ∧ ∃ fd : FuncData, (∀ (s : Shared) (u : Value), BindsTo s fd ⟨[u], []⟩ [("script", u)]) ∧ ∀ base : Heap, K.In base → base.Ns mainGlobals mg → TabsB K mg base → FnG Pr w K mg base (CXE Pr w) 14 fa fd ["script"] F_law := by
  obtain ⟨ad, ES, kn⟩ := EE
  obtain ⟨fdI, I⟩ := init_of Pr w V ii
  obtain ⟨f, oc, od, kV, doc, pm, an, cd, ct, sl, a1, l1, c1, k1⟩ := a
  have e := hfa.symm.trans (PySem.W.mg_of X G a1)
  cases e
  exact ⟨tabN_of tn, _, fun _ _ => .of_eq rfl, fun base _ _ tb => fnG_of l1 c1 sc_law fun A outer s H E F0 P0 hr hg => by have B : Ec Pr w K mg base excNames fI CS ad fdI := ⟨ES, I.io base, I.bi, kn, tb, tabU_of tu⟩; exact b_law V B hr hg⟩
end LW
open PySem PySem.W PyProof.Rows
set_option maxHeartbeats 0 in
theorem PySem.Challenge.cw_nobodyleft_k05_what_cars_see_and_do_holds : PySem.Challenge.rw_nobodyleft_k05_what_cars_see_and_do.Holds := by
  w_on; o_law; k_head; (case hw => w_witness2)
  k_fill
  refine NB.walk_ofG (l := PySem.Challenge.rw_nobodyleft_k05_what_cars_see_and_do) (k := 14) (x := "script") (Fw := LW.F_law) rfl rfl ⟨rfl, by decide, by decide⟩ (fun w h Y => by first | exact PySem.W.km_in_of Y | exact PySem.W.kIn_of Y) (NB.recs_of (by kernel_rfl)) ?F LW.law_ok
  case F =>
    intro w mg fa h KX G hmg
    refine' LW.law_at KX G (LW.tx_of KX G (NB.at_mk ?a_is_tuple ?l_is_tuple ?c_is_tuple ?k_is_tuple) (NB.at_mk ?a_is_whole ?l_is_whole ?c_is_whole ?k_is_whole) (NB.at_mk ?a_is_integer ?l_is_integer ?c_is_integer ?k_is_integer) (NB.at_mk ?a_is_word ?l_is_word ?c_is_word ?k_is_word) (NB.at_mk ?a_is_rising ?l_is_rising ?c_is_rising ?k_is_rising) (NB.at_mk ?a_is_trip ?l_is_trip ?c_is_trip ?k_is_trip) (NB.at_mk ?a_is_building ?l_is_building ?c_is_building ?k_is_building) (NB.at_mk ?a_check_building ?l_check_building ?c_check_building ?k_check_building) (NB.at_mk ?a_trips_from ?l_trips_from ?c_trips_from ?k_trips_from) (NB.at_mk ?a_is_test ?l_is_test ?c_is_test ?k_is_test) (NB.at_mk ?a_is_clause ?l_is_clause ?c_is_clause ?k_is_clause) (NB.at_mk ?a_is_rule ?l_is_rule ?c_is_rule ?k_is_rule) (NB.at_mk ?a_check_rule ?l_check_rule ?c_check_rule ?k_check_rule) (NB.at_mk ?a_is_car ?l_is_car ?c_is_car ?k_is_car) (NB.at_mk ?a_is_standing_of ?l_is_standing_of ?c_is_standing_of ?k_is_standing_of) (NB.at_mk ?a_check_standing ?l_check_standing ?c_check_standing ?k_check_standing) (NB.at_mk ?a_is_own ?l_is_own ?c_is_own ?k_is_own) (NB.at_mk ?a_is_nearer ?l_is_nearer ?c_is_nearer ?k_is_nearer) (NB.at_mk ?a_seen_by ?l_seen_by ?c_seen_by ?k_seen_by) (NB.at_mk ?a_clause_there ?l_clause_there ?c_clause_there ?k_clause_there) (NB.at_mk ?a_deed_there ?l_deed_there ?c_deed_there ?k_deed_there) (NB.at_mk ?a_check_car ?l_check_car ?c_check_car ?k_check_car) (NB.at_mk ?a_sees ?l_sees ?c_sees ?k_sees) (NB.at_mk ?a_clause_of ?l_clause_of ?c_clause_of ?k_clause_of) (NB.at_mk ?a_deed_of ?l_deed_of ?c_deed_of ?k_deed_of) (NB.at_mk ?a__law_pot ?l__law_pot ?c__law_pot ?k__law_pot) (NB.at_mk ?a__law_take ?l__law_take ?c__law_take ?k__law_take) (NB.at_mk ?a__law_of ?l__law_of ?c__law_of ?k__law_of) (NB.at_mk ?a__law_cells ?l__law_cells ?c__law_cells ?k__law_cells) (NB.at_mk ?a__law_some ?l__law_some ?c__law_some ?k__law_some) (NB.at_mk ?a__law_heard ?l__law_heard ?c__law_heard ?k__law_heard) (NB.at_mk ?a__law_building ?l__law_building ?c__law_building ?k__law_building) (NB.at_mk ?a__law_words ?l__law_words ?c__law_words ?k__law_words) (NB.at_mk ?a__law_known ?l__law_known ?c__law_known ?k__law_known) (NB.at_mk ?a__law_clause_in ?l__law_clause_in ?c__law_clause_in ?k__law_clause_in) (NB.at_mk ?a__law_clause ?l__law_clause ?c__law_clause ?k__law_clause) (NB.at_mk ?a__law_rule ?l__law_rule ?c__law_rule ?k__law_rule) (NB.at_mk ?a__law_from ?l__law_from ?c__law_from ?k__law_from) (NB.at_mk ?a__law_nearer ?l__law_nearer ?c__law_nearer ?k__law_nearer) (NB.at_mk ?a__law_sees ?l__law_sees ?c__law_sees ?k__law_sees) (NB.at_mk ?a__law_clause_of ?l__law_clause_of ?c__law_clause_of ?k__law_clause_of) (NB.at_mk ?a__law_deed_of ?l__law_deed_of ?c__law_deed_of ?k__law_deed_of) (NB.at_mk ?a__law_standing ?l__law_standing ?c__law_standing ?k__law_standing) (NB.at_mk ?a__law_word ?l__law_word ?c__law_word ?k__law_word) (NB.at_mk ?a__law_is_refused ?l__law_is_refused ?c__law_is_refused ?k__law_is_refused) (NB.at_mkL ?a__law_are_refused ?l__law_are_refused ?c__law_are_refused ?k__law_are_refused ?r__law_are_refused) (NB.at_mk ?a__law_right ?l__law_right ?c__law_right ?k__law_right) ?s_UP ?s_DOWN ?s_REST ?g_LEAST_FLOORS ?g_MOST_FLOORS ?g_MOST_CARS ?g_MOST_ROOM ?g_MOST_TRIPS ?g_PAIR_buildings ?g_TRIPLE_buildings ?g_FOUR ?g_MOST_CLAUSES ?g_MOST_TESTS ?g_PAIR_rules ?g_PAIR_steps ?g_TRIPLE_steps (NB.at_mkT (xs := LW.k_WORDS) ?t_WORDS ?u_WORDS ?s_WORDS ?v_WORDS) (NB.at_mkT (xs := LW.k_DEEDS) ?t_DEEDS ?u_DEEDS ?s_DEEDS ?v_DEEDS) (NB.at_mkT (xs := LW.k_HEADINGS) ?t_HEADINGS ?u_HEADINGS ?s_HEADINGS ?v_HEADINGS) ?m_ValueError ?m_abs ?m_all ?m_any ?m_bool ?m_dict ?m_enumerate ?m_int ?m_isinstance ?m_len ?m_list ?m_max ?m_min ?m_range ?m_repr ?m_sorted ?m_str ?m_sum ?m_tuple ?m_zip) (LW.exc_of KX G ?x_l ?x_tf (NB.exc_mk ?x_BadBuilding_at ?x_BadBuilding_l ?x_BadBuilding_rv ?x_BadBuilding_sa ?x_BadBuilding_exC ?x_BadBuilding_tyC ?x_BadBuilding_kC ?x_BadBuilding_ga ?x_BadBuilding_gg ?x_BadBuilding_hd ?x_BadBuilding_nov ?x_BadBuilding_hcl ?x_BadBuilding_hcc ?x_BadBuilding_hsp ?x_BadBuilding_htk ?x_BadBuilding_hmo ?x_BadBuilding_ini ?x_BadBuilding_exm ?x_BadBuilding_kn) (NB.exc_mk ?x_BadRule_at ?x_BadRule_l ?x_BadRule_rv ?x_BadRule_sa ?x_BadRule_exC ?x_BadRule_tyC ?x_BadRule_kC ?x_BadRule_ga ?x_BadRule_gg ?x_BadRule_hd ?x_BadRule_nov ?x_BadRule_hcl ?x_BadRule_hcc ?x_BadRule_hsp ?x_BadRule_htk ?x_BadRule_hmo ?x_BadRule_ini ?x_BadRule_exm ?x_BadRule_kn) (NB.exc_mk ?x_BadStanding_at ?x_BadStanding_l ?x_BadStanding_rv ?x_BadStanding_sa ?x_BadStanding_exC ?x_BadStanding_tyC ?x_BadStanding_kC ?x_BadStanding_ga ?x_BadStanding_gg ?x_BadStanding_hd ?x_BadStanding_nov ?x_BadStanding_hcl ?x_BadStanding_hcc ?x_BadStanding_hsp ?x_BadStanding_htk ?x_BadStanding_hmo ?x_BadStanding_ini ?x_BadStanding_exm ?x_BadStanding_kn) (NB.exc_mk ?x_BadCar_at ?x_BadCar_l ?x_BadCar_rv ?x_BadCar_sa ?x_BadCar_exC ?x_BadCar_tyC ?x_BadCar_kC ?x_BadCar_ga ?x_BadCar_gg ?x_BadCar_hd ?x_BadCar_nov ?x_BadCar_hcl ?x_BadCar_hcc ?x_BadCar_hsp ?x_BadCar_htk ?x_BadCar_hmo ?x_BadCar_ini ?x_BadCar_exm ?x_BadCar_kn) ?k_BadBuilding_BadBuilding ?k_BadBuilding_BadRule ?k_BadBuilding_BadStanding ?k_BadBuilding_BadCar ?k_BadRule_BadBuilding ?k_BadRule_BadRule ?k_BadRule_BadStanding ?k_BadRule_BadCar ?k_BadStanding_BadBuilding ?k_BadStanding_BadRule ?k_BadStanding_BadStanding ?k_BadStanding_BadCar ?k_BadCar_BadBuilding ?k_BadCar_BadRule ?k_BadCar_BadStanding ?k_BadCar_BadCar) (NB.at_mkI ?i_l ?i_c ?i_k ?i_ve) ?tabu ?tabn hmg (NB.at_mk ?a_law ?l_law ?c_law ?k_law)
    (case a_is_tuple => k_is); (case l_is_tuple => k_is); (case c_is_tuple => k_is); (case k_is_tuple => k_is); (case a_is_whole => k_is); (case l_is_whole => k_is); (case c_is_whole => k_is); (case k_is_whole => k_is); (case a_is_integer => k_is); (case l_is_integer => k_is); (case c_is_integer => k_is); (case k_is_integer => k_is); (case a_is_word => k_is); (case l_is_word => k_is); (case c_is_word => k_is); (case k_is_word => k_is); (case a_is_rising => k_is); (case l_is_rising => k_is); (case c_is_rising => k_is); (case k_is_rising => k_is); (case a_is_trip => k_is); (case l_is_trip => k_is); (case c_is_trip => k_is); (case k_is_trip => k_is); (case a_is_building => k_is); (case l_is_building => k_is); (case c_is_building => k_is); (case k_is_building => k_is); (case a_check_building => k_is); (case l_check_building => k_is); (case c_check_building => k_is); (case k_check_building => k_is); (case a_trips_from => k_is); (case l_trips_from => k_is); (case c_trips_from => k_is); (case k_trips_from => k_is); (case a_is_test => k_is); (case l_is_test => k_is); (case c_is_test => k_is); (case k_is_test => k_is); (case a_is_clause => k_is); (case l_is_clause => k_is); (case c_is_clause => k_is); (case k_is_clause => k_is); (case a_is_rule => k_is); (case l_is_rule => k_is); (case c_is_rule => k_is); (case k_is_rule => k_is); (case a_check_rule => k_is); (case l_check_rule => k_is); (case c_check_rule => k_is); (case k_check_rule => k_is); (case a_is_car => k_is); (case l_is_car => k_is); (case c_is_car => k_is); (case k_is_car => k_is); (case a_is_standing_of => k_is); (case l_is_standing_of => k_is); (case c_is_standing_of => k_is); (case k_is_standing_of => k_is); (case a_check_standing => k_is); (case l_check_standing => k_is); (case c_check_standing => k_is); (case k_check_standing => k_is); (case a_is_own => k_is); (case l_is_own => k_is); (case c_is_own => k_is); (case k_is_own => k_is); (case a_is_nearer => k_is); (case l_is_nearer => k_is); (case c_is_nearer => k_is); (case k_is_nearer => k_is); (case a_seen_by => k_is); (case l_seen_by => k_is); (case c_seen_by => k_is); (case k_seen_by => k_is); (case a_clause_there => k_is); (case l_clause_there => k_is); (case c_clause_there => k_is); (case k_clause_there => k_is); (case a_deed_there => k_is); (case l_deed_there => k_is); (case c_deed_there => k_is); (case k_deed_there => k_is); (case a_check_car => k_is); (case l_check_car => k_is); (case c_check_car => k_is); (case k_check_car => k_is); (case a_sees => k_is); (case l_sees => k_is); (case c_sees => k_is); (case k_sees => k_is); (case a_clause_of => k_is); (case l_clause_of => k_is); (case c_clause_of => k_is); (case k_clause_of => k_is); (case a_deed_of => k_is); (case l_deed_of => k_is); (case c_deed_of => k_is); (case k_deed_of => k_is); (case a__law_pot => k_is); (case l__law_pot => k_is); (case c__law_pot => k_is); (case k__law_pot => k_is); (case a__law_take => k_is); (case l__law_take => k_is); (case c__law_take => k_is); (case k__law_take => k_is); (case a__law_of => k_is); (case l__law_of => k_is); (case c__law_of => k_is); (case k__law_of => k_is); (case a__law_cells => k_is); (case l__law_cells => k_is); (case c__law_cells => k_is); (case k__law_cells => k_is); (case a__law_some => k_is); (case l__law_some => k_is); (case c__law_some => k_is); (case k__law_some => k_is); (case a__law_heard => k_is); (case l__law_heard => k_is); (case c__law_heard => k_is); (case k__law_heard => k_is); (case a__law_building => k_is); (case l__law_building => k_is); (case c__law_building => k_is); (case k__law_building => k_is); (case a__law_words => k_is); (case l__law_words => k_is); (case c__law_words => k_is); (case k__law_words => k_is); (case a__law_known => k_is); (case l__law_known => k_is); (case c__law_known => k_is); (case k__law_known => k_is); (case a__law_clause_in => k_is); (case l__law_clause_in => k_is); (case c__law_clause_in => k_is); (case k__law_clause_in => k_is); (case a__law_clause => k_is); (case l__law_clause => k_is); (case c__law_clause => k_is); (case k__law_clause => k_is); (case a__law_rule => k_is); (case l__law_rule => k_is); (case c__law_rule => k_is); (case k__law_rule => k_is); (case a__law_from => k_is); (case l__law_from => k_is); (case c__law_from => k_is); (case k__law_from => k_is); (case a__law_nearer => k_is); (case l__law_nearer => k_is); (case c__law_nearer => k_is); (case k__law_nearer => k_is); (case a__law_sees => k_is); (case l__law_sees => k_is); (case c__law_sees => k_is); (case k__law_sees => k_is); (case a__law_clause_of => k_is); (case l__law_clause_of => k_is); (case c__law_clause_of => k_is); (case k__law_clause_of => k_is); (case a__law_deed_of => k_is); (case l__law_deed_of => k_is); (case c__law_deed_of => k_is); (case k__law_deed_of => k_is); (case a__law_standing => k_is); (case l__law_standing => k_is); (case c__law_standing => k_is); (case k__law_standing => k_is); (case a__law_word => k_is); (case l__law_word => k_is); (case c__law_word => k_is); (case k__law_word => k_is); (case a__law_is_refused => k_is); (case l__law_is_refused => k_is); (case c__law_is_refused => k_is); (case k__law_is_refused => k_is); (case a__law_are_refused => k_is); (case l__law_are_refused => k_is); (case c__law_are_refused => k_is); (case k__law_are_refused => k_is); (case a__law_right => k_is); (case l__law_right => k_is); (case c__law_right => k_is); (case k__law_right => k_is); (case s_UP => k_is); (case s_DOWN => k_is); (case s_REST => k_is); (case g_LEAST_FLOORS => k_is); (case g_MOST_FLOORS => k_is); (case g_MOST_CARS => k_is); (case g_MOST_ROOM => k_is); (case g_MOST_TRIPS => k_is); (case g_PAIR_buildings => k_is); (case g_TRIPLE_buildings => k_is); (case g_FOUR => k_is); (case g_MOST_CLAUSES => k_is); (case g_MOST_TESTS => k_is); (case g_PAIR_rules => k_is); (case g_PAIR_steps => k_is); (case g_TRIPLE_steps => k_is); (case t_WORDS => k_is); (case u_WORDS => k_is); (case t_DEEDS => k_is); (case u_DEEDS => k_is); (case t_HEADINGS => k_is); (case u_HEADINGS => k_is); (case m_ValueError => k_is); (case m_abs => k_is); (case m_all => k_is); (case m_any => k_is); (case m_bool => k_is); (case m_dict => k_is); (case m_enumerate => k_is); (case m_int => k_is); (case m_isinstance => k_is); (case m_len => k_is); (case m_list => k_is); (case m_max => k_is); (case m_min => k_is); (case m_range => k_is); (case m_repr => k_is); (case m_sorted => k_is); (case m_str => k_is); (case m_sum => k_is); (case m_tuple => k_is); (case m_zip => k_is); (case x_l => k_is); (case x_BadBuilding_at => k_is); (case x_BadBuilding_l => k_is); (case x_BadBuilding_sa => k_is); (case x_BadBuilding_exC => k_is); (case x_BadBuilding_tyC => k_is); (case x_BadBuilding_kC => k_is); (case x_BadBuilding_ga => k_is); (case x_BadBuilding_gg => k_is); (case x_BadBuilding_hd => k_is); (case x_BadBuilding_nov => k_is); (case x_BadBuilding_hcc => k_is); (case x_BadBuilding_hsp => k_is); (case x_BadBuilding_htk => k_is); (case x_BadBuilding_hmo => k_is); (case x_BadBuilding_ini => k_is); (case x_BadRule_at => k_is); (case x_BadRule_l => k_is); (case x_BadRule_sa => k_is); (case x_BadRule_exC => k_is); (case x_BadRule_tyC => k_is); (case x_BadRule_kC => k_is); (case x_BadRule_ga => k_is); (case x_BadRule_gg => k_is); (case x_BadRule_hd => k_is); (case x_BadRule_nov => k_is); (case x_BadRule_hcc => k_is); (case x_BadRule_hsp => k_is); (case x_BadRule_htk => k_is); (case x_BadRule_hmo => k_is); (case x_BadRule_ini => k_is); (case x_BadStanding_at => k_is); (case x_BadStanding_l => k_is); (case x_BadStanding_sa => k_is); (case x_BadStanding_exC => k_is); (case x_BadStanding_tyC => k_is); (case x_BadStanding_kC => k_is); (case x_BadStanding_ga => k_is); (case x_BadStanding_gg => k_is); (case x_BadStanding_hd => k_is); (case x_BadStanding_nov => k_is); (case x_BadStanding_hcc => k_is); (case x_BadStanding_hsp => k_is); (case x_BadStanding_htk => k_is); (case x_BadStanding_hmo => k_is); (case x_BadStanding_ini => k_is); (case x_BadCar_at => k_is); (case x_BadCar_l => k_is); (case x_BadCar_sa => k_is); (case x_BadCar_exC => k_is); (case x_BadCar_tyC => k_is); (case x_BadCar_kC => k_is); (case x_BadCar_ga => k_is); (case x_BadCar_gg => k_is); (case x_BadCar_hd => k_is); (case x_BadCar_nov => k_is); (case x_BadCar_hcc => k_is); (case x_BadCar_hsp => k_is); (case x_BadCar_htk => k_is); (case x_BadCar_hmo => k_is); (case x_BadCar_ini => k_is); (case x_tf => k_is); (case i_l => k_is); (case i_c => k_is); (case i_k => k_is); (case i_ve => k_is); (case x_BadBuilding_rv => kernel_rfl); (case x_BadBuilding_hcl => kernel_rfl); (case x_BadBuilding_exm => kernel_rfl); (case x_BadBuilding_kn => kernel_rfl); (case x_BadRule_rv => kernel_rfl); (case x_BadRule_hcl => kernel_rfl); (case x_BadRule_exm => kernel_rfl); (case x_BadRule_kn => kernel_rfl); (case x_BadStanding_rv => kernel_rfl); (case x_BadStanding_hcl => kernel_rfl); (case x_BadStanding_exm => kernel_rfl); (case x_BadStanding_kn => kernel_rfl); (case x_BadCar_rv => kernel_rfl); (case x_BadCar_hcl => kernel_rfl); (case x_BadCar_exm => kernel_rfl); (case x_BadCar_kn => kernel_rfl); (case k_BadBuilding_BadBuilding => kernel_rfl); (case k_BadBuilding_BadRule => kernel_rfl); (case k_BadBuilding_BadStanding => kernel_rfl); (case k_BadBuilding_BadCar => kernel_rfl); (case k_BadRule_BadBuilding => kernel_rfl); (case k_BadRule_BadRule => kernel_rfl); (case k_BadRule_BadStanding => kernel_rfl); (case k_BadRule_BadCar => kernel_rfl); (case k_BadStanding_BadBuilding => kernel_rfl); (case k_BadStanding_BadRule => kernel_rfl); (case k_BadStanding_BadStanding => kernel_rfl); (case k_BadStanding_BadCar => kernel_rfl); (case k_BadCar_BadBuilding => kernel_rfl); (case k_BadCar_BadRule => kernel_rfl); (case k_BadCar_BadStanding => kernel_rfl); (case k_BadCar_BadCar => kernel_rfl); (case a_law => k_is); (case l_law => k_is); (case c_law => k_is); (case k_law => k_is); (case r__law_are_refused => kernel_rfl); (case tabu => kernel_rfl); (case tabn => kernel_rfl); (case s_WORDS => (rw [sizeLine_eq]; decide)); (case v_WORDS => (show L2.Vals _ _; repeat (first | exact .nil | refine .cons ⟨_, rfl⟩ ?_))); (case s_DEEDS => (rw [sizeLine_eq]; decide)); (case v_DEEDS => (show L2.Vals _ _; repeat (first | exact .nil | refine .cons ⟨_, rfl⟩ ?_))); (case s_HEADINGS => (rw [sizeLine_eq]; decide)); (case v_HEADINGS => (show L2.Vals _ _; repeat (first | exact .nil | refine .cons ⟨_, rfl⟩ ?_)))
