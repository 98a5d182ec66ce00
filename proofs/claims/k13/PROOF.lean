import PyProof.Rows.All
import Wide.All
import OpenK.AllK
import Wide.FinOn
import KE.KStateDown
import HandS.ForMost
import HandS.Exc
import HandS.HeadHook2
import HandS.TupAny
import HandS.TupMul
import HandS.Deep
import HandS.Wide
import HandS.Style
import HandS.TupLe
import HandS.Flow
import HandS.Defaults
import HandS.MakeKw
import HandS.MakeKwOnly
import HandS.DictComp
import HandS.IsInst
import KE.KExcIs
import HandS.Ends
import HandS.HeadEnd
import HandS.Head2
import HandS.FStr
import HandS.Text
import HandS.Iter
import KE.GoesMore
import HandS.RaiseMore
import HandS.ExcInit
import HandS.ExcField
import HandS.ExcIs
import HandS.TryMany
import HandS.ExcOwn
import HandS.Small
import HandS.ExcSuper
import PyProof.P3Eq
import KE.KExcPX
import HandS.OwnEq
import HandS.More
import HandS.Dict
import HandS.DictEq
import PyProof.DictFindH
import PyProof.TupleKey
import HandS.TupLen
import HandS.Conv
import HandS.NoneIn
import HandS.Zip
import KE.GoesZip
import KE.GoesEnum
import KE.KUnpackStar
import HandS.Finally
import PyProof.DictUpdate
import HandS.Sort
import PyProof.ReprBulk
import KE.KDictPairs
import KE.KDictKeyed
import HandS.SortRule
import HandS.ListItems
import HandS.DictTup
import HandS.DeepEq
import HandS.Comp
import HandS.SetFor
import PySem.Challenge.RW_callvows_k13_books_refused
set_option Elab.async false
set_option linter.all false
set_option maxRecDepth 100000
set_option maxHeartbeats 0
namespace Vz
open PySem L2
/-- a plain value: tuples stand within it, what may change is a number of an object -/
inductive AV where
  | non | bl (b : Bool) | int (i : Int) | str (s : Str)
  | tup (xs : List AV)
  | con (xs : List AV)
  | lk (xs : List AV)
  | ls (xs : List AV)
  | iv (c : Str) (ns : List Str) (xs : List AV)
  | id (ks : List Key) (xs : List AV)
  | it (ks : List (List Key)) (xs : List AV)
  | xv (c : Str) (ns : List Str) (xs : List AV)
  | fd (ks : List Key) (xs : List AV)
  | ref (n : Nat)
  deriving Inhabited
/-- an object -/
inductive AO where
  | lst (xs : List AV)
  | dk (kvs : List (Key × AV))
  | dt (kvs : List (List Key × AV))
  | ins (c : Str) (fs : List (Str × AV))
  | xd (fs : List (Str × AV))
  | gone
  deriving Inhabited
abbrev Hs := List AO
/-- what an exception bears: its fields' names and values -/
abbrev XP := List Str × List AV
abbrev En := List (Option AV)
inductive R (α : Type) where
  | ok (a : α) (G : Hs) | exc (c : Str) (d : XP) (G : Hs) | stuck
/-- a statement's end -/
inductive SR where
  | nx (ρ : En) (G : Hs) | rt (v : AV) (G : Hs) | bk (ρ : En) (G : Hs) | ct (ρ : En) (G : Hs) | exc (c : Str) (d : XP) (ρ : En) (G : Hs) | stuck
/-- the address of a global of the module -/
abbrev ga (K : PySem.W.Frag) (x : Str) : Addr := He.ga K x
/-- a tuple that the text itself holds -/
def KTup (K : PySem.W.Frag) (a : Addr) (xs : List V) : Prop :=
  ∃ (o : Obj) (its : Array Value) (n : Nat), K.lookup a = some o ∧ o.cls = .type "tuple" ∧ o.data = .seq its n ∧ its.size ≤ sizeLine ∧ Vals xs its.toList
/-- the numbered ones; a number may have gone -/
abbrev Mu := List (Option Addr)
/-- a is what n numbers, if n still numbers -/
def Num (μ : Mu) (n : Nat) (a : Addr) : Prop := n < μ.length ∧ ∀ a', μ[n]? = some (some a') → a' = a
/-- a list that is not numbered -/
def LsF (H : Hp) (μ : Mu) (a : Addr) (xs : List V) : Prop := H a = some (.lst xs) ∧ some a ∉ μ
/-- a list that nobody writes: the script -/
def KLst (K : PySem.W.Frag) (H : Hp) (a : Addr) (xs : List V) : Prop := (∃ o, H a = some (.frz o (.lst xs))) ∨
  ∃ (o : Obj) (its : Array Value) (n : Nat), K.lookup a = some o ∧ o.cls = .type "list" ∧ o.dict = none ∧ o.data = .seq its n ∧ its.size ≤ sizeLine ∧ Vals xs its.toList
/-- at e: an exception of the class C, its dict at d -/
def xo (e : Addr) (C : Value) (d : Option Addr) : HO := .ext fun h => ∃ (oe : Obj) (vs : Array Value), h.get? e = some oe ∧ Zc C d oe ∧ oe.data = .fields vs
mutual
inductive RA (K : PySem.W.Frag) (H : Hp) (μ : Mu) : AV → V → Prop where
  | non : RA K H μ .non .non
  | bl (b : Bool) : RA K H μ (.bl b) (.bl b)
  | int (i : Int) : RA K H μ (.int i) (.int i)
  | str (s : Str) : RA K H μ (.str s) (.str s)
  | tup {a : Addr} {vs : List V} {xs : List AV} : H a = some (.tup vs) → RAs K H μ xs vs → RA K H μ (.tup xs) (.ref a)
  | con {a : Addr} {vs : List V} {xs : List AV} : KTup K a vs → RAs K H μ xs vs → RA K H μ (.con xs) (.ref a)
  | lk {a : Addr} {vs : List V} {xs : List AV} : KLst K H a vs → RAs K H μ xs vs → RA K H μ (.lk xs) (.ref a)
  | ls {a : Addr} {vs : List V} {xs : List AV} : LsF H μ a vs → RAs K H μ xs vs → RA K H μ (.ls xs) (.ref a)
  | iv {a dx : Addr} {c : Str} {ns : List Str} {gs : List (Str × V)} {xs : List AV} : H a = some (.ins (ga K c) dx gs) → some a ∉ μ → ns = gs.map (·.1) → RAs K H μ xs (gs.map (·.2)) → RA K H μ (.iv c ns xs) (.ref a)
  | id {a : Addr} {ks : List Key} {ws : List (Key × V)} {xs : List AV} : H a = some (.dK ws) → some a ∉ μ → ks = ws.map (·.1) → RAs K H μ xs (ws.map (·.2)) → RA K H μ (.id ks xs) (.ref a)
  | it {a : Addr} {ks : List (List Key)} {ws : List (List Key × V)} {xs : List AV} : H a = some (.dT ws) → some a ∉ μ → ks = ws.map (·.1) → RAs K H μ xs (ws.map (·.2)) → RA K H μ (.it ks xs) (.ref a)
  | xv0 {a : Addr} {c : Str} : H a = some (xo a (.ref (ga K c)) none) → some a ∉ μ → RA K H μ (.xv c [] []) (.ref a)
  | xv {a dx : Addr} {c : Str} {ns : List Str} {gs : List (Str × V)} {xs : List AV} : H a = some (xo a (.ref (ga K c)) (some dx)) → some a ∉ μ → H dx = some (.xd gs) → some dx ∉ μ → ns = gs.map (·.1) → RAs K H μ xs (gs.map (·.2)) → RA K H μ (.xv c ns xs) (.ref a)
  | fd {a : Addr} {o : Obj} {ks : List Key} {ws : List (Key × V)} {xs : List AV} : H a = some (.frz o (.dK ws)) → ks = ws.map (·.1) → RAs K H μ xs (ws.map (·.2)) → RA K H μ (.fd ks xs) (.ref a)
  | ref {n : Nat} {a : Addr} : Num μ n a → RA K H μ (.ref n) (.ref a)
inductive RAs (K : PySem.W.Frag) (H : Hp) (μ : Mu) : List AV → List V → Prop where
  | nil : RAs K H μ [] []
  | cons {x : AV} {v : V} {xs : List AV} {vs : List V} : RA K H μ x v → RAs K H μ xs vs → RAs K H μ (x :: xs) (v :: vs)
end
/-- what was a tuple, or is not numbered, stays so; what is numbered keeps its number, or loses it -/
structure Gr (H : Hp) (μ : Mu) (H' : Hp) (μ' : Mu) : Prop where
  le : μ.length ≤ μ'.length
  pre : ∀ (n : Nat) (a : Addr), n < μ.length → μ'[n]? = some (some a) → μ[n]? = some (some a)
  fre : ∀ (n : Nat) (a : Addr), μ.length ≤ n → μ'[n]? = some (some a) → H a = none
  keep : ∀ a u, H a = some u → some a ∉ μ → H' a = some u
  tup : ∀ a vs, H a = some (.tup vs) → H' a = some (.tup vs)
  frz : ∀ a o u, H a = some (.frz o u) → H' a = some (.frz o u)
  ex : ∀ a, H' a = none → H a = none
theorem Gr.refl (H : Hp) (μ : Mu) : Gr H μ H μ := ⟨Nat.le_refl _, fun _ _ _ h => h, fun n a h e => (by rw [List.getElem?_eq_none h] at e; cases e), fun _ _ h _ => h, fun _ _ h => h, fun _ _ _ h => h, fun _ h => h⟩
theorem Gr.fr {H H' : Hp} {μ μ' : Mu} (g : Gr H μ H' μ') {a : Addr} {u : HO} (h : H a = some u) (n : some a ∉ μ) : some a ∉ μ' := fun m => by
  obtain ⟨k, hk⟩ := List.mem_iff_getElem?.mp m
  by_cases l : k < μ.length
  · exact n (List.mem_of_getElem? (g.pre k a l hk))
  · have := g.fre k a (by omega) hk
    rw [h] at this
    cases this
theorem Gr.trans {H H1 H2 : Hp} {μ μ1 μ2 : Mu} (a : Gr H μ H1 μ1) (b : Gr H1 μ1 H2 μ2) : Gr H μ H2 μ2 where
  le := Nat.le_trans a.le b.le
  pre := fun n p l e => a.pre n p l (b.pre n p (Nat.lt_of_lt_of_le l a.le) e)
  fre := fun n p l e => by
    by_cases h : n < μ1.length
    · exact a.fre n p l (b.pre n p h e)
    · exact a.ex p (b.fre n p (by omega) e)
  keep := fun p u h n => b.keep p u (a.keep p u h n) (a.fr h n)
  tup := fun p vs h => b.tup p vs (a.tup p vs h)
  frz := fun p o u h => b.frz p o u (a.frz p o u h)
  ex := fun p h => a.ex p (b.ex p h)
theorem Num.gr {H H' : Hp} {μ μ' : Mu} (g : Gr H μ H' μ') {n : Nat} {a : Addr} (h : Num μ n a) : Num μ' n a := ⟨Nat.lt_of_lt_of_le h.1 g.le, fun a' e => h.2 a' (g.pre n a' h.1 e)⟩
theorem KLst.gr {K : PySem.W.Frag} {H H' : Hp} {μ μ' : Mu} (g : Gr H μ H' μ') {a : Addr} {xs : List V} (h : KLst K H a xs) : KLst K H' a xs := by
  rcases h with ⟨o, h⟩ | h
  · exact .inl ⟨o, g.frz _ _ _ h⟩
  · exact .inr h
theorem LsF.gr {H H' : Hp} {μ μ' : Mu} (g : Gr H μ H' μ') {a : Addr} {xs : List V} (h : LsF H μ a xs) : LsF H' μ' a xs := ⟨g.keep _ _ h.1 h.2, g.fr h.1 h.2⟩
theorem LsF.sq {K : PySem.W.Frag} {H : Hp} {μ : Mu} {a : Addr} {xs : List V} (h : LsF H μ a xs) : SqL K H a xs := .inl (.inl h.1)
theorem KLst.sq {K : PySem.W.Frag} {H : Hp} {a : Addr} {xs : List V} (h : KLst K H a xs) : SqL K H a xs := by
  rcases h with ⟨o, h⟩ | h
  · exact .inl (.inr ⟨o, h⟩)
  · exact .inr h
theorem KTup.sq {K : PySem.W.Frag} {H : Hp} {a : Addr} {xs : List V} (h : KTup K a xs) : SqT K H a xs := .inr h
mutual
theorem RA.gr {K : PySem.W.Frag} {H H' : Hp} {μ μ' : Mu} (g : Gr H μ H' μ') : ∀ {x : AV} {v : V}, RA K H μ x v → RA K H' μ' x v
  | _, _, .non => .non
  | _, _, .bl b => .bl b
  | _, _, .int b => .int b
  | _, _, .str b => .str b
  | _, _, .tup h r => .tup (g.tup _ _ h) (RAs.gr g r)
  | _, _, .con h r => .con h (RAs.gr g r)
  | _, _, .lk h r => .lk (h.gr g) (RAs.gr g r)
  | _, _, .ls h r => .ls (h.gr g) (RAs.gr g r)
  | _, _, .iv h n e r => .iv (g.keep _ _ h n) (g.fr h n) e (RAs.gr g r)
  | _, _, .id h n e r => .id (g.keep _ _ h n) (g.fr h n) e (RAs.gr g r)
  | _, _, .it h n e r => .it (g.keep _ _ h n) (g.fr h n) e (RAs.gr g r)
  | _, _, .xv0 h n => .xv0 (g.keep _ _ h n) (g.fr h n)
  | _, _, .xv h n h2 n2 e r => .xv (g.keep _ _ h n) (g.fr h n) (g.keep _ _ h2 n2) (g.fr h2 n2) e (RAs.gr g r)
  | _, _, .fd h e r => .fd (g.frz _ _ _ h) e (RAs.gr g r)
  | _, _, .ref h => .ref (h.gr g)
theorem RAs.gr {K : PySem.W.Frag} {H H' : Hp} {μ μ' : Mu} (g : Gr H μ H' μ') : ∀ {xs : List AV} {vs : List V}, RAs K H μ xs vs → RAs K H' μ' xs vs
  | _, _, .nil => .nil
  | _, _, .cons r rs => .cons (RA.gr g r) (RAs.gr g rs)
end
section
variable {K : PySem.W.Frag} {H H' : Hp} {μ μ' : Mu}
theorem RAs.length : ∀ {xs : List AV} {vs : List V}, RAs K H μ xs vs → xs.length = vs.length
  | _, _, .nil => rfl
  | _, _, .cons _ r => congrArg Nat.succ r.length
theorem RAs.get : ∀ {xs : List AV} {vs : List V} {i : Nat} {v : V}, RAs K H μ xs vs → vs[i]? = some v → ∃ x, xs[i]? = some x ∧ RA K H μ x v
  | _, _, _, _, .nil, e => by simp at e
  | _, _, 0, _, .cons r _, e => by simp at e; subst e; exact ⟨_, rfl, r⟩
  | _, _, i + 1, v, .cons _ t, e => by
    obtain ⟨x, h1, h2⟩ := RAs.get (i := i) (v := v) t (by simpa using e)
    exact ⟨x, by simpa using h1, h2⟩
theorem RAs.get' : ∀ {xs : List AV} {vs : List V} {i : Nat} {x : AV}, RAs K H μ xs vs → xs[i]? = some x → ∃ v, vs[i]? = some v ∧ RA K H μ x v
  | _, _, _, _, .nil, e => by simp at e
  | _, _, 0, _, .cons r _, e => by simp at e; subst e; exact ⟨_, rfl, r⟩
  | _, _, i + 1, v, .cons _ t, e => by
    obtain ⟨x, h1, h2⟩ := RAs.get' (i := i) (x := v) t (by simpa using e)
    exact ⟨x, by simpa using h1, h2⟩
theorem RAs.app : ∀ {xs ys : List AV} {vs ws : List V}, RAs K H μ xs vs → RAs K H μ ys ws → RAs K H μ (xs ++ ys) (vs ++ ws)
  | _, _, _, _, .nil, s => s
  | _, _, _, _, .cons r t, s => .cons r (RAs.app t s)
theorem RAs.take : ∀ {xs : List AV} {vs : List V} (n : Nat), RAs K H μ xs vs → RAs K H μ (xs.take n) (vs.take n)
  | _, _, 0, _ => .nil
  | _, _, _ + 1, .nil => .nil
  | _, _, n + 1, .cons r t => .cons r (RAs.take n t)
theorem RAs.drop : ∀ {xs : List AV} {vs : List V} (n : Nat), RAs K H μ xs vs → RAs K H μ (xs.drop n) (vs.drop n)
  | _, _, 0, r => r
  | _, _, _ + 1, .nil => .nil
  | _, _, n + 1, .cons _ t => RAs.drop n t
theorem RAs.set {x : AV} {v : V} (r : RA K H μ x v) : ∀ {xs : List AV} {vs : List V} (i : Nat), RAs K H μ xs vs → RAs K H μ (xs.set i x) (vs.set i v)
  | _, _, _, .nil => .nil
  | _, _, 0, .cons _ t => .cons r t
  | _, _, i + 1, .cons q t => .cons q (RAs.set r i t)
theorem RAs.rev {xs : List AV} {vs : List V} (h : RAs K H μ xs vs) : RAs K H μ xs.reverse vs.reverse := by
  induction h using RAs.rec (motive_1 := fun _ _ _ => True) with
  | nil => exact .nil
  | cons r t _ ih =>
    rw [List.reverse_cons, List.reverse_cons]
    exact ih.app (.cons r .nil)
  | _ => trivial
theorem RAs.erase : ∀ {xs : List AV} {vs : List V} (i : Nat), RAs K H μ xs vs → RAs K H μ (xs.eraseIdx i) (vs.eraseIdx i)
  | _, _, _, .nil => .nil
  | _, _, 0, .cons _ t => t
  | _, _, i + 1, .cons q t => .cons q (RAs.erase i t)
theorem RAs.dropLast {xs : List AV} {vs : List V} (h : RAs K H μ xs vs) : RAs K H μ xs.dropLast vs.dropLast := by
  rw [List.dropLast_eq_take, List.dropLast_eq_take, h.length]
  exact h.take _
/-- named values -/
def RF (K : PySem.W.Frag) (H : Hp) (μ : Mu) {κ : Type} (fs : List (κ × AV)) (gs : List (κ × V)) : Prop := fs.map (·.1) = gs.map (·.1) ∧ RAs K H μ (fs.map (·.2)) (gs.map (·.2))
theorem RF.gr {κ : Type} {fs : List (κ × AV)} {gs : List (κ × V)} (g : Gr H μ H' μ') (h : RF K H μ fs gs) : RF K H' μ' fs gs := ⟨h.1, h.2.gr g⟩
/-- an object as it stands -/
def RO (K : PySem.W.Frag) (H : Hp) (μ : Mu) (a : Addr) : AO → Prop
  | .lst xs => ∃ vs, H a = some (.lst vs) ∧ RAs K H μ xs vs
  | .dk kvs => ∃ ws, H a = some (.dK ws) ∧ RF K H μ kvs ws
  | .dt kvs => ∃ ws, H a = some (.dT ws) ∧ RF K H μ kvs ws
  | .ins c fs => ∃ dx gs, H a = some (.ins (ga K c) dx gs) ∧ RF K H μ fs gs
  | .xd fs => ∃ gs, H a = some (.xd gs) ∧ RF K H μ fs gs
  | .gone => True
/-- the objects as they stand -/
structure RH (K : PySem.W.Frag) (H : Hp) (μ : Mu) (G : Hs) : Prop where
  len : μ.length = G.length
  nd : ∀ (n m : Nat) (a : Addr), μ[n]? = some (some a) → μ[m]? = some (some a) → n = m
  of : ∀ (n : Nat) (a : Addr) (o : AO), μ[n]? = some (some a) → G[n]? = some o → o ≠ AO.gone ∧ RO K H μ a o
  no : ∀ n : Nat, μ[n]? = some none → G[n]? = some AO.gone
theorem RO.gr {o : AO} {a : Addr} (g : Gr H μ H' μ') (e : H' a = H a) (h : RO K H μ a o) : RO K H' μ' a o := by
  cases o with
  | lst xs => obtain ⟨vs, h1, h2⟩ := h; exact ⟨vs, e.trans h1, h2.gr g⟩
  | dk xs => obtain ⟨vs, h1, h2⟩ := h; exact ⟨vs, e.trans h1, h2.gr g⟩
  | dt xs => obtain ⟨vs, h1, h2⟩ := h; exact ⟨vs, e.trans h1, h2.gr g⟩
  | ins c fs => obtain ⟨dx, gs, h1, h2⟩ := h; exact ⟨dx, gs, e.trans h1, h2.gr g⟩
  | xd fs => obtain ⟨gs, h1, h2⟩ := h; exact ⟨gs, e.trans h1, h2.gr g⟩
  | gone => trivial
theorem RO.there {o : AO} {a : Addr} (h : RO K H μ a o) (l : o ≠ .gone) : ∃ u, H a = some u ∧ (∀ vs, u ≠ .tup vs) ∧ (∀ o v, u ≠ .frz o v) := by
  cases o with
  | lst xs => obtain ⟨vs, h1, _⟩ := h; exact ⟨_, h1, fun _ z => (by cases z), fun _ _ z => (by cases z)⟩
  | dk xs => obtain ⟨vs, h1, _⟩ := h; exact ⟨_, h1, fun _ z => (by cases z), fun _ _ z => (by cases z)⟩
  | dt xs => obtain ⟨vs, h1, _⟩ := h; exact ⟨_, h1, fun _ z => (by cases z), fun _ _ z => (by cases z)⟩
  | ins c fs => obtain ⟨dx, gs, h1, _⟩ := h; exact ⟨_, h1, fun _ z => (by cases z), fun _ _ z => (by cases z)⟩
  | xd fs => obtain ⟨gs, h1, _⟩ := h; exact ⟨_, h1, fun _ z => (by cases z), fun _ _ z => (by cases z)⟩
  | gone => exact absurd rfl l
/-- a number with an object: it numbers -/
theorem RH.live {G : Hs} (h : RH K H μ G) {n : Nat} {o : AO} (e : G[n]? = some o) (l : o ≠ .gone) : ∃ a, μ[n]? = some (some a) ∧ RO K H μ a o := by
  have hn : n < μ.length := by
    rw [h.len]
    exact (List.getElem?_eq_some_iff.mp e).1
  have q : μ[n]? = some μ[n] := List.getElem?_eq_getElem hn
  cases k : μ[n] with
  | none =>
    rw [k] at q
    rw [h.no n q] at e
    exact absurd (Option.some.inj e).symm l
  | some a =>
    rw [k] at q
    exact ⟨a, q, (h.of n a o q e).2⟩
theorem RH.num {G : Hs} (h : RH K H μ G) {n : Nat} {a : Addr} (q : μ[n]? = some (some a)) : Num μ n a := ⟨(List.getElem?_eq_some_iff.mp q).1, fun a' e => by rw [q] at e; cases e; rfl⟩
theorem RH.at_ {G : Hs} (h : RH K H μ G) (n : Nat) (a : Addr) (o : AO) (e : Num μ n a) (q : G[n]? = some o) : RO K H μ a o := by
  by_cases l : o = .gone
  · subst l; trivial
  · obtain ⟨a', e1, r⟩ := h.live q l
    rw [← e.2 a' e1]
    exact r
/-- as it is numbered -/
theorem RH.lv {G : Hs} (h : RH K H μ G) {n : Nat} {a : Addr} {o : AO} (e : Num μ n a) (q : G[n]? = some o) (l : o ≠ .gone) : μ[n]? = some (some a) := by
  obtain ⟨a', e1, r⟩ := h.live q l
  rw [← e.2 a' e1]
  exact e1
theorem RH.obj {G : Hs} (h : RH K H μ G) {n : Nat} {a : Addr} (e : Num μ n a) : ∃ o, G[n]? = some o ∧ RO K H μ a o := by
  have hn : n < G.length := by
    rw [← h.len]
    exact e.1
  exact ⟨G[n], List.getElem?_eq_getElem hn, h.at_ n a _ e (List.getElem?_eq_getElem hn)⟩
theorem RH.mem {G : Hs} (h : RH K H μ G) {a : Addr} (e : some a ∈ μ) : ∃ u, H a = some u ∧ (∀ vs, u ≠ .tup vs) ∧ (∀ o v, u ≠ .frz o v) := by
  obtain ⟨n, hn⟩ := List.mem_iff_getElem?.mp e
  have l : n < G.length := by
    rw [← h.len]
    exact (List.getElem?_eq_some_iff.mp hn).1
  obtain ⟨l1, r⟩ := h.of n a _ hn (List.getElem?_eq_getElem l)
  exact r.there l1
theorem RH.nmem {G : Hs} (h : RH K H μ G) {p : Addr} (hp : H p = none) : some p ∉ μ := fun z => by
  obtain ⟨u, hu, _⟩ := h.mem z
  rw [hp] at hu
  cases hu
/-- something new that the numbers do not tell -/
theorem upd_ex {p a : Addr} {ho : HO} (h : upd H p ho a = none) : H a = none := by
  by_cases z : a = p
  · subst z; rw [upd_same] at h; cases h
  · rw [upd_ne z] at h; exact h
theorem Gr.new {p : Addr} {ho : HO} (hp : H p = none) : Gr H μ (upd H p ho) μ :=
  ⟨Nat.le_refl _, fun _ _ _ e => e, fun n a l e => (by rw [List.getElem?_eq_none l] at e; cases e), fun b u e _ => (by rw [upd_ne (ne_of_none e hp)]; exact e), fun b vs e => (by rw [upd_ne (ne_of_none e hp)]; exact e), fun b o u e => (by rw [upd_ne (ne_of_none e hp)]; exact e), fun a => upd_ex⟩
theorem RH.new {G : Hs} (h : RH K H μ G) {p : Addr} {ho : HO} (hp : H p = none) : RH K (upd H p ho) μ G := by
  refine ⟨h.len, h.nd, fun n a o e1 e2 => ?_, h.no⟩
  obtain ⟨l, r⟩ := h.of n a o e1 e2
  obtain ⟨u, hu, _⟩ := r.there l
  exact ⟨l, r.gr (Gr.new hp) (upd_ne (ne_of_none hu hp))⟩
/-- a new numbered object -/
theorem Gr.alloc {p : Addr} {ho : HO} (hp : H p = none) : Gr H μ (upd H p ho) (μ ++ [some p]) :=
  ⟨by simp, fun n a l e => (by rw [List.getElem?_append_left l] at e; exact e), fun n a l e => (by
    rw [List.getElem?_append_right l] at e
    cases k : n - μ.length with
    | zero => rw [k] at e; simp at e; rw [← e]; exact hp
    | succ m => rw [k] at e; simp at e), (Gr.new (μ := μ) hp).keep, (Gr.new (μ := μ) hp).tup, (Gr.new (μ := μ) hp).frz, (Gr.new (μ := μ) hp).ex⟩
theorem get_app1 {α : Type} {l : List α} {x y : α} {n : Nat} (e : (l ++ [x])[n]? = some y) : l[n]? = some y ∨ (n = l.length ∧ y = x) := by
  by_cases h : n < l.length
  · rw [List.getElem?_append_left h] at e
    exact .inl e
  · rw [List.getElem?_append_right (by omega)] at e
    cases k : n - l.length with
    | zero => rw [k] at e; simp at e; exact .inr ⟨by omega, e.symm⟩
    | succ m => rw [k] at e; simp at e
theorem RH.alloc {G : Hs} (h : RH K H μ G) {p : Addr} {ho : HO} {o : AO} (hp : H p = none) (r : RO K (upd H p ho) (μ ++ [some p]) p o) (l : o ≠ .gone := by intro h; cases h) : RH K (upd H p ho) (μ ++ [some p]) (G ++ [o]) := by
  have hpm := h.nmem hp
  have hpn : ∀ n, μ[n]? ≠ some (some p) := fun n e => hpm (List.mem_of_getElem? e)
  have hl := h.len
  refine ⟨by simp [h.len], fun n m a e1 e2 => ?_, fun n a o' e1 e2 => ?_, fun n e => ?_⟩
  · rcases get_app1 e1 with e1 | ⟨e1, z1⟩ <;> rcases get_app1 e2 with e2 | ⟨e2, z2⟩
    · exact h.nd n m a e1 e2
    · cases z2; exact absurd e1 (hpn n)
    · cases z1; exact absurd e2 (hpn m)
    · omega
  · rcases get_app1 e1 with e1 | ⟨e1, z1⟩
    · have hn : n < μ.length := (List.getElem?_eq_some_iff.mp e1).1
      rw [List.getElem?_append_left (by omega)] at e2
      obtain ⟨l', r'⟩ := h.of n a o' e1 e2
      obtain ⟨u, hu, _⟩ := r'.there l'
      exact ⟨l', r'.gr (Gr.alloc hp) (upd_ne (ne_of_none hu hp))⟩
    · cases z1
      rename_i e1n
      rw [e1n, hl] at e2
      simp at e2
      subst e2
      exact ⟨l, r⟩
  · rcases get_app1 e with e | ⟨e, z⟩
    · have := h.no n e
      rw [List.getElem?_append_left (List.getElem?_eq_some_iff.mp this).1]
      exact this
    · cases z
theorem RH.fresh {G : Hs} (h : RH K H μ G) (p : Addr) : Num (μ ++ [some p]) G.length p := by
  refine ⟨by simp [h.len], fun a' e => ?_⟩
  rw [← h.len] at e
  simp at e
  exact e.symm
/-- a numbered object is changed -/
theorem Gr.put {G : Hs} (h : RH K H μ G) {n : Nat} {a : Addr} {ho : HO} {o0 : AO} (e0 : Num μ n a) (q0 : G[n]? = some o0) (l0 : o0 ≠ .gone := by intro h; cases h) : Gr H μ (upd H a ho) μ := by
  have e := h.lv e0 q0 l0
  obtain ⟨u, hu, nt, nf⟩ := h.mem (List.mem_of_getElem? e)
  refine ⟨Nat.le_refl _, fun _ _ _ e => e, fun n a l e => (by rw [List.getElem?_eq_none l] at e; cases e), fun b u' q nm => ?_, fun b vs q => ?_, fun b o v q => ?_, fun a => upd_ex⟩
  · by_cases z : b = a
    · subst z
      exact absurd (List.mem_of_getElem? e) nm
    · rw [upd_ne z]
      exact q
  · by_cases z : b = a
    · subst z
      rw [hu] at q
      exact absurd (Option.some.inj q) (nt vs)
    · rw [upd_ne z]
      exact q
  · by_cases z : b = a
    · subst z
      rw [hu] at q
      exact absurd (Option.some.inj q) (nf o v)
    · rw [upd_ne z]
      exact q
theorem RH.put {G : Hs} (h : RH K H μ G) {n : Nat} {a : Addr} {ho : HO} {o o0 : AO} (e0 : Num μ n a) (q0 : G[n]? = some o0) (r : RO K (upd H a ho) μ a o) (l0 : o0 ≠ .gone := by intro h; cases h) (l : o ≠ .gone := by intro h; cases h) : RH K (upd H a ho) μ (G.set n o) := by
  have e := h.lv e0 q0 l0
  refine ⟨by simp [h.len], h.nd, fun m b o' e1 e2 => ?_, fun m e1 => ?_⟩
  · by_cases hm : n = m
    · subst hm
      rw [e] at e1
      cases e1
      rw [List.getElem?_set_self (List.getElem?_eq_some_iff.mp q0).1] at e2
      cases e2
      exact ⟨l, r⟩
    · rw [List.getElem?_set_ne hm] at e2
      obtain ⟨l', r'⟩ := h.of m b o' e1 e2
      refine ⟨l', r'.gr (Gr.put h e0 q0 l0) (upd_ne fun z => hm ?_)⟩
      subst z
      exact h.nd n m b e e1
  · have hm : n ≠ m := fun z => by subst z; rw [e] at e1; cases e1
    rw [List.getElem?_set_ne hm]
    exact h.no m e1
/-- a number goes: what it numbered stays as it is -/
theorem Gr.fz {n : Nat} : Gr H μ H (μ.set n none) := by
  refine ⟨by simp, fun m a l e => ?_, fun m a l e => ?_, fun _ _ h _ => h, fun _ _ h => h, fun _ _ _ h => h, fun _ h => h⟩
  · by_cases z : n = m
    · subst z; rw [List.getElem?_set_self l] at e; cases e
    · rw [List.getElem?_set_ne z] at e; exact e
  · rw [List.getElem?_eq_none (by simpa using l)] at e; cases e
theorem RH.fz {G : Hs} (h : RH K H μ G) {n : Nat} : RH K H (μ.set n none) (G.set n .gone) := by
  have hl := h.len
  refine ⟨by simp [h.len], fun i j a e1 e2 => ?_, fun i a o e1 e2 => ?_, fun i e => ?_⟩
  · have k : ∀ i, (μ.set n none)[i]? = some (some a) → μ[i]? = some (some a) := fun i e => by
      by_cases z : n = i
      · subst z
        by_cases q : n < μ.length
        · rw [List.getElem?_set_self q] at e; cases e
        · rw [List.getElem?_eq_none (by simp; omega)] at e; cases e
      · rw [List.getElem?_set_ne z] at e; exact e
    exact h.nd i j a (k i e1) (k j e2)
  · by_cases z : n = i
    · subst z
      by_cases q : n < μ.length
      · rw [List.getElem?_set_self q] at e1; cases e1
      · rw [List.getElem?_eq_none (by simp; omega)] at e1; cases e1
    · rw [List.getElem?_set_ne z] at e1 e2
      obtain ⟨l, r⟩ := h.of i a o e1 e2
      exact ⟨l, r.gr Gr.fz rfl⟩
  · by_cases z : n = i
    · subst z
      by_cases q : n < μ.length
      · rw [List.getElem?_set_self (by omega)]
      · rw [List.getElem?_eq_none (by simp; omega)] at e; cases e
    · rw [List.getElem?_set_ne z] at e
      rw [List.getElem?_set_ne z]
      exact h.no i e
theorem RH.fr {G : Hs} (h : RH K H μ G) {n : Nat} {a : Addr} (e : μ[n]? = some (some a)) : some a ∉ μ.set n none := fun m => by
  obtain ⟨i, hi⟩ := List.mem_iff_getElem?.mp m
  by_cases z : n = i
  · subst z
    rw [List.getElem?_set_self (List.getElem?_eq_some_iff.mp e).1] at hi
    cases hi
  · rw [List.getElem?_set_ne z] at hi
    exact z (h.nd n i a e hi)
/-- the value that a thing is from when its number goes -/
def fzV : AO → Option AV
  | .lst xs => some (.ls xs)
  | .ins c fs => some (.iv c (fs.map (·.1)) (fs.map (·.2)))
  | .dk kvs => some (.id (kvs.map (·.1)) (kvs.map (·.2)))
  | .dt kvs => some (.it (kvs.map (·.1)) (kvs.map (·.2)))
  | _ => none
theorem RO.fz {G : Hs} (h : RH K H μ G) {n : Nat} {a : Addr} {o : AO} {v : AV} (e0 : Num μ n a) (q : G[n]? = some o) (e : fzV o = some v) : RA K H (μ.set n none) v (.ref a) := by
  have l : o ≠ .gone := fun z => by subst z; cases e
  have ea := h.lv e0 q l
  have r := h.at_ n a o e0 q
  have f := h.fr ea
  cases o with
  | lst xs => cases e; obtain ⟨vs, h1, h2⟩ := r; exact .ls ⟨h1, f⟩ (h2.gr Gr.fz)
  | ins c fs => cases e; obtain ⟨dx, gs, h1, h2⟩ := r; exact .iv h1 f h2.1 (h2.2.gr Gr.fz)
  | dk kvs => cases e; obtain ⟨gs, h1, h2⟩ := r; exact .id h1 f h2.1 (h2.2.gr Gr.fz)
  | dt kvs => cases e; obtain ⟨gs, h1, h2⟩ := r; exact .it h1 f h2.1 (h2.2.gr Gr.fz)
  | xd fs => cases e
  | gone => cases e
end
end Vz
namespace Vz
open PySem L2
/-- the names' values as they stand -/
structure RS (K : PySem.W.Frag) (H : Hp) (μ : Mu) (ρ : En) (σ : St) : Prop where
  len : ρ.length = σ.length
  at_ : ∀ (i : Nat) (v : AV), ρ[i]? = some (some v) → ∃ x, σ[i]? = some (some x) ∧ RA K H μ v x
theorem RS.gr {K : PySem.W.Frag} {H H' : Hp} {μ μ' : Mu} {ρ : En} {σ : St} (g : Gr H μ H' μ') (h : RS K H μ ρ σ) : RS K H' μ' ρ σ :=
  ⟨h.len, fun i v e => let ⟨x, e1, r⟩ := h.at_ i v e; ⟨x, e1, r.gr g⟩⟩
theorem RS.set {K : PySem.W.Frag} {H : Hp} {μ : Mu} {ρ : En} {σ : St} (h : RS K H μ ρ σ) {i : Nat} {v : AV} {x : V} (r : RA K H μ v x) : RS K H μ (ρ.set i (some v)) (σ.set i (some x)) := by
  refine ⟨by simp [h.len], fun j w e => ?_⟩
  by_cases hj : i = j
  · subst hj
    by_cases hi : i < ρ.length
    · rw [List.getElem?_set_self hi] at e
      cases e
      exact ⟨x, by rw [List.getElem?_set_self (by rw [← h.len]; exact hi)], r⟩
    · rw [List.getElem?_eq_none (by simp; omega)] at e
      cases e
  · rw [List.getElem?_set_ne hj] at e
    obtain ⟨y, e1, r1⟩ := h.at_ j w e
    exact ⟨y, by rw [List.getElem?_set_ne hj]; exact e1, r1⟩
theorem RS.unset {K : PySem.W.Frag} {H : Hp} {μ : Mu} {ρ : En} {σ : St} (h : RS K H μ ρ σ) {i : Nat} {x : Option V} : RS K H μ (ρ.set i none) (σ.set i x) := by
  refine ⟨by simp [h.len], fun j w e => ?_⟩
  by_cases hj : i = j
  · subst hj
    by_cases hi : i < ρ.length
    · rw [List.getElem?_set_self hi] at e
      cases e
    · rw [List.getElem?_eq_none (by simp; omega)] at e
      cases e
  · rw [List.getElem?_set_ne hj] at e
    obtain ⟨y, e1, r1⟩ := h.at_ j w e
    exact ⟨y, by rw [List.getElem?_set_ne hj]; exact e1, r1⟩
/-- fewer are known -/
theorem RS.less {K : PySem.W.Frag} {H : Hp} {μ : Mu} {ρ : En} {σ σ' : St} (h : RS K H μ ρ σ) {i : Nat} (e : σ'.set i none = σ.set i none) (hn : σ'.length = σ.length) : RS K H μ (ρ.set i none) σ' := by
  refine ⟨by simp [h.len, hn], fun j w q => ?_⟩
  by_cases hj : i = j
  · subst hj
    by_cases hi : i < ρ.length
    · rw [List.getElem?_set_self hi] at q
      cases q
    · rw [List.getElem?_eq_none (by simp; omega)] at q
      cases q
  · rw [List.getElem?_set_ne hj] at q
    obtain ⟨y, e1, r1⟩ := h.at_ j w q
    refine ⟨y, ?_, r1⟩
    have e2 : (σ'.set i none)[j]? = (σ.set i none)[j]? := by rw [e]
    rw [List.getElem?_set_ne hj, List.getElem?_set_ne hj] at e2
    rw [e2]
    exact e1
abbrev Rel (α β : Type) := Hp → Mu → α → β → Prop
/-- where an exception's own dict stands -/
def RD (K : PySem.W.Frag) (H : Hp) (μ : Mu) (d : XP) : Option Addr → Prop
  | none => d = ([], [])
  | some a => ∃ gs : List (Str × V), H a = some (.xd gs) ∧ some a ∉ μ ∧ d.1 = gs.map (·.1) ∧ RAs K H μ d.2 (gs.map (·.2))
theorem RD.gr {K : PySem.W.Frag} {H H' : Hp} {μ μ' : Mu} (g : Gr H μ H' μ') {d : XP} : ∀ {a : Option Addr}, RD K H μ d a → RD K H' μ' d a
  | none, h => h
  | some _, ⟨gs, h, n, e, r⟩ => ⟨gs, g.keep _ _ h n, g.fr h n, e, r.gr g⟩
/-- the wish of an exception -/
def Exw (K : PySem.W.Frag) (W : WX) (σ : St) (H : Hp) (μ : Mu) (c : Str) (d : XP) (G : Hs) : Prop :=
  ∀ H' μ' dd, Gr H μ H' μ' → RH K H' μ' G → RD K H' μ' d dd → W (.ref (ga K c)) dd σ H'
def Aft {α β : Type} (K : PySem.W.Frag) (rel : Rel α β) (H : Hp) (μ : Mu) (v : α) (G : Hs) (Q : β → Hp → Prop) : Prop :=
  ∀ H' μ' x, Gr H μ H' μ' → RH K H' μ' G → rel H' μ' v x → Q x H'
def Po {α β : Type} (K : PySem.W.Frag) (rel : Rel α β) (W : WX) (σ : St) (H : Hp) (μ : Mu) (r : R α) (Q : β → Hp → Prop) : Prop :=
  match r with
  | .ok v G => Aft K rel H μ v G Q
  | .exc c d G => Exw K W σ H μ c d G
  | .stuck => False
def tG {α β : Type} (K : PySem.W.Frag) (rel : Rel α β) (W : WX) (m : En → Hs → R α) : St → Hp → (β → Hp → Prop) → Prop :=
  fun σ H Q => ∃ ρ μ G, RS K H μ ρ σ ∧ RH K H μ G ∧ Po K rel W σ H μ (m ρ G) Q
section
variable {α β γ δ : Type} {K : PySem.W.Frag} {rel : Rel α β} {rel' : Rel γ δ} {W : WX} {σ : St} {H H1 : Hp} {μ μ1 : Mu} {G : Hs} {ρ : En}
theorem Exw.gr {c : Str} {d : XP} (g : Gr H μ H1 μ1) (h : Exw K W σ H μ c d G) : Exw K W σ H1 μ1 c d G := fun H' μ' dd g' hr hd => h H' μ' dd (g.trans g') hr hd
theorem Po.gr {r : R α} {Q : β → Hp → Prop} (g : Gr H μ H1 μ1) (h : Po K rel W σ H μ r Q) : Po K rel W σ H1 μ1 r Q := by
  cases r with
  | ok v G => exact fun H' μ' x g' hr hv => h H' μ' x (g.trans g') hr hv
  | exc c d G => exact Exw.gr g h
  | stuck => exact h
/-- one behind the other -/
def R.bind (r : R α) (k : α → Hs → R γ) : R γ := match r with
  | .ok v G => k v G
  | .exc c d G => .exc c d G
  | .stuck => .stuck
@[simp] theorem R.bind_ok (v : α) (G : Hs) (k : α → Hs → R γ) : (R.ok v G).bind k = k v G := rfl
@[simp] theorem R.bind_exc (c : Str) (d : XP) (G : Hs) (k : α → Hs → R γ) : (R.exc c d G).bind k = .exc c d G := rfl
@[simp] theorem R.bind_stuck (k : α → Hs → R γ) : (R.stuck).bind k = .stuck := rfl
theorem tG.bind {m : En → Hs → R α} {k : α → Hs → R γ} {Q : δ → Hp → Prop} {Q1 : β → Hp → Prop} (hσ : RS K H μ ρ σ) (hG : RH K H μ G) (h : Po K rel' W σ H μ ((m ρ G).bind k) Q)
    (n : ∀ v G1 H1 μ1 x, Gr H μ H1 μ1 → RS K H1 μ1 ρ σ → RH K H1 μ1 G1 → rel H1 μ1 v x → Po K rel' W σ H1 μ1 (k v G1) Q → Q1 x H1) : tG K rel W m σ H Q1 := by
  refine ⟨ρ, μ, G, hσ, hG, ?_⟩
  cases e : m ρ G with
  | stuck => rw [e] at h; exact h
  | exc c d G' => rw [e] at h; exact h
  | ok v G1 =>
    rw [e] at h
    exact fun H1 μ1 x g hr hv => n v G1 H1 μ1 x g (hσ.gr g) hr hv (h.gr g)
theorem tG.of {m : En → Hs → R α} {Q : β → Hp → Prop} (hσ : RS K H μ ρ σ) (hG : RH K H μ G) (h : Po K rel W σ H μ (m ρ G) Q) : tG K rel W m σ H Q := ⟨ρ, μ, G, hσ, hG, h⟩
end
abbrev rA (K : PySem.W.Frag) : Rel AV V := RA K
abbrev rAs (K : PySem.W.Frag) : Rel (List AV) (List V) := RAs K
abbrev rB : Rel Bool Bool := fun _ _ a b => a = b
abbrev ME := En → Hs → R AV
abbrev MEs := En → Hs → R (List AV)
abbrev MB := En → Hs → R Bool
abbrev MS := En → Hs → SR
/-- the expression e computes m -/
def SE (X : Cx) (W : WX) (e : Expr) (m : ME) : Prop := PE X e (tG X.K (rA X.K) W m)
def SA (X : Cx) (W : WX) (es : List Expr) (m : MEs) : Prop := PA X es (tG X.K (rAs X.K) W m)
def ST (X : Cx) (W : WX) (e : Expr) (m : MB) : Prop := PT X e (tG X.K rB W m)
def SW (X : Cx) (W : WX) (e : Expr) (m : MB) : Prop := PW X e (tG X.K rB W m)
def PoS (K : PySem.W.Frag) (W : WX) (D : Ends) (H : Hp) (μ : Mu) (r : SR) : Prop :=
  match r with
  | .nx ρ G => ∀ H' μ' σ', Gr H μ H' μ' → RH K H' μ' G → RS K H' μ' ρ σ' → D.nx σ' H'
  | .rt v G => ∀ H' μ' x, Gr H μ H' μ' → RH K H' μ' G → RA K H' μ' v x → D.rt x H'
  | .bk ρ G => ∀ H' μ' σ', Gr H μ H' μ' → RH K H' μ' G → RS K H' μ' ρ σ' → D.bk σ' H'
  | .ct ρ G => ∀ H' μ' σ', Gr H μ H' μ' → RH K H' μ' G → RS K H' μ' ρ σ' → D.ct σ' H'
  | .exc c d ρ G => ∀ H' μ' σ' dd, Gr H μ H' μ' → RH K H' μ' G → RS K H' μ' ρ σ' → RD K H' μ' d dd → W (.ref (ga K c)) dd σ' H'
  | .stuck => False
def tS (K : PySem.W.Frag) (W : WX) (m : MS) : TS := fun D σ H => ∃ ρ μ G, RS K H μ ρ σ ∧ RH K H μ G ∧ PoS K W D H μ (m ρ G)
def SS (X : Cx) (W : WX) (s : Stmt) (m : MS) : Prop := PS X s (tS X.K W m)
def SSs (X : Cx) (W : WX) (s : List Stmt) (m : MS) : Prop := PSs X s (tS X.K W m)
theorem PE.imp {X : Cx} {e : Expr} {t t' : TE} (h : PE X e t) (i : ∀ σ H Q, t' σ H Q → t σ H Q) : PE X e t' := ⟨fun pins s σ H Q I w => h.run pins s σ H Q I (i σ H Q w)⟩
theorem PT.imp {X : Cx} {e : Expr} {t t' : TT} (h : PT X e t) (i : ∀ σ H Q, t' σ H Q → t σ H Q) : PT X e t' := ⟨fun pins s σ H Q I w => h.run pins s σ H Q I (i σ H Q w)⟩
theorem PW.imp {X : Cx} {e : Expr} {t t' : TT} (h : PW X e t) (i : ∀ σ H Q, t' σ H Q → t σ H Q) : PW X e t' := ⟨fun wh pins s σ H Q I w => h.run wh pins s σ H Q I (i σ H Q w)⟩
theorem PA.imp {X : Cx} {e : List Expr} {t t' : TA} (h : PA X e t) (i : ∀ σ H Q, t' σ H Q → t σ H Q) : PA X e t' := ⟨fun p pins s σ H Q I w => h.run p pins s σ H Q I (i σ H Q w)⟩
theorem PS.imp {X : Cx} {e : Stmt} {t t' : TS} (h : PS X e t) (i : ∀ D σ H, t' D σ H → t D σ H) : PS X e t' := ⟨fun pins s σ H D I w => h.run pins s σ H D I (i D σ H w)⟩
theorem PSs.imp {X : Cx} {e : List Stmt} {t t' : TS} (h : PSs X e t) (i : ∀ D σ H, t' D σ H → t D σ H) : PSs X e t' := ⟨fun pins s σ H D I w => h.run pins s σ H D I (i D σ H w)⟩
section
variable {X : Cx} {W : WX} {a b c e : Expr} {es : List Expr} {ma mb mc : ME} {ms : MEs} {pos : Pos}
def mVar (i : Nat) : ME := fun ρ G => match ρ[i]? with
  | some (some v) => .ok v G
  | _ => .stuck
def mC (v : AV) : ME := fun _ G => .ok v G
theorem Po.now {α β : Type} {K : PySem.W.Frag} {rel : Rel α β} {σ : St} {H : Hp} {μ : Mu} {G : Hs} {v : α} {x : β} {Q : β → Hp → Prop} (h : Po K rel W σ H μ (.ok v G) Q) (hG : RH K H μ G) (r : rel H μ v x) : Q x H :=
  h H μ x (Gr.refl _ _) hG r
theorem se_var {i : Nat} {x : Str} (h : PE X (.Name x pos) (tVar i)) : SE X W (.Name x pos) (mVar i) := by
  refine PE.imp h fun σ H Q ⟨ρ, μ, G, hσ, hG, h⟩ => ?_
  unfold mVar at h
  cases e : ρ[i]? with
  | none => rw [e] at h; exact h.elim
  | some o =>
    cases o with
    | none => rw [e] at h; exact h.elim
    | some v =>
      rw [e] at h
      obtain ⟨y, e1, r⟩ := hσ.at_ i v e
      exact ⟨y, e1, h.now hG r⟩
theorem se_c {v : AV} {x : V} (h : PE X e (tC x)) (r : ∀ H μ, RA X.K H μ v x) : SE X W e (mC v) :=
  PE.imp h fun σ H Q ⟨ρ, μ, G, hσ, hG, h⟩ => h.now hG (r H μ)
theorem se_int {i : Int} {j : Nat} : SE X W (.Constant (.int i) j pos) (mC (.int i)) := se_c pe_int fun _ _ => .int i
theorem se_bl {i : Bool} {j : Nat} : SE X W (.Constant (.bool i) j pos) (mC (.bl i)) := se_c pe_bl fun _ _ => .bl i
theorem se_non {j : Nat} : SE X W (.Constant .none j pos) (mC .non) := se_c pe_non fun _ _ => .non
theorem se_str {i : Str} {j : Nat} : SE X W (.Constant (.str i) j pos) (mC (.str i)) := se_c pe_str fun _ _ => .str i
def Op2 (K : PySem.W.Frag) (r : R2) (f : AV → AV → Hs → R AV) : Prop := ∀ (W : WX) σ H μ G v w x y Q, RH K H μ G → RA K H μ v x → RA K H μ w y → Po K (rA K) W σ H μ (f v w G) Q → r x y H Q
def m2 (f : AV → AV → Hs → R AV) (ma mb : ME) : ME := fun ρ G => (ma ρ G).bind fun v G1 => (mb ρ G1).bind fun w G2 => f v w G2
theorem op2_go {r : R2} {f : AV → AV → Hs → R AV} (hf : Op2 X.K r f) {σ : St} {H : Hp} {Q : VK} (h : tG X.K (rA X.K) W (m2 f ma mb) σ H Q) : tOp r (tG X.K (rA X.K) W ma) (tG X.K (rA X.K) W mb) σ H Q := by
  obtain ⟨ρ, μ, G, hσ, hG, h⟩ := h
  exact tG.bind hσ hG h fun v G1 H1 μ1 x g1 hσ1 hG1 rv h1 => tG.bind hσ1 hG1 h1 fun w G2 H2 μ2 y g2 hσ2 hG2 rw' h2 => hf W σ H2 μ2 G2 v w x y Q hG2 (rv.gr g2) rw' h2
theorem se_bin {op : Operator} {r : R2} {f : AV → AV → Hs → R AV} (ho : OpR X (binaryOp op) r) (hf : Op2 X.K r f) (ha : SE X W a ma) (hb : SE X W b mb) : SE X W (.BinOp a op b pos) (m2 f ma mb) :=
  PE.imp (pe_op ho ha hb) fun σ H Q h => op2_go hf h
theorem se_cmp {op : CmpOp} {r : R2} {f : AV → AV → Hs → R AV} (ho : OpR X (compareOp op) r) (hf : Op2 X.K r f) (ha : SE X W a ma) (hb : SE X W b mb) (hm : behindInMarks op b = false) : SE X W (.Compare a [op] [b] pos) (m2 f ma mb) :=
  PE.imp (pe_cmpR ho ha hb hm) fun σ H Q h => op2_go hf h
/-- a bool's own value -/
def asB (r : R AV) : R Bool := match r with
  | .ok (.bl b) G => .ok b G
  | .ok _ _ => .stuck
  | .exc c d G => .exc c d G
  | .stuck => .stuck
@[simp] theorem asB_ok (b : Bool) (G : Hs) : asB (.ok (.bl b) G) = .ok b G := rfl
def mTest (m : ME) : MB := fun ρ G => asB (m ρ G)
theorem test_po {K : PySem.W.Frag} {σ : St} {H : Hp} {μ : Mu} {r : R AV} {Q : Bool → Hp → Prop} (h : Po K rB W σ H μ (asB r) Q) : Po K (rA K) W σ H μ r (fun x H' => ∃ k, x = .bl k ∧ Q k H') := by
  cases r with
  | stuck => exact h
  | exc c d G => exact h
  | ok v G =>
    cases v with
    | bl b =>
      intro H' μ' x g hG r
      cases r
      exact ⟨b, rfl, h H' μ' b g hG rfl⟩
    | _ => exact h.elim
theorem test_go {m : ME} {σ : St} {H : Hp} {Q : Bool → Hp → Prop} (h : tG X.K rB W (mTest m) σ H Q) : tTest (tG X.K (rA X.K) W m) σ H Q := by
  obtain ⟨ρ, μ, G, hσ, hG, h⟩ := h
  exact ⟨ρ, μ, G, hσ, hG, test_po h⟩
theorem st_cmp {op : CmpOp} {r : R2} {f : AV → AV → Hs → R AV} (ho : OpR X (compareOp op) r) (hf : Op2 X.K r f) (ha : SE X W a ma) (hb : SE X W b mb) (hm : behindInMarks op b = false) : ST X W (.Compare a [op] [b] pos) (mTest (m2 f ma mb)) :=
  PT.imp (pt_cmpR ho ha hb hm) fun σ H Q h => by
    have h1 := test_go h
    exact op2_go hf h1
/-- a op1 b op2 c -/
def mChain (f g : AV → AV → Hs → R AV) (ma mb mc : ME) : ME := fun ρ G => (ma ρ G).bind fun v G1 => (mb ρ G1).bind fun w G2 => (asB (f v w G2)).bind fun k G3 => if k = true then (mc ρ G3).bind fun u G4 => g w u G4 else .ok (.bl false) G3
theorem chain_go {r r' : R2} {f g : AV → AV → Hs → R AV} (hf : Op2 X.K r f) (hg : Op2 X.K r' g) {σ : St} {H : Hp} {Q : VK} (h : tG X.K (rA X.K) W (mChain f g ma mb mc) σ H Q) : tChain r r' (tG X.K (rA X.K) W ma) (tG X.K (rA X.K) W mb) (tG X.K (rA X.K) W mc) σ H Q := by
  obtain ⟨ρ, μ, G, hσ, hG, h⟩ := h
  refine tG.bind hσ hG h fun v G1 H1 μ1 x g1 hσ1 hG1 rv h1 => tG.bind hσ1 hG1 h1 fun w G2 H2 μ2 y g2 hσ2 hG2 rw' h2 => ?_
  refine hf W σ H2 μ2 G2 v w x y _ hG2 (rv.gr g2) rw' (test_po ?_)
  cases e : asB (f v w G2) with
  | stuck => rw [e] at h2; exact h2
  | exc c d G' => rw [e] at h2; exact h2
  | ok k G3 =>
    rw [e] at h2
    intro H3 μ3 k' g3 hG3 ek
    have ek : k = k' := ek
    subst ek
    have h3 := Po.gr g3 h2
    cases k with
    | false =>
      refine iteF ?_
      have h3 : Po X.K (rA X.K) W σ H3 μ3 (.ok (.bl false) G3) Q := h3
      exact h3.now hG3 (.bl false)
    | true =>
      refine iteT ?_
      have h3 : Po X.K (rA X.K) W σ H3 μ3 ((mc ρ G3).bind fun u G4 => g w u G4) Q := h3
      exact tG.bind (hσ2.gr g3) hG3 h3 fun u G4 H4 μ4 z g4 hσ4 hG4 rz h4 => hg W σ H4 μ4 G4 w u y z Q hG4 ((rw'.gr g3).gr g4) rz h4
theorem st_chain {op op' : CmpOp} {r r' : R2} {f g : AV → AV → Hs → R AV} (ho : OpR X (compareOp op) r) (ho' : OpR X (compareOp op') r') (hf : Op2 X.K r f) (hg : Op2 X.K r' g) (ha : SE X W a ma) (hb : SE X W b mb) (hc : SE X W c mc)
    (hm : lastMarks [op, op'] [b, c] = false) : ST X W (.Compare a [op, op'] [b, c] pos) (mTest (mChain f g ma mb mc)) :=
  PT.imp (pt_chain ho ho' ha hb hc hm) fun σ H Q h => by
    have h1 := test_go h
    exact chain_go hf hg h1
end
end Vz
namespace Vz
open PySem L2
abbrev szl : Nat := sizeLine
/-- a list's items; a tuple's -/
def lstOf (G : Hs) : AV → Option (List AV)
  | .lk xs => some xs
  | .ls xs => some xs
  | .ref n => match G[n]? with
    | some (.lst xs) => some xs
    | _ => none
  | _ => none
def tupOf : AV → Option (List AV)
  | .tup xs => some xs
  | .con xs => some xs
  | _ => none
def seqOf (G : Hs) (v : AV) : Option (List AV) := match tupOf v with
  | some xs => some xs
  | none => lstOf G v
section
variable {K : PySem.W.Frag} {H : Hp} {μ : Mu} {G : Hs} {v w : AV} {x y : V} {xs ys : List AV}
theorem lstOf_ok (hG : RH K H μ G) (r : RA K H μ v x) (e : lstOf G v = some xs) : ∃ a vs, x = .ref a ∧ SqL K H a vs ∧ RAs K H μ xs vs := by
  cases r with
  | lk h rs =>
    cases e
    exact ⟨_, _, rfl, h.sq, rs⟩
  | ls h rs =>
    cases e
    exact ⟨_, _, rfl, h.sq, rs⟩
  | ref h =>
    rename_i n a
    obtain ⟨o, ho, ro⟩ := hG.obj h
    simp only [lstOf, ho] at e
    cases o with
    | lst zs =>
      cases e
      obtain ⟨vs, h1, h2⟩ := ro
      exact ⟨_, vs, rfl, SqL.of h1, h2⟩
    | _ => cases e
  | _ => cases e
theorem tupOf_ok (r : RA K H μ v x) (e : tupOf v = some xs) : ∃ a vs, x = .ref a ∧ SqT K H a vs ∧ RAs K H μ xs vs := by
  cases r with
  | tup h rs =>
    cases e
    exact ⟨_, _, rfl, SqT.of h, rs⟩
  | con h rs =>
    cases e
    exact ⟨_, _, rfl, h.sq, rs⟩
  | _ => cases e
theorem seqOf_ok (hG : RH K H μ G) (r : RA K H μ v x) (e : seqOf G v = some xs) : ∃ a vs, x = .ref a ∧ (SqL K H a vs ∨ SqT K H a vs) ∧ RAs K H μ xs vs := by
  unfold seqOf at e
  cases h : tupOf v with
  | some zs =>
    rw [h] at e
    cases e
    obtain ⟨a, vs, h1, h2, h3⟩ := tupOf_ok r h
    exact ⟨a, vs, h1, .inr h2, h3⟩
  | none =>
    rw [h] at e
    obtain ⟨a, vs, h1, h2, h3⟩ := lstOf_ok hG r e
    exact ⟨a, vs, h1, .inl h2, h3⟩
end
def fI2 (g : Int → Int → Option Int) : AV → AV → Hs → R AV
  | .int i, .int j, G => match g i j with
    | some k => .ok (.int k) G
    | none => .stuck
  | _, _, _ => .stuck
/-- a rule for ints under a condition -/
theorem op2_int {K : PySem.W.Frag} {C : Int → Int → Prop} {g : Int → Int → V} {f : Int → Int → Option Int} (h : ∀ i j k, f i j = some k → C i j ∧ g i j = .int k) : Op2 K (rI C g) (fI2 f) := by
  intro W σ H μ G v w x y Q hG rv rw' q
  cases rv with
  | int i =>
    cases rw' with
    | int j =>
      simp only [fI2] at q
      cases e : f i j with
      | none => rw [e] at q; exact q.elim
      | some k =>
        rw [e] at q
        obtain ⟨c, eg⟩ := h i j k e
        exact ⟨i, j, rfl, rfl, c, by rw [eg]; exact q.now hG (.int k)⟩
    | _ => exact q.elim
  | _ => exact q.elim
theorem op2_int0 {K : PySem.W.Frag} {g : Int → Int → V} {f : Int → Int → Int} (h : ∀ i j, g i j = .int (f i j)) : Op2 K (rI0 g) (fI2 fun i j => some (f i j)) := by
  intro W σ H μ G v w x y Q hG rv rw' q
  cases rv with
  | int i =>
    cases rw' with
    | int j => exact ⟨i, j, rfl, rfl, by rw [h]; exact Po.now (v := AV.int (f i j)) q hG (.int _)⟩
    | _ => exact q.elim
  | _ => exact q.elim
abbrev fSub : AV → AV → Hs → R AV := fI2 fun i j => some (i - j)
theorem op2_sub {K : PySem.W.Frag} : Op2 K (rI0 fun i j => .int (i - j)) fSub := op2_int0 fun _ _ => rfl
abbrev fMod : AV → AV → Hs → R AV := fI2 fun i j => if 0 < j then some (i % j) else none
theorem op2_mod {K : PySem.W.Frag} : Op2 K (rI (fun _ j => 0 < j) fun i j => .int (i % j)) fMod := op2_int fun i j k e => by
  by_cases h : 0 < j
  · rw [if_pos h] at e
    cases e
    exact ⟨h, rfl⟩
  · rw [if_neg h] at e
    cases e
/-- // by a positive number below 2 ^ 9000 -/
abbrev fDiv : AV → AV → Hs → R AV := fI2 fun i j => if 0 < j ∧ j.natAbs.log2 < 9000 then some (i / j) else none
theorem op2_div {K : PySem.W.Frag} : Op2 K (rI CDivW fun i j => .int (i / j)) fDiv := op2_int fun i j k e => by
  by_cases h : 0 < j ∧ j.natAbs.log2 < 9000
  · rw [if_pos h] at e
    cases e
    exact ⟨h, rfl⟩
  · rw [if_neg h] at e
    cases e
abbrev fPow : AV → AV → Hs → R AV := fI2 fun i j => if 0 ≤ j ∧ j ≤ 1000000 ∧ i.natAbs < 2 ^ 64 then some (i ^ j.toNat) else none
theorem op2_pow {K : PySem.W.Frag} : Op2 K (rI CPow fun i j => .int (i ^ j.toNat)) fPow := op2_int fun i j k e => by
  by_cases h : 0 ≤ j ∧ j ≤ 1000000 ∧ i.natAbs < 2 ^ 64
  · rw [if_pos h] at e
    cases e
    exact ⟨h, rfl⟩
  · rw [if_neg h] at e
    cases e
/-- + -/
def fAdd : AV → AV → Hs → R AV
  | .int i, .int j, G => .ok (.int (i + j)) G
  | .str a, .str b, G => if a.length + b.length ≤ szl then .ok (.str (a ++ b)) G else .stuck
  | .ref m, .ref n, G => match G[m]?, G[n]? with
    | some (.lst xs), some (.lst ys) => if xs.length + ys.length ≤ szl then .ok (.ref G.length) (G ++ [.lst (xs ++ ys)]) else .stuck
    | _, _ => .stuck
  | v, w, G => match tupOf v, tupOf w with
    | some xs, some ys => if xs.length + ys.length ≤ szl then (if xs.isEmpty then .ok w G else if ys.isEmpty then .ok v G else .ok (.tup (xs ++ ys)) G) else .stuck
    | _, _ => .stuck
def rAddA (K : PySem.W.Frag) : R2 := fun x y H Q => (rI0 (fun i j => .int (i + j)) x y H Q ∨ (∃ i j, x = .str i ∧ y = .str j ∧ i.length + j.length ≤ sizeLine ∧ Q (.str (i ++ j)) H)) ∨ (rCat x y H Q ∨ rCatA K x y H Q)
theorem op_addA {X : Cx} : OpR X (binaryOp .Add) (rAddA X.K) := (op_add.or op_add_str).or (op_cat.or op_catA)
theorem fAdd_tup {v w : AV} {xs ys : List AV} (hv : tupOf v = some xs) (hw : tupOf w = some ys) (G : Hs) : fAdd v w G = if xs.length + ys.length ≤ szl then (if xs.isEmpty then .ok w G else if ys.isEmpty then .ok v G else .ok (.tup (xs ++ ys)) G) else .stuck := by
  cases v <;> first | (cases hv; done) | (cases hv; cases w <;> first | (cases hw; done) | (cases hw; rfl))
theorem fAdd_no {v w : AV} {xs : List AV} (hv : tupOf v = some xs) (hw : tupOf w = none) (G : Hs) : fAdd v w G = .stuck := by
  cases v <;> first | (cases hv; done) | (cases hv; cases w <;> first | (cases hw; done) | (cases hw; rfl))
theorem op2_tup {K : PySem.W.Frag} {W : WX} {σ : St} {H : Hp} {μ : Mu} {G : Hs} {v w : AV} {x y : V} {xs ys : List AV} {Q : VK} (hG : RH K H μ G) (rv : RA K H μ v x) (rw' : RA K H μ w y) (hv : tupOf v = some xs) (hw : tupOf w = some ys)
    (q : Po K (rA K) W σ H μ (fAdd v w G) Q) : rCatA K x y H Q := by
  rw [fAdd_tup hv hw] at q
  obtain ⟨a, vs, rfl, hs, rs⟩ := tupOf_ok rv hv
  obtain ⟨b, ws, rfl, hs2, rs2⟩ := tupOf_ok rw' hw
  by_cases hz : xs.length + ys.length ≤ szl
  · rw [if_pos hz] at q
    refine ⟨a, b, vs, ws, rfl, rfl, hs, hs2, by rw [← rs.length, ← rs2.length]; exact hz, fun e => ?_, fun e1 e2 => ?_, fun e1 e2 p hp => ?_⟩
    · subst e
      cases rs
      exact Po.now (v := w) q hG rw'
    · subst e2
      cases rs2
      cases rs with
      | nil => exact absurd rfl e1
      | cons r t => exact Po.now (v := v) q hG rv
    · cases rs with
      | nil => exact absurd rfl e1
      | cons r t =>
        cases rs2 with
        | nil => exact absurd rfl e2
        | cons r' t' =>
          exact q _ μ _ (Gr.new hp) (hG.new hp) (.tup upd_same (((RAs.cons r t).app (.cons r' t')).gr (Gr.new hp)))
  · rw [if_neg hz] at q
    exact q.elim
theorem op2_add {K : PySem.W.Frag} : Op2 K (rAddA K) fAdd := by
  intro W σ H μ G v w x y Q hG rv rw' q
  cases h1 : tupOf v with
  | some xs =>
    cases h2 : tupOf w with
    | some ys => exact .inr (.inr (op2_tup hG rv rw' h1 h2 q))
    | none =>
      rw [fAdd_no h1 h2] at q
      exact q.elim
  | none =>
    cases rv with
    | int i =>
      cases rw' with
      | int j => exact .inl (.inl ⟨i, j, rfl, rfl, Po.now (v := AV.int (i + j)) q hG (.int _)⟩)
      | _ => exact q.elim
    | str i =>
      cases rw' with
      | str j =>
        simp only [fAdd] at q
        by_cases hz : i.length + j.length ≤ szl
        · rw [if_pos hz] at q
          exact .inl (.inr ⟨i, j, rfl, rfl, hz, Po.now (v := AV.str (i ++ j)) q hG (.str _)⟩)
        · rw [if_neg hz] at q
          exact q.elim
      | _ => exact q.elim
    | ref h =>
      rename_i m a
      cases rw' with
      | ref h' =>
        rename_i n b
        obtain ⟨o, ho, ro⟩ := hG.obj h
        obtain ⟨o', ho', ro'⟩ := hG.obj h'
        simp only [fAdd, ho, ho'] at q
        cases o with
        | lst xs =>
          cases o' with
          | lst ys =>
            simp only at q
            obtain ⟨vs, h1, h2⟩ := ro
            obtain ⟨ws, h3, h4⟩ := ro'
            by_cases hz : xs.length + ys.length ≤ szl
            · rw [if_pos hz] at q
              refine .inr (.inl ⟨a, b, vs, ws, rfl, rfl, h1, h3, by rw [← h2.length, ← h4.length]; exact hz, fun p hp => ?_⟩)
              have g : Gr H μ (upd H p (.lst (vs ++ ws))) (μ ++ [some p]) := Gr.alloc hp
              exact q _ _ _ g (hG.alloc hp ⟨_, upd_same, (h2.app h4).gr g⟩) (.ref (hG.fresh p))
            · rw [if_neg hz] at q
              exact q.elim
          | _ => exact q.elim
        | _ => exact q.elim
      | _ => exact q.elim
    | tup h r => cases h1
    | con h r => cases h1
    | _ => cases w <;> exact q.elim
/-- * -/
def fMul : AV → AV → Hs → R AV
  | .int i, .int j, G => if i.natAbs.log2 + j.natAbs.log2 < 1000000 then .ok (.int (i * j)) G else .stuck
  | .ref m, .int k, G => match G[m]? with
    | some (.lst xs) => if -(2 ^ 63) ≤ k ∧ k < 2 ^ 63 ∧ xs.length * k.toNat ≤ szl then .ok (.ref G.length) (G ++ [.lst (List.replicate k.toNat xs).flatten]) else .stuck
    | _ => .stuck
  | _, _, _ => .stuck
theorem RAs.rep {K : PySem.W.Frag} {H : Hp} {μ : Mu} {xs : List AV} {vs : List V} (h : RAs K H μ xs vs) : ∀ k : Nat, RAs K H μ (List.replicate k xs).flatten (List.replicate k vs).flatten
  | 0 => .nil
  | k + 1 => by
    rw [List.replicate_succ, List.replicate_succ, List.flatten_cons, List.flatten_cons]
    exact h.app (RAs.rep h k)
def rMulA (K : PySem.W.Frag) : R2 := fun x y H Q => rI CMulW (fun i j => .int (i * j)) x y H Q ∨ rRep x y H Q
theorem op_mulA {X : Cx} : OpR X (binaryOp .Mult) (rMulA X.K) := op_mulW.or op_rep
theorem op2_mul {K : PySem.W.Frag} : Op2 K (rMulA K) fMul := by
  intro W σ H μ G v w x y Q hG rv rw' q
  cases rv with
  | int i =>
    cases rw' with
    | int j =>
      simp only [fMul] at q
      by_cases hz : i.natAbs.log2 + j.natAbs.log2 < 1000000
      · rw [if_pos hz] at q
        exact .inl ⟨i, j, rfl, rfl, hz, Po.now (v := AV.int (i * j)) q hG (.int _)⟩
      · rw [if_neg hz] at q
        exact q.elim
    | _ => exact q.elim
  | ref h =>
    rename_i m a
    cases rw' with
    | int k =>
      obtain ⟨o, ho, ro⟩ := hG.obj h
      simp only [fMul, ho] at q
      cases o with
      | lst xs =>
        simp only at q
        obtain ⟨vs, h1, h2⟩ := ro
        by_cases hz : -(2 ^ 63) ≤ k ∧ k < 2 ^ 63 ∧ xs.length * k.toNat ≤ szl
        · rw [if_pos hz] at q
          refine .inr ⟨a, k, vs, rfl, rfl, h1, hz.1, hz.2.1, by rw [← h2.length]; exact hz.2.2, fun p hp => ?_⟩
          have g : Gr H μ (upd H p (.lst (List.replicate k.toNat vs).flatten)) (μ ++ [some p]) := Gr.alloc hp
          exact q _ _ _ g (hG.alloc hp ⟨_, upd_same, (h2.rep _).gr g⟩) (.ref (hG.fresh p))
        · rw [if_neg hz] at q
          exact q.elim
      | _ => exact q.elim
    | _ => exact q.elim
  | _ => exact q.elim
def fCmpI (g : Int → Int → Bool) : AV → AV → Hs → R AV
  | .int i, .int j, G => .ok (.bl (g i j)) G
  | _, _, _ => .stuck
theorem op2_cmpI {K : PySem.W.Frag} {g : Int → Int → Bool} : Op2 K (rI0 fun i j => .bl (g i j)) (fCmpI g) := by
  intro W σ H μ G v w x y Q hG rv rw' q
  cases rv with
  | int i =>
    cases rw' with
    | int j => exact ⟨i, j, rfl, rfl, Po.now (v := AV.bl (g i j)) q hG (.bl _)⟩
    | _ => exact q.elim
  | _ => exact q.elim
abbrev fLt := fCmpI fun i j => decide (i < j)
abbrev fLe := fCmpI fun i j => decide (i ≤ j)
abbrev fGt := fCmpI fun i j => decide (j < i)
abbrev fGe := fCmpI fun i j => decide (j ≤ i)
def fIsN : AV → AV → Hs → R AV
  | .non, .non, G => .ok (.bl true) G
  | _, .non, G => .ok (.bl false) G
  | _, _, _ => .stuck
def fNotN : AV → AV → Hs → R AV
  | .non, .non, G => .ok (.bl false) G
  | _, .non, G => .ok (.bl true) G
  | _, _, _ => .stuck
theorem op2_isN {K : PySem.W.Frag} : Op2 K (fun x y H Q => y = .non ∧ Q (.bl (decide (x = .non))) H) fIsN := by
  intro W σ H μ G v w x y Q hG rv rw' q
  cases rw' with
  | non =>
    refine ⟨rfl, ?_⟩
    cases rv with
    | non => exact Po.now (v := AV.bl true) q hG (.bl _)
    | _ => exact Po.now (v := AV.bl false) q hG (.bl _)
  | _ => cases v <;> exact q.elim
theorem op2_notN {K : PySem.W.Frag} : Op2 K (fun x y H Q => y = .non ∧ Q (.bl (!decide (x = .non))) H) fNotN := by
  intro W σ H μ G v w x y Q hG rv rw' q
  cases rw' with
  | non =>
    refine ⟨rfl, ?_⟩
    cases rv with
    | non => exact Po.now (v := AV.bl false) q hG (.bl _)
    | _ => exact Po.now (v := AV.bl true) q hG (.bl _)
  | _ => cases v <;> exact q.elim
end Vz
namespace Vz
open PySem L2
def allS {α : Type} : List (Option α) → Option (List α)
  | [] => some []
  | none :: _ => none
  | some a :: r => match allS r with
    | some l => some (a :: l)
    | none => none
def dat : Nat → Hs → AV → Option PyData
  | 0, _, _ => none
  | n + 1, G, v => match v with
    | .non => some .none
    | .bl b => some (.bool b)
    | .int i => some (.int i)
    | .str s => some (.str s)
    | .tup xs => match allS (xs.map (dat n G)) with
      | some ds => some (.tuple ds)
      | none => none
    | .con xs => match allS (xs.map (dat n G)) with
      | some ds => some (.tuple ds)
      | none => none
    | .lk xs => match allS (xs.map (dat n G)) with
      | some ds => some (.list ds)
      | none => none
    | .ls xs => match allS (xs.map (dat n G)) with
      | some ds => some (.list ds)
      | none => none
    | .iv _ _ _ => none
    | .id _ _ => none
    | .it _ _ => none
    | .xv _ _ _ => none
    | .fd _ _ => none
    | .ref m => match G[m]? with
      | some (.lst xs) => match allS (xs.map (dat n G)) with
        | some ds => some (.list ds)
        | none => none
      | _ => none
section
variable {K : PySem.W.Frag} {H : Hp} {μ : Mu} {G : Hs}
theorem dats_ok {f : AV → Option PyData} (hf : ∀ v x d, RA K H μ v x → f v = some d → Dp K H x d) : ∀ {xs : List AV} {vs : List V} {ds : List PyData}, RAs K H μ xs vs → allS (xs.map f) = some ds → DpAll K H vs ds
  | _, _, _, .nil, e => by cases e; exact .nil
  | _, _, ds, .cons (x := x) (xs := xs) r t, e => by
    rw [List.map_cons] at e
    cases h : f x with
    | none => rw [h] at e; cases e
    | some d =>
      rw [h] at e
      cases h2 : allS (xs.map f) with
      | none => simp only [allS, h2] at e; cases e
      | some l =>
        simp only [allS, h2] at e
        cases e
        exact .cons (hf _ _ _ r h) (dats_ok hf t h2)
theorem dat_ok (hG : RH K H μ G) : ∀ (n : Nat) (v : AV) (x : V) (d : PyData), RA K H μ v x → dat n G v = some d → Dp K H x d
  | 0, _, _, _, _, e => by cases e
  | n + 1, v, x, d, r, e => by
    have ih := fun v x d => dat_ok hG n v x d
    cases r with
    | non => cases e; exact .non
    | bl b => cases e; exact .bl b
    | int b => cases e; exact .int b
    | str b => cases e; exact .str b
    | tup h rs =>
      rename_i a vs xs
      simp only [dat] at e
      cases h2 : allS (xs.map (dat n G)) with
      | none => rw [h2] at e; cases e
      | some l => rw [h2] at e; cases e; exact .tup (SqT.of h) (dats_ok ih rs h2)
    | con h rs =>
      rename_i a vs xs
      simp only [dat] at e
      cases h2 : allS (xs.map (dat n G)) with
      | none => rw [h2] at e; cases e
      | some l => rw [h2] at e; cases e; exact .tup h.sq (dats_ok ih rs h2)
    | lk h rs =>
      rename_i a vs xs
      simp only [dat] at e
      cases h2 : allS (xs.map (dat n G)) with
      | none => rw [h2] at e; cases e
      | some l => rw [h2] at e; cases e; exact .lst h.sq (dats_ok ih rs h2)
    | ls h rs =>
      rename_i a vs xs
      simp only [dat] at e
      cases h2 : allS (xs.map (dat n G)) with
      | none => rw [h2] at e; cases e
      | some l => rw [h2] at e; cases e; exact .lst h.sq (dats_ok ih rs h2)
    | iv _ _ _ _ => cases e
    | id _ _ _ _ => cases e
    | it _ _ _ _ => cases e
    | xv0 _ _ => cases e
    | xv _ _ _ _ _ _ => cases e
    | fd _ _ _ => cases e
    | ref h =>
      rename_i m a
      obtain ⟨o, ho, ro⟩ := hG.obj h
      simp only [dat, ho] at e
      cases o with
      | lst xs =>
        obtain ⟨vs, h1, rs⟩ := ro
        simp only at e
        cases h2 : allS (xs.map (dat n G)) with
        | none => rw [h2] at e; cases e
        | some l => rw [h2] at e; cases e; exact .lst (SqL.of h1) (dats_ok ih rs h2)
      | _ => cases e
end
def eqF (G : Hs) (v w : AV) : Option Bool := match dat 12 G v, dat 12 G w with
  | some d, some e => if SeqAt.shaped d = true ∧ SeqAt.shaped e = true then some (PyData.eqv d e) else none
  | _, _ => none
def eqB (G : Hs) : AV → AV → Option Bool
  | .int i, .int j => some (decide (i = j))
  | .str a, .str b => some (decide (a = b))
  | .bl a, .bl b => some (decide (a = b))
  | .non, .non => some true
  | v, w => eqF G v w
def fEq (v w : AV) (G : Hs) : R AV := match eqB G v w with
  | some b => .ok (.bl b) G
  | none => .stuck
def fNe (v w : AV) (G : Hs) : R AV := match eqB G v w with
  | some b => .ok (.bl (!b)) G
  | none => .stuck
theorem eqB_ok {K : PySem.W.Frag} {H : Hp} {μ : Mu} {G : Hs} {v w : AV} {x y : V} {b : Bool} (hG : RH K H μ G) (rv : RA K H μ v x) (rw' : RA K H μ w y) (e : eqB G v w = some b) :
    (scal x y = true ∧ b = decide (x = y)) ∨ ∃ d e, Dp K H x d ∧ Dp K H y e ∧ SeqAt.shaped d = true ∧ SeqAt.shaped e = true ∧ b = PyData.eqv d e := by
  have far : eqF G v w = some b → (scal x y = true ∧ b = decide (x = y)) ∨ ∃ d e, Dp K H x d ∧ Dp K H y e ∧ SeqAt.shaped d = true ∧ SeqAt.shaped e = true ∧ b = PyData.eqv d e := fun e => by
    unfold eqF at e
    cases h1 : dat 12 G v with
    | none => rw [h1] at e; cases e
    | some d =>
      cases h2 : dat 12 G w with
      | none => rw [h1, h2] at e; cases e
      | some d' =>
        rw [h1, h2] at e
        simp only at e
        by_cases hs : SeqAt.shaped d = true ∧ SeqAt.shaped d' = true
        · rw [if_pos hs] at e
          cases e
          exact .inr ⟨d, d', dat_ok hG 12 v x d rv h1, dat_ok hG 12 w y d' rw' h2, hs.1, hs.2, rfl⟩
        · rw [if_neg hs] at e
          cases e
  cases rv with
  | int i =>
    cases rw' with
    | int j =>
      cases e
      exact .inl ⟨rfl, by simp⟩
    | _ => exact far e
  | str i =>
    cases rw' with
    | str j =>
      cases e
      exact .inl ⟨rfl, by simp⟩
    | _ => exact far e
  | bl i =>
    cases rw' with
    | bl j =>
      cases e
      exact .inl ⟨rfl, by simp⟩
    | _ => exact far e
  | non =>
    cases rw' with
    | non =>
      cases e
      exact .inl ⟨rfl, by simp⟩
    | _ => exact far e
  | _ => cases rw' <;> exact far e
def rEqA (K : PySem.W.Frag) : R2 := fun x y H Q => rEq x y H Q ∨ rEqD K x y H Q
def rNeA (K : PySem.W.Frag) : R2 := fun x y H Q => rNe x y H Q ∨ rNeD K x y H Q
theorem op_eqA {X : Cx} (hu : X.A.units + 64 < cLine) : OpR X (compareOp .Eq) (rEqA X.K) := op_eq.or (op_eqD hu)
theorem op_neA {X : Cx} (hu : X.A.units + 64 < cLine) : OpR X (compareOp .NotEq) (rNeA X.K) := op_ne.or (op_neD hu)
theorem op2_eq {K : PySem.W.Frag} : Op2 K (rEqA K) fEq := by
  intro W σ H μ G v w x y Q hG rv rw' q
  unfold fEq at q
  cases e : eqB G v w with
  | none => rw [e] at q; exact q.elim
  | some b =>
    rw [e] at q
    have q' := Po.now (v := AV.bl b) q hG (.bl b)
    rcases eqB_ok hG rv rw' e with ⟨h1, h2⟩ | ⟨d, d', h1, h2, h3, h4, h5⟩
    · exact .inl ⟨h1, by rw [← h2]; exact q'⟩
    · exact .inr ⟨d, d', h1, h2, h3, h4, by rw [← h5]; exact q'⟩
theorem op2_ne {K : PySem.W.Frag} : Op2 K (rNeA K) fNe := by
  intro W σ H μ G v w x y Q hG rv rw' q
  unfold fNe at q
  cases e : eqB G v w with
  | none => rw [e] at q; exact q.elim
  | some b =>
    rw [e] at q
    have q' := Po.now (v := AV.bl (!b)) q hG (.bl _)
    rcases eqB_ok hG rv rw' e with ⟨h1, h2⟩ | ⟨d, d', h1, h2, h3, h4, h5⟩
    · exact .inl ⟨h1, by rw [← h2]; exact q'⟩
    · exact .inr ⟨d, d', h1, h2, h3, h4, by rw [← h5]; exact q'⟩
def flatA : AV → Bool
  | .non => true
  | .bl _ => true
  | .int _ => true
  | .str _ => true
  | _ => false
def eqA : AV → AV → Bool
  | .non, .non => true
  | .bl a, .bl b => a == b
  | .bl a, .int b => (if a then 1 else 0) == b
  | .int a, .bl b => a == (if b then 1 else 0)
  | .int a, .int b => a == b
  | .str a, .str b => a == b
  | _, _ => false
theorem flat_ok {K : PySem.W.Frag} {H : Hp} {μ : Mu} {v : AV} {x : V} (r : RA K H μ v x) : flatA v = flatV x := by cases r <;> rfl
theorem flats_ok {K : PySem.W.Frag} {H : Hp} {μ : Mu} : ∀ {xs : List AV} {vs : List V}, RAs K H μ xs vs → xs.all flatA = vs.all flatV
  | _, _, .nil => rfl
  | _, _, .cons r t => by rw [List.all_cons, List.all_cons, flat_ok r, flats_ok t]
theorem eqA_ok {K : PySem.W.Frag} {H : Hp} {μ : Mu} {v w : AV} {x y : V} (r : RA K H μ v x) (r' : RA K H μ w y) : eqA v w = eqV x y := by cases r <;> cases r' <;> rfl
theorem any_ok {K : PySem.W.Frag} {H : Hp} {μ : Mu} {v : AV} {x : V} (r : RA K H μ v x) : ∀ {xs : List AV} {vs : List V}, RAs K H μ xs vs → (xs.any fun y => eqA y v) = inV x vs
  | _, _, .nil => rfl
  | _, _, .cons r' t => by
    unfold inV
    rw [List.any_cons, List.any_cons, eqA_ok r' r, any_ok r t]
    rfl
/-- the answer of v in w -/
def inB (G : Hs) (v w : AV) : Option Bool := match w with
  | .str z => match v with
    | .str s => if s.cps.size = 1 then some (decide (s.cps.toList.headD 0 ∈ z.cps.toList)) else some (!(Builtin.Str.occurrences z s 0 z.length 1).isEmpty)
    | _ => none
  | w => match seqOf G w with
    | some xs => if flatA v = true ∧ xs.all flatA = true then some (xs.any fun y => eqA y v) else
      match lstOf G w, dat 12 G v, allS (xs.map (dat 12 G)) with
      | some _, some d, some ds => if SeqAt.shaped d = true ∧ SeqAt.shaped (.list ds) = true then some (ds.any fun z => PyData.eqv z d) else none
      | _, _, _ => none
    | none => none
def fIn (v w : AV) (G : Hs) : R AV := match inB G v w with
  | some b => .ok (.bl b) G
  | none => .stuck
def fNin (v w : AV) (G : Hs) : R AV := match inB G v w with
  | some b => .ok (.bl (!b)) G
  | none => .stuck
abbrev rInS : R2 := fun x y H Q => ∃ i j, x = .str i ∧ y = .str j ∧ Q (.bl (!(Builtin.Str.occurrences j i 0 j.length 1).isEmpty)) H
abbrev rInC : R2 := fun x y H Q => ∃ (c : Nat) (z : Str), x = .str ⟨#[c]⟩ ∧ y = .str z ∧ Q (.bl (decide (c ∈ z.cps.toList))) H
abbrev rNinS : R2 := fun x y H Q => ∃ i j, x = .str i ∧ y = .str j ∧ Q (.bl (!(!(Builtin.Str.occurrences j i 0 j.length 1).isEmpty))) H
abbrev rNinC : R2 := fun x y H Q => ∃ (c : Nat) (z : Str), x = .str ⟨#[c]⟩ ∧ y = .str z ∧ Q (.bl (!decide (c ∈ z.cps.toList))) H
def rInA (K : PySem.W.Frag) : R2 := fun x y H Q => (rInS x y H Q ∨ rInC x y H Q) ∨ (rIn K false x y H Q ∨ rInD K x y H Q)
def rNinA (K : PySem.W.Frag) : R2 := fun x y H Q => (rNinS x y H Q ∨ rNinC x y H Q) ∨ (rIn K true x y H Q ∨ rNotInD K x y H Q)
theorem op_inA {X : Cx} (hu : X.A.units + 65 < cLine) : OpR X (compareOp .In) (rInA X.K) := (op_in_str.or op_in_sign).or (op_in_seq.or (op_inD hu))
theorem op_ninA {X : Cx} (hu : X.A.units + 65 < cLine) : OpR X (compareOp .NotIn) (rNinA X.K) := (op_notin_str.or op_notIn_sign).or (op_notIn_seq.or (op_notInD hu))
theorem str1 {s : Str} (h : s.cps.size = 1) : s = ⟨#[s.cps.toList.headD 0]⟩ := by
  obtain ⟨⟨l⟩⟩ := s
  cases l with
  | nil => cases h
  | cons c r =>
    cases r with
    | nil => rfl
    | cons d r =>
      have h' : (c :: d :: r).length = 1 := h
      simp at h'
theorem inB_ok {K : PySem.W.Frag} {H : Hp} {μ : Mu} {G : Hs} {v w : AV} {x y : V} {b : Bool} (hG : RH K H μ G) (rv : RA K H μ v x) (rw' : RA K H μ w y) (e : inB G v w = some b) :
    ((∃ i j, x = .str i ∧ y = .str j ∧ b = !(Builtin.Str.occurrences j i 0 j.length 1).isEmpty) ∨ ∃ (c : Nat) (z : Str), x = .str ⟨#[c]⟩ ∧ y = .str z ∧ b = decide (c ∈ z.cps.toList)) ∨
    ((∃ p xs, y = .ref p ∧ (SqL K H p xs ∨ SqT K H p xs) ∧ flatV x = true ∧ xs.all flatV = true ∧ b = inV x xs) ∨ ∃ d ds, Dp K H x d ∧ Dp K H y (.list ds) ∧ SeqAt.shaped d = true ∧ SeqAt.shaped (.list ds) = true ∧ b = ds.any fun z => PyData.eqv z d) := by
  have far : (match seqOf G w with
    | some xs => if flatA v = true ∧ xs.all flatA = true then some (xs.any fun y => eqA y v) else
      match lstOf G w, dat 12 G v, allS (xs.map (dat 12 G)) with
      | some _, some d, some ds => if SeqAt.shaped d = true ∧ SeqAt.shaped (.list ds) = true then some (ds.any fun z => PyData.eqv z d) else none
      | _, _, _ => none
    | none => none) = some b → ((∃ p xs, y = .ref p ∧ (SqL K H p xs ∨ SqT K H p xs) ∧ flatV x = true ∧ xs.all flatV = true ∧ b = inV x xs) ∨ ∃ d ds, Dp K H x d ∧ Dp K H y (.list ds) ∧ SeqAt.shaped d = true ∧ SeqAt.shaped (.list ds) = true ∧ b = ds.any fun z => PyData.eqv z d) := fun e => by
    cases h : seqOf G w with
    | none => rw [h] at e; cases e
    | some xs =>
      rw [h] at e
      simp only at e
      by_cases hf : flatA v = true ∧ xs.all flatA = true
      · rw [if_pos hf] at e
        cases e
        obtain ⟨a, vs, rfl, hs, rs⟩ := seqOf_ok hG rw' h
        exact .inl ⟨a, vs, rfl, hs, by rw [← flat_ok rv]; exact hf.1, by rw [← flats_ok rs]; exact hf.2, any_ok rv rs⟩
      · rw [if_neg hf] at e
        cases h1 : lstOf G w with
        | none => rw [h1] at e; cases e
        | some ys =>
          cases h2 : dat 12 G v with
          | none => rw [h1, h2] at e; cases e
          | some d =>
            cases h3 : allS (xs.map (dat 12 G)) with
            | none => rw [h1, h2, h3] at e; cases e
            | some ds =>
              rw [h1, h2, h3] at e
              simp only at e
              by_cases hs : SeqAt.shaped d = true ∧ SeqAt.shaped (.list ds) = true
              · rw [if_pos hs] at e
                cases e
                obtain ⟨a, vs, rfl, hq, rs⟩ := lstOf_ok hG rw' h1
                have exy : xs = ys := by
                  unfold seqOf at h
                  cases ht : tupOf w with
                  | some zs => cases w <;> first | (cases ht; done) | (cases h1; done)
                  | none =>
                    rw [ht] at h
                    exact Option.some.inj (h.symm.trans h1)
                subst exy
                exact .inr ⟨d, ds, dat_ok hG 12 v x d rv h2, .lst hq (dats_ok (fun v x d => dat_ok hG 12 v x d) rs h3), hs.1, hs.2, rfl⟩
              · rw [if_neg hs] at e
                cases e
  cases rw' with
  | str z =>
    cases rv with
    | str s =>
      simp only [inB] at e
      by_cases h1 : s.cps.size = 1
      · rw [if_pos h1] at e
        cases e
        exact .inl (.inr ⟨_, z, congrArg V.str (str1 h1), rfl, rfl⟩)
      · rw [if_neg h1] at e
        cases e
        exact .inl (.inl ⟨s, z, rfl, rfl, rfl⟩)
    | _ => cases e
  | _ => exact .inr (far e)
theorem op2_in {K : PySem.W.Frag} : Op2 K (rInA K) fIn := by
  intro W σ H μ G v w x y Q hG rv rw' q
  unfold fIn at q
  cases e : inB G v w with
  | none => rw [e] at q; exact q.elim
  | some b =>
    rw [e] at q
    have q' := Po.now (v := AV.bl b) q hG (.bl b)
    rcases inB_ok hG rv rw' e with (⟨i, j, h1, h2, h3⟩ | ⟨i, j, h1, h2, h3⟩) | (⟨i, j, h1, h2, h3, h4, h5⟩ | ⟨i, j, h1, h2, h3, h4, h5⟩)
    · exact .inl (.inl ⟨i, j, h1, h2, by rw [← h3]; exact q'⟩)
    · exact .inl (.inr ⟨i, j, h1, h2, by rw [← h3]; exact q'⟩)
    · exact .inr (.inl ⟨i, j, h1, h2, h3, h4, by rw [if_neg Bool.false_ne_true, ← h5]; exact q'⟩)
    · exact .inr (.inr ⟨i, j, h1, h2, h3, h4, by rw [← h5]; exact q'⟩)
theorem op2_nin {K : PySem.W.Frag} : Op2 K (rNinA K) fNin := by
  intro W σ H μ G v w x y Q hG rv rw' q
  unfold fNin at q
  cases e : inB G v w with
  | none => rw [e] at q; exact q.elim
  | some b =>
    rw [e] at q
    have q' := Po.now (v := AV.bl (!b)) q hG (.bl _)
    rcases inB_ok hG rv rw' e with (⟨i, j, h1, h2, h3⟩ | ⟨i, j, h1, h2, h3⟩) | (⟨i, j, h1, h2, h3, h4, h5⟩ | ⟨i, j, h1, h2, h3, h4, h5⟩)
    · exact .inl (.inl ⟨i, j, h1, h2, by rw [← h3]; exact q'⟩)
    · exact .inl (.inr ⟨i, j, h1, h2, by rw [← h3]; exact q'⟩)
    · exact .inr (.inl ⟨i, j, h1, h2, h3, h4, by rw [if_pos rfl, ← h5]; exact q'⟩)
    · exact .inr (.inr ⟨i, j, h1, h2, h3, h4, by rw [← h5]; exact q'⟩)
end Vz
namespace Vz
open PySem L2
section
variable {X : Cx} {W : WX} {a b c e : Expr} {es rest : List Expr} {ma mb mc : ME} {ta tb tc : MB} {ms : MEs} {pos : Pos}
/-- a value's truth -/
def truB (G : Hs) : AV → Option Bool
  | .non => some false
  | .bl b => some b
  | .int i => some (i != 0)
  | .str s => if s.length ≤ szl then some ((s.length : Int) != 0) else none
  | .tup xs => some (!xs.isEmpty)
  | .con xs => some (!xs.isEmpty)
  | .lk xs => some (!xs.isEmpty)
  | .ls xs => some (!xs.isEmpty)
  | .iv _ _ _ => none
  | .id _ xs => some (!xs.isEmpty)
  | .it _ _ => none
  | .xv _ _ _ => none
  | .fd _ _ => none
  | .ref n => match G[n]? with
    | some (.lst xs) => some (!xs.isEmpty)
    | some (.dk xs) => some (!xs.isEmpty)
    | _ => none
def asT (r : R AV) : R Bool := match r with
  | .ok v G => match truB G v with
    | some b => .ok b G
    | none => .stuck
  | .exc c d G => .exc c d G
  | .stuck => .stuck
def mTru (m : ME) : MB := fun ρ G => asT (m ρ G)
theorem isEmpty_RAs {K : PySem.W.Frag} {H : Hp} {μ : Mu} : ∀ {xs : List AV} {vs : List V}, RAs K H μ xs vs → (!xs.isEmpty) = !vs.isEmpty
  | _, _, .nil => rfl
  | _, _, .cons _ _ => rfl
theorem isEmpty_RF {K : PySem.W.Frag} {H : Hp} {μ : Mu} {κ : Type} {xs : List (κ × AV)} {vs : List (κ × V)} (h : RF K H μ xs vs) : (!xs.isEmpty) = !vs.isEmpty := by
  have h1 := h.1
  cases xs <;> cases vs <;> first | rfl | (simp at h1)
theorem truB_ok {K : PySem.W.Frag} {H : Hp} {μ : Mu} {G : Hs} {v : AV} {x : V} {b : Bool} (hG : RH K H μ G) (r : RA K H μ v x) (e : truB G v = some b) : TruV K x H b := by
  cases r with
  | non => cases e; rfl
  | bl k => cases e; rfl
  | int i => cases e; rfl
  | str s =>
    simp only [truB] at e
    by_cases h : s.length ≤ szl
    · rw [if_pos h] at e
      cases e
      exact ⟨h, rfl⟩
    · rw [if_neg h] at e
      cases e
  | tup h rs => cases e; exact .inr (.inl ⟨_, SqT.of h, isEmpty_RAs rs⟩)
  | con h rs => cases e; exact .inr (.inl ⟨_, h.sq, isEmpty_RAs rs⟩)
  | lk h rs => cases e; exact .inl ⟨_, h.sq, isEmpty_RAs rs⟩
  | ls h rs => cases e; exact .inl ⟨_, h.sq, isEmpty_RAs rs⟩
  | iv _ _ _ _ => cases e
  | id h _ _ rs => cases e; exact .inr (.inr ⟨_, h, by rw [isEmpty_RAs rs]; cases (by assumption : List (Key × V)) <;> rfl⟩)
  | it _ _ _ _ => cases e
  | xv0 _ _ => cases e
  | xv _ _ _ _ _ _ => cases e
  | fd _ _ _ => cases e
  | ref h =>
    obtain ⟨o, ho, ro⟩ := hG.obj h
    simp only [truB, ho] at e
    cases o with
    | lst xs => cases e; obtain ⟨vs, h1, rs⟩ := ro; exact .inl ⟨vs, SqL.of h1, isEmpty_RAs rs⟩
    | dk xs => cases e; obtain ⟨ws, h1, rs⟩ := ro; exact .inr (.inr ⟨ws, h1, isEmpty_RF rs⟩)
    | _ => cases e
theorem st_tru (ha : SE X W a ma) (he : ∀ whole, isTrue a X.env whole = (do let v ← whole; standAt a.pos; holding [v] (truthy v))) : ST X W a (mTru ma) := by
  refine PT.imp (pt_truth ha he) fun σ H Q ⟨ρ, μ, G, hσ, hG, h⟩ => ⟨ρ, μ, G, hσ, hG, ?_⟩
  unfold mTru at h
  cases e : ma ρ G with
  | stuck => rw [e] at h; exact h
  | exc c d G' => rw [e] at h; exact h
  | ok v G1 =>
    rw [e] at h
    intro H1 μ1 x g hG1 r
    cases e2 : truB G1 v with
    | none => simp only [asT, e2] at h; exact h.elim
    | some b =>
      simp only [asT, e2] at h
      exact ⟨b, truB_ok hG1 r e2, h H1 μ1 b g hG1 rfl⟩
def mAnd (ta tb : MB) : MB := fun ρ G => (ta ρ G).bind fun k G1 => if k = true then tb ρ G1 else .ok false G1
def mOr (ta tb : MB) : MB := fun ρ G => (ta ρ G).bind fun k G1 => if k = true then .ok true G1 else tb ρ G1
def mNot (ta : MB) : MB := fun ρ G => (ta ρ G).bind fun k G1 => .ok (!k) G1
theorem sw_and1 (ha : ST X W a ta) : SW X W (.BoolOp .And [a] pos) ta := pw_and1 ha
theorem sw_or1 (ha : ST X W a ta) : SW X W (.BoolOp .Or [a] pos) ta := pw_or1 ha
theorem sw_and (ha : ST X W a ta) (hb : SW X W (.BoolOp .And (b :: rest) pos) tb) : SW X W (.BoolOp .And (a :: b :: rest) pos) (mAnd ta tb) := by
  refine PW.imp (pw_and ha hb) fun σ H Q ⟨ρ, μ, G, hσ, hG, h⟩ => tG.bind hσ hG h fun k G1 H1 μ1 k' g1 hσ1 hG1 ek h1 => ?_
  have ek : k = k' := ek
  subst ek
  cases k with
  | true => exact iteT ⟨ρ, μ1, G1, hσ1, hG1, h1⟩
  | false => exact iteF (Po.now (v := false) h1 hG1 rfl)
theorem sw_or (ha : ST X W a ta) (hb : SW X W (.BoolOp .Or (b :: rest) pos) tb) : SW X W (.BoolOp .Or (a :: b :: rest) pos) (mOr ta tb) := by
  refine PW.imp (pw_or ha hb) fun σ H Q ⟨ρ, μ, G, hσ, hG, h⟩ => tG.bind hσ hG h fun k G1 H1 μ1 k' g1 hσ1 hG1 ek h1 => ?_
  have ek : k = k' := ek
  subst ek
  cases k with
  | true => exact iteT (Po.now (v := true) h1 hG1 rfl)
  | false => exact iteF ⟨ρ, μ1, G1, hσ1, hG1, h1⟩
theorem sw_t (h : SW X W a ta) : ST X W a ta := PW.pt h
theorem st_not (ha : ST X W a ta) : ST X W (.UnaryOp .Not a pos) (mNot ta) := by
  refine PT.imp (pt_not ha) fun σ H Q ⟨ρ, μ, G, hσ, hG, h⟩ => tG.bind hσ hG h fun k G1 H1 μ1 k' g1 hσ1 hG1 ek h1 => ?_
  have ek : k = k' := ek
  subst ek
  exact Po.now (v := !k) h1 hG1 rfl
/-- and, or, not as values: of bools -/
def mAndV (ma mb : ME) : ME := fun ρ G => (asB (ma ρ G)).bind fun k G1 => if k = true then mb ρ G1 else .ok (.bl false) G1
def mOrV (ma mb : ME) : ME := fun ρ G => (asB (ma ρ G)).bind fun k G1 => if k = true then .ok (.bl true) G1 else mb ρ G1
def mNotV (ma : ME) : ME := fun ρ G => (asB (ma ρ G)).bind fun k G1 => .ok (.bl (!k)) G1
theorem tE_bool {K : PySem.W.Frag} {γ δ : Type} {rel' : Rel γ δ} {m : ME} {k : Bool → Hs → R γ} {ρ : En} {σ : St} {H : Hp} {μ : Mu} {G : Hs} {Q : δ → Hp → Prop} {Q1 : VK} (hσ : RS K H μ ρ σ) (hG : RH K H μ G)
    (h : Po K rel' W σ H μ ((asB (m ρ G)).bind k) Q) (n : ∀ b G1 H1 μ1, RS K H1 μ1 ρ σ → RH K H1 μ1 G1 → Po K rel' W σ H1 μ1 (k b G1) Q → Q1 (.bl b) H1) : tG K (rA K) W m σ H Q1 := by
  refine ⟨ρ, μ, G, hσ, hG, ?_⟩
  cases e : m ρ G with
  | stuck => rw [e] at h; exact h
  | exc c d G' => rw [e] at h; exact h
  | ok v G1 =>
    rw [e] at h
    cases v with
    | bl b =>
      intro H1 μ1 x g hG1 r
      cases r
      exact n b G1 H1 μ1 (hσ.gr g) hG1 (Po.gr g h)
    | _ => exact h.elim
theorem se_one {op : BoolOp} {m : ME} (h : SE X W a m) : SE X W (.BoolOp op [a] pos) m := pe_one h
theorem se_and (ha : SE X W a ma) (hb : SE X W (.BoolOp .And (b :: rest) pos) mb) : SE X W (.BoolOp .And (a :: b :: rest) pos) (mAndV ma mb) := by
  refine PE.imp (pe_and ha hb) fun σ H Q ⟨ρ, μ, G, hσ, hG, h⟩ => tE_bool hσ hG h fun k G1 H1 μ1 hσ1 hG1 h1 => ⟨k, rfl, ?_⟩
  cases k with
  | true => exact iteT ⟨ρ, μ1, G1, hσ1, hG1, h1⟩
  | false => exact iteF (Po.now (v := AV.bl false) h1 hG1 (.bl _))
theorem se_or (ha : SE X W a ma) (hb : SE X W (.BoolOp .Or (b :: rest) pos) mb) : SE X W (.BoolOp .Or (a :: b :: rest) pos) (mOrV ma mb) := by
  refine PE.imp (pe_or ha hb) fun σ H Q ⟨ρ, μ, G, hσ, hG, h⟩ => tE_bool hσ hG h fun k G1 H1 μ1 hσ1 hG1 h1 => ⟨k, rfl, ?_⟩
  cases k with
  | true => exact iteT (Po.now (v := AV.bl true) h1 hG1 (.bl _))
  | false => exact iteF ⟨ρ, μ1, G1, hσ1, hG1, h1⟩
theorem se_not (ha : SE X W a ma) : SE X W (.UnaryOp .Not a pos) (mNotV ma) :=
  PE.imp (pe_not ha) fun σ H Q ⟨ρ, μ, G, hσ, hG, h⟩ => tE_bool hσ hG h fun k G1 H1 μ1 hσ1 hG1 h1 => ⟨k, rfl, Po.now (v := AV.bl (!k)) h1 hG1 (.bl _)⟩
def mIte (tc : MB) (ma mb : ME) : ME := fun ρ G => (tc ρ G).bind fun k G1 => if k = true then ma ρ G1 else mb ρ G1
theorem se_ite (hc : ST X W c tc) (ha : SE X W a ma) (hb : SE X W b mb) : SE X W (.IfExp c a b pos) (mIte tc ma mb) := by
  refine PE.imp (pe_ifExp hc ha hb) fun σ H Q ⟨ρ, μ, G, hσ, hG, h⟩ => tG.bind hσ hG h fun k G1 H1 μ1 k' g1 hσ1 hG1 ek h1 => ?_
  have ek : k = k' := ek
  subst ek
  cases k with
  | true => exact iteT ⟨ρ, μ1, G1, hσ1, hG1, h1⟩
  | false => exact iteF ⟨ρ, μ1, G1, hσ1, hG1, h1⟩
def fNeg : AV → Hs → R AV
  | .int i, G => .ok (.int (-i)) G
  | _, _ => .stuck
def m1 (f : AV → Hs → R AV) (ma : ME) : ME := fun ρ G => (ma ρ G).bind fun v G1 => f v G1
theorem se_neg (ha : SE X W a ma) : SE X W (.UnaryOp .USub a pos) (m1 fNeg ma) := by
  refine PE.imp (pe_un un_neg ha) fun σ H Q ⟨ρ, μ, G, hσ, hG, h⟩ => tG.bind hσ hG h fun v G1 H1 μ1 x g1 hσ1 hG1 r h1 => ?_
  cases r with
  | int i => exact ⟨i, rfl, Po.now (v := AV.int (-i)) h1 hG1 (.int _)⟩
  | _ => exact h1.elim
def mNil : MEs := fun _ G => .ok [] G
def mCons (m : ME) (ms : MEs) : MEs := fun ρ G => (m ρ G).bind fun v G1 => (ms ρ G1).bind fun vs G2 => .ok (v :: vs) G2
theorem sa_nil : SA X W [] mNil := PA.imp pa_nil fun σ H Q ⟨ρ, μ, G, hσ, hG, h⟩ => Po.now (v := ([] : List AV)) h hG .nil
theorem sa_cons (ha : SE X W e ma) (hr : SA X W es ms) (hs : starEach (e :: es) X.env = (false, eval e X.env) :: starEach es X.env := by rfl) : SA X W (e :: es) (mCons ma ms) :=
  PA.imp (pa_cons ha hr hs) fun σ H Q ⟨ρ, μ, G, hσ, hG, h⟩ => tG.bind hσ hG h fun v G1 H1 μ1 x g1 hσ1 hG1 r h1 => tG.bind hσ1 hG1 h1 fun vs G2 H2 μ2 xs g2 hσ2 hG2 rs h2 =>
    Po.now (v := v :: vs) h2 hG2 (.cons (r.gr g2) rs)
def mTup (ms : MEs) : ME := fun ρ G => (ms ρ G).bind fun vs G1 => if vs.length ≤ szl then .ok (.tup vs) G1 else .stuck
def mLst (ms : MEs) : ME := fun ρ G => (ms ρ G).bind fun vs G1 => if vs.length ≤ szl then .ok (.ref G1.length) (G1 ++ [.lst vs]) else .stuck
theorem se_tup {k : Nat} (h : SA X W es ms) : SE X W (.Tuple es k pos) (mTup ms) := by
  refine PE.imp (pe_tup h) fun σ H Q ⟨ρ, μ, G, hσ, hG, h⟩ => tG.bind hσ hG h fun vs G1 H1 μ1 xs g1 hσ1 hG1 rs h1 => ?_
  by_cases hz : vs.length ≤ szl
  · simp only [if_pos hz] at h1
    exact ⟨by rw [← rs.length]; exact hz, fun p hp => h1 _ _ _ (Gr.new hp) (hG1.new hp) (.tup upd_same (rs.gr (Gr.new hp)))⟩
  · simp only [if_neg hz] at h1
    exact h1.elim
theorem se_lst (h : SA X W es ms) : SE X W (.List es pos) (mLst ms) := by
  refine PE.imp (pe_lst h) fun σ H Q ⟨ρ, μ, G, hσ, hG, h⟩ => tG.bind hσ hG h fun vs G1 H1 μ1 xs g1 hσ1 hG1 rs h1 => ?_
  by_cases hz : vs.length ≤ szl
  · simp only [if_pos hz] at h1
    exact ⟨by rw [← rs.length]; exact hz, fun p hp => h1 _ _ _ (Gr.alloc hp) (hG1.alloc hp ⟨_, upd_same, rs.gr (Gr.alloc hp)⟩) (.ref (hG1.fresh p))⟩
  · simp only [if_neg hz] at h1
    exact h1.elim
def fIx : AV → AV → Hs → R AV
  | .str s, .int i, G => if s.length ≤ szl then match atI s.cps.toList i with
      | some c => .ok (.str ⟨#[c]⟩) G
      | none => .stuck
    else .stuck
  | v, .int i, G => match seqOf G v with
    | some xs => match atI xs i with
      | some w => .ok w G
      | none => .stuck
    | none => .stuck
  | _, _, _ => .stuck
theorem atI_ok {K : PySem.W.Frag} {H : Hp} {μ : Mu} {xs : List AV} {vs : List V} {i : Int} {w : AV} (rs : RAs K H μ xs vs) (h : atI xs i = some w) : ∃ y, atI vs i = some y ∧ RA K H μ w y := by
  unfold atI at h ⊢
  rw [← rs.length]
  cases e : ixN xs.length i with
  | none => rw [e] at h; cases h
  | some j =>
    rw [e] at h
    exact rs.get' h
theorem fIx_seq {v : AV} {i : Int} {G : Hs} (h : ∀ s, v ≠ .str s) : fIx v (.int i) G = (match seqOf G v with
    | some xs => match atI xs i with
      | some w => .ok w G
      | none => .stuck
    | none => .stuck) := by
  cases v <;> first | rfl | exact absurd rfl (h _)
theorem op2_ix {K : PySem.W.Frag} : Op2 K (rIx K) fIx := by
  intro W σ H μ G v w x y Q hG rv rw' q
  cases rw' with
  | int i =>
    by_cases hs : ∃ s, v = .str s
    · obtain ⟨s, rfl⟩ := hs
      cases rv
      simp only [fIx] at q
      by_cases hz : s.length ≤ szl
      · rw [if_pos hz] at q
        cases e : atI s.cps.toList i with
        | none => rw [e] at q; exact q.elim
        | some c => rw [e] at q; exact .inr (.inr ⟨s, i, c, rfl, rfl, hz, e, Po.now (v := AV.str ⟨#[c]⟩) q hG (.str _)⟩)
      · rw [if_neg hz] at q
        exact q.elim
    · rw [fIx_seq fun s e => hs ⟨s, e⟩] at q
      cases e : seqOf G v with
      | none => rw [e] at q; exact q.elim
      | some xs =>
        rw [e] at q
        cases e2 : atI xs i with
        | none => simp only [e2] at q; exact q.elim
        | some u =>
          simp only [e2] at q
          obtain ⟨a, vs, rfl, h, rs⟩ := seqOf_ok hG rv e
          obtain ⟨z, h2, rz⟩ := atI_ok rs e2
          rcases h with h | h
          · exact .inl ⟨a, vs, i, z, rfl, rfl, h, h2, Po.now (v := u) q hG rz⟩
          · exact .inr (.inl ⟨a, vs, i, z, rfl, rfl, h, h2, Po.now (v := u) q hG rz⟩)
  | _ => cases v <;> exact q.elim
theorem se_ix (ha : SE X W a ma) (hb : SE X W b mb) (hs : PlainIx b) : SE X W (.Subscript a b pos) (m2 fIx ma mb) :=
  PE.imp (pe_ix ix_seq ha hb hs) fun σ H Q h => op2_go op2_ix h
def cutA (xs : List AV) (lo hi : Option Int) : List AV := (xs.drop (HT.sIx xs.length 0 lo)).take (HT.sIx xs.length xs.length hi - HT.sIx xs.length 0 lo)
def fSl (v : AV) (lo hi : Option Int) (G : Hs) : R AV := match v with
  | .str s => if s.length ≤ szl then .ok (.str (cutS s lo hi)) G else .stuck
  | v => match tupOf v with
    | some xs => if HT.sIx xs.length 0 lo = 0 ∧ HT.sIx xs.length xs.length hi = xs.length then .ok v G else .ok (.tup (cutA xs lo hi)) G
    | none => match lstOf G v with
      | some xs => .ok (.ref G.length) (G ++ [.lst (cutA xs lo hi)])
      | none => .stuck
abbrev MO := En → Hs → R (Option Int)
abbrev rOp : Rel (Option Int) (Option Int) := fun _ _ a b => a = b
def SO (X : Cx) (W : WX) (e : Option Expr) (m : MO) : Prop := PO X e (tG X.K rOp W m)
def mNone : MO := fun _ G => .ok none G
def mSome (m : ME) : MO := fun ρ G => (m ρ G).bind fun v G1 => match v with
  | .int i => .ok (some i) G1
  | _ => .stuck
theorem PO.imp {X : Cx} {e : Option Expr} {t t' : TO} (h : PO X e t) (i : ∀ σ H Q, t' σ H Q → t σ H Q) : PO X e t' := ⟨fun pins s σ H Q I w => h.run pins s σ H Q I (i σ H Q w)⟩
theorem so_none : SO X W none mNone := PO.imp po_none fun σ H Q ⟨ρ, μ, G, hσ, hG, h⟩ => Po.now (v := (none : Option Int)) h hG rfl
theorem so_some (ha : SE X W a ma) : SO X W (some a) (mSome ma) := by
  refine PO.imp (po_some ha) fun σ H Q ⟨ρ, μ, G, hσ, hG, h⟩ => tG.bind hσ hG h fun v G1 H1 μ1 x g1 hσ1 hG1 r h1 => ?_
  cases r with
  | int i => exact ⟨i, rfl, Po.now (v := some i) h1 hG1 rfl⟩
  | _ => exact h1.elim
def mSl (ma : ME) (ml mh : MO) : ME := fun ρ G => (ma ρ G).bind fun v G1 => (ml ρ G1).bind fun lo G2 => (mh ρ G2).bind fun hi G3 => fSl v lo hi G3
theorem cut_ok {K : PySem.W.Frag} {H : Hp} {μ : Mu} {xs : List AV} {vs : List V} (rs : RAs K H μ xs vs) (lo hi : Option Int) : RAs K H μ (cutA xs lo hi) (cutV vs lo hi) := by
  unfold cutA cutV
  rw [rs.length]
  exact (rs.drop _).take _
theorem se_slice {lo hi : Option Expr} {ml mh : MO} {p2 : Pos} (ha : SE X W a ma) (hl : SO X W lo ml) (hh : SO X W hi mh) : SE X W (.Subscript a (.Slice lo hi none p2) pos) (mSl ma ml mh) := by
  refine PE.imp (pe_slice (sl_str.or (sl_tupA.or sl_list)) ha hl hh) fun σ H Q ⟨ρ, μ, G, hσ, hG, h⟩ => tG.bind hσ hG h fun v G1 H1 μ1 x g1 hσ1 hG1 r h1 =>
    tG.bind hσ1 hG1 h1 fun l G2 H2 μ2 l' g2 hσ2 hG2 el h2 => tG.bind hσ2 hG2 h2 fun u G3 H3 μ3 u' g3 hσ3 hG3 eu h3 => ?_
  have el : l = l' := el
  have eu : u = u' := eu
  subst el eu
  have r3 := (r.gr g2).gr g3
  have h3 : Po X.K (rA X.K) W σ H3 μ3 (fSl v l u G3) Q := h3
  have seq : (∀ s, v ≠ .str s) → rSlA X.K x l u H3 Q ∨ rSlL X.K x l u H3 Q := fun hs => by
    have e0 : fSl v l u G3 = (match tupOf v with
      | some xs => if HT.sIx xs.length 0 l = 0 ∧ HT.sIx xs.length xs.length u = xs.length then .ok v G3 else .ok (.tup (cutA xs l u)) G3
      | none => match lstOf G3 v with
        | some xs => .ok (.ref G3.length) (G3 ++ [.lst (cutA xs l u)])
        | none => .stuck) := by cases v <;> first | rfl | exact absurd rfl (hs _)
    rw [e0] at h3
    cases e : tupOf v with
    | some xs =>
      rw [e] at h3
      obtain ⟨p, vs, rfl, hq, rs⟩ := tupOf_ok r3 e
      refine .inl ⟨p, vs, rfl, hq, fun hw => ?_, fun hw q hqn => ?_⟩
      · rw [← rs.length] at hw
        simp only [if_pos hw] at h3
        exact Po.now (v := v) h3 hG3 r3
      · rw [← rs.length] at hw
        simp only [if_neg hw] at h3
        exact h3 _ _ _ (Gr.new hqn) (hG3.new hqn) (.tup upd_same ((cut_ok rs l u).gr (Gr.new hqn)))
    | none =>
      rw [e] at h3
      cases e2 : lstOf G3 v with
      | none => simp only [e2] at h3; exact h3.elim
      | some xs =>
        simp only [e2] at h3
        obtain ⟨p, vs, rfl, hq, rs⟩ := lstOf_ok hG3 r3 e2
        exact .inr ⟨p, vs, rfl, hq, fun q hqn => h3 _ _ _ (Gr.alloc hqn) (hG3.alloc hqn ⟨_, upd_same, (cut_ok rs l u).gr (Gr.alloc hqn)⟩) (.ref (hG3.fresh q))⟩
  by_cases hs : ∃ s, v = .str s
  · obtain ⟨s, rfl⟩ := hs
    cases r3
    simp only [fSl] at h3
    by_cases hz : s.length ≤ szl
    · rw [if_pos hz] at h3
      exact .inl ⟨s, rfl, hz, Po.now (v := AV.str (cutS s l u)) h3 hG3 (.str _)⟩
    · rw [if_neg hz] at h3
      exact h3.elim
  · exact .inr (seq fun s e => hs ⟨s, e⟩)
/-- the class c has no attribute f of its own, and is read as plain classes are -/
def attrOk (f : Str) (c : Str) (K : PySem.W.Frag) : Bool := (He.Fa.cls c).ok K && (He.Fa.noat c f).ok K
theorem attrOk_ok {K : PySem.W.Frag} {c f : Str} (h : attrOk f c K = true) : Cls K (ga K c) ∧ NoAttr K (ga K c) f := by
  obtain ⟨h1, h2⟩ := He.ba h
  exact ⟨He.cls_ok h1, He.noat_ok h2⟩
def fFld (cs : List Str) (f : Str) : AV → Hs → R AV
  | .ref n, G => match G[n]? with
    | some (.ins c fs) => if c ∈ cs then match fs.lookup f with
        | some v => .ok v G
        | none => .stuck
      else .stuck
    | _ => .stuck
  | .iv c ns xs, G => if c ∈ cs then match (ns.zip xs).lookup f with
    | some v => .ok v G
    | none => .stuck
    else .stuck
  | _, _ => .stuck
theorem RF.zip {K : PySem.W.Frag} {H : Hp} {μ : Mu} {κ : Type} {ns : List κ} {gs : List (κ × V)} {xs : List AV} (e : ns = gs.map (·.1)) (h : RAs K H μ xs (gs.map (·.2))) : RF K H μ (ns.zip xs) gs := by
  have hl : ns.length = xs.length := by
    rw [h.length, e, List.length_map, List.length_map]
  unfold RF
  rw [List.map_fst_zip (Nat.le_of_eq hl), List.map_snd_zip (Nat.le_of_eq hl.symm)]
  exact ⟨e, h⟩
theorem RF.look {K : PySem.W.Frag} {H : Hp} {μ : Mu} {κ : Type} [BEq κ] {f : κ} : ∀ {fs : List (κ × AV)} {gs : List (κ × V)}, RF K H μ fs gs → ∀ {v : AV}, fs.lookup f = some v → ∃ x, gs.lookup f = some x ∧ RA K H μ v x
  | [], _, _, _, e => by cases e
  | (k, v0) :: fs, [], h, _, _ => by cases h.1
  | (k, v0) :: fs, (k', x0) :: gs, h, v, e => by
    obtain ⟨h1, h2⟩ := h
    rw [List.map_cons, List.map_cons] at h1
    injection h1 with e1 e2
    have e1 : k = k' := e1
    subst e1
    cases h2 with
    | cons r t =>
      rw [List.lookup_cons] at e ⊢
      cases q : (f == k) with
      | true =>
        rw [q] at e
        cases e
        exact ⟨x0, rfl, r⟩
      | false =>
        rw [q] at e
        exact RF.look ⟨e2, t⟩ e
theorem se_fld {f : Str} (cs : List Str) (hc : (cs.all fun c => attrOk f c X.K) = true) (ha : SE X W a ma) (hb : attributeBase a f X.env (eval a X.env) = eval a X.env) : SE X W (.Attribute a f pos) (m1 (fFld cs f) ma) := by
  refine PE.imp (pe_fld ha hb) fun σ H Q ⟨ρ, μ, G, hσ, hG, h⟩ => tG.bind hσ hG h fun v G1 H1 μ1 x g1 hσ1 hG1 r h1 => ?_
  cases r with
  | ref h2 =>
    obtain ⟨o, ho, ro⟩ := hG1.obj h2
    simp only [fFld, ho] at h1
    cases o with
    | ins c fs =>
      simp only at h1
      by_cases hm : c ∈ cs
      · rw [if_pos hm] at h1
        cases e : fs.lookup f with
        | none => rw [e] at h1; exact h1.elim
        | some u =>
          rw [e] at h1
          obtain ⟨dx, gs, h3, h4⟩ := ro
          obtain ⟨z, h5, rz⟩ := h4.look e
          obtain ⟨k1, k2⟩ := attrOk_ok (List.all_eq_true.mp hc c hm)
          exact ⟨_, _, dx, gs, z, rfl, h3, k1, k2, h5, Po.now (v := u) h1 hG1 rz⟩
      · rw [if_neg hm] at h1
        exact h1.elim
    | _ => exact h1.elim
  | iv h3 h3n en rs =>
    rename_i a dx c ns gs xs
    simp only [fFld] at h1
    by_cases hm : c ∈ cs
    · rw [if_pos hm] at h1
      cases e : (ns.zip xs).lookup f with
      | none => rw [e] at h1; exact h1.elim
      | some u =>
        rw [e] at h1
        obtain ⟨z, h5, rz⟩ := (RF.zip en rs).look e
        obtain ⟨k1, k2⟩ := attrOk_ok (List.all_eq_true.mp hc c hm)
        exact ⟨_, _, dx, gs, z, rfl, h3, k1, k2, h5, Po.now (v := u) h1 hG1 rz⟩
    · rw [if_neg hm] at h1
      exact h1.elim
  | _ => exact h1.elim
end
end Vz
namespace Vz
open PySem PySem.Spec L2 PyProof.Rows
/-- room, and no repr under way -/
structure Rm (k : Nat) (A : Around) : Prop where
  rm : Room k A
  gd : A.guards = some []
section
variable {k j : Nat} {A : Around}
theorem Rm.mono (r : Rm k A) (h : j ≤ k) : Rm j A := ⟨r.rm.mono h, r.gd⟩
theorem Rm.deeper (r : Rm (k + 1) A) (env : Env) : Rm k (A.deeper env) := ⟨r.rm.deeper env, r.gd⟩
theorem Rm.in1 (r : Rm (k + 1) A) : Rm k A.in1 := ⟨r.rm.in1, r.gd⟩
theorem Rm.make (r : Rm (k + 1) A) (C : Addr) (us : List Value) (kw : List (Str × Value)) : Rm k (A.under (.builtin "type.__call__" ⟨.ref C :: us, kw⟩)) :=
  ⟨r.rm.make C us kw, by first | exact r.gd | (show pushGuards _ A.guards = _; rw [pushGuards_eq, r.gd]; rfl)⟩
theorem Rm.uu (r : Rm k A) (n : Nat) (hn : n ≤ 199) : A.units + n < cLine := by
  have := r.rm.un
  omega
end
/-- a def keeps its promise, at every such place -/
structure FnG (P : Program) (w : World) (K : PySem.W.Frag) (mg : Str → Option Value) (base : Heap) (CX : CXT) (k : Nat) (f : Addr) (fd : FuncData) (ps : List Str) (sp : Sp) : Prop where
  len : ∀ vs H Q E, sp vs H Q E → vs.length = ps.length
  run : ∀ (A : Around) (out : List Env) (s : Shared) (H : Hp) (ar : Args) (us : List Value) (vs : List V) (Q : VK) (E : XK), Rm k A → Env0 P w K mg base A out s H → BindsTo s fd ar (ps.zip us) → Vals vs us → sp vs H Q E →
    codeAny (model P w) A (.call (.ref f) ar) (CR CX out P w H s Q E) s
section
variable {CX : CXT} {P : Program} {w : World} {K : PySem.W.Frag} {mg : Str → Option Value} {base : Heap} {k : Nat} {f : Addr} {fd : FuncData} {N ps : List Str} {sp : Sp}
theorem FnG.mono {j : Nat} (F : FnG P w K mg base CX j f fd ps sp) (h : j ≤ k) : FnG P w K mg base CX k f fd ps sp :=
  ⟨F.len, fun A out s H ar us vs Q E hr => F.run A out s H ar us vs Q E (hr.mono h)⟩
theorem fnG_of {x qual : Str} {params : Arguments} {body : List Stmt} {scope : Scope} {dvs : List V} {kws : List (Str × V)} (D : FunD K x qual params body scope dvs kws f fd) (S : FnScope N ps scope) (len : ∀ vs H Q E, sp vs H Q E → vs.length = ps.length)
    (go : ∀ (cdv : Value) (A : Around) (out : List Env) (s : Shared) (H : Hp) (vs : List V) (Q : VK) (E : XK), Rm k (A.deeper (envOfC qual scope s.heap.objs.size f cdv)) → sp vs H Q E →
      ∃ t, PSs (cxOf CX P w K mg base N qual scope f cdv A out s H E) body t ∧ t { nx := fun _ H1 => Q .non H1, rt := Q } (start N vs) H) : FnG P w K mg base CX (k + 1) f fd ps sp := by
  obtain ⟨oc, od, dV, kV, doc, pm, an, cdv, ct, osl, rfl, lk, hc, _, _⟩ := D.ex
  refine ⟨len, fun A out s H ar us vs Q E hr e hb rv hs => ?_⟩
  have inK : K.In s.heap := e.mod.kin.keeps fun b o q => (e.bs b o q).1
  have noL : s.heap.NoLimit := e.mod.nolimit.keeps fun b o q => (e.bs b o q).1
  refine codeAny_call_function hr.rm.depth (inK _ _ lk) rfl S.co S.gen rfl (PySem.W.codeRec_of inK hc) (hb _ _ _ _ ?_)
  refine wpAny_newFunctionEnv_cells S.kind (fun ⟨y, v⟩ hy => ?_) fun en q s1 inC => ?_
  · cases S.par y (List.of_mem_zip hy).1 with
    | inl q => exact Or.inl q
    | inr q => exact Or.inr ⟨q, PySem.W.cellsFrom_some _ _ _ (Or.inl q)⟩
  cases q
  refine ⟨noL.keeps inC.toInCall.keep, codeAny_func ?_⟩
  obtain ⟨t, pt, wt⟩ := go cdv A out s H vs Q E (hr.deeper _) hs
  have I := inv_start (CX := CX) (E := E) (N := N) S hr.rm.hd e (len _ _ _ _ hs) rv inC
  refine wpAny_mono (pt.run [] s1 (start N vs) H _ I wt) (fun fl s2 z => ?_) fun _ _ z => z
  match fl, z with
  | .ret u, ⟨v, _, H1, J, rv1, q⟩ => exact ⟨v, H1, J.os, J.bare, J.base, J.hok, rv1, q⟩
  | .next, ⟨_, H1, J, q⟩ => exact ⟨V.non, H1, J.os, J.bare, J.base, J.hok, (rfl : RelV V.non Value.none), q⟩
  | .brk, ⟨_, _, _, q⟩ => exact q.elim
  | .cont, ⟨_, _, _, q⟩ => exact q.elim
end
section
variable {P : Program} {w : World} {K : PySem.W.Frag} {mg mb : Str → Option Value} {CX : CXT} {k : Nat} {fa a : Addr} {fd : FuncData} {x : Str} {sp : Sp} {s1 : Shared} {vs : List Value} {ns : List Int}
abbrev EndsTrue (s1 : Shared) (r : Result) (s2 : Shared) : Prop := r = .ok (.ret (.bool true)) ∧ OldK s1.heap s2.heap ∧ s2.os = s1.os ∧ AllBare s2.gens
theorem lawG_at (H : Hp) (only : Only H) (seen : SqL K H a (ns.map V.int)) (hok : HOk P w H s1.heap) (alone : ∀ b, H b ≠ none → b = a) (apart : H a ≠ none → K.lookup a = none)
    (inK : K.In s1.heap) (nsg : s1.heap.Ns mainGlobals mg) (nsb : s1.heap.Ns builtinsNs mb) (boot : ∀ y : Str, y ≠ "__name__" → mb y = bootBuiltins y) (noL : s1.heap.NoLimit) (gens : s1.gens = #[])
    (at_ : s1.heap.get? a = some { cls := .type "list", data := .seq vs.toArray }) (room : Rm k callerA)
    (F : ∀ base : Heap, K.In base → base.Ns mainGlobals mg → FnG P w K mg base CX k fa fd [x] sp) (binds : ∀ (s : Shared) (u : Value), BindsTo s fd ⟨[u], []⟩ [(x, u)])
    (wish : sp [.ref a] H (fun v _ => v = .bl true) fun _ _ _ => False) (noX : ∀ H e s2, CX [] H s1 (fun _ _ _ => False) e s2 → False) :
    codeAny (model P w) callerA (.call (.ref fa) ⟨[.ref a], []⟩) (EndsTrue s1) s1 := by
  have free : ∀ {b : Addr}, b ≠ a → H b = none := fun {b} ne => Classical.byContradiction fun z => ne (alone b z)
  have low : ∀ {b : Addr} {o : Obj}, s1.heap.get? b = some o → H b = none → (hidT s1.heap H).get? b = some o := fun q z => hidT_get q z
  have isNs : ∀ {b : Addr} {m : Str → Option Value}, s1.heap.Ns b m → (hidT s1.heap H).Ns b m := fun {b m} ⟨o, es, ep, q, d, z⟩ =>
    ⟨o, es, ep, low q (free fun ba => by rw [ba, at_] at q; cases q; exact absurd (show Data.seq vs.toArray _ = Data.dict es ep from d) (by intro h; cases h)), d, z⟩
  have inB : K.In (hidT s1.heap H) := fun b o q => low (inK b o q) (Classical.byContradiction fun z => by
    have ba := alone b z
    rw [ba] at q z
    rw [apart z] at q
    cases q)
  have modB : Mod K mg (hidT s1.heap H) := ⟨inB, isNs nsg, ⟨mb, isNs nsb, boot⟩, noL.elim fun mc z => ⟨mc, isNs z.1, z.2⟩⟩
  have start0 : Env0 P w K mg (hidT s1.heap H) callerA [] s1 H := ⟨rfl, modB, fun b o q => of_hidT q, Nat.le_of_eq (hidT_size _ _), True.intro, fun b z => (List.not_mem_nil z).elim, hok, AllBare.of_eq gens⟩
  have ran := (F _ inB (isNs nsg)).run callerA [] s1 H ⟨[.ref a], []⟩ [.ref a] [.ref a] _ _ room start0 (binds s1 (.ref a)) (Paired.cons rfl Paired.nil) wish
  refine codeAny_mono ran fun r s2 z => ?_
  match r, z with
  | .error e, z => exact (noX H e s2 z).elim
  | .ok .next, z => exact z.elim
  | .ok .brk, z => exact z.elim
  | .ok .cont, z => exact z.elim
  | .ok (.ret u), ⟨v, H2, os, bare, un, hok2, rv, q⟩ =>
    cases (show v = .bl true from q)
    cases (show u = Value.bool true from rv)
    refine ⟨rfl, OldK.of_keep fun b o q => ?_, os, bare⟩
    cases hb : H b with
    | none => exact un.keep b o q hb (fun z => (List.not_mem_nil z).elim) List.not_mem_nil
    | some u =>
      cases only b with
      | inl z => rw [hb] at z; cases z
      | inr z =>
        obtain ⟨ob, xs, z⟩ := z
        have o1 := (hok b _ z).1
        have o2 := (hok2 b _ (un.frzs b ob _ z)).1
        rw [q] at o1
        cases o1
        exact o2
theorem lawG_call (inK : K.In s1.heap) (nsg : s1.heap.Ns mainGlobals mg) (nsb : s1.heap.Ns builtinsNs mb) (boot : ∀ y : Str, y ≠ "__name__" → mb y = bootBuiltins y) (noL : s1.heap.NoLimit) (gens : s1.gens = #[])
    (at_ : s1.heap.get? a = some { cls := .type "list", data := .seq vs.toArray }) (isI : IntsAre vs ns) (short : ns.length ≤ sizeLine) (room : Rm k callerA)
    (F : ∀ base : Heap, K.In base → base.Ns mainGlobals mg → FnG P w K mg base CX k fa fd [x] sp) (binds : ∀ (s : Shared) (u : Value), BindsTo s fd ⟨[u], []⟩ [(x, u)])
    (wish : ∀ H : Hp, Only H → SqL K H a (ns.map V.int) → sp [.ref a] H (fun v _ => v = .bl true) fun _ _ _ => False) (noX : ∀ H e s2, CX [] H s1 (fun _ _ _ => False) e s2 → False) :
    codeAny (model P w) callerA (.call (.ref fa) ⟨[.ref a], []⟩) (EndsTrue s1) s1 := by
  have rel := vals_ints isI
  cases hk : K.lookup a with
  | some o =>
    have q := inK a o hk
    rw [at_] at q
    cases q
    have only0 : Only (fun _ => none) := fun _ => Or.inl rfl
    have seen0 : SqL K (fun _ => none) a (ns.map V.int) := Or.inr ⟨_, vs.toArray, _, hk, rfl, rfl, rfl, by rw [List.size_toArray, isI.length]; exact short, by simpa using rel⟩
    exact lawG_at _ only0 seen0 (fun b u z => nomatch z) (fun b z => (z rfl).elim) (fun z => (z rfl).elim) inK nsg nsb boot noL gens at_ room F binds (wish _ only0 seen0) noX
  | none =>
    let ob : Obj := { cls := .type "list", data := .seq vs.toArray }
    let H1 : Hp := upd (fun _ => none) a (.frz ob (.lst (ns.map V.int)))
    have here : H1 a = some (.frz ob (.lst (ns.map V.int))) := upd_same
    have there : ∀ b, b ≠ a → H1 b = none := fun b ne => upd_ne ne
    have only1 : Only H1 := fun b => (Classical.em (b = a)).elim (fun e => Or.inr ⟨_, _, e ▸ here⟩) fun ne => Or.inl (there b ne)
    have seen1 : SqL K H1 a (ns.map V.int) := Or.inl (Or.inr ⟨ob, here⟩)
    have ok1 : HOk P w H1 s1.heap := fun b u z => by
      cases Classical.em (b = a) with
      | inl e =>
        subst e
        rw [here] at z
        cases z
        exact ⟨at_, by rw [List.length_map]; exact short, vs, _, rel, at_⟩
      | inr ne => rw [there b ne] at z; cases z
    exact lawG_at H1 only1 seen1 ok1 (fun b z => Classical.byContradiction fun ne => z (there b ne)) (fun _ => hk) inK nsg nsb boot noL gens at_ room F binds (wish _ only1 seen1) noX
end
end Vz
namespace Vz
open PySem PySem.Spec L2
open PyProof.Rows (envOfC)
section
variable {X : Cx} {W : WX} {a b c e o : Expr} {es rest : List Expr} {ma mb mc mo : ME} {ms : MEs} {pos p apos cpos : Pos} {x : Str}
def OpN (K : PySem.W.Frag) (r : List V → Hp → VK → Prop) (f : List AV → Hs → R AV) : Prop := ∀ (W : WX) σ H μ G vs xs Q, RH K H μ G → RAs K H μ vs xs → Po K (rA K) W σ H μ (f vs G) Q → r xs H Q
def mBlt (f : List AV → Hs → R AV) (ms : MEs) : ME := fun ρ G => (ms ρ G).bind fun vs G1 => f vs G1
theorem opN_go {r : List V → Hp → VK → Prop} {f : List AV → Hs → R AV} (hf : OpN X.K r f) {σ : St} {H : Hp} {Q : VK} (h : tG X.K (rA X.K) W (mBlt f ms) σ H Q) : tCB r (tG X.K (rAs X.K) W ms) σ H Q := by
  obtain ⟨ρ, μ, G, hσ, hG, h⟩ := h
  exact tG.bind hσ hG h fun vs G1 H1 μ1 xs g1 hσ1 hG1 rs h1 => hf W σ H1 μ1 G1 vs xs Q hG1 rs h1
theorem se_blt {id : String} {r : List V → Hp → VK → Prop} {f : List AV → Hs → R AV} (hc : CallR X (.builtin id) r) (hf : OpN X.K r f) (hg : Gl X x) (hm : X.mg x = none) (hv : bootBuiltins x = some (.builtin id)) (ha : SA X W (e :: es) ms)
    (hn : x ≠ "__name__" := by decide) (hdb : (x == ("__debug__" : Str)) = false := by decide)
    (he : starEach (e :: es) X.env = (false, eval e X.env) :: starEach es X.env := by rfl) (hpl : (backTo pos (starEach es X.env)).any (·.1) = false := by rfl) : SE X W (.Call (.Name x p) (e :: es) [] pos) (mBlt f ms) :=
  PE.imp (pe_callB hc hg hm hv ha hn hdb he hpl) fun σ H Q h => opN_go hf h
theorem se_blty {T : String} {r : List V → Hp → VK → Prop} {f : List AV → Hs → R AV} (hc : CallR X (.type T) r) (hf : OpN X.K r f) (hg : Gl X x) (hm : X.mg x = none) (hv : bootBuiltins x = some (.type T)) (ha : SA X W (e :: es) ms)
    (hn : x ≠ "__name__" := by decide) (hdb : (x == ("__debug__" : Str)) = false := by decide)
    (he : starEach (e :: es) X.env = (false, eval e X.env) :: starEach es X.env := by rfl) (hpl : (backTo pos (starEach es X.env)).any (·.1) = false := by rfl) : SE X W (.Call (.Name x p) (e :: es) [] pos) (mBlt f ms) :=
  PE.imp (pe_callTy hc hg hm hv ha hn hdb he hpl) fun σ H Q h => opN_go hf h
/-- len -/
def fLen : List AV → Hs → R AV
  | [.str s], G => if s.length ≤ szl then .ok (.int s.length) G else .stuck
  | [.ref n], G => match G[n]? with
    | some (.lst xs) => .ok (.int xs.length) G
    | some (.dk xs) => .ok (.int xs.length) G
    | _ => .stuck
  | [.id _ xs], G => .ok (.int xs.length) G
  | [v], G => match seqOf G v with
    | some xs => .ok (.int xs.length) G
    | none => .stuck
  | _, _ => .stuck
def rLenA (K : PySem.W.Frag) : List V → Hp → VK → Prop := fun xs H Q => (∃ y n, xs = [y] ∧ LenV K y H n ∧ Q (.int n) H) ∨ ∃ d kvs, xs = [.ref d] ∧ H d = some (.dK kvs) ∧ Q (.int (kvs.length : Int)) H
theorem RAs.one {K : PySem.W.Frag} {H : Hp} {μ : Mu} {v : AV} {xs : List V} (h : RAs K H μ [v] xs) : ∃ y, xs = [y] ∧ RA K H μ v y := by
  cases h with
  | cons r t => cases t; exact ⟨_, rfl, r⟩
theorem RAs.two {K : PySem.W.Frag} {H : Hp} {μ : Mu} {v w : AV} {xs : List V} (h : RAs K H μ [v, w] xs) : ∃ y z, xs = [y, z] ∧ RA K H μ v y ∧ RA K H μ w z := by
  cases h with
  | cons r t =>
    obtain ⟨z, rfl, r2⟩ := t.one
    exact ⟨_, z, rfl, r, r2⟩
theorem RF.length {K : PySem.W.Frag} {H : Hp} {μ : Mu} {κ : Type} {fs : List (κ × AV)} {gs : List (κ × V)} (h : RF K H μ fs gs) : fs.length = gs.length := by
  have := h.2.length
  rw [List.length_map, List.length_map] at this
  exact this
end
section
variable {P : Program} {w : World} {K : PySem.W.Frag} {mg : Str → Option Value} {base : Heap}
/-- the promise: n things, and what F computes of them -/
def fsp (K : PySem.W.Frag) (n : Nat) (F : List AV → Hs → R AV) : Sp := fun vs H Q E => vs.length = n ∧ ∃ xs μ G, RAs K H μ xs vs ∧ RH K H μ G ∧ Po K (rA K) (fun cls d _ H' => E cls d H') [] H μ (F xs G) Q
/-- how written values come to the parameters -/
structure Sh (K : PySem.W.Frag) (fd : FuncData) (ps : List Str) (n : Nat) (ks : List Str) (gA : List AV → List AV → List AV) : Prop where
  ex : ∃ g gV, KBn K fd ps n ks g gV ∧ ∀ H μ xs vs zs ws, RAs K H μ xs vs → RAs K H μ zs ws → RAs K H μ (gA xs zs) (gV vs ws)
/-- where all are written, in order -/
abbrev gAll : List AV → List AV → List AV := fun xs _ => xs
theorem sh_all {fd : FuncData} {ps : List Str} {n : Nat} (h : Binds K fd ps []) (hn : n = ps.length) : Sh K fd ps n [] gAll :=
  ⟨fun us _ => us, fun vs _ => vs, ⟨fun s us ws hK hl _ => by
    have := h s us hK (by rw [List.append_nil, hl, hn])
    rw [List.append_nil] at this
    exact this, fun r _ => r⟩, fun _ _ _ _ _ _ r _ => r⟩
end
section
variable {X : Cx} {W : WX} {a b c e o : Expr} {es rest : List Expr} {ma mb mc mo : ME} {ms mk : MEs} {pos p apos cpos : Pos} {x : Str} {k N n : Nat} {f : Addr} {fd : FuncData} {ps ks : List Str} {F : List AV → Hs → R AV} {gA : List AV → List AV → List AV} {kws : List Keyword}
theorem run_go {pins : List (Addr × Obj)} {σ : St} {H : Hp} {s : Shared} {Q : VK} {us ws : List Value} {vs zs : List V} {xs ys : List AV} {μ : Mu} {G : Hs} (D : FnG X.prog X.w X.K X.mg X.base (CX X.prog X.w) k f fd ps (fsp X.K ps.length F)) (hr : Rm k X.A) (sh : Sh X.K fd ps n ks gA) (tk : Takes X W)
    (I : Inv X pins σ H s) (r : Vals vs us) (rz : Vals zs ws) (l1 : xs.length = n) (l2 : ys.length = ks.length) (hG : RH X.K H μ G) (rx : RAs X.K H μ xs vs) (ry : RAs X.K H μ ys zs) (l3 : (gA xs ys).length = ps.length)
    (h : Po X.K (rA X.K) W σ H μ (F (gA xs ys) G) Q) : wpAny (model X.prog X.w) X.A (call (.ref f) us (ks.zip ws)) (EP X pins σ Q) X.xe s := by
  obtain ⟨g, gV, hb, hg⟩ := sh.ex
  have r2 := hb.rel r rz
  have rA2 := hg H μ xs vs ys zs rx ry
  refine wpAny_call (codeAny_mono (D.run X.A X.stack s H ⟨us, ks.zip ws⟩ (g us ws) (gV vs zs) Q (fun cls d H' => W cls d σ H') hr I.env0
    (hb.to s us ws I.kIn (r.length.symm.trans (rx.length.symm.trans l1)) (rz.length.symm.trans (ry.length.symm.trans l2))) r2 ⟨by rw [← rA2.length]; exact l3, _, μ, G, rA2, hG, ?_⟩) fun r s' hq => ?_)
  · cases e : F (gA xs ys) G with
    | stuck => rw [e] at h; exact h
    | exc c d G' => rw [e] at h; exact fun H' μ' dd g1 g2 g3 => h H' μ' dd g1 g2 g3
    | ok v G' => rw [e] at h; exact h
  · cases r with
    | error e => exact tk e s' (XE.of_call I (fun cls d H' h => h) hq)
    | ok fl =>
      cases fl with
      | ret u => exact I.after hq
      | next => exact False.elim hq
      | brk => exact False.elim hq
      | cont => exact False.elim hq
/-- f(e, .., k = v, ..) -/
def mCall (N n m : Nat) (gA : List AV → List AV → List AV) (F : List AV → Hs → R AV) (ms mk : MEs) : ME := fun ρ G => (ms ρ G).bind fun xs G1 => (mk ρ G1).bind fun ys G2 => if xs.length = n ∧ ys.length = m ∧ (gA xs ys).length = N then F (gA xs ys) G2 else .stuck
theorem call_if {xs ys : List AV} {m : Nat} {K : PySem.W.Frag} {σ : St} {H : Hp} {μ : Mu} {G : Hs} {Q : VK} (h : Po K (rA K) W σ H μ (if xs.length = n ∧ ys.length = m ∧ (gA xs ys).length = N then F (gA xs ys) G else .stuck) Q) :
    (xs.length = n ∧ ys.length = m ∧ (gA xs ys).length = N) ∧ Po K (rA K) W σ H μ (F (gA xs ys) G) Q := by
  by_cases hc : xs.length = n ∧ ys.length = m ∧ (gA xs ys).length = N
  · rw [if_pos hc] at h
    exact ⟨hc, h⟩
  · rw [if_neg hc] at h
    exact h.elim
theorem se_call (D : FnG X.prog X.w X.K X.mg X.base (CX X.prog X.w) k f fd ps (fsp X.K ps.length F)) (hr : Rm k X.A) (sh : Sh X.K fd ps n [] gA) (tk : Takes X W) (hg : Gl X x) (hm : X.mg x = some (.ref f)) (hk : PySem.W.keepIn X.K (.ref f) = true)
    (ha : SA X W (e :: es) ms) (hdb : (x == ("__debug__" : Str)) = false := by decide) (he : starEach (e :: es) X.env = (false, eval e X.env) :: starEach es X.env := by rfl) (hpl : (backTo pos (starEach es X.env)).any (·.1) = false := by rfl) :
    SE X W (.Call (.Name x p) (e :: es) [] pos) (mCall ps.length n 0 gA F ms mNil) := by
  refine ⟨fun pins s σ H Q I ⟨ρ, μ, G, hσ, hG, h⟩ => ?_⟩
  refine wpAny_Call_Name_kw (ld_glob I hg hm ?_ hdb)
  refine PySem.W.callWith_K (h₀ := X.base) I.ok.mod.kin hk (thn (ha.run pos pins s σ H _ I (tG.bind (Q1 := fun vs H1 => ∃ xs μ1 G1, RAs X.K H1 μ1 xs vs ∧ RH X.K H1 μ1 G1 ∧ xs.length = n ∧ (gA xs []).length = ps.length ∧ Po X.K (rA X.K) W σ H1 μ1 (F (gA xs []) G1) Q) hσ hG h
    fun xs G1 H1 μ1 vs g1 hσ1 hG1 rs h1 => ?_)) fun us s1 ⟨vs, H1, I1, r, xs, μ1, G1, rs, hG1, l1, l3, q⟩ => ⟨I1.kIn, ?_⟩) he hpl
  · obtain ⟨⟨c1, c2, c3⟩, h2⟩ := call_if h1
    exact ⟨xs, μ1, G1, rs, hG1, c1, c3, h2⟩
  · exact run_go (ks := []) (ws := []) (zs := []) D hr sh tk I1 r .nil l1 rfl hG1 rs .nil l3 q
theorem se_call0 (D : FnG X.prog X.w X.K X.mg X.base (CX X.prog X.w) k f fd ps (fsp X.K ps.length F)) (hr : Rm k X.A) (sh : Sh X.K fd ps 0 [] gA) (tk : Takes X W) (hg : Gl X x) (hm : X.mg x = some (.ref f)) (hk : PySem.W.keepIn X.K (.ref f) = true)
    (hdb : (x == ("__debug__" : Str)) = false := by decide) : SE X W (.Call (.Name x p) [] [] pos) (mCall ps.length 0 0 gA F mNil mNil) := by
  refine ⟨fun pins s σ H Q I ⟨ρ, μ, G, hσ, hG, h⟩ => ?_⟩
  obtain ⟨⟨c1, c2, c3⟩, h2⟩ := call_if (xs := []) (ys := []) h
  refine wpAny_Call_Name_kw (ld_glob I hg hm ?_ hdb)
  exact PySem.W.callWith_K0 I.kIn hk (run_go (us := []) (vs := []) (ks := []) (ws := []) (zs := []) D hr sh tk I .nil .nil rfl rfl hG .nil .nil c3 h2)
def SK (X : Cx) (W : WX) (kws : List Keyword) (m : MEs) : Prop := PK X kws (tG X.K (rAs X.K) W m)
theorem PK.imp {X : Cx} {e : List Keyword} {t t' : TA} (h : PK X e t) (i : ∀ σ H Q, t' σ H Q → t σ H Q) : PK X e t' := ⟨fun p pins s σ H Q I w => h.run p pins s σ H Q I (i σ H Q w)⟩
theorem sk_nil : SK X W [] mNil := PK.imp pk_nil fun σ H Q ⟨ρ, μ, G, hσ, hG, h⟩ => Po.now (v := ([] : List AV)) h hG .nil
theorem sk_cons {nm : Option Str} {kpos : Pos} (ha : SE X W e ma) (hr : SK X W kws ms) : SK X W (⟨nm, e, kpos⟩ :: kws) (mCons ma ms) :=
  PK.imp (pk_cons ha hr) fun σ H Q ⟨ρ, μ, G, hσ, hG, h⟩ => tG.bind hσ hG h fun v G1 H1 μ1 x g1 hσ1 hG1 r h1 => tG.bind hσ1 hG1 h1 fun vs G2 H2 μ2 xs g2 hσ2 hG2 rs h2 =>
    Po.now (v := v :: vs) h2 hG2 (.cons (r.gr g2) rs)
def startA (n : Nat) (xs : List AV) : En := xs.map some ++ List.replicate (n - xs.length) none
theorem RS.begins {K : PySem.W.Frag} {H : Hp} {μ : Mu} {xs : List AV} {vs : List V} (h : RAs K H μ xs vs) (N : List Str) : RS K H μ (startA N.length xs) (L2.start N vs) := by
  unfold startA L2.start
  refine ⟨by simp [h.length], fun i v e => ?_⟩
  by_cases hi : i < xs.length
  · rw [List.getElem?_append_left (by simpa using hi), List.getElem?_map] at e
    cases q : xs[i]? with
    | none => rw [q] at e; cases e
    | some u =>
      rw [q] at e
      cases e
      obtain ⟨y, h1, r⟩ := h.get' q
      exact ⟨y, by rw [List.getElem?_append_left (by rw [List.length_map, ← h.length]; exact hi), List.getElem?_map, h1]; rfl, r⟩
  · rw [List.getElem?_append_right (by simpa using hi), List.getElem?_replicate] at e
    split at e <;> cases e
def mFn (n : Nat) (b : MS) : List AV → Hs → R AV := fun xs G => match b (startA n xs) G with
  | .nx _ G' => .ok .non G'
  | .rt v G' => .ok v G'
  | .exc c d _ G' => .exc c d G'
  | _ => .stuck
theorem fn_body {P : Program} {w : World} {K : PySem.W.Frag} {mg : Str → Option Value} {base : Heap} {x qual : Str} {params : Arguments} {body : List Stmt} {scope : Scope} {dvs : List V} {kws : List (Str × V)} {f : Addr} {fd : FuncData} {N ps : List Str} {k : Nat} {b : MS}
    (Fn : FunD K x qual params body scope dvs kws f fd) (S : FnScope N ps scope)
    (hb : ∀ (cdv : Value) (A : Around) (outer : List Env) (s : Shared) (H : Hp) (E : XK), Rm k (A.deeper (envOfC qual scope s.heap.objs.size f cdv)) →
      Takes (cxOf (CX P w) P w K mg base N qual scope f cdv A outer s H E) (fun cls d _ H' => E cls d H') →
      SSs (cxOf (CX P w) P w K mg base N qual scope f cdv A outer s H E) (fun cls d _ H' => E cls d H') body b) :
    FnG P w K mg base (CX P w) (k + 1) f fd ps (fsp K ps.length (mFn N.length b)) := by
  refine fnG_of Fn S (fun vs H Q E h => h.1) fun cdv A outer s H vs Q E hr h => ?_
  obtain ⟨hl, xs, μ, G, rs, hG, h⟩ := h
  refine ⟨_, hb cdv A outer s H E hr (takes_of rfl rfl rfl rfl), startA N.length xs, μ, G, RS.begins rs N, hG, ?_⟩
  unfold mFn at h
  cases e : b (startA N.length xs) G with
  | stuck => rw [e] at h; exact h
  | nx ρ G' =>
    rw [e] at h
    exact fun H' μ' σ' g hG' _ => h H' μ' .non g hG' .non
  | rt v G' =>
    rw [e] at h
    exact fun H' μ' y g hG' r => h H' μ' y g hG' r
  | bk ρ G' => rw [e] at h; exact h.elim
  | ct ρ G' => rw [e] at h; exact h.elim
  | exc c d ρ G' =>
    rw [e] at h
    exact fun H' μ' σ' dd g hG' _ hd => h H' μ' dd g hG' hd
end
end Vz
namespace Vz
open PySem L2
theorem PoS.gr {K : PySem.W.Frag} {W : WX} {D : Ends} {H H1 : Hp} {μ μ1 : Mu} {r : SR} (g : Gr H μ H1 μ1) (h : PoS K W D H μ r) : PoS K W D H1 μ1 r := by
  cases r with
  | nx ρ G => exact fun H' μ' σ' g' => h H' μ' σ' (g.trans g')
  | rt ρ G => exact fun H' μ' σ' g' => h H' μ' σ' (g.trans g')
  | bk ρ G => exact fun H' μ' σ' g' => h H' μ' σ' (g.trans g')
  | ct ρ G => exact fun H' μ' σ' g' => h H' μ' σ' (g.trans g')
  | exc c d ρ G => exact fun H' μ' σ' dd g' => h H' μ' σ' dd (g.trans g')
  | stuck => exact h
def R.toS {α : Type} (r : R α) (ρ : En) (k : α → Hs → SR) : SR := match r with
  | .ok v G => k v G
  | .exc c d G => .exc c d ρ G
  | .stuck => .stuck
@[simp] theorem R.toS_ok {α : Type} (v : α) (G : Hs) (ρ : En) (k : α → Hs → SR) : (R.ok v G).toS ρ k = k v G := rfl
@[simp] theorem R.toS_exc {α : Type} (c : Str) (d : XP) (G : Hs) (ρ : En) (k : α → Hs → SR) : (R.exc c d G : R α).toS ρ k = .exc c d ρ G := rfl
@[simp] theorem R.toS_stuck {α : Type} (ρ : En) (k : α → Hs → SR) : (R.stuck : R α).toS ρ k = .stuck := rfl
theorem tG.toS {α β : Type} {K : PySem.W.Frag} {rel : Rel α β} {W : WX} {D : Ends} {m : En → Hs → R α} {k : α → Hs → SR} {ρ : En} {σ : St} {H : Hp} {μ : Mu} {G : Hs} {Q1 : β → Hp → Prop} (hσ : RS K H μ ρ σ) (hG : RH K H μ G)
    (h : PoS K W D H μ ((m ρ G).toS ρ k)) (n : ∀ v G1 H1 μ1 x, Gr H μ H1 μ1 → RS K H1 μ1 ρ σ → RH K H1 μ1 G1 → rel H1 μ1 v x → PoS K W D H1 μ1 (k v G1) → Q1 x H1) : tG K rel W m σ H Q1 := by
  refine ⟨ρ, μ, G, hσ, hG, ?_⟩
  cases e : m ρ G with
  | stuck => rw [e] at h; exact h
  | exc c d G' => rw [e] at h; exact fun H' μ' dd g hG' hd => h H' μ' σ dd g hG' (hσ.gr g) hd
  | ok v G1 =>
    rw [e] at h
    exact fun H1 μ1 x g hr hv => n v G1 H1 μ1 x g (hσ.gr g) hr hv (PoS.gr g h)
section
variable {X : Cx} {W : WX} {a b c e o tg iter : Expr} {es rest : List Expr} {m ma mb mc mo : ME} {t : MB} {ms mk : MEs} {pos p apos cpos : Pos} {x : Str} {st : Stmt} {sts : List Stmt} {s1 s2 : MS} {body other : List Stmt}
def mNx : MS := fun ρ G => .nx ρ G
def mSeq (s1 s2 : MS) : MS := fun ρ G => match s1 ρ G with
  | .nx ρ1 G1 => s2 ρ1 G1
  | r => r
theorem sss_nil : SSs X W [] mNx := PSs.imp pss_nil fun D σ H ⟨ρ, μ, G, hσ, hG, h⟩ => h H μ σ (Gr.refl _ _) hG hσ
theorem sss_cons (h1 : SS X W st s1) (h2 : SSs X W sts s2) : SSs X W (st :: sts) (mSeq s1 s2) := by
  refine PSs.imp (pss_cons h1 h2) fun D σ H ⟨ρ, μ, G, hσ, hG, h⟩ => ⟨ρ, μ, G, hσ, hG, ?_⟩
  unfold mSeq at h
  cases e : s1 ρ G with
  | nx ρ1 G1 =>
    rw [e] at h
    exact fun H' μ' σ' g hG' hσ' => ⟨ρ1, μ', G1, hσ', hG', PoS.gr g h⟩
  | rt v G1 => rw [e] at h; exact h
  | bk ρ1 G1 => rw [e] at h; exact h
  | ct ρ1 G1 => rw [e] at h; exact h
  | exc c d ρ1 G1 => rw [e] at h; exact h
  | stuck => rw [e] at h; exact h
theorem sss_one (h1 : SS X W st s1) : SSs X W [st] s1 := pss_one h1
def mBk : MS := fun ρ G => .bk ρ G
def mCt : MS := fun ρ G => .ct ρ G
def mDrop (m : ME) : MS := fun ρ G => (m ρ G).toS ρ fun _ G1 => .nx ρ G1
theorem ss_expr (he : SE X W e m) (hs : swapsWith e none pos.line X.env = pure false := by rfl) : SS X W (.Expr e pos) (mDrop m) :=
  PS.imp (ps_expr he hs) fun D σ H ⟨ρ, μ, G, hσ, hG, h⟩ => tG.toS hσ hG h fun v G1 H1 μ1 x g hσ1 hG1 r h1 => h1 H1 μ1 σ (Gr.refl _ _) hG1 hσ1
def mRet (m : ME) : MS := fun ρ G => (m ρ G).toS ρ fun v G1 => .rt v G1
theorem ss_ret (he : SE X W e m) : SS X W (.Return (some e) pos) (mRet m) :=
  PS.imp (ps_ret he) fun D σ H ⟨ρ, μ, G, hσ, hG, h⟩ => tG.toS hσ hG h fun v G1 H1 μ1 x g hσ1 hG1 r h1 => h1 H1 μ1 x (Gr.refl _ _) hG1 r
def mRetN : MS := fun _ G => .rt .non G
def mIf (t : MB) (s1 s2 : MS) : MS := fun ρ G => (t ρ G).toS ρ fun k G1 => if k = true then s1 ρ G1 else s2 ρ G1
theorem ss_if (hc : ST X W c t) (h1 : SSs X W body s1) (h2 : SSs X W other s2) : SS X W (.If c body other pos) (mIf t s1 s2) := by
  refine PS.imp (ps_if hc h1 h2) fun D σ H ⟨ρ, μ, G, hσ, hG, h⟩ => tG.toS hσ hG h fun k G1 H1 μ1 k' g hσ1 hG1 ek h1 => ?_
  have ek : k = k' := ek
  subst ek
  cases k with
  | true => exact iteT ⟨ρ, μ1, G1, hσ1, hG1, h1⟩
  | false => exact iteF ⟨ρ, μ1, G1, hσ1, hG1, h1⟩
abbrev MG := AV → En → Hs → R En
/-- a target stores into the slots S alone -/
def tT (K : PySem.W.Frag) (W : WX) (S : List Nat) (g : MG) : TG := fun v σ H Q => ∃ av ρ μ G, RA K H μ av v ∧ RS K H μ ρ σ ∧ RH K H μ G ∧ match g av ρ G with
  | .ok ρ' G' => ∀ H' μ' σ', Gr H μ H' μ' → RH K H' μ' G' → RS K H' μ' ρ' σ' → σ'.length = σ.length → (∀ j, j ∉ S → σ'[j]? = σ[j]?) → Q σ' H'
  | .exc _ _ _ => False
  | .stuck => False
def SG (X : Cx) (W : WX) (S : List Nat) (tg : Expr) (g : MG) : Prop := PG X tg (tT X.K W S g)
theorem PG.imp {X : Cx} {e : Expr} {t t' : TG} (h : PG X e t) (i : ∀ v σ H Q, t' v σ H Q → t v σ H Q) : PG X e t' := ⟨fun pins s σ H v u Q I r w => h.run pins s σ H v u Q I r (i v σ H Q w)⟩
theorem PGs.imp {X : Cx} {e : List Expr} {t t' : TGs} (h : PGs X e t) (i : ∀ v σ H Q, t' v σ H Q → t v σ H Q) : PGs X e t' := ⟨fun pins s σ H v u Q I r w => h.run pins s σ H v u Q I r (i v σ H Q w)⟩
def gNm (i : Nat) : MG := fun v ρ G => .ok (ρ.set i (some v)) G
theorem sg_name {i : Nat} (hN : X.N.Nodup) (hi : X.N[i]? = some x) (hx : Loc X.env.scope x) (hf : X.fn x = true ∨ X.env.scope.names.lookup x = some .local := by first | exact .inl rfl | exact .inr rfl | assumption) : SG X W [i] (.Name x pos) (gNm i) :=
  PG.imp (pg_name hN hi hx hf) fun v σ H Q ⟨av, ρ, μ, G, r, hσ, hG, h⟩ => h H μ _ (Gr.refl _ _) hG (hσ.set r) (List.length_set ..) fun j hj => List.getElem?_set_ne fun e => hj (by rw [e]; exact List.mem_singleton.mpr rfl)
/-- several targets, from a row of values -/
abbrev MGs := List AV → En → Hs → R En
def tTs (K : PySem.W.Frag) (W : WX) (S : List Nat) (g : MGs) : TGs := fun vs σ H Q => ∃ avs ρ μ G, RAs K H μ avs vs ∧ RS K H μ ρ σ ∧ RH K H μ G ∧ match g avs ρ G with
  | .ok ρ' G' => ∀ H' μ' σ', Gr H μ H' μ' → RH K H' μ' G' → RS K H' μ' ρ' σ' → σ'.length = σ.length → (∀ j, j ∉ S → σ'[j]? = σ[j]?) → Q σ' H'
  | .exc _ _ _ => False
  | .stuck => False
def SGs (X : Cx) (W : WX) (S : List Nat) (tg : List Expr) (g : MGs) : Prop := PGs X tg (tTs X.K W S g)
def gNi : MGs := fun vs ρ G => match vs with
  | [] => .ok ρ G
  | _ => .stuck
def gCo (g : MG) (gs : MGs) : MGs := fun vs ρ G => match vs with
  | v :: r => (g v ρ G).bind fun ρ1 G1 => gs r ρ1 G1
  | [] => .stuck
theorem sgs_nil : SGs X W [] [] gNi := by
  refine PGs.imp pgs_nil fun vs σ H Q ⟨avs, ρ, μ, G, r, hσ, hG, h⟩ => ?_
  cases r with
  | nil => exact ⟨rfl, h H μ σ (Gr.refl _ _) hG hσ rfl fun _ _ => rfl⟩
  | cons r t => exact h.elim
theorem sgs_cons {S S' : List Nat} {g : MG} {gs : MGs} (h1 : SG X W S e g) (h2 : SGs X W S' es gs) (hs : (assignEach (e :: es) X.env).map (·.2) = assign e X.env :: (assignEach es X.env).map (·.2) := by rfl) : SGs X W (S ++ S') (e :: es) (gCo g gs) := by
  refine PGs.imp (pgs_cons h1 h2 hs) fun vs σ H Q ⟨avs, ρ, μ, G, r, hσ, hG, h⟩ => ?_
  match avs, vs, r, h with
  | _, _, .nil, h => exact h.elim
  | _, _, .cons (x := av) (v := v) (xs := avs) (vs := vs) r t, h =>
    refine ⟨_, _, rfl, av, ρ, μ, G, r, hσ, hG, ?_⟩
    simp only [gCo] at h
    cases e1 : g av ρ G with
    | stuck => rw [e1] at h; exact h
    | exc c d G' => rw [e1] at h; exact h
    | ok ρ1 G1 =>
      rw [e1] at h
      simp only [R.bind_ok] at h
      intro H1 μ1 σ1 g1 hG1 hσ1 l1 j1
      refine ⟨avs, ρ1, μ1, G1, t.gr g1, hσ1, hG1, ?_⟩
      cases e2 : gs avs ρ1 G1 with
      | stuck => rw [e2] at h; exact h
      | exc c d G' => rw [e2] at h; exact h
      | ok ρ2 G2 =>
        rw [e2] at h
        exact fun H2 μ2 σ2 g2 hG2 hσ2 l2 j2 => h H2 μ2 σ2 (g1.trans g2) hG2 hσ2 (l2.trans l1) fun j hj =>
          (j2 j fun z => hj (List.mem_append_right _ z)).trans (j1 j fun z => hj (List.mem_append_left _ z))
def gTp (n : Nat) (gs : MGs) : MG := fun v ρ G => match tupOf v with
  | some xs => if xs.length = n then gs xs ρ G else .stuck
  | none => .stuck
theorem sg_tup {S : List Nat} {k n : Nat} {gs : MGs} (hc : X.calm = true) (h : SGs X W S es gs) (hn : (assignEach es X.env).length = n := by rfl) (hst : (assignEach es X.env).findIdx? (·.1) = none := by rfl) : SG X W S (.Tuple es k pos) (gTp n gs) := by
  refine PG.imp (pg_tup hc h hn hst) fun v σ H Q ⟨av, ρ, μ, G, r, hσ, hG, h⟩ => ?_
  unfold gTp at h
  cases e : tupOf av with
  | none => rw [e] at h; exact h.elim
  | some xs =>
    rw [e] at h
    simp only at h
    obtain ⟨q, vs, rfl, hq, rs⟩ := tupOf_ok r e
    by_cases hl : xs.length = n
    · rw [if_pos hl] at h
      exact ⟨q, vs, rfl, hq, by rw [← rs.length]; exact hl, xs, ρ, μ, G, rs, hσ, hG, h⟩
    · rw [if_neg hl] at h
      exact h.elim
/-- target = value -/
def mAsg (m : ME) (g : MG) : MS := fun ρ G => (m ρ G).toS ρ fun v G1 => match g v ρ G1 with
  | .ok ρ' G' => .nx ρ' G'
  | _ => .stuck
theorem asg_go {S : List Nat} {g : MG} {D : Ends} {σ : St} {H : Hp} (h : tS X.K W (mAsg m g) D σ H) : tAsg (tG X.K (rA X.K) W m) (tT X.K W S g) D σ H := by
  obtain ⟨ρ, μ, G, hσ, hG, h⟩ := h
  refine tG.toS hσ hG h fun v G1 H1 μ1 x g1 hσ1 hG1 r h1 => ⟨v, ρ, μ1, G1, r, hσ1, hG1, ?_⟩
  cases e : g v ρ G1 with
  | stuck => rw [e] at h1; exact h1
  | exc c d G' => rw [e] at h1; exact h1
  | ok ρ2 G2 =>
    rw [e] at h1
    exact fun H2 μ2 σ2 g2 hG2 hσ2 _ _ => h1 H2 μ2 σ2 g2 hG2 hσ2
theorem ss_asg {S : List Nat} {g : MG} (he : SE X W e m) (hg : SG X W S tg g) (hs : swapsWithSole [tg] e pos.line X.env = pure false := by rfl) (hw : swappedStores [tg] e X.env = pure none := by rfl)
    (h1 : (assignEach [tg] X.env).map (·.2) = [assign tg X.env] := by rfl) : SS X W (.Assign [tg] e pos) (mAsg m g) := PS.imp (ps_asg he hg hs hw h1) fun D σ H h => asg_go h
theorem ss_set {i : Nat} {pos' : Pos} (hN : X.N.Nodup) (hi : X.N[i]? = some x) (hx : Loc X.env.scope x) (he : SE X W e m) (hs : swapsWith e (some (.Name x pos')) pos.line X.env = pure false := by rfl)
    (hf : X.fn x = true ∨ X.env.scope.names.lookup x = some .local := by first | exact .inl rfl | exact .inr rfl | assumption) : SS X W (.Assign [.Name x pos'] e pos) (mAsg m (gNm i)) := by
  refine PS.imp (ps_set hN hi hx he hs hf) fun D σ H ⟨ρ, μ, G, hσ, hG, h⟩ => tG.toS hσ hG h fun v G1 H1 μ1 x g1 hσ1 hG1 r h1 => ?_
  exact h1 H1 μ1 _ (Gr.refl _ _) hG1 (hσ1.set r)
/-- a, b = e1, e2 : two names -/
def mPar (i j : Nat) (ms : MEs) : MS := fun ρ G => (ms ρ G).toS ρ fun vs G1 => match vs with
  | [v, w] => .nx ((ρ.set i (some v)).set j (some w)) G1
  | _ => .stuck
/-- a name, op= -/
def mAug (i : Nat) (f : AV → AV → Hs → R AV) (m : ME) : MS := fun ρ G => match ρ[i]? with
  | some (some v) => (m ρ G).toS ρ fun w G1 => (f v w G1).toS ρ fun u G2 => .nx (ρ.set i (some u)) G2
  | _ => .stuck
/-- its items, and the list that is to stay as it is -/
abbrev Wk := List AV × Option (Nat × List AV)
def gdOk : Option (Nat × List AV) → Hs → Prop
  | none, _ => True
  | some (n, xs), G => G[n]? = some (.lst xs)
def ItOk (K : PySem.W.Frag) (J : It) (k : Wk) (H1 : Hp) (μ1 : Mu) : Prop := ∀ i H μ G, Gr H1 μ1 H μ → RH K H μ G → gdOk k.2 G →
  (∀ v, k.1[i]? = some v → J.go i H ∧ ∀ x H', J.yld i H x H' → Gr H μ H' μ ∧ RH K H' μ G ∧ RA K H' μ v x) ∧ (k.1.length ≤ i → J.stop i H)
abbrev MI := En → Hs → R Wk
def tI (K : PySem.W.Frag) (W : WX) (m : MI) : TI := fun σ H Q => ∃ ρ μ G, RS K H μ ρ σ ∧ RH K H μ G ∧ match m ρ G with
  | .ok k G1 => ∀ H1 μ1 J, Gr H μ H1 μ1 → RH K H1 μ1 G1 → ItOk K J k H1 μ1 → Q J H1
  | .exc c d G1 => Exw K W σ H μ c d G1
  | .stuck => False
def SI (X : Cx) (W : WX) (tg iter : Expr) (m : MI) : Prop := PI X tg iter (tI X.K W m)
theorem PI.imp {X : Cx} {e i : Expr} {t t' : TI} (h : PI X e i t) (hi : ∀ σ H Q, t' σ H Q → t σ H Q) : PI X e i t' := ⟨fun pins s σ H Q I w => h.run pins s σ H Q I (hi σ H Q w)⟩
open Classical in
noncomputable def forF (gd : Option (Nat × List AV)) (g : MG) (b : MS) : List AV → MS
  | [], ρ, G => if gdOk gd G then .nx ρ G else .stuck
  | v :: vs, ρ, G => if gdOk gd G then match g v ρ G with
      | .ok ρ1 G1 => match b ρ1 G1 with
        | .nx ρ2 G2 => forF gd g b vs ρ2 G2
        | .ct ρ2 G2 => forF gd g b vs ρ2 G2
        | .bk ρ2 G2 => .nx ρ2 G2
        | r => r
      | _ => .stuck
    else .stuck
noncomputable def mFor (mi : MI) (g : MG) (b : MS) : MS := fun ρ G => (mi ρ G).toS ρ fun k G1 => forF k.2 g b k.1 ρ G1
theorem ss_for {S : List Nat} {mi : MI} {g : MG} (hp : PassesOwn (model X.prog X.w) X.A X.env X.xe) (hc : X.calm = true) (hi : SI X W tg iter mi) (hg : SG X W S tg g) (hb : SSs X W body s1)
    (hs : ∀ x, foldedSetIterable iter X.env x = pure x := by intro _; rfl) : SS X W (.For tg iter body [] pos) (mFor mi g s1) := by
  refine PS.imp (ps_for hp hc hi hg hb hs) fun D σ H ⟨ρ, μ, G, hσ, hG, h⟩ => ⟨ρ, μ, G, hσ, hG, ?_⟩
  unfold mFor at h
  cases e : mi ρ G with
  | stuck => rw [e] at h; exact h
  | exc c d G1 => rw [e] at h; exact fun H' μ' dd g hG' hd => h H' μ' σ dd g hG' (hσ.gr g) hd
  | ok k G1 =>
    rw [e] at h
    intro H1 μ1 J g1 hG1 ok
    have h1 := PoS.gr g1 h
    refine ⟨fun i m σ H => m = k.1.length - i ∧ i ≤ k.1.length ∧ ∃ ρ μ G, Gr H1 μ1 H μ ∧ RS X.K H μ ρ σ ∧ RH X.K H μ G ∧ PoS X.K W D H μ (forF k.2 g s1 (k.1.drop i) ρ G),
      ⟨k.1.length, rfl, Nat.zero_le _, ρ, μ1, G1, Gr.refl _ _, hσ.gr g1, hG1, h1⟩, ?_⟩
    rintro i m σ2 H2 ⟨rfl, hi2, ρ2, μ2, G2, g2, hσ2, hG2, h2⟩
    by_cases hlt : i < k.1.length
    · rw [List.drop_eq_getElem_cons hlt] at h2
      simp only [forF] at h2
      by_cases hgd : gdOk k.2 G2
      · rw [if_pos hgd] at h2
        obtain ⟨go, yl⟩ := (ok i H2 μ2 G2 g2 hG2 hgd).1 _ (List.getElem?_eq_getElem hlt)
        refine .inr ⟨go, fun σ' H' => ∃ ρ μ G, Gr H1 μ1 H' μ ∧ RS X.K H' μ ρ σ' ∧ RH X.K H' μ G ∧ PoS X.K W D H' μ (forF k.2 g s1 (k.1.drop (i + 1)) ρ G), fun σ' H' z => ⟨k.1.length - (i + 1), by omega, rfl, hlt, z⟩, fun x H' y => ?_⟩
        obtain ⟨g3, hG3, rx⟩ := yl x H' y
        refine ⟨_, ρ2, μ2, G2, rx, hσ2.gr g3, hG3, ?_⟩
        have h3 := PoS.gr g3 h2
        cases e3 : g k.1[i] ρ2 G2 with
        | stuck => rw [e3] at h3; exact h3
        | exc c d G' => rw [e3] at h3; exact h3
        | ok ρ4 G4 =>
          rw [e3] at h3
          simp only at h3
          intro H4 μ4 σ4 g4 hG4 hσ4 _ _
          have h4 := PoS.gr g4 h3
          have g14 := (g2.trans g3).trans g4
          refine ⟨ρ4, μ4, G4, hσ4, hG4, ?_⟩
          cases e4 : s1 ρ4 G4 with
          | nx ρ5 G5 => rw [e4] at h4; exact fun H' μ' σ' g hG' hσ' => ⟨ρ5, μ', G5, g14.trans g, hσ', hG', PoS.gr g h4⟩
          | ct ρ5 G5 => rw [e4] at h4; exact fun H' μ' σ' g hG' hσ' => ⟨ρ5, μ', G5, g14.trans g, hσ', hG', PoS.gr g h4⟩
          | bk ρ5 G5 => rw [e4] at h4; exact h4
          | rt v G5 => rw [e4] at h4; exact h4
          | exc c d ρ5 G5 => rw [e4] at h4; exact h4
          | stuck => rw [e4] at h4; exact h4
      · rw [if_neg hgd] at h2
        exact h2.elim
    · have ei : i = k.1.length := by omega
      rw [List.drop_eq_nil_of_le (by omega)] at h2
      simp only [forF] at h2
      by_cases hgd : gdOk k.2 G2
      · rw [if_pos hgd] at h2
        exact .inl ⟨(ok i H2 μ2 G2 g2 hG2 hgd).2 (by omega), h2 H2 μ2 σ2 (Gr.refl _ _) hG2 hσ2⟩
      · rw [if_neg hgd] at h2
        exact h2.elim
end
end Vz
namespace Vz
open PySem L2
section
variable {X : Cx} {W : WX} {a b c e o tg iter : Expr} {es rest : List Expr} {m ma mb mc mo : ME} {t : MB} {ms mk : MEs} {pos p apos cpos : Pos} {x : Str}
def wkOf (G : Hs) : AV → Option Wk
  | .tup xs => some (xs, none)
  | .con xs => some (xs, none)
  | .lk xs => some (xs, none)
  | .ls xs => some (xs, none)
  | .str s => some (s.cps.toList.map fun c => .str ⟨#[c]⟩, none)
  | .ref n => match G[n]? with
    | some (.lst xs) => some (xs, some (n, xs))
    | _ => none
  | _ => none
def mWk (m : ME) : MI := fun ρ G => (m ρ G).bind fun v G1 => match wkOf G1 v with
  | some k => .ok k G1
  | none => .stuck
theorem itOk_l {K : PySem.W.Frag} {H1 : Hp} {μ1 : Mu} {a : Addr} {k : Wk} (h : ∀ H μ G, Gr H1 μ1 H μ → RH K H μ G → gdOk k.2 G → ∃ vs, SqL K H a vs ∧ RAs K H μ k.1 vs) : ItOk K (Itl K a) k H1 μ1 := fun i H μ G g hG hgd => by
  obtain ⟨vs, hs, rs⟩ := h H μ G g hG hgd
  refine ⟨fun v hv => ?_, fun hi => ⟨vs, hs, by rw [← rs.length]; exact hi⟩⟩
  obtain ⟨y, hy, r⟩ := rs.get' hv
  refine ⟨⟨vs, y, hs, hy⟩, fun x H' ⟨e, q⟩ => ?_⟩
  subst e
  have := q vs hs
  rw [hy] at this
  cases this
  exact ⟨Gr.refl _ _, hG, r⟩
theorem itOk_t {K : PySem.W.Frag} {H1 : Hp} {μ1 : Mu} {a : Addr} {k : Wk} (h : ∀ H μ G, Gr H1 μ1 H μ → RH K H μ G → gdOk k.2 G → ∃ vs, SqT K H a vs ∧ RAs K H μ k.1 vs) : ItOk K (Itt K a) k H1 μ1 := fun i H μ G g hG hgd => by
  obtain ⟨vs, hs, rs⟩ := h H μ G g hG hgd
  refine ⟨fun v hv => ?_, fun hi => ⟨vs, hs, by rw [← rs.length]; exact hi⟩⟩
  obtain ⟨y, hy, r⟩ := rs.get' hv
  refine ⟨⟨vs, y, hs, hy⟩, fun x H' ⟨e, q⟩ => ?_⟩
  subst e
  have := q vs hs
  rw [hy] at this
  cases this
  exact ⟨Gr.refl _ _, hG, r⟩
theorem itOk_s {K : PySem.W.Frag} {H1 : Hp} {μ1 : Mu} {s : Str} : ItOk K (Its s) (s.cps.toList.map fun c => .str ⟨#[c]⟩, none) H1 μ1 := fun i H μ G g hG _ => by
  refine ⟨fun v hv => ?_, fun hi => ?_⟩
  · rw [List.getElem?_map] at hv
    cases q : s.cps.toList[i]? with
    | none => rw [q] at hv; cases hv
    | some c =>
      rw [q] at hv
      cases hv
      have hc : s.cps[i]? = some c := by rw [← Array.getElem?_toList]; exact q
      refine ⟨(Array.getElem?_eq_some_iff.mp hc).1, fun x H' ⟨e, c', hc', ex⟩ => ?_⟩
      subst e ex
      rw [hc] at hc'
      cases hc'
      exact ⟨Gr.refl _ _, hG, .str _⟩
  · show s.cps.size ≤ i
    have h2 : (s.cps.toList.map fun c => AV.str ⟨#[c]⟩).length ≤ i := hi
    simpa using h2
/-- an iterator over any of these -/
theorem pi_any {l : Expr} {tl : TE} (hl : PE X l tl) : PI X tg l (fun σ H R => tl σ H fun x H1 => (∃ a, x = .ref a ∧ (∃ xs, SqL X.K H1 a xs) ∧ R (Itl X.K a) H1) ∨ (∃ a, x = .ref a ∧ (∃ xs, SqT X.K H1 a xs) ∧ R (Itt X.K a) H1) ∨ ∃ s, x = .str s ∧ R (Its s) H1) := by
  refine ⟨fun pins s σ H R I h => thn (hl.run pins s σ H _ I h) fun v s1 ⟨x, H1, I1, r1, q1⟩ => ?_⟩
  rcases q1 with ⟨a, rfl, ⟨xs, hq⟩, q⟩ | ⟨a, rfl, ⟨xs, hq⟩, q⟩ | ⟨z, rfl, q⟩
  · cases r1
    obtain ⟨its, _, pl, _⟩ := I1.list hq
    exact wpAny_pyIter_list pl.isList (pi_one (tk := s1.toks) I1 _ (turn_list a _) ⟨_, Heap.get?_push_size _ rfl, rfl, rfl⟩ q)
  · cases r1
    obtain ⟨its, _, pt, _⟩ := I1.tuple hq
    exact wpAny_pyIter_tuple (show s1.heap.IsTuple a its.toArray from pt) (pi_one (tk := s1.toks) I1 _ (turn_tuple a _) ⟨_, Heap.get?_push_size _ rfl, rfl, rfl⟩ q)
  · obtain ⟨tk, rfl⟩ := r1
    cases ha : z.cps.all (· < 128) with
    | false => exact wpAny_pyIter_wide ha (pi_one (tk := s1.toks) I1 _ (turn_str _ z tk "str_iterator" (.inr rfl)) ⟨_, Heap.get?_push_size _ rfl, rfl, rfl⟩ q)
    | true => exact wpAny_pyIter_ascii ha (pi_one (tk := s1.toks) I1 _ (turn_str _ z tk "str_ascii_iterator" (.inl rfl)) ⟨_, Heap.get?_push_size _ rfl, rfl, rfl⟩ q)
theorem tI.of {K : PySem.W.Frag} {m : ME} {f : AV → Hs → R Wk} {ρ : En} {σ : St} {H : Hp} {μ : Mu} {G : Hs} {Q : It → Hp → Prop} {Q1 : VK} (hσ : RS K H μ ρ σ) (hG : RH K H μ G)
    (h : match (m ρ G).bind f with
      | .ok k G1 => ∀ H1 μ1 J, Gr H μ H1 μ1 → RH K H1 μ1 G1 → ItOk K J k H1 μ1 → Q J H1
      | .exc c d G1 => Exw K W σ H μ c d G1
      | .stuck => False)
    (n : ∀ v G1 H1 μ1 x k, Gr H μ H1 μ1 → RH K H1 μ1 G1 → RA K H1 μ1 v x → f v G1 = .ok k G1 → (∀ J, ItOk K J k H1 μ1 → Q J H1) → Q1 x H1) (hf : ∀ v G1, (∃ k, f v G1 = .ok k G1) ∨ f v G1 = .stuck) : tG K (rA K) W m σ H Q1 := by
  refine ⟨ρ, μ, G, hσ, hG, ?_⟩
  cases e : m ρ G with
  | stuck => rw [e] at h; exact h
  | exc c d G1 => rw [e] at h; exact h
  | ok v G1 =>
    rw [e] at h
    simp only [R.bind_ok] at h
    rcases hf v G1 with ⟨k, hk⟩ | hk
    · rw [hk] at h
      exact fun H1 μ1 x g hG1 r => n v G1 H1 μ1 x k g hG1 r hk fun J ok => h H1 μ1 J g hG1 ok
    · rw [hk] at h
      exact h.elim
theorem si_any (ha : SE X W a m) : SI X W tg a (mWk m) := by
  refine PI.imp (pi_any ha) fun σ H Q ⟨ρ, μ, G, hσ, hG, h⟩ => tI.of hσ hG h (fun v G1 H1 μ1 x k g hG1 r hk q => ?_) fun v G1 => ?_
  · cases e : wkOf G1 v with
    | none => simp only [e] at hk; cases hk
    | some k' =>
      simp only [e] at hk
      cases hk
      cases r with
      | tup h rs => cases e; exact .inr (.inl ⟨_, rfl, ⟨_, SqT.of h⟩, q _ (itOk_t fun H μ G g _ _ => ⟨_, SqT.of (g.tup _ _ h), rs.gr g⟩)⟩)
      | con h rs => cases e; exact .inr (.inl ⟨_, rfl, ⟨_, h.sq⟩, q _ (itOk_t fun H μ G g _ _ => ⟨_, h.sq, rs.gr g⟩)⟩)
      | lk h rs => cases e; exact .inl ⟨_, rfl, ⟨_, h.sq⟩, q _ (itOk_l fun H μ G g _ _ => ⟨_, (h.gr g).sq, rs.gr g⟩)⟩
      | ls h rs => cases e; exact .inl ⟨_, rfl, ⟨_, h.sq⟩, q _ (itOk_l fun H μ G g _ _ => ⟨_, (h.gr g).sq, rs.gr g⟩)⟩
      | str s => cases e; exact .inr (.inr ⟨s, rfl, q _ itOk_s⟩)
      | ref h =>
        rename_i n a'
        obtain ⟨o, ho, ro⟩ := hG1.obj h
        simp only [wkOf, ho] at e
        cases o with
        | lst xs =>
          cases e
          obtain ⟨vs, h1, rs⟩ := ro
          refine .inl ⟨_, rfl, ⟨_, SqL.of h1⟩, q _ (itOk_l fun H μ G g hG hgd => ?_)⟩
          obtain ⟨vs', h2, rs'⟩ := hG.at_ n a' _ (h.gr g) hgd
          exact ⟨vs', SqL.of h2, rs'⟩
        | _ => cases e
      | _ => cases e
  · cases e : wkOf G1 v with
    | none => exact .inr rfl
    | some k => exact .inl ⟨k, rfl⟩
/-- range(n), range(a, b) -/
def rgA (lo hi : Int) : List AV := (List.range (hi - lo).toNat).map fun i => .int (lo + (i : Nat))
@[irreducible] def mRg1 (m : ME) : MI := fun ρ G => (m ρ G).bind fun v G1 => match v with
  | .int j => if -(2 ^ 62) ≤ j ∧ j < 2 ^ 62 then .ok (rgA 0 j, none) G1 else .stuck
  | _ => .stuck
@[irreducible] def mRg2 (ma mb : ME) : MI := fun ρ G => (ma ρ G).bind fun v G1 => (mb ρ G1).bind fun w G2 => match v, w with
  | .int i, .int j => if -(2 ^ 62) ≤ i ∧ i < 2 ^ 62 ∧ -(2 ^ 62) ≤ j ∧ j < 2 ^ 62 then .ok (rgA i j, none) G2 else .stuck
  | _, _ => .stuck
theorem itOk_r {K : PySem.W.Frag} {H1 : Hp} {μ1 : Mu} {lo hi : Int} : ItOk K (Itr lo (hi - lo).toNat) (rgA lo hi, none) H1 μ1 := fun i H μ G g hG _ => by
  unfold rgA
  refine ⟨fun v hv => ?_, fun h => by
    have h2 : (hi - lo).toNat ≤ i := by simpa using h
    exact h2⟩
  rw [List.getElem?_map] at hv
  by_cases hi' : i < (hi - lo).toNat
  · rw [List.getElem?_range hi'] at hv
    cases hv
    refine ⟨hi', fun x H' ⟨e, ex⟩ => ?_⟩
    subst e ex
    exact ⟨Gr.refl _ _, hG, .int _⟩
  · rw [List.getElem?_eq_none (by simp; omega)] at hv
    cases hv
theorem si_range1 (hg : Gl X "range") (hm : X.mg "range" = none) (ha : SE X W a m) (hs : starEach [a] X.env = [(false, eval a X.env)] := by rfl) : SI X W tg (.Call (.Name "range" p) [a] [] pos) (mRg1 m) := by
  refine PI.imp (pi_range1 hg hm (pa_cons ha pa_nil hs) hs) fun σ H Q ⟨ρ, μ, G, hσ, hG, h⟩ => ?_
  unfold mRg1 at h
  refine tI.of hσ hG h (fun v G1 H1 μ1 x k g hG1 r hk q => ?_) fun v G1 => ?_
  · cases r with
    | int j =>
      simp only at hk
      by_cases hz : -(2 ^ 62) ≤ j ∧ j < 2 ^ 62
      · rw [if_pos hz] at hk
        cases hk
        refine ⟨j, rfl, hz.1, hz.2, ?_⟩
        have := q (Itr 0 (j - 0).toNat) itOk_r
        rw [Int.sub_zero] at this
        exact this
      · rw [if_neg hz] at hk
        cases hk
    | _ => cases hk
  · cases v with
    | int j =>
      simp only
      by_cases hz : -(2 ^ 62) ≤ j ∧ j < 2 ^ 62
      · rw [if_pos hz]; exact .inl ⟨_, rfl⟩
      · rw [if_neg hz]; exact .inr rfl
    | _ => exact .inr rfl
def wipeA (ρ : En) : List Nat → En
  | [] => ρ
  | v :: vs => (wipeA ρ vs).set v none
theorem RS.wipe {K : PySem.W.Frag} {H : Hp} {μ : Mu} {ρ : En} {σ : St} (h : RS K H μ ρ σ) : ∀ vs : List Nat, RS K H μ (wipeA ρ vs) (L2.wipe σ vs)
  | [] => h
  | v :: vs => (RS.wipe h vs).unset
theorem wipe_out' {σ : St} : ∀ {vs : List Nat} {i : Nat}, i ∉ vs → (L2.wipe σ vs)[i]? = σ[i]?
  | [], _, _ => rfl
  | v :: vs, i, h => by
    show ((L2.wipe σ vs).set v none)[i]? = _
    rw [List.getElem?_set_ne fun e => h (by rw [e]; exact List.mem_cons_self ..)]
    exact wipe_out' fun z => h (List.mem_cons_of_mem _ z)
theorem wipe_len {σ : St} : ∀ vs : List Nat, (L2.wipe σ vs).length = σ.length
  | [] => rfl
  | v :: vs => by
    show ((L2.wipe σ vs).set v none).length = _
    rw [List.length_set, wipe_len vs]
theorem wipe_in {σ : St} : ∀ {vs : List Nat} {i : Nat}, i ∈ vs → (L2.wipe σ vs)[i]? = if i < σ.length then some none else none
  | v :: vs, i, h => by
    show ((L2.wipe σ vs).set v none)[i]? = _
    by_cases e : v = i
    · subst e
      by_cases hl : v < σ.length
      · rw [List.getElem?_set_self (by rw [wipe_len]; exact hl), if_pos hl]
      · rw [List.getElem?_eq_none (by rw [List.length_set, wipe_len]; omega), if_neg hl]
    · rw [List.getElem?_set_ne e]
      exact wipe_in ((List.mem_cons.mp h).resolve_left fun z => e z.symm)
theorem wipe_eq {σ σ' : St} {vs S : List Nat} (hS : ∀ j ∈ S, j ∈ vs) (hl : σ'.length = σ.length) (h : ∀ j, j ∉ S → σ'[j]? = σ[j]?) : L2.wipe σ' vs = L2.wipe σ vs := by
  refine List.ext_getElem? fun i => ?_
  by_cases hi : i ∈ vs
  · rw [wipe_in hi, wipe_in hi, hl]
  · rw [wipe_out' hi, wipe_out' hi]
    exact h i fun z => hi (hS i z)
theorem wipe_wipe {σ : St} {vs : List Nat} : L2.wipe (L2.wipe σ vs) vs = L2.wipe σ vs := by
  refine List.ext_getElem? fun i => ?_
  by_cases hi : i ∈ vs
  · rw [wipe_in hi, wipe_in hi, wipe_len]
  · rw [wipe_out' hi]
abbrev WN : WX := fun _ _ _ _ => False
theorem takesN {X : Cx} : Takes X WN := fun _ _ ⟨_, _, _, _, _, _, _, _, _, _, _, _, _, _, _, _, w⟩ => w.elim
abbrev mYes : MB := fun _ G => .ok true G
def STs (X : Cx) (W : WX) (ifs : List Expr) (m : MB) : Prop := PTs X ifs (tG X.K rB W m)
theorem sts_nil : STs X W [] mYes := ⟨fun pins s σ H Q I ⟨ρ, μ, G, hσ, hG, h⟩ => pts_nil.run pins s σ H Q I (Po.now (v := true) h hG rfl)⟩
theorem sts_one (h : ST X W c t) : STs X W [c] t := pts_one h
open Classical in
/-- the turns of a list comprehension: the new list is the object D -/
noncomputable def lcF (gd : Option (Nat × List AV)) (g : MG) (t : MB) (m : ME) (D : Nat) (ρ : En) : List AV → Hs → R Unit
  | [], G => if gdOk gd G then .ok () G else .stuck
  | v :: vs, G => if gdOk gd G then match g v ρ G with
      | .ok ρ1 G1 => match t ρ1 G1 with
        | .ok true G2 => match m ρ1 G2 with
          | .ok y G3 => match G3[D]? with
            | some (.lst acc) => if acc.length < szl then lcF gd g t m D ρ vs (G3.set D (.lst (acc ++ [y]))) else .stuck
            | _ => .stuck
          | _ => .stuck
        | .ok false G2 => lcF gd g t m D ρ vs G2
        | _ => .stuck
      | _ => .stuck
    else .stuck
noncomputable def mLc (mi : MI) (g : MG) (t : MB) (m : ME) (own : List Nat) : ME := fun ρ G => (mi ρ G).bind fun k G1 => (lcF k.2 g t m G1.length (wipeA ρ own) k.1 (G1 ++ [.lst []])).bind fun _ G2 => .ok (.ref G1.length) G2
theorem lc_go {S own : List Nat} {mi : MI} {g : MG} (hS : ∀ j ∈ S, j ∈ own) {K : PySem.W.Frag} {σ : St} {H : Hp} {Q : VK} (h : tG K (rA K) W (mLc mi g t m own) σ H Q) :
    tLc (tI K W mi) (tT K WN S g) (tG K rB WN t) (tG K (rA K) WN m) own σ H Q := by
  obtain ⟨ρ, μ, G, hσ, hG, h⟩ := h
  refine ⟨ρ, μ, G, hσ, hG, ?_⟩
  unfold mLc at h
  cases e : mi ρ G with
  | stuck => rw [e] at h; exact h
  | exc c d G1 => rw [e] at h; exact h
  | ok k G1 =>
    rw [e] at h
    simp only [R.bind_ok] at h
    intro H1 μ1 J g1 hG1 ok D hD
    have gD : Gr H1 μ1 (upd H1 D (.lst [])) (μ1 ++ [some D]) := Gr.alloc hD
    have hGD : RH K (upd H1 D (.lst [])) (μ1 ++ [some D]) (G1 ++ [.lst []]) := hG1.alloc hD ⟨[], upd_same, .nil⟩
    have hDn : Num (μ1 ++ [some D]) G1.length D := hG1.fresh D
    have hw := (hσ.gr (g1.trans gD)).wipe own
    have h0 : Po K (rA K) W σ (upd H1 D (.lst [])) (μ1 ++ [some D]) ((lcF k.2 g t m G1.length (wipeA ρ own) k.1 (G1 ++ [.lst []])).bind fun _ G2 => .ok (.ref G1.length) G2) Q := Po.gr (g1.trans gD) h
    refine ⟨fun i mm H => mm = k.1.length - i ∧ i ≤ k.1.length ∧ ∃ μ G, Gr (upd H1 D (.lst [])) (μ1 ++ [some D]) H μ ∧ RH K H μ G ∧ Po K (rA K) W σ H μ ((lcF k.2 g t m G1.length (wipeA ρ own) (k.1.drop i) G).bind fun _ G2 => .ok (.ref G1.length) G2) Q,
      ⟨k.1.length, rfl, Nat.zero_le _, _, _, Gr.refl _ _, hGD, h0⟩, ?_⟩
    rintro i mm H2 ⟨rfl, hi2, μ2, G2, g2, hG2, h2⟩
    have hDn2 : Num μ2 (G1.length) D := hDn.gr g2
    by_cases hlt : i < k.1.length
    · rw [List.drop_eq_getElem_cons hlt] at h2
      simp only [lcF] at h2
      by_cases hgd : gdOk k.2 G2
      · rw [if_pos hgd] at h2
        obtain ⟨go, yl⟩ := (ok i H2 μ2 G2 (gD.trans g2) hG2 hgd).1 _ (List.getElem?_eq_getElem hlt)
        refine .inr ⟨go, fun H' => ∃ μ G, Gr (upd H1 D (.lst [])) (μ1 ++ [some D]) H' μ ∧ RH K H' μ G ∧ Po K (rA K) W σ H' μ ((lcF k.2 g t m G1.length (wipeA ρ own) (k.1.drop (i + 1)) G).bind fun _ G2 => .ok (.ref G1.length) G2) Q,
          fun H' z => ⟨k.1.length - (i + 1), by omega, rfl, hlt, z⟩, fun x H' y => ?_⟩
        obtain ⟨g3, hG3, rx⟩ := yl x H' y
        have g13 := g2.trans g3
        refine ⟨_, wipeA ρ own, μ2, G2, rx, hw.gr g13, hG3, ?_⟩
        have h3 := Po.gr g3 h2
        cases e3 : g k.1[i] (wipeA ρ own) G2 with
        | stuck => rw [e3] at h3; exact h3
        | exc c d G' => rw [e3] at h3; exact h3
        | ok ρ4 G4 =>
          rw [e3] at h3
          simp only at h3
          intro H4 μ4 σ4 g4 hG4 hσ4 l4 j4
          have h4 := Po.gr g4 h3
          have g14 := g13.trans g4
          refine ⟨(wipe_eq hS l4 j4).trans wipe_wipe, ρ4, μ4, G4, hσ4, hG4, ?_⟩
          cases e4 : t ρ4 G4 with
          | stuck => rw [e4] at h4; exact h4
          | exc c d G' => rw [e4] at h4; exact h4.elim
          | ok b G5 =>
            rw [e4] at h4
            intro H5 μ5 b' g5 hG5 eb
            have eb : b = b' := eb
            subst eb
            have h5 := Po.gr g5 h4
            have g15 := g14.trans g5
            cases b with
            | false => exact iteF ⟨μ5, G5, g15, hG5, h5⟩
            | true =>
              refine iteT ⟨ρ4, μ5, G5, hσ4.gr g5, hG5, ?_⟩
              simp only at h5
              cases e6 : m ρ4 G5 with
              | stuck => rw [e6] at h5; exact h5
              | exc c d G' => rw [e6] at h5; exact h5.elim
              | ok y G6 =>
                rw [e6] at h5
                simp only at h5
                intro H6 μ6 y' g6 hG6 ry
                have h6 := Po.gr g6 h5
                have g16 := g15.trans g6
                have hDn6 : Num μ6 (G1.length) D := hDn.gr g16
                obtain ⟨o, ho, ro⟩ := hG6.obj hDn6
                rw [ho] at h6
                cases o with
                | lst acc =>
                  simp only at h6
                  obtain ⟨vs, hv, rs⟩ := ro
                  by_cases hz : acc.length < szl
                  · rw [if_pos hz] at h6
                    have gp : Gr H6 μ6 (upd H6 D (.lst (vs ++ [y']))) μ6 := Gr.put hG6 hDn6 ho
                    refine ⟨vs, hv, by rw [← rs.length]; exact hz, μ6, _, g16.trans gp, hG6.put (o := .lst (acc ++ [y])) hDn6 ho ⟨_, upd_same, (rs.app (.cons ry .nil)).gr gp⟩, Po.gr gp h6⟩
                  · rw [if_neg hz] at h6
                    exact h6.elim
                | _ => exact h6.elim
      · rw [if_neg hgd] at h2
        exact h2.elim
    · have ei : i = k.1.length := by omega
      rw [List.drop_eq_nil_of_le (by omega)] at h2
      simp only [lcF] at h2
      by_cases hgd : gdOk k.2 G2
      · rw [if_pos hgd] at h2
        exact .inl ⟨(ok i H2 μ2 G2 (gD.trans g2) hG2 hgd).2 (by omega), Po.now (v := AV.ref G1.length) h2 hG2 (.ref hDn2)⟩
      · rw [if_neg hgd] at h2
        exact h2.elim
theorem se_lc {S : List Nat} {elt : Expr} {ifs : List Expr} {scope : Scope} {own : List (Str × Nat)} {mi : MI} {g : MG} (hc : X.calm = true) (hN : X.N.Nodup) (hi : SI X W tg iter mi) (ok : BlkOk X.N X.env.scope scope own) (hS : ∀ j ∈ S, j ∈ own.map (·.2))
    (hg : ∀ (s : Shared) (H : Hp) (C : Addr) (cl : List (Str × Addr)) (fp : List Addr), SG (X.blk s H scope (compEnvC scope cl C X.env) fp) WN S tg g)
    (ht : ∀ (s : Shared) (H : Hp) (C : Addr) (cl : List (Str × Addr)) (fp : List Addr), STs (X.blk s H scope (compEnvC scope cl C X.env) fp) WN ifs t)
    (he : ∀ (s : Shared) (H : Hp) (C : Addr) (cl : List (Str × Addr)) (fp : List Addr), SE (X.blk s H scope (compEnvC scope cl C X.env) fp) WN elt m) (hs : ∀ x, foldedSetIterable iter X.env x = pure x := by intro _; rfl) :
    SE X W (.ListComp elt [⟨tg, iter, ifs, 0⟩] scope pos) (mLc mi g t m (own.map (·.2))) :=
  PE.imp (pe_lc (g := tT X.K WN S g) (tt := tG X.K rB WN t) (te := tG X.K (rA X.K) WN m) hc hN hi ok hg ht he hs) fun σ H Q h => lc_go hS h
theorem ss_setLc {S : List Nat} {i : Nat} {y : Str} {py spos : Pos} {elt : Expr} {ifs : List Expr} {scope : Scope} {own : List (Str × Nat)} {mi : MI} {g : MG} (hc : X.calm = true) (hN : X.N.Nodup) (hy : X.N[i]? = some y) (hyl : X.env.scope.names.lookup y = some .local)
    (hsw : swapsWith (.ListComp elt [⟨tg, iter, ifs, 0⟩] scope pos) (some (.Name y py)) spos.line X.env = pure true) (hi : SI X W tg iter mi) (ok : BlkOk X.N X.env.scope scope own) (hS : ∀ j ∈ S, j ∈ own.map (·.2))
    (hg : ∀ (s : Shared) (H : Hp) (C : Addr) (cl : List (Str × Addr)) (fp : List Addr), SG (X.blk s H scope (compEnvC scope cl C X.env) fp) WN S tg g)
    (ht : ∀ (s : Shared) (H : Hp) (C : Addr) (cl : List (Str × Addr)) (fp : List Addr), STs (X.blk s H scope (compEnvC scope cl C X.env) fp) WN ifs t)
    (he : ∀ (s : Shared) (H : Hp) (C : Addr) (cl : List (Str × Addr)) (fp : List Addr), SE (X.blk s H scope (compEnvC scope cl C X.env) fp) WN elt m) (hs : ∀ x, foldedSetIterable iter X.env x = pure x := by intro _; rfl) :
    SS X W (.Assign [.Name y py] (.ListComp elt [⟨tg, iter, ifs, 0⟩] scope pos) spos) (mAsg (mLc mi g t m (own.map (·.2))) (gNm i)) := by
  refine PS.imp (ps_setLc (g := tT X.K WN S g) (tt := tG X.K rB WN t) (te := tG X.K (rA X.K) WN m) hc hN hy hyl hsw hi ok hg ht he hs) fun D σ H ⟨ρ, μ, G, hσ, hG, h⟩ => lc_go hS (W := W) ⟨ρ, μ, G, hσ, hG, ?_⟩
  unfold mAsg at h
  cases e : mLc mi g t m (own.map (·.2)) ρ G with
  | stuck => rw [e] at h; exact h
  | exc c d G' => rw [e] at h; exact fun H' μ' dd g hG' hd => h H' μ' σ dd g hG' (hσ.gr g) hd
  | ok v G1 =>
    rw [e] at h
    exact fun H1 μ1 z g1 hG1 r => h H1 μ1 _ g1 hG1 ((hσ.gr g1).set r)
end
end Vz
namespace Vz
open PySem L2
def kOf : AV → Option Key
  | .int i => some (.inl i)
  | .str s => some (.inr s)
  | _ => none
theorem kOf_ok {K : PySem.W.Frag} {H : Hp} {μ : Mu} {v : AV} {x : V} {k : Key} (r : RA K H μ v x) (e : kOf v = some k) : x = kV k := by
  cases r with
  | int i => cases e; rfl
  | str s => cases e; rfl
  | _ => cases e
section
variable {κ : Type} [DecidableEq κ]
def getA : List (κ × AV) → κ → Option AV
  | [], _ => none
  | (k, v) :: r, j => if k = j then some v else getA r j
def putA (kvs : List (κ × AV)) (k : κ) (v : AV) : List (κ × AV) := if (kvs.any fun kv => decide (kv.1 = k)) = true then kvs.map (fun kv => if kv.1 = k then (kv.1, v) else kv) else kvs ++ [(k, v)]
variable {K : PySem.W.Frag} {H : Hp} {μ : Mu}
theorem RF.cons_inv {k : κ} {v : AV} {fs : List (κ × AV)} {gs : List (κ × V)} (h : RF K H μ ((k, v) :: fs) gs) : ∃ x gs', gs = (k, x) :: gs' ∧ RA K H μ v x ∧ RF K H μ fs gs' := by
  obtain ⟨h1, h2⟩ := h
  cases gs with
  | nil => cases h1
  | cons g gs =>
    obtain ⟨k', x⟩ := g
    rw [List.map_cons, List.map_cons] at h1
    injection h1 with e1 e2
    have e1 : k = k' := e1
    subst e1
    cases h2 with
    | cons r t => exact ⟨x, gs, rfl, r, e2, t⟩
theorem RF.cons {k : κ} {v : AV} {x : V} {fs : List (κ × AV)} {gs : List (κ × V)} (r : RA K H μ v x) (h : RF K H μ fs gs) : RF K H μ ((k, v) :: fs) ((k, x) :: gs) :=
  ⟨by rw [List.map_cons, List.map_cons, h.1], .cons r h.2⟩
theorem RF.nil' : RF K H μ ([] : List (κ × AV)) ([] : List (κ × V)) := ⟨rfl, .nil⟩
/-- what is there, or not -/
def RAo (K : PySem.W.Frag) (H : Hp) (μ : Mu) : Option AV → Option V → Prop
  | some v, some x => RA K H μ v x
  | none, none => True
  | _, _ => False
theorem RF.get (k : κ) : ∀ {fs : List (κ × AV)} {gs : List (κ × V)}, RF K H μ fs gs → RAo K H μ (getA fs k) (valV gs k)
  | [], gs, h => by
    cases gs with
    | nil => exact True.intro
    | cons g gs => cases h.1
  | (j, v) :: fs, gs, h => by
    obtain ⟨x, gs', rfl, r, t⟩ := h.cons_inv
    unfold getA
    by_cases e : j = k
    · rw [if_pos e, valV_pos (p := (j, x)) e]
      exact r
    · rw [if_neg e, valV_neg (p := (j, x)) e]
      exact RF.get k t
theorem RF.any (k : κ) : ∀ {fs : List (κ × AV)} {gs : List (κ × V)}, RF K H μ fs gs → (fs.any fun kv => decide (kv.1 = k)) = gs.any fun kv => decide (kv.1 = k)
  | [], gs, h => by
    cases gs with
    | nil => rfl
    | cons g gs => cases h.1
  | (j, v) :: fs, gs, h => by
    obtain ⟨x, gs', rfl, r, t⟩ := h.cons_inv
    rw [List.any_cons, List.any_cons, RF.any k t]
theorem RF.mapSet {k : κ} {v : AV} {x : V} (r : RA K H μ v x) : ∀ {fs : List (κ × AV)} {gs : List (κ × V)}, RF K H μ fs gs → RF K H μ (fs.map fun kv => if kv.1 = k then (kv.1, v) else kv) (gs.map fun kv => if kv.1 = k then (kv.1, x) else kv)
  | [], gs, h => by
    cases gs with
    | nil => exact .nil'
    | cons g gs => cases h.1
  | (j, u) :: fs, gs, h => by
    obtain ⟨y, gs', rfl, r', t⟩ := h.cons_inv
    rw [List.map_cons, List.map_cons]
    by_cases e : j = k
    · rw [if_pos (show (j, u).1 = k from e), if_pos (show (j, y).1 = k from e)]
      exact .cons r (RF.mapSet r t)
    · rw [if_neg (show ¬ (j, u).1 = k from e), if_neg (show ¬ (j, y).1 = k from e)]
      exact .cons r' (RF.mapSet r t)
theorem RF.app {fs fs' : List (κ × AV)} {gs gs' : List (κ × V)} (h : RF K H μ fs gs) (h' : RF K H μ fs' gs') : RF K H μ (fs ++ fs') (gs ++ gs') :=
  ⟨by rw [List.map_append, List.map_append, h.1, h'.1], by rw [List.map_append, List.map_append]; exact h.2.app h'.2⟩
theorem RF.put (k : κ) {v : AV} {x : V} (r : RA K H μ v x) {fs : List (κ × AV)} {gs : List (κ × V)} (h : RF K H μ fs gs) : RF K H μ (putA fs k v) (putK gs k x) := by
  unfold putA putK
  rw [RF.any k h]
  split
  · exact h.mapSet r
  · exact h.app (.cons r .nil')
end
def dkOf (G : Hs) : AV → Option (Nat × List (Key × AV))
  | .ref n => match G[n]? with
    | some (.dk kvs) => some (n, kvs)
    | _ => none
  | _ => none
theorem dkOf_ok {K : PySem.W.Frag} {H : Hp} {μ : Mu} {G : Hs} {v : AV} {x : V} {n : Nat} {kvs : List (Key × AV)} (hG : RH K H μ G) (r : RA K H μ v x) (e : dkOf G v = some (n, kvs)) :
    ∃ a ws, v = .ref n ∧ x = .ref a ∧ Num μ (n) a ∧ G[n]? = some (.dk kvs) ∧ H a = some (.dK ws) ∧ RF K H μ kvs ws := by
  cases r with
  | ref h =>
    obtain ⟨o, ho, ro⟩ := hG.obj h
    simp only [dkOf, ho] at e
    cases o with
    | dk zs =>
      cases e
      obtain ⟨ws, h1, h2⟩ := ro
      exact ⟨_, ws, rfl, rfl, h, ho, h1, h2⟩
    | _ => cases e
  | _ => cases e
/-- a dict, as it is read -/
def dkR (G : Hs) : AV → Option (List (Key × AV))
  | .ref n => match G[n]? with
    | some (.dk kvs) => some kvs
    | _ => none
  | .id ks xs => some (ks.zip xs)
  | _ => none
theorem dkR_ok {K : PySem.W.Frag} {H : Hp} {μ : Mu} {G : Hs} {v : AV} {x : V} {kvs : List (Key × AV)} (hG : RH K H μ G) (r : RA K H μ v x) (e : dkR G v = some kvs) :
    ∃ a ws, x = .ref a ∧ H a = some (.dK ws) ∧ RF K H μ kvs ws := by
  cases r with
  | ref h =>
    obtain ⟨o, ho, ro⟩ := hG.obj h
    simp only [dkR, ho] at e
    cases o with
    | dk zs =>
      cases e
      obtain ⟨ws, h1, h2⟩ := ro
      exact ⟨_, ws, rfl, h1, h2⟩
    | _ => cases e
  | id h _ en rs => cases e; exact ⟨_, _, rfl, h, RF.zip en rs⟩
  | _ => cases e
section
variable {X : Cx} {W : WX} {a b c e o i value : Expr} {es rest : List Expr} {m ma mb mc mo mi mv : ME} {t : MB} {ms mk : MEs} {pos pos' p apos cpos tpos : Pos} {x : Str}
/-- d[k] -/
def fDg (v w : AV) (G : Hs) : R AV := match dkR G v, kOf w with
  | some kvs, some k => match getA kvs k with
    | some u => .ok u G
    | none => .stuck
  | _, _ => .stuck
theorem RAo.some_of {K : PySem.W.Frag} {H : Hp} {μ : Mu} {v : AV} {o : Option V} (h : RAo K H μ (some v) o) : ∃ x, o = some x ∧ RA K H μ v x := by
  cases o with
  | none => exact h.elim
  | some x => exact ⟨x, rfl, h⟩
theorem RAo.isSome {K : PySem.W.Frag} {H : Hp} {μ : Mu} {u : Option AV} {o : Option V} (h : RAo K H μ u o) : u.isSome = o.isSome := by
  cases u <;> cases o <;> first | rfl | exact h.elim
theorem se_dget (hu : X.A.units + 1 < cLine) (ha : SE X W o mo) (hb : SE X W i mi) (hs : NoSl i) : SE X W (.Subscript o i pos) (m2 fDg mo mi) := by
  refine PE.imp (pe_dget hu ha hb hs) fun σ H Q ⟨ρ, μ, G, hσ, hG, h⟩ => tG.bind hσ hG h fun v G1 H1 μ1 x g1 hσ1 hG1 rv h1 => tG.bind hσ1 hG1 h1 fun w G2 H2 μ2 y g2 hσ2 hG2 rw' h2 => ?_
  unfold fDg at h2
  cases e1 : dkR G2 v with
  | none => rw [e1] at h2; exact h2.elim
  | some kvs =>
    cases e2 : kOf w with
    | none => rw [e1, e2] at h2; exact h2.elim
    | some k =>
      rw [e1, e2] at h2
      simp only at h2
      cases e3 : getA kvs k with
      | none => rw [e3] at h2; exact h2.elim
      | some u =>
        rw [e3] at h2
        obtain ⟨p, ws, rfl, hp, rf⟩ := dkR_ok hG2 (rv.gr g2) e1
        have hr := rf.get k
        rw [e3] at hr
        obtain ⟨z, hz, rz⟩ := hr.some_of
        exact ⟨p, z, rfl, .inl ⟨ws, k, .inl hp, kOf_ok rw' e2, hz.symm⟩, Po.now (v := u) h2 hG2 rz⟩
def rNinK : R2 := fun x y H Q => ∃ a ov, y = .ref a ∧ DGet H a x ov ∧ Q (.bl (!ov.isSome)) H
theorem op_ninK (hu : X.A.units + 1 < cLine) : OpR X (compareOp .NotIn) rNinK := by
  intro pins s σ H x y v u Q I rx ry ⟨a, ov, ea, g, q⟩
  subst ea
  cases ry
  exact d_notIn hu I g rx fun s3 I3 => ⟨.bl (!ov.isSome), H, I3, rfl, q⟩
def fNinK (v w : AV) (G : Hs) : R AV := match dkR G w, kOf v with
  | some kvs, some k => .ok (.bl (!(getA kvs k).isSome)) G
  | _, _ => .stuck
theorem op2_ninK {K : PySem.W.Frag} : Op2 K rNinK fNinK := by
  intro W σ H μ G v w x y Q hG rv rw' q
  unfold fNinK at q
  cases e1 : dkR G w with
  | none => rw [e1] at q; exact q.elim
  | some kvs =>
    cases e2 : kOf v with
    | none => rw [e1, e2] at q; exact q.elim
    | some k =>
      rw [e1, e2] at q
      obtain ⟨p, ws, rfl, hp, rf⟩ := dkR_ok hG rw' e1
      have hr := (rf.get k).isSome
      exact ⟨p, valV ws k, rfl, .inl ⟨ws, k, .inl hp, kOf_ok rv e2, rfl⟩, by rw [← hr]; exact Po.now (v := AV.bl _) q hG (.bl _)⟩
/-- d[k] = v -/
def fDp (v w u : AV) (G : Hs) : R Unit := match dkOf G v, kOf w with
  | some (n, kvs), some k => if kvs.length < szl then .ok () (G.set n (.dk (putA kvs k u))) else .stuck
  | _, _ => .stuck
def mDput (mo mi mv : ME) : MS := fun ρ G => (mv ρ G).toS ρ fun u G1 => (mo ρ G1).toS ρ fun v G2 => (mi ρ G2).toS ρ fun w G3 => (fDp v w u G3).toS ρ fun _ G4 => .nx ρ G4
theorem ss_dput (hu : X.A.units + 1 < cLine) (ha : SE X W o mo) (hb : SE X W i mi) (hv : SE X W value mv) (hs : swapsWith value (some (.Subscript o i pos')) pos.line X.env = pure false) :
    SS X W (.Assign [.Subscript o i pos'] value pos) (mDput mo mi mv) := by
  refine PS.imp (ps_dput hu ha hb hv hs) fun D σ H ⟨ρ, μ, G, hσ, hG, h⟩ => tG.toS hσ hG h fun u G1 H1 μ1 x1 g1 hσ1 hG1 ru h1 => tG.toS hσ1 hG1 h1 fun v G2 H2 μ2 x2 g2 hσ2 hG2 rv h2 => tG.toS hσ2 hG2 h2 fun w G3 H3 μ3 x3 g3 hσ3 hG3 rw' h3 => ?_
  unfold fDp at h3
  cases e1 : dkOf G3 v with
  | none => rw [e1] at h3; exact h3.elim
  | some q =>
    obtain ⟨n, kvs⟩ := q
    cases e2 : kOf w with
    | none => rw [e1, e2] at h3; exact h3.elim
    | some k =>
      rw [e1, e2] at h3
      simp only at h3
      by_cases hz : kvs.length < szl
      · rw [if_pos hz] at h3
        obtain ⟨q, ws, rfl, rfl, hn, hGn, hp, rf⟩ := dkOf_ok hG3 (rv.gr g3) e1
        have gp : Gr H3 μ3 (upd H3 q (.dK (putK ws k x1))) μ3 := Gr.put hG3 hn hGn
        refine ⟨q, _, rfl, .inl ⟨ws, k, hp, kOf_ok rw' e2, by rw [← rf.length]; exact hz, rfl⟩, ?_⟩
        exact h3 _ μ3 σ gp (hG3.put (o := .dk (putA kvs k u)) hn hGn ⟨_, upd_same, (rf.put k ((ru.gr g2).gr g3)).gr gp⟩) (hσ3.gr gp)
      · rw [if_neg hz] at h3
        exact h3.elim
/-- {k: v, ..} -/
def mPairs : List (ME × ME) → En → Hs → R (List (Key × AV))
  | [], _, G => .ok [] G
  | (mk, mv) :: r, ρ, G => (mk ρ G).bind fun w G1 => (mv ρ G1).bind fun u G2 => match kOf w with
    | some k => (mPairs r ρ G2).bind fun kvs G3 => .ok ((k, u) :: kvs) G3
    | none => .stuck
def mergeA (more : List (Key × AV)) : List (Key × AV) := more.foldl (fun acc kv => putA acc kv.1 kv.2) []
open Classical in
noncomputable def mDict (trs : List (ME × ME)) : ME := fun ρ G => (mPairs trs ρ (G ++ [.dk []])).bind fun kvs G1 => if kvs.length ≤ 15 ∧ G1[G.length]? = some (.dk []) then .ok (.ref G.length) (G1.set G.length (.dk (mergeA kvs))) else .stuck
inductive SPs (X : Cx) (W : WX) (pos : Pos) : List (Option Expr) → List Expr → List (ME × ME) → Prop where
  | nil : SPs X W pos [] [] []
  | cons {k v : Expr} {ks : List (Option Expr)} {vs : List Expr} {mk mv : ME} {r : List (ME × ME)} : SE X W k mk → SE X W v mv → SPs X W pos ks vs r → SPs X W pos (some k :: ks) (v :: vs) ((mk, mv) :: r)
def tPs (K : PySem.W.Frag) (W : WX) (trs : List (ME × ME)) : List (TE × TE) := trs.map fun q => (tG K (rA K) W q.1, tG K (rA K) W q.2)
theorem SPs.pps {ks : List (Option Expr)} {vs : List Expr} {trs : List (ME × ME)} (h : SPs X W pos ks vs trs) : PPs X pos ks vs (tPs X.K W trs) := by
  induction h with
  | nil => exact pps_nil
  | cons h1 h2 _ ih => exact pps_cons h1 h2 ih
theorem pairs_go {K : PySem.W.Frag} {γ δ : Type} {rel' : Rel γ δ} {ρ : En} {σ : St} : ∀ {trs : List (ME × ME)} {H : Hp} {μ : Mu} {G : Hs} {k : List (Key × AV) → Hs → R γ} {Q : δ → Hp → Prop} {Q1 : List (V × V) → Hp → Prop}, RS K H μ ρ σ → RH K H μ G → Po K rel' W σ H μ ((mPairs trs ρ G).bind k) Q →
    (∀ kvs G1 H1 μ1 ws, Gr H μ H1 μ1 → RS K H1 μ1 ρ σ → RH K H1 μ1 G1 → RF K H1 μ1 kvs ws → Po K rel' W σ H1 μ1 (k kvs G1) Q → Q1 (ws.map fun kv => (kV kv.1, kv.2)) H1) → tPairs (tPs K W trs) σ H Q1
  | [], H, μ, G, k, Q, Q1, hσ, hG, h, n => n [] G H μ [] (Gr.refl _ _) hσ hG .nil' h
  | (mk, mv) :: r, H, μ, G, k, Q, Q1, hσ, hG, h, n => by
    have h : Po K rel' W σ H μ ((mk ρ G).bind fun w G1 => (((mv ρ G1).bind fun u G2 => match kOf w with
      | some k => (mPairs r ρ G2).bind fun kvs G3 => .ok ((k, u) :: kvs) G3
      | none => .stuck).bind k)) Q := by
      have e : (mPairs ((mk, mv) :: r) ρ G).bind k = (mk ρ G).bind fun w G1 => (((mv ρ G1).bind fun u G2 => match kOf w with
        | some k => (mPairs r ρ G2).bind fun kvs G3 => .ok ((k, u) :: kvs) G3
        | none => .stuck).bind k) := by
        show ((mk ρ G).bind _).bind k = _
        cases mk ρ G <;> rfl
      rw [← e]
      exact h
    refine tG.bind hσ hG h fun w G1 H1 μ1 y g1 hσ1 hG1 rw' h1 => ?_
    have h1 : Po K rel' W σ H1 μ1 ((mv ρ G1).bind fun u G2 => ((match kOf w with
      | some k => (mPairs r ρ G2).bind fun kvs G3 => .ok ((k, u) :: kvs) G3
      | none => .stuck : R (List (Key × AV))).bind k)) Q := by
      cases e : mv ρ G1 with
      | stuck => rw [e] at h1; exact h1
      | exc c d G' => rw [e] at h1; exact h1
      | ok u G2 => rw [e] at h1; exact h1
    refine tG.bind hσ1 hG1 h1 fun u G2 H2 μ2 z g2 hσ2 hG2 ru h2 => ?_
    cases e2 : kOf w with
    | none => rw [e2] at h2; exact h2.elim
    | some k0 =>
      rw [e2] at h2
      have h2 : Po K rel' W σ H2 μ2 ((mPairs r ρ G2).bind fun kvs G3 => k ((k0, u) :: kvs) G3) Q := by
        cases e : mPairs r ρ G2 with
        | stuck => rw [e] at h2; exact h2
        | exc c d G' => rw [e] at h2; exact h2
        | ok kvs G3 => rw [e] at h2; exact h2
      refine pairs_go hσ2 hG2 h2 fun kvs G3 H3 μ3 ws g3 hσ3 hG3 rf h3 => ?_
      have := n ((k0, u) :: kvs) G3 H3 μ3 ((k0, z) :: ws) ((g1.trans g2).trans g3) hσ3 hG3 (.cons (ru.gr g3) rf) h3
      rw [List.map_cons] at this
      rw [kOf_ok rw' e2]
      exact this
theorem merge_ok {K : PySem.W.Frag} {H : Hp} {μ : Mu} : ∀ {more : List (Key × AV)} {ws : List (Key × V)} {fs : List (Key × AV)} {gs : List (Key × V)}, RF K H μ more ws → RF K H μ fs gs → RF K H μ (more.foldl (fun acc kv => putA acc kv.1 kv.2) fs) (mergeK gs ws)
  | [], ws, fs, gs, h, h' => by
    cases ws with
    | nil => exact h'
    | cons g ws => cases h.1
  | (k, v) :: more, ws, fs, gs, h, h' => by
    obtain ⟨y, ws', rfl, r, t⟩ := h.cons_inv
    have q := merge_ok (more := more) (ws := ws') (fs := putA fs k v) (gs := putK gs k y) t (h'.put k r)
    exact q
theorem se_dict {ks : List (Option Expr)} {vs : List Expr} {trs : List (ME × ME)} (h : SPs X W pos ks vs trs) (hall : ks.all (·.isSome) = true) (hl : ks.length = vs.length) (h0 : ks ≠ []) (h15 : ks.length ≤ 15) : SE X W (.Dict ks vs pos) (mDict trs) := by
  refine PE.imp (pe_disp h.pps hall hl h0 h15) fun σ H Q ⟨ρ, μ, G, hσ, hG, h⟩ p hp => ?_
  have g0 : Gr H μ (upd H p (.dK [])) (μ ++ [some p]) := Gr.alloc hp
  have hG0 : RH X.K (upd H p (.dK [])) (μ ++ [some p]) (G ++ [.dk []]) := hG.alloc hp ⟨[], upd_same, .nil'⟩
  refine pairs_go (hσ.gr g0) hG0 (Po.gr g0 h) fun kvs G1 H1 μ1 ws g1 hσ1 hG1 rf h1 => ?_
  by_cases hz : kvs.length ≤ 15 ∧ G1[G.length]? = some (.dk [])
  · rw [if_pos hz] at h1
    have hn : Num μ1 (G.length) p := (hG.fresh p).gr g1
    obtain ⟨ws0, hw0, rf0⟩ := hG1.at_ _ _ _ hn hz.2
    have e0 : ws0 = [] := List.length_eq_zero_iff.mp rf0.length.symm
    subst e0
    have gp : Gr H1 μ1 (upd H1 p (.dK (mergeK [] ws))) μ1 := Gr.put hG1 hn hz.2
    exact ⟨hw0, ws, rfl, by rw [← rf.length]; exact hz.1, h1 _ μ1 _ gp (hG1.put (o := .dk (mergeA kvs)) hn hz.2 ⟨_, upd_same, (merge_ok rf .nil').gr gp⟩) (.ref (hn.gr gp))⟩
  · rw [if_neg hz] at h1
    exact h1.elim
def OpM (K : PySem.W.Frag) (r : V → List V → Hp → VK → Prop) (f : AV → List AV → Hs → R AV) : Prop := ∀ (W : WX) σ H μ G v vs x xs Q, RH K H μ G → RA K H μ v x → RAs K H μ vs xs → Po K (rA K) W σ H μ (f v vs G) Q → r x xs H Q
/-- of that type -/
def isL (v : AV) (G : Hs) : Bool := (lstOf G v).isSome
def isS (v : AV) (G : Hs) : Bool := match v with
  | .str _ => true
  | _ => false
def TyM (K : PySem.W.Frag) (T : String) (q : AV → Hs → Bool) : Prop := ∀ H μ G v x, RH K H μ G → RA K H μ v x → q v G = true → tyV K T x H
theorem tyM_l {K : PySem.W.Frag} : TyM K "list" isL := fun H μ G v x hG r h => by
  unfold isL at h
  cases e : lstOf G v with
  | none => rw [e] at h; cases h
  | some xs =>
    obtain ⟨a, vs, rfl, hs, _⟩ := lstOf_ok hG r e
    exact .inl ⟨rfl, vs, hs⟩
def mBm (q : AV → Hs → Bool) (f : AV → List AV → Hs → R AV) (mo : ME) (ms : MEs) : ME := fun ρ G => (mo ρ G).bind fun v G1 => if q v G1 = true then (ms ρ G1).bind fun vs G2 => f v vs G2 else .stuck
theorem se_bm {name : Str} {T id : String} {r : V → List V → Hp → VK → Prop} {q : AV → Hs → Bool} {f : AV → List AV → Hs → R AV} (ty : TyM X.K T q) (hf : OpM X.K r f) (pa : PlainAttrs T) (slot : Slot T name id) (hty : typeOf (.builtin id) = pure (.type "method_descriptor")) (hm : MtR X id r) (ho : SE X W o mo)
    (ha : SA X W (e :: es) ms) (hbase : attributeBase o name X.env (eval o X.env) = eval o X.env := by rfl)
    (hfew : ((backTo cpos (starEach (e :: es) X.env)).all (fun x => !x.1) && (backToKw cpos (keywordEach [] X.env)).all (fun x => x.1.isSome)
      && decide ((e :: es).length + ([] : List Keyword).length + (if ([] : List Keyword).isEmpty then 0 else 1) < 30)) = true := by rfl)
    (hline : (apos.endLine == cpos.line) = true := by rfl) (hs : starEach (e :: es) X.env = (false, eval e X.env) :: starEach es X.env := by rfl) (hplain : (backTo cpos (starEach es X.env)).any (·.1) = false := by rfl) :
    SE X W (.Call (.Attribute o name apos) (e :: es) [] cpos) (mBm q f mo ms) := by
  refine PE.imp (pe_bm pa slot hty hm ho ha hbase hfew hline hs hplain) fun σ H Q ⟨ρ, μ, G, hσ, hG, h⟩ => tG.bind hσ hG h fun v G1 H1 μ1 x g1 hσ1 hG1 rv h1 => ?_
  by_cases hq : q v G1 = true
  · rw [if_pos hq] at h1
    exact ⟨ty _ _ _ _ _ hG1 rv hq, tG.bind hσ1 hG1 h1 fun vs G2 H2 μ2 xs g2 hσ2 hG2 rs h2 => hf W σ H2 μ2 G2 v vs x xs Q hG2 (rv.gr g2) rs h2⟩
  · rw [if_neg hq] at h1
    exact h1.elim
/-- a list that may be changed -/
theorem mut_ok {K : PySem.W.Frag} {H : Hp} {μ : Mu} {G : Hs} {n : Nat} {x : V} {xs : List AV} (hG : RH K H μ G) (r : RA K H μ (.ref n) x) (e : G[n]? = some (.lst xs)) : ∃ a vs, x = .ref a ∧ Num μ (n) a ∧ H a = some (.lst vs) ∧ RAs K H μ xs vs := by
  cases r with
  | ref h =>
    obtain ⟨vs, h1, h2⟩ := hG.at_ _ _ _ h e
    exact ⟨_, vs, rfl, h, h1, h2⟩
def fApp : AV → List AV → Hs → R AV
  | .ref n, [y], G => match G[n]? with
    | some (.lst xs) => if xs.length < szl then .ok .non (G.set n (.lst (xs ++ [y]))) else .stuck
    | _ => .stuck
  | _, _, _ => .stuck
theorem opM_app {K : PySem.W.Frag} : OpM K rAppend fApp := by
  intro W σ H μ G v vs x xs Q hG rv rs q
  match v, vs, rv, rs, q with
  | .ref n, [y], rv, rs, q =>
    simp only [fApp] at q
    cases e : G[n]? with
    | none => rw [e] at q; exact q.elim
    | some ob =>
      rw [e] at q
      cases ob with
      | lst zs =>
        simp only at q
        obtain ⟨a, ws, rfl, hn, hH, rz⟩ := mut_ok hG rv e
        obtain ⟨y', rfl, ry⟩ := rs.one
        by_cases hz : zs.length < szl
        · rw [if_pos hz] at q
          have gp : Gr H μ (upd H a (.lst (ws ++ [y']))) μ := Gr.put hG hn e
          exact ⟨a, ws, y', rfl, rfl, hH, by rw [← rz.length]; exact hz, q _ μ _ gp (hG.put (o := .lst (zs ++ [y])) hn e ⟨_, upd_same, (rz.app (.cons ry .nil)).gr gp⟩) .non⟩
        · rw [if_neg hz] at q
          exact q.elim
      | _ => exact q.elim
def fPopAt : AV → List AV → Hs → R AV
  | .ref n, [.int i], G => match G[n]? with
    | some (.lst xs) => if -(2 ^ 63) ≤ i ∧ i < 2 ^ 63 then match seqIndex? i xs.length with
      | some k => match xs[k]? with
        | some y => .ok y (G.set n (.lst (xs.eraseIdx k)))
        | none => .stuck
      | none => .stuck
      else .stuck
    | _ => .stuck
  | _, _, _ => .stuck
theorem opM_popAt {K : PySem.W.Frag} : OpM K rPopAt fPopAt := by
  intro W σ H μ G v vs x xs Q hG rv rs q
  match v, vs, rv, rs, q with
  | .ref n, [.int i], rv, rs, q =>
    obtain ⟨i', rfl, ri⟩ := rs.one
    cases ri
    simp only [fPopAt] at q
    cases e : G[n]? with
    | none => rw [e] at q; exact q.elim
    | some ob =>
      rw [e] at q
      cases ob with
      | lst zs =>
        simp only at q
        obtain ⟨a, ws, rfl, hn, hH, rz⟩ := mut_ok hG rv e
        by_cases hz : -(2 ^ 63) ≤ i ∧ i < 2 ^ 63
        · rw [if_pos hz] at q
          cases e1 : seqIndex? i zs.length with
          | none => rw [e1] at q; exact q.elim
          | some k =>
            rw [e1] at q
            simp only at q
            cases e2 : zs[k]? with
            | none => rw [e2] at q; exact q.elim
            | some y =>
              rw [e2] at q
              obtain ⟨y', hy, ry⟩ := rz.get' e2
              have gp : Gr H μ (upd H a (.lst (ws.eraseIdx k))) μ := Gr.put hG hn e
              exact ⟨a, ws, i, k, y', rfl, rfl, hH, hz.1, hz.2, by rw [← rz.length]; exact e1, hy, q _ μ _ gp (hG.put (o := .lst (zs.eraseIdx k)) hn e ⟨_, upd_same, (rz.erase k).gr gp⟩) (ry.gr gp)⟩
        · rw [if_neg hz] at q
          exact q.elim
      | _ => exact q.elim
end
end Vz
namespace Vz
open PySem L2
section
variable {K : PySem.W.Frag}
theorem op_lenA {X : Cx} : CallR X (.builtin "len") (rLenA X.K) := call_len.or call_lenD
theorem opN_len : OpN K (rLenA K) fLen := by
  intro W σ H μ G vs xs Q hG rs q
  match vs, rs, q with
  | [v], rs, q =>
    obtain ⟨y, rfl, r⟩ := rs.one
    cases r with
    | str s =>
      simp only [fLen] at q
      by_cases hz : s.length ≤ szl
      · rw [if_pos hz] at q
        exact .inl ⟨.str s, s.length, rfl, ⟨hz, rfl⟩, Po.now (v := AV.int s.length) q hG (.int _)⟩
      · rw [if_neg hz] at q
        exact q.elim
    | tup h rt =>
      refine .inl ⟨_, _, rfl, .inr ⟨_, SqT.of h, rfl⟩, ?_⟩
      rw [← rt.length]
      exact Po.now (v := AV.int _) q hG (.int _)
    | con h rt =>
      refine .inl ⟨_, _, rfl, .inr ⟨_, h.sq, rfl⟩, ?_⟩
      rw [← rt.length]
      exact Po.now (v := AV.int _) q hG (.int _)
    | lk h rt =>
      refine .inl ⟨_, _, rfl, .inl ⟨_, h.sq, rfl⟩, ?_⟩
      rw [← rt.length]
      exact Po.now (v := AV.int _) q hG (.int _)
    | ls h rt =>
      refine .inl ⟨_, _, rfl, .inl ⟨_, h.sq, rfl⟩, ?_⟩
      rw [← rt.length]
      exact Po.now (v := AV.int _) q hG (.int _)
    | ref h =>
      obtain ⟨ob, ho, ro⟩ := hG.obj h
      simp only [fLen, ho] at q
      cases ob with
      | lst zs =>
        obtain ⟨ws, h1, rt⟩ := ro
        refine .inl ⟨_, _, rfl, .inl ⟨_, SqL.of h1, rfl⟩, ?_⟩
        rw [← rt.length]
        exact Po.now (v := AV.int _) q hG (.int _)
      | dk zs =>
        obtain ⟨ws, h1, rf⟩ := ro
        refine .inr ⟨_, ws, rfl, h1, ?_⟩
        rw [← rf.length]
        exact Po.now (v := AV.int _) q hG (.int _)
      | _ => exact q.elim
    | id h hn en rt =>
      refine .inr ⟨_, _, rfl, h, ?_⟩
      rw [← List.length_map (f := (·.2)), ← rt.length]
      exact Po.now (v := AV.int _) q hG (.int _)
    | _ => exact q.elim
  | [], rs, q => exact q.elim
  | v :: _ :: _, rs, q => cases v <;> exact q.elim
def fMax2 : List AV → Hs → R AV
  | [.int i, .int j], G => .ok (.int (if j > i then j else i)) G
  | _, _ => .stuck
def fMin2 : List AV → Hs → R AV
  | [.int i, .int j], G => .ok (.int (if j < i then j else i)) G
  | _, _ => .stuck
theorem opN_max2 : OpN K (fun xs H Q => ∃ i j, xs = [.int i, .int j] ∧ Q (.int (if j > i then j else i)) H) fMax2 := by
  intro W σ H μ G vs xs Q hG rs q
  match vs, rs, q with
  | [.int i, .int j], rs, q =>
    obtain ⟨y, z, rfl, r1, r2⟩ := rs.two
    cases r1
    cases r2
    exact ⟨i, j, rfl, Po.now (v := AV.int _) q hG (.int _)⟩
theorem opN_min2 : OpN K (fun xs H Q => ∃ i j, xs = [.int i, .int j] ∧ Q (.int (if j < i then j else i)) H) fMin2 := by
  intro W σ H μ G vs xs Q hG rs q
  match vs, rs, q with
  | [.int i, .int j], rs, q =>
    obtain ⟨y, z, rfl, r1, r2⟩ := rs.two
    cases r1
    cases r2
    exact ⟨i, j, rfl, Po.now (v := AV.int _) q hG (.int _)⟩
def fInt : List AV → Hs → R AV
  | [.int i], G => .ok (.int i) G
  | [.bl k], G => .ok (.int (if k then 1 else 0)) G
  | _, _ => .stuck
theorem opN_int : OpN K (fun xs H Q => (∃ i, xs = [.int i] ∧ Q (.int i) H) ∨ ∃ k, xs = [.bl k] ∧ Q (.int (if k then 1 else 0)) H) fInt := by
  intro W σ H μ G vs xs Q hG rs q
  match vs, rs, q with
  | [.int i], rs, q =>
    obtain ⟨y, rfl, r⟩ := rs.one
    cases r
    exact .inl ⟨i, rfl, Po.now (v := AV.int _) q hG (.int _)⟩
  | [.bl k], rs, q =>
    obtain ⟨y, rfl, r⟩ := rs.one
    cases r
    exact .inr ⟨k, rfl, Po.now (v := AV.int _) q hG (.int _)⟩
def fTuple : List AV → Hs → R AV
  | [v], G => match tupOf v with
    | some _ => .ok v G
    | none => match lstOf G v with
      | some xs => .ok (.tup xs) G
      | none => .stuck
  | _, _ => .stuck
theorem opN_tuple : OpN K (fun xs H Q => ∃ p ys, xs = [.ref p] ∧ ((SqL K H p ys ∧ ∀ l, H l = none → Q (.ref l) (upd H l (.tup ys))) ∨ (SqT K H p ys ∧ Q (.ref p) H))) fTuple := by
  intro W σ H μ G vs xs Q hG rs q
  match vs, rs, q with
  | [v], rs, q =>
    obtain ⟨y, rfl, r⟩ := rs.one
    simp only [fTuple] at q
    cases e : tupOf v with
    | some zs =>
      rw [e] at q
      obtain ⟨a, ws, rfl, hs, rt⟩ := tupOf_ok r e
      exact ⟨a, ws, rfl, .inr ⟨hs, Po.now (v := v) q hG r⟩⟩
    | none =>
      rw [e] at q
      simp only at q
      cases e2 : lstOf G v with
      | none => rw [e2] at q; exact q.elim
      | some zs =>
        rw [e2] at q
        obtain ⟨a, ws, rfl, hs, rt⟩ := lstOf_ok hG r e2
        exact ⟨a, ws, rfl, .inl ⟨hs, fun l hl => q _ _ _ (Gr.new hl) (hG.new hl) (.tup upd_same (rt.gr (Gr.new hl)))⟩⟩
/-- all, any of a list of bools -/
def blsOf : List AV → Option (List Bool)
  | [] => some []
  | .bl b :: r => match blsOf r with
    | some l => some (b :: l)
    | none => none
  | _ => none
theorem blsOf_ok {H : Hp} {μ : Mu} : ∀ {xs : List AV} {vs : List V} {bs : List Bool}, RAs K H μ xs vs → blsOf xs = some bs → vs = bs.map V.bl
  | _, _, _, .nil, e => by cases e; rfl
  | _, _, bs, .cons (x := x) (xs := xs) r t, e => by
    cases r with
    | bl b =>
      simp only [blsOf] at e
      cases h : blsOf xs with
      | none => rw [h] at e; cases e
      | some l =>
        rw [h] at e
        cases e
        rw [List.map_cons, blsOf_ok t h]
    | _ => cases e
def fAll : List AV → Hs → R AV
  | [v], G => match lstOf G v with
    | some xs => match blsOf xs with
      | some bs => .ok (.bl (bs.all id)) G
      | none => .stuck
    | none => .stuck
  | _, _ => .stuck
theorem opN_all : OpN K (rAll K) fAll := by
  intro W σ H μ G vs xs Q hG rs q
  match vs, rs, q with
  | [v], rs, q =>
    obtain ⟨y, rfl, r⟩ := rs.one
    simp only [fAll] at q
    cases e : lstOf G v with
    | none => rw [e] at q; exact q.elim
    | some zs =>
      rw [e] at q
      simp only at q
      cases e2 : blsOf zs with
      | none => rw [e2] at q; exact q.elim
      | some bs =>
        rw [e2] at q
        obtain ⟨a, ws, rfl, hs, rt⟩ := lstOf_ok hG r e
        have ew := blsOf_ok rt e2
        subst ew
        exact ⟨a, bs, rfl, hs, Po.now (v := AV.bl _) q hG (.bl _)⟩
end
theorem xo_ok {P : Program} {w : World} {H : Hp} {h : Heap} {e : Addr} {C : Value} {d : Option Addr} {oe : Obj} {vs : Array Value} (he : h.get? e = some oe) (hz : Zc C d oe) (hd : oe.data = .fields vs) : ObjOk P w H h e (xo e C d) :=
  ⟨⟨oe, vs, he, hz, hd⟩, ⟨_, he⟩, fun h1 h2 z k => by
    obtain ⟨o, v, q, z, dd⟩ := z
    exact ⟨o, v, k _ q, z, dd⟩⟩
theorem xo_at {P : Program} {w : World} {H : Hp} {h : Heap} {e : Addr} {C : Value} {d : Option Addr} (hok : HOk P w H h) (he : H e = some (xo e C d)) : ∃ (oe : Obj) (vs : Array Value), h.get? e = some oe ∧ Zc C d oe ∧ oe.data = .fields vs := by
  have x : ObjOk P w H h e (.ext fun h => ∃ (oe : Obj) (vs : Array Value), h.get? e = some oe ∧ Zc C d oe ∧ oe.data = .fields vs) := hok e _ he
  exact x.1
def xcOk (c : Str) (K : PySem.W.Frag) : Bool := (PySem.W.clsIn K (ga K c)).isSome && (decide (PySem.W.findIn K (.ref (ga K c)) "__getattribute__" = some (some (.builtin "BaseException.__getattribute__"))) && (decide (PySem.W.findIn K (.ref (ga K c)) "__getattr__" = some none) &&
  (decide (PySem.W.subIn K (.ref (ga K c)) (.type "BaseException") = some true) && (decide (PySem.W.findIn K (.ref (ga K c)) "__class__" = some (some (.builtin "object.__class__"))) &&
  (decide (PySem.W.specialIn K (.builtin "object.__class__") "__get__" = some (some (.builtin "getset_descriptor.__get__"))) && (decide (PySem.W.takesIn K (.builtin "object.__class__") = some true) && (decide (PySem.W.mroIn K (ga K c) (.type "object") = some true) && PySem.W.hasDictIn K (ga K c))))))))
structure XcOk (c : Str) (K : PySem.W.Frag) : Prop where
  cl : (PySem.W.clsIn K (ga K c)).isSome = true
  hga : PySem.W.findIn K (.ref (ga K c)) "__getattribute__" = some (some (.builtin "BaseException.__getattribute__"))
  hgt : PySem.W.findIn K (.ref (ga K c)) "__getattr__" = some none
  hs : PySem.W.subIn K (.ref (ga K c)) (.type "BaseException") = some true
  ha : PySem.W.findIn K (.ref (ga K c)) "__class__" = some (some (.builtin "object.__class__"))
  hn : PySem.W.specialIn K (.builtin "object.__class__") "__get__" = some (some (.builtin "getset_descriptor.__get__"))
  ht : PySem.W.takesIn K (.builtin "object.__class__") = some true
  hm : PySem.W.mroIn K (ga K c) (.type "object") = some true
  hd : PySem.W.hasDictIn K (ga K c) = true
theorem xcOk_ok {c : Str} {K : PySem.W.Frag} (h : xcOk c K = true) : XcOk c K := by
  obtain ⟨h1, h⟩ := He.ba h
  obtain ⟨h2, h⟩ := He.ba h
  obtain ⟨h3, h⟩ := He.ba h
  obtain ⟨h4, h⟩ := He.ba h
  obtain ⟨h5, h⟩ := He.ba h
  obtain ⟨h6, h⟩ := He.ba h
  obtain ⟨h7, h⟩ := He.ba h
  obtain ⟨h8, h9⟩ := He.ba h
  exact ⟨h1, of_decide_eq_true h2, of_decide_eq_true h3, of_decide_eq_true h4, of_decide_eq_true h5, of_decide_eq_true h6, of_decide_eq_true h7, of_decide_eq_true h8, h9⟩
/-- isinstance(e, c), e a tracked exception -/
def rIsX (K : PySem.W.Frag) : List V → Hp → VK → Prop := fun xs H Q => ∃ (a : Addr) (n : Str) (d : Option Addr) (c : V) (u : Value) (b : Bool), xs = [.ref a, c] ∧ ClsV c u ∧ H a = some (xo a (.ref (ga K n)) d) ∧ (∀ dx, d = some dx → ∃ gs, H dx = some (.xd gs)) ∧ xcOk n K = true ∧
  PySem.W.kitOne K (.ref (ga K n)) u = some b ∧ Q (.bl b) H
def rIsA (K : PySem.W.Frag) : List V → Hp → VK → Prop := fun xs H Q => rIsi K xs H Q ∨ rIsX K xs H Q
theorem instAt_xo {X : Cx} {pins : List (Addr × Obj)} {σ : St} {H : Hp} {s : Shared} {a C : Addr} {d : Option Addr} (I : Inv X pins σ H s) (hx : H a = some (xo a (.ref C) d)) (hd : ∀ dx, d = some dx → ∃ gs, H dx = some (.xd gs)) :
    ∃ (oe : Obj) (od : Option Obj), PySem.W.InstAt s.heap a oe C od := by
  obtain ⟨oe, vs, ha, hz, hf⟩ := xo_at I.hok hx
  cases d with
  | none => exact ⟨oe, none, ha, hz.1, by unfold PySem.W.notCls; rw [hf] <;> rfl, by rw [hz.2]; trivial⟩
  | some dx =>
    obtain ⟨gs, hg⟩ := hd dx rfl
    have hx : ObjOk X.prog X.w H s.heap dx (.xd gs) := I.hok dx _ hg
    obtain ⟨mA, hns, hr⟩ := hx
    obtain ⟨od, ho, hl⟩ := lookIn_ns hns
    exact ⟨oe, some od, ha, hz.1, by unfold PySem.W.notCls; rw [hf] <;> rfl, by rw [hz.2]; exact ho⟩
theorem call_isX {X : Cx} : CallR X (.builtin "isinstance") (rIsX X.K) := by
  intro pins s σ H xs us Q I r h
  obtain ⟨a, n, d, c, u, b, rfl, k, hx, hd, hc, e, q⟩ := h
  obtain ⟨u1, u2, rfl, r1, r2⟩ := vals2 r
  have e2 := k.eq r2
  subst e2
  obtain rfl : u1 = Value.ref a := r1
  obtain ⟨oe, od, J⟩ := instAt_xo I hx hd
  have C := xcOk_ok hc
  exact PySem.W.kia_one (PySem.W.kitx_exc C.cl C.hga C.hgt C.hs C.ha C.hn C.ht C.hm) I.kIn J e (fun z => nomatch z) fun tk => ⟨.bl b, H, I.kept (t' := tk) fun _ _ z => z, rfl, q⟩
theorem call_isA {X : Cx} : CallR X (.builtin "isinstance") (rIsA X.K) := by
  intro pins s σ H xs us Q I r h
  rcases h with h | h
  · exact call_isi pins s σ H xs us Q I r h
  · exact call_isX pins s σ H xs us Q I r h
section
variable {X : Cx} {W : WX} {a b c e o i value : Expr} {es rest : List Expr} {m ma mb mc mo mi mv : ME} {t : MB} {ms mk : MEs} {pos pos' p q' apos cpos tpos : Pos} {x y : Str} {k N n : Nat} {f : Addr} {fd : FuncData} {ps ks : List Str} {F : List AV → Hs → R AV} {gA : List AV → List AV → List AV} {kws : List Keyword}
/-- the type of a value -/
inductive Ty where
  | b (n : String) | c (n : Str) | x (n : Str)
  deriving DecidableEq
def tyA (G : Hs) : AV → Option Ty
  | .non => some (.b "NoneType")
  | .bl _ => some (.b "bool")
  | .int _ => some (.b "int")
  | .str _ => some (.b "str")
  | .tup _ => some (.b "tuple")
  | .con _ => some (.b "tuple")
  | .lk _ => some (.b "list")
  | .ls _ => some (.b "list")
  | .iv c _ _ => some (.c c)
  | .id _ _ => some (.b "dict")
  | .it _ _ => some (.b "dict")
  | .xv c _ _ => some (.x c)
  | .fd _ _ => none
  | .ref n => match G[n]? with
    | some (.lst _) => some (.b "list")
    | some (.dk _) => some (.b "dict")
    | some (.dt _) => some (.b "dict")
    | some (.ins c _) => some (.c c)
    | _ => none
def Ty.v (K : PySem.W.Frag) : Ty → Value
  | .b n => .type n
  | .c n => .ref (ga K n)
  | .x n => .ref (ga K n)
def clsOk (c : Str) (K : PySem.W.Frag) : Bool := (He.Fa.cls c).ok K && (decide (PySem.W.findIn K (.ref (ga K c)) "__class__" = some (some (.builtin "object.__class__"))) &&
  (decide (PySem.W.specialIn K (.builtin "object.__class__") "__get__" = some (some (.builtin "getset_descriptor.__get__"))) && (decide (PySem.W.takesIn K (.builtin "object.__class__") = some true) && decide (PySem.W.mroIn K (ga K c) (.type "object") = some true))))
/-- the table of answers: of a type, whether it is one of T -/
def isTab (tab : List (Ty × Bool)) (t : Value) (K : PySem.W.Frag) : Bool := tab.all fun q => decide (PySem.W.kitOne K (q.1.v K) t = some q.2) && match q.1 with
  | .b _ => true
  | .c n => clsOk n K
  | .x n => xcOk n K
def fIsi (tab : List (Ty × Bool)) (v : AV) (G : Hs) : R AV := match tyA G v with
  | some t => match tab.lookup t with
    | some b => .ok (.bl b) G
    | none => .stuck
  | none => .stuck
theorem lookup_mem' {α β : Type} [BEq α] [LawfulBEq α] {k : α} {v : β} : ∀ {l : List (α × β)}, l.lookup k = some v → (k, v) ∈ l
  | [], h => by cases h
  | (a, b) :: r, h => by
    rw [List.lookup_cons] at h
    cases e : (k == a) with
    | true =>
      rw [e] at h
      cases h
      rw [eq_of_beq e]
      exact List.mem_cons_self ..
    | false =>
      rw [e] at h
      exact List.mem_cons_of_mem _ (lookup_mem' h)
theorem isi_ok {K : PySem.W.Frag} {H : Hp} {μ : Mu} {G : Hs} {v : AV} {x c : V} {u : Value} {Q : VK} {tab : List (Ty × Bool)} (W : WX) (σ : St) (hG : RH K H μ G) (r : RA K H μ v x) (hT : isTab tab u K = true) (hc : ClsV c u) (q : Po K (rA K) W σ H μ (fIsi tab v G) Q) : rIsA K [x, c] H Q := by
  unfold fIsi at q
  cases e : tyA G v with
  | none => rw [e] at q; exact q.elim
  | some ty =>
    rw [e] at q
    simp only at q
    cases e2 : tab.lookup ty with
    | none => rw [e2] at q; exact q.elim
    | some b =>
      rw [e2] at q
      have hm := List.all_eq_true.mp hT _ (lookup_mem' e2)
      obtain ⟨h1, h2⟩ := He.ba hm
      have q' := Po.now (v := AV.bl b) q hG (.bl b)
      have ini : TyX K H x (ty.v K) → rIsA K [x, c] H Q := fun z => .inl ⟨x, c, ty.v K, u, b, rfl, hc, z, of_decide_eq_true h1, q'⟩
      cases r with
      | xv0 h3 _ => cases e; exact .inr ⟨_, _, none, c, u, b, rfl, hc, h3, (fun _ z => by cases z), h2, of_decide_eq_true h1, q'⟩
      | xv h3 _ h4 _ _ _ => cases e; exact .inr ⟨_, _, some _, c, u, b, rfl, hc, h3, (fun _ z => by cases z; exact ⟨_, h4⟩), h2, of_decide_eq_true h1, q'⟩
      | fd _ _ _ => cases e
      | non => cases e; exact ini (.base .non)
      | bl b => cases e; exact ini (.base (.bl b))
      | int b => cases e; exact ini (.base (.int b))
      | str b => cases e; exact ini (.base (.str b))
      | tup h rt => cases e; exact ini (.base (.tup h))
      | con h rt =>
        cases e
        obtain ⟨o, its, n, h3, h4, _⟩ := h
        exact ini (.kTuple h3 h4)
      | lk h rt =>
        cases e
        rcases h with ⟨o, h⟩ | ⟨o, its, n, h3, h4, _⟩
        · exact ini (.base (.frz h))
        · exact ini (.kList h3 h4)
      | ls h rt => cases e; exact ini (.base (.lst h.1))
      | iv h3 _ _ _ =>
        cases e
        have h2 : clsOk _ K = true := h2
        obtain ⟨k1, k2⟩ := He.ba h2
        obtain ⟨k2, k3⟩ := He.ba k2
        obtain ⟨k3, k4⟩ := He.ba k3
        obtain ⟨k4, k5⟩ := He.ba k4
        exact ini (.base (.ins h3 (He.cls_ok k1) (of_decide_eq_true k2) (of_decide_eq_true k3) (of_decide_eq_true k4) (of_decide_eq_true k5)))
      | id h3 _ _ _ => cases e; exact ini (.base (.dK h3))
      | it h3 _ _ _ => cases e; exact ini (.base (.dT h3))
      | ref h =>
        obtain ⟨ob, ho, ro⟩ := hG.obj h
        simp only [tyA, ho] at e
        cases ob with
        | lst zs => cases e; obtain ⟨ws, h3, _⟩ := ro; exact ini (.base (.lst h3))
        | dk zs => cases e; obtain ⟨ws, h3, _⟩ := ro; exact ini (.base (.dK h3))
        | dt zs => cases e; obtain ⟨ws, h3, _⟩ := ro; exact ini (.base (.dT h3))
        | ins cn zs =>
          cases e
          obtain ⟨dx, gs, h3, _⟩ := ro
          have h2 : clsOk cn K = true := h2
          obtain ⟨k1, k2⟩ := He.ba h2
          obtain ⟨k2, k3⟩ := He.ba k2
          obtain ⟨k3, k4⟩ := He.ba k3
          obtain ⟨k4, k5⟩ := He.ba k4
          exact ini (.base (.ins h3 (He.cls_ok k1) (of_decide_eq_true k2) (of_decide_eq_true k3) (of_decide_eq_true k4) (of_decide_eq_true k5)))
        | xd zs => cases e
        | gone => cases e
theorem se_isi {cv : V} {u : Value} {tab : List (Ty × Bool)} (hT : isTab tab u X.K = true) (hc : ClsV cv u) (hg : Gl X "isinstance") (hm : X.mg "isinstance" = none) (ha : SE X W a m) (hb : PE X b (tC cv))
    (he : starEach [a, b] X.env = (false, eval a X.env) :: starEach [b] X.env := by rfl) (hs2 : starEach [b] X.env = (false, eval b X.env) :: starEach [] X.env := by rfl) (hpl : (backTo pos (starEach [b] X.env)).any (·.1) = false := by rfl) :
    SE X W (.Call (.Name "isinstance" p) [a, b] [] pos) (m1 (fIsi tab) m) := by
  refine PE.imp (pe_callB call_isA hg hm PyProof.Rows.boot_isinstance (pa_cons ha (pa_cons hb pa_nil hs2) he) (by decide) (by decide) he hpl) fun σ H Q ⟨ρ, μ, G, hσ, hG, h⟩ => tG.bind hσ hG h fun v G1 H1 μ1 x g1 hσ1 hG1 r h1 => ?_
  exact isi_ok W σ hG1 r hT hc h1
theorem pe_ty {n : String} (hg : Gl X x) (hm : X.mg x = none) (hv : bootBuiltins x = some (.type n)) (hn : x ≠ "__name__" := by decide) (hd : (x == ("__debug__" : Str)) = false := by decide) : PE X (.Name x pos) (tC (.ty n)) := pe_bltn hg hm hv rfl hn hd
theorem pe_own {C : Addr} (hg : Gl X x) (hm : X.mg x = some (.ref C)) (hd : (x == ("__debug__" : Str)) = false := by decide) : PE X (.Name x pos) (tC (.ref C)) := pe_glob hg hm rfl hd
def putFA (f : Str) (v : AV) : List (Str × AV) → List (Str × AV)
  | [] => [(f, v)]
  | (g, u) :: r => if g = f then (g, v) :: r else (g, u) :: putFA f v r
theorem putF_ok {K : PySem.W.Frag} {H : Hp} {μ : Mu} {f : Str} {v : AV} {x : V} (r : RA K H μ v x) : ∀ {fs : List (Str × AV)} {gs : List (Str × V)}, RF K H μ fs gs → RF K H μ (putFA f v fs) (putF f x gs)
  | [], gs, h => by
    cases gs with
    | nil => exact .cons r .nil'
    | cons g gs => cases h.1
  | (g, u) :: fs, gs, h => by
    obtain ⟨z, gs', rfl, r', t⟩ := h.cons_inv
    show RF K H μ (if g = f then (g, v) :: fs else (g, u) :: putFA f v fs) (if g = f then (g, x) :: gs' else (g, z) :: putF f x gs')
    by_cases e : g = f
    · rw [if_pos e, if_pos e]
      exact .cons r t
    · rw [if_neg e, if_neg e]
      exact .cons r' (putF_ok r t)
def fSt (cs : List Str) (f : Str) (v u : AV) (G : Hs) : R Unit := match v with
  | .ref n => match G[n]? with
    | some (.ins c fs) => if c ∈ cs ∧ fs.length < 1000 then .ok () (G.set n (.ins c (putFA f u fs))) else .stuck
    | _ => .stuck
  | _ => .stuck
def mFst (cs : List Str) (f : Str) (mo mv : ME) : MS := fun ρ G => (mv ρ G).toS ρ fun u G1 => (mo ρ G1).toS ρ fun v G2 => (fSt cs f v u G2).toS ρ fun _ G3 => .nx ρ G3
theorem ss_fld {f : Str} (cs : List Str) (hc : (cs.all fun c => attrOk f c X.K) = true) (ho : SE X W o mo) (hv : SE X W value mv) (hs : swapsWith value (some (.Attribute o f pos')) pos.line X.env = pure false) : SS X W (.Assign [.Attribute o f pos'] value pos) (mFst cs f mo mv) := by
  refine PS.imp (ps_fld ho hv hs) fun D σ H ⟨ρ, μ, G, hσ, hG, h⟩ => tG.toS hσ hG h fun u G1 H1 μ1 x1 g1 hσ1 hG1 ru h1 => tG.toS hσ1 hG1 h1 fun v G2 H2 μ2 x2 g2 hσ2 hG2 rv h2 => ?_
  cases rv with
  | ref hn =>
    obtain ⟨ob, hob, ro⟩ := hG2.obj hn
    simp only [fSt, hob] at h2
    cases ob with
    | ins c fs =>
      simp only at h2
      by_cases hz : c ∈ cs ∧ fs.length < 1000
      · rw [if_pos hz] at h2
        obtain ⟨dx, gs, h3, rf⟩ := ro
        obtain ⟨k1, k2⟩ := attrOk_ok (List.all_eq_true.mp hc c hz.1)
        have gp : Gr H2 μ2 (upd H2 _ (.ins (ga X.K c) dx (putF f x1 gs))) μ2 := Gr.put hG2 hn hob
        exact ⟨_, _, dx, gs, rfl, h3, k1, k2, by rw [← rf.length]; exact hz.2, h2 _ μ2 σ gp (hG2.put (o := .ins c (putFA f u fs)) hn hob ⟨dx, _, upd_same, (putF_ok (ru.gr g2) rf).gr gp⟩) (hσ2.gr gp)⟩
      · rw [if_neg hz] at h2
        exact h2.elim
    | _ => exact h2.elim
  | _ => exact h2.elim
end
end Vz
namespace Vz
open PySem L2
section
variable {X : Cx} {W : WX} {a b c e o : Expr} {es rest : List Expr} {m ma mb mc mo : ME} {ms mk : MEs} {pos p apos cpos : Pos} {x : Str}
/-- x stands for v in the text's own names -/
def conI (x : Str) (i : Int) (K : PySem.W.Frag) : Bool := (He.Fa.int x i).ok K
def conS (x z : Str) (K : PySem.W.Frag) : Bool := (He.Fa.str x z).ok K
theorem se_glI {i : Int} (hg : Gl X x) (hm : ∃ t, X.mg x = some (.int i t)) (hd : (x == ("__debug__" : Str)) = false := by decide) : SE X W (.Name x pos) (mC (.int i)) :=
  let ⟨t, h⟩ := hm
  se_c (pe_glob (v := .int i) hg h ⟨t, rfl⟩ hd) fun _ _ => .int i
theorem se_glS {i : Str} (hg : Gl X x) (hm : ∃ t, X.mg x = some (.str i t)) (hd : (x == ("__debug__" : Str)) = false := by decide) : SE X W (.Name x pos) (mC (.str i)) :=
  let ⟨t, h⟩ := hm
  se_c (pe_glob (v := .str i) hg h ⟨t, rfl⟩ hd) fun _ _ => .str i
/-- a flat value -/
def fl : AV → Option V
  | .non => some .non
  | .bl b => some (.bl b)
  | .int i => some (.int i)
  | .str s => some (.str s)
  | _ => none
theorem fl_ok {K : PySem.W.Frag} {H : Hp} {μ : Mu} {v : AV} {y : V} (e : fl v = some y) : RA K H μ v y := by
  cases v with
  | non => cases e; exact .non
  | bl b => cases e; exact .bl b
  | int b => cases e; exact .int b
  | str b => cases e; exact .str b
  | _ => cases e
theorem fls_ok {K : PySem.W.Frag} {H : Hp} {μ : Mu} : ∀ {vs : List AV} {ys : List V}, vs.map fl = ys.map some → RAs K H μ vs ys
  | [], [], _ => .nil
  | [], _ :: _, e => by cases e
  | _ :: _, [], e => by cases e
  | v :: vs, y :: ys, e => by
    rw [List.map_cons, List.map_cons] at e
    injection e with e1 e2
    exact .cons (fl_ok e1) (fls_ok e2)
theorem tupB_k {K : PySem.W.Frag} {x : Str} {vs : List He.Dv} (h : He.tupB K x vs = true) : KTup K (ga K x) (vs.map (He.Dv.v K)) := by
  have := He.tupB_ok h (fun _ => none)
  rcases this with (h | ⟨o, h⟩) | h
  · cases h
  · cases h
  · exact h
def dvOf : AV → He.Dv
  | .bl b => .bl b
  | .int i => .int i
  | .str s => .str s
  | _ => .non
def flB (v : AV) : Bool := (fl v).isSome
theorem dvOf_ok {K : PySem.W.Frag} {v : AV} (h : flB v = true) : fl v = some ((dvOf v).v K) := by
  cases v <;> first | rfl | cases h
def conT (x : Str) (vs : List AV) (K : PySem.W.Frag) : Bool := vs.all flB && He.tupB K x (vs.map dvOf)
theorem dvs_ok {K : PySem.W.Frag} {H : Hp} {μ : Mu} {vs : List AV} (h : vs.all flB = true) : RAs K H μ vs ((vs.map dvOf).map (He.Dv.v K)) := by
  refine fls_ok ?_
  rw [List.map_map, List.map_map]
  refine List.map_congr_left fun v hv => ?_
  exact dvOf_ok (List.all_eq_true.mp h v hv)
theorem se_glT {vs : List AV} (hg : Gl X x) (hm : X.mg x = some (.ref (ga X.K x))) (h : conT x vs X.K = true) (hd : (x == ("__debug__" : Str)) = false := by decide) : SE X W (.Name x pos) (mC (.con vs)) := by
  obtain ⟨h1, h2⟩ := He.ba h
  exact se_c (pe_glob (v := .ref (ga X.K x)) hg hm rfl hd) fun H μ => .con (tupB_k h2) (dvs_ok h1)
end
inductive Arg where
  | p (i : Nat) | k (j : Nat) | d (j : Nat)
def gP {α : Type} (ds : List α) (π : List Arg) (us ws : List α) : List α := π.filterMap fun q => match q with
  | .p i => us[i]?
  | .k j => ws[j]?
  | .d j => ds[j]?
theorem Vals.get? : ∀ {vs : List V} {us : List Value} (r : Vals vs us) (i : Nat), (vs[i]? = none ∧ us[i]? = none) ∨ ∃ v u, vs[i]? = some v ∧ us[i]? = some u ∧ RelV v u
  | _, _, .nil, i => .inl ⟨rfl, rfl⟩
  | _, _, .cons r t, 0 => .inr ⟨_, _, rfl, rfl, r⟩
  | _, _, .cons r t, i + 1 => by
    rw [List.getElem?_cons_succ, List.getElem?_cons_succ]
    exact Vals.get? t i
theorem RAs.get? {K : PySem.W.Frag} {H : Hp} {μ : Mu} : ∀ {vs : List AV} {us : List V} (r : RAs K H μ vs us) (i : Nat), (vs[i]? = none ∧ us[i]? = none) ∨ ∃ v u, vs[i]? = some v ∧ us[i]? = some u ∧ RA K H μ v u
  | _, _, .nil, i => .inl ⟨rfl, rfl⟩
  | _, _, .cons r t, 0 => .inr ⟨_, _, rfl, rfl, r⟩
  | _, _, .cons r t, i + 1 => by
    rw [List.getElem?_cons_succ, List.getElem?_cons_succ]
    exact RAs.get? t i
theorem gP_vals {ds : List V} {es : List Value} {vs : List V} {us : List Value} {zs : List V} {ws : List Value} (rd : Vals ds es) (r : Vals vs us) (rz : Vals zs ws) : ∀ π : List Arg, Vals (gP ds π vs zs) (gP es π us ws)
  | [] => .nil
  | q :: π => by
    have ih := gP_vals rd r rz π
    unfold gP at ih ⊢
    have h : ∃ o1 o2, (match q with | .p i => vs[i]? | .k j => zs[j]? | .d j => ds[j]?) = o1 ∧ (match q with | .p i => us[i]? | .k j => ws[j]? | .d j => es[j]?) = o2 ∧ ((o1 = none ∧ o2 = none) ∨ ∃ v u, o1 = some v ∧ o2 = some u ∧ RelV v u) := by
      cases q with
      | p i => exact ⟨_, _, rfl, rfl, Vals.get? r i⟩
      | k i => exact ⟨_, _, rfl, rfl, Vals.get? rz i⟩
      | d i => exact ⟨_, _, rfl, rfl, Vals.get? rd i⟩
    obtain ⟨o1, o2, e1, e2, h⟩ := h
    rw [List.filterMap_cons, List.filterMap_cons, e1, e2]
    rcases h with ⟨rfl, rfl⟩ | ⟨v, u, rfl, rfl, h⟩
    · exact ih
    · exact .cons h ih
theorem gP_ras {K : PySem.W.Frag} {H : Hp} {μ : Mu} {ds : List AV} {es : List V} {vs : List AV} {us : List V} {zs : List AV} {ws : List V} (rd : RAs K H μ ds es) (r : RAs K H μ vs us) (rz : RAs K H μ zs ws) : ∀ π : List Arg, RAs K H μ (gP ds π vs zs) (gP es π us ws)
  | [] => .nil
  | q :: π => by
    have ih := gP_ras rd r rz π
    unfold gP at ih ⊢
    have h : ∃ o1 o2, (match q with | .p i => vs[i]? | .k j => zs[j]? | .d j => ds[j]?) = o1 ∧ (match q with | .p i => us[i]? | .k j => ws[j]? | .d j => es[j]?) = o2 ∧ ((o1 = none ∧ o2 = none) ∨ ∃ v u, o1 = some v ∧ o2 = some u ∧ RA K H μ v u) := by
      cases q with
      | p i => exact ⟨_, _, rfl, rfl, RAs.get? r i⟩
      | k i => exact ⟨_, _, rfl, rfl, RAs.get? rz i⟩
      | d i => exact ⟨_, _, rfl, rfl, RAs.get? rd i⟩
    obtain ⟨o1, o2, e1, e2, h⟩ := h
    rw [List.filterMap_cons, List.filterMap_cons, e1, e2]
    rcases h with ⟨rfl, rfl⟩ | ⟨v, u, rfl, rfl, h⟩
    · exact ih
    · exact .cons h ih
section
variable {K : PySem.W.Frag} {x qual : Str} {params : Arguments} {body : List Stmt} {scope : Scope} {dvs : List V} {kws : List (Str × V)} {f : Addr} {fd : FuncData} {ps : List Str}
theorem sh_n (F : FunD K x qual params body scope [] kws f fd) (n : Nat) (ks : List Str) (π : List Arg)
    (h : ∀ (kV doc pm : Value) (an : Option Addr) (cdv ct : Value) (us ws : List Value), us.length = n → ws.length = ks.length → bindArgs (PySem.W.fnOf x qual params body scope .none kV doc pm an cdv ct) ⟨us, ks.zip ws⟩ = pure (ps.zip (gP [] π us ws))) :
    Sh K fd ps n ks (gP [] π) := by
  obtain ⟨oc, od, dV, kV, doc, pm, an, cdv, ct, osl, rfl, lk, hcd, hD, hK⟩ := F.ex
  rcases hD with ⟨_, rfl⟩ | ⟨e, _⟩
  · exact ⟨gP [] π, gP [] π, ⟨fun s us ws _ l1 l2 => .of_eq (h kV doc pm an cdv ct us ws l1 l2), fun r rz => gP_vals .nil r rz π⟩, fun H μ xs vs zs ws r rz => gP_ras .nil r rz π⟩
  · exact absurd rfl e
end
abbrev Shp := Nat × List Str × (List AV → List AV → List AV)
structure Fk (P : Program) (w : World) (K : PySem.W.Frag) (mg : Str → Option Value) (base : Heap) (k : Nat) (x : Str) (ps : List Str) (F : List AV → Hs → R AV) (shs : List Shp) : Prop where
  at_ : mg x = some (.ref (ga K x))
  kp : PySem.W.keepIn K (.ref (ga K x)) = true
  ex : ∃ fd, FnG P w K mg base (CX P w) k (ga K x) fd ps (fsp K ps.length F) ∧ ∀ s ∈ shs, Sh K fd ps s.1 s.2.1 s.2.2
section
variable {X : Cx} {W : WX} {a b c e o : Expr} {es rest : List Expr} {m ma mb mc mo : ME} {ms mk : MEs} {pos p apos cpos : Pos} {x : Str} {kws : List Keyword} {ps : List Str} {F : List AV → Hs → R AV} {shs : List Shp} {k n : Nat} {ks : List Str} {gA : List AV → List AV → List AV}
theorem se_fk (D : Fk X.prog X.w X.K X.mg X.base k x ps F shs) (i : Nat) (hr : Rm k X.A) (tk : Takes X W) (hg : Gl X x) (ha : SA X W (e :: es) ms) (hi : shs[i]? = some (n, [], gA) := by rfl)
    (hdb : (x == ("__debug__" : Str)) = false := by decide) (he : starEach (e :: es) X.env = (false, eval e X.env) :: starEach es X.env := by rfl) (hpl : (backTo pos (starEach es X.env)).any (·.1) = false := by rfl) :
    SE X W (.Call (.Name x p) (e :: es) [] pos) (mCall ps.length n 0 gA F ms mNil) :=
  let ⟨_, h, hs⟩ := D.ex
  se_call h hr (hs _ (List.mem_of_getElem? hi)) tk hg D.at_ D.kp ha hdb he hpl
theorem se_fk0 (D : Fk X.prog X.w X.K X.mg X.base k x ps F shs) (i : Nat) (hr : Rm k X.A) (tk : Takes X W) (hg : Gl X x) (hi : shs[i]? = some (0, [], gA) := by rfl)
    (hdb : (x == ("__debug__" : Str)) = false := by decide) : SE X W (.Call (.Name x p) [] [] pos) (mCall ps.length 0 0 gA F mNil mNil) :=
  let ⟨_, h, hs⟩ := D.ex
  se_call0 h hr (hs _ (List.mem_of_getElem? hi)) tk hg D.at_ D.kp hdb
end
end Vz
namespace Vz
open PySem L2
abbrev Fx : Type := PySem.W.Frag → Bool
def lookX (fx : List Fx) (fn : List He.DefD) (K : PySem.W.Frag) : He.AlD := (fx.all (fun f => f K) && fn.all (fun d => d.ok K), fn.map fun d => He.fnW K d.at_)
structure Told (fx : List Fx) (fn : List He.DefD) (K : PySem.W.Frag) : Prop where
  eq : lookX fx fn K = He.valD fn
section
variable {fx : List Fx} {fn : List He.DefD} {K : PySem.W.Frag}
theorem Told.f_ (t : Told fx fn K) (i : Nat) {f : Fx} (q : fx[i]? = some f := by rfl) : f K = true :=
  List.all_eq_true.mp (He.ba (congrArg Prod.fst t.eq)).1 f (List.mem_of_getElem? q)
theorem Told.d_ (t : Told fx fn K) (i : Nat) {d : He.DefD} (q : fn[i]? = some d := by rfl) : ∃ fd, FunD K d.name d.qual d.params d.body d.scope (d.dvs K) (d.kws K) (He.fAd K d.at_) fd := by
  have k1 := List.all_eq_true.mp (He.ba (congrArg Prod.fst t.eq)).2 d (List.mem_of_getElem? q)
  have k2 := congrArg (fun l : List He.FnW => l[i]?) (congrArg Prod.snd t.eq)
  simp only [lookX, He.valD, List.getElem?_map, q, Option.map_some, Option.some.injEq] at k2
  exact He.DefD.funD k2 k1
end
/-- the module's names stand as the text's own part has them -/
def Mg (K : PySem.W.Frag) (mg : Str → Option Value) : Prop := ∃ hp : Heap, K.In hp ∧ hp.Ns mainGlobals mg
def glo (x : Str) : Fx := fun K => (He.Fa.glo x).ok K
def free (x : Str) : Fx := fun K => (He.Fa.free x).ok K
section
variable {K : PySem.W.Frag} {mg : Str → Option Value} {x : Str}
theorem Mg.glo (m : Mg K mg) (q : glo x K = true) : mg x = some (.ref (ga K x)) := let ⟨_, i, g⟩ := m; He.glo_ok i g q
theorem Mg.free (m : Mg K mg) (q : free x K = true) : mg x = none := let ⟨_, i, g⟩ := m; He.free_ok i g q
theorem Mg.int (m : Mg K mg) {z : Int} (q : conI x z K = true) : ∃ t, mg x = some (.int z t) := let ⟨_, i, g⟩ := m; He.int_ok i g q
theorem Mg.str (m : Mg K mg) {z : Str} (q : conS x z K = true) : ∃ t, mg x = some (.str z t) := let ⟨_, i, g⟩ := m; He.str_ok i g q
end
theorem cx_none {P : Program} {w : World} {H : Hp} {s : Shared} {e : Value} {s' : Shared} : CX P w [] H s (fun _ _ _ => False) e s' → False := fun ⟨_, _, _, _, _, _, _, _, _, _, _, _, z⟩ => z
def scriptAV (ns : List Int) : AV := .lk (ns.map AV.int)
theorem ints_ra {K : PySem.W.Frag} {H : Hp} {μ : Mu} : ∀ ns : List Int, RAs K H μ (ns.map AV.int) (ns.map V.int)
  | [] => .nil
  | n :: ns => .cons (.int n) (ints_ra ns)
theorem begins {K : PySem.W.Frag} {H : Hp} (ho : Only H) : RH K H [] [] := by
  exact ⟨rfl, fun n m a e => by simp at e, fun n a o e => (by simp at e), fun n e => by simp at e⟩
theorem walkX {l : PySem.W.OpenLaw} {n k : Nat} {q : Program} {loose : List Str} {XP : (Str → Option Value) → Heap → Prop} {YP : World → Heap → Prop} {d : DefRec} {x : Str}
    (hn : l.most = some n) (hz : n ≤ sizeLine) (hd : d.params.defaults = []) (room : Rm k callerA)
    (F : ∀ (w : World) (mg : Str → Option Value) (fa : Addr) (hp : Heap), YP w hp → hp.Ns mainGlobals mg → mg d.name = some (.ref fa) →
      ∃ (K : PySem.W.Frag) (fd : FuncData) (b : List AV → Hs → R AV), K.In hp ∧ (∀ (s : Shared) (u : Value), BindsTo s fd ⟨[u], []⟩ [(x, u)]) ∧
        (∀ ns : List Int, ns.length ≤ n → ∃ G, b [scriptAV ns] [] = .ok (.bl true) G) ∧
        ∀ base : Heap, K.In base → base.Ns mainGlobals mg → FnG l.prog w K mg base (CX l.prog w) k fa fd [x] (fsp K 1 b)) :
    PySem.W.WalkO q loose XP YP l.row.toRowW d [] (fun f vs => PySem.call f vs) := by
  refine Att.attach_call hn hd fun w s0 s1 mg mb fa o pm cd doc a vs ns G Y ho hdt hcr hmg hob hin hlen hge => ?_
  obtain ⟨K, fd, b, KX, hb, hp, hF⟩ := F w mg fa _ Y G.T.g hmg
  refine lawG_call KX G.T.g G.T.b G.T.builtins G.T.nolimit hge hob hin (Nat.le_trans hlen hz) room hF hb (fun H hO hS => ?_) fun H e s' => cx_none
  obtain ⟨G', e⟩ := hp ns hlen
  have hk : KLst K H a (ns.map V.int) := by
    rcases hS with (h | h) | h
    · rcases hO a with z | ⟨o, xs, z⟩
      · rw [z] at h; cases h
      · rw [z] at h; cases h
    · obtain ⟨o, h⟩ := h
      exact .inl ⟨o, h⟩
    · exact .inr h
  refine ⟨rfl, [scriptAV ns], [], [], .cons (.lk hk (ints_ra ns)) .nil, begins hO, ?_⟩
  rw [e]
  intro H' μ' v g hG r
  cases r
  rfl
end Vz
namespace Vz
open PySem L2
def AllSh (K : PySem.W.Frag) (fd : FuncData) (ps : List Str) : List Shp → Prop
  | [] => True
  | s :: r => Sh K fd ps s.1 s.2.1 s.2.2 ∧ AllSh K fd ps r
theorem shs_all {K : PySem.W.Frag} {fd : FuncData} {ps : List Str} : ∀ {l : List Shp}, AllSh K fd ps l → ∀ s ∈ l, Sh K fd ps s.1 s.2.1 s.2.2
  | [], _, _, h => nomatch h
  | a :: r, ⟨h1, h2⟩, s, h => by
    rcases List.mem_cons.mp h with e | h
    · rw [e]; exact h1
    · exact shs_all h2 s h
def blkB (N : List Str) (sc scope : Scope) (own : List (Str × Nat)) : Bool :=
  decide (scope.kind = .function) && (scope.names.all (fun y => decide (scope.names.lookup y.1 = some y.2)) && (own.all (fun p => decide (N[p.2]? = some p.1)) &&
    (scope.names.all (fun y => decide (y.2 ≠ .free) || (decide (sc.names.lookup y.1 = some .cell) || decide (sc.names.lookup y.1 = some .free))) &&
      scope.names.all fun y => (decide (y.2 ≠ .local) && decide (y.2 ≠ .cell)) || (decide (y.1 ∈ own.map (·.1)) || decide (y.1 ∉ N)))))
theorem blk_of {N : List Str} {sc scope : Scope} {own : List (Str × Nat)} (h : blkB N sc scope own = true) : BlkOk N sc scope own := by
  unfold blkB at h
  obtain ⟨h1, h⟩ := He.ba h
  obtain ⟨h2, h⟩ := He.ba h
  obtain ⟨h3, h⟩ := He.ba h
  obtain ⟨h4, h5⟩ := He.ba h
  refine ⟨of_decide_eq_true h1, fun y hy => of_decide_eq_true (List.all_eq_true.mp h2 y hy), fun p hp => of_decide_eq_true (List.all_eq_true.mp h3 p hp), fun y hy e => ?_, fun y hy e => ?_⟩
  · have := List.all_eq_true.mp h4 y hy
    simp only [Bool.or_eq_true, decide_eq_true_eq] at this
    rcases this with h | h
    · exact absurd e h
    · exact h
  · have := List.all_eq_true.mp h5 y hy
    simp only [Bool.or_eq_true, Bool.and_eq_true, decide_eq_true_eq] at this
    rcases this with ⟨ha, hb⟩ | h
    · rcases e with e | e
      · exact absurd e ha
      · exact absurd e hb
    · exact h
end Vz
namespace Vz
open PySem
theorem bo_len : bootBuiltins "len" = some (.builtin "len") := by decide +kernel
theorem bo_all : bootBuiltins "all" = some (.builtin "all") := by decide +kernel
theorem bo_max : bootBuiltins "max" = some (.builtin "max") := by decide +kernel
theorem bo_min : bootBuiltins "min" = some (.builtin "min") := by decide +kernel
theorem bo_int : bootBuiltins "int" = some (.type "int") := by decide +kernel
theorem bo_list : bootBuiltins "list" = some (.type "list") := by decide +kernel
theorem bo_tuple : bootBuiltins "tuple" = some (.type "tuple") := by decide +kernel
end Vz
namespace Vz
open PySem L2
def adds {α : Type} : List Addr → Nat → List Addr → (Nat → List Addr → α) → α
  | [], m, acc, k => k m acc
  | a :: r, m, acc, k => HandSHeadRun.frNat a fun a => match Nat.beq (Nat.land (Nat.shiftRight m a) 1) 1 with
    | true => adds r m acc k
    | false => HandSHeadRun.frNat (Nat.add m (Nat.pow 2 a)) fun m => adds r m (a :: acc) k
def bfs (g : Addr → Option Obj) : Nat → Nat → List Addr → List Addr → List Addr
  | 0, _, _, all => all
  | n + 1, m, fr, all => adds (fr.flatMap fun a => match g a with
    | some o => He.refsD o
    | none => []) m [] fun m new => bfs g n m new (all ++ new)
def asY (g : Addr → Option Obj) (n : Nat) : List Addr := bfs g n (2 ^ mainGlobals) [mainGlobals] [mainGlobals]
def lookY (n : Nat) (fx : List Fx) (fn : List He.DefD) (g : Addr → Option Obj) : He.AlD := lookX fx fn (He.frG g (asY g n))
def hkY (n : Nat) (fx : List Fx) (fn : List He.DefD) : PySem.W.Hook :=
  { α := He.AlD, obs := fun st => lookY n fx fn st.heap.get?, val := fun _ => He.valD fn
    says := fun _ hp => ∃ K : PySem.W.Frag, K.In hp ∧ Told fx fn K
    of := fun _ _ q => ⟨_, He.frG_in, ⟨q⟩⟩
    keeps := fun _ _ _ ⟨K, i, t⟩ kp => ⟨K, PySem.W.Frag.In.keeps i kp, t⟩ }
theorem lookY_eq {n : Nat} {fx : List Fx} {fn : List He.DefD} {g : Addr → Option Obj} {st : Shared} (q : ∀ a, g a = st.heap.get? a) : lookY n fx fn g = (hkY n fx fn).obs st := by
  obtain rfl : g = st.heap.get? := funext q
  rfl
end Vz
namespace Vz
open PySem L2
/-- (class of what is raised, class that the clause names), whether it takes it -/
abbrev XTab := List ((Str × Str) × Bool)
/-- a clause's class: an own one, or a built-in -/
def hcV (bs : List Str) (K : PySem.W.Frag) (x : Str) : Value := if x ∈ bs then .type x.toString else .ref (ga K x)
def exTab (bs : List Str) (tab : XTab) (K : PySem.W.Frag) : Bool := tab.all fun q => decide (PySem.W.exmOne K (.ref (ga K q.1.1)) (hcV bs K q.1.2) = some q.2)
def xkB (bm : List Value) (n : String) : Bool := (HandSPX.refsVE bm && decide (n = "ValueError.__new__")) || (decide (bm = ESX.exTail) && decide (n = "Exception.__new__"))
def xcB (K : PySem.W.Frag) (C : Addr) : Bool := match K.lookup C with
  | some ⟨.type "type", _, .cls cd, sl⟩ => match cd.mro, sl.toList with
    | .ref C' :: bm, [_, _, _, _, some (.builtin n), _] => decide (C' = C) && (!cd.hasDel && (cd.hasDict && xkB bm n))
    | _, _ => false
  | _ => false
def xcA (C : Addr) (K : PySem.W.Frag) : Bool := xcB K C && (decide (PySem.W.findIn K (.ref C) "__setattr__" = some (some (.builtin "object.__setattr__"))) && (decide (PySem.W.subIn K (.ref C) (.type "BaseException") = some true) &&
  (decide (PySem.W.typeIn K (.ref C) = some (.type "type")) && PySem.W.keepIn K (.ref C))))
def noAt (K : PySem.W.Frag) (C : Addr) (fl : List (Str × Nat)) : Bool := fl.all fun p => decide (PySem.W.findIn K (.ref C) p.1 = some none)
def xiB (cn : Str) (K : PySem.W.Frag) : Bool := xcA (ga K cn) K && (decide (PySem.W.findIn K (.ref (ga K cn)) "__init__" = some (some (.ref (He.ma K (ga K cn) "__init__")))) && decide (PySem.W.typeIn K (.ref (He.ma K (ga K cn) "__init__")) = some (.type "function")))
def xfOk (f c : Str) (K : PySem.W.Frag) : Bool := xcOk c K && decide (PySem.W.findIn K (.ref (ga K c)) f = some none)
/-- tables of isinstance, the module's name apart -/
def isTabN (tab : List (Ty × Bool)) (x : Str) (K : PySem.W.Frag) : Bool := isTab tab (.ref (ga K x)) K
end Vz
namespace L_k13
open PySem L2 Vz
def top (i : Nat) : Stmt := PySem.Challenge.pw_callvows_k13_books_refused.main.body.getD i (.Pass ⟨0, 0, 0, 0⟩)
abbrev s_bodies_of : Stmt := top 16
abbrev N_bodies_of : List Str := ["statement", "kind"]
theorem sc_bodies_of : FnScope N_bodies_of ["statement"] (defScope s_bodies_of) := ⟨rfl, rfl, rfl, by decide +kernel, rfl, by decide +kernel, by decide +kernel⟩
def D_bodies_of : He.DefD := ⟨("bodies_of", none), "bodies_of", "bodies_of", defArgs s_bodies_of, defBody s_bodies_of, defScope s_bodies_of, [], []⟩
abbrev s_statements_of : Stmt := top 17
abbrev N_statements_of : List Str := ["body", "found", "statement", "inner"]
theorem sc_statements_of : FnScope N_statements_of ["body"] (defScope s_statements_of) := ⟨rfl, rfl, rfl, by decide +kernel, rfl, by decide +kernel, by decide +kernel⟩
def D_statements_of : He.DefD := ⟨("statements_of", none), "statements_of", "statements_of", defArgs s_statements_of, defBody s_statements_of, defScope s_statements_of, [], []⟩
abbrev s_takes : Stmt := top 11
abbrev N_takes : List Str := ["function", "many"]
theorem sc_takes : FnScope N_takes ["function", "many"] (defScope s_takes) := ⟨rfl, rfl, rfl, by decide +kernel, rfl, by decide +kernel, by decide +kernel⟩
def D_takes : He.DefD := ⟨("takes", none), "takes", "takes", defArgs s_takes, defBody s_takes, defScope s_takes, [], []⟩
abbrev s_call_is_wrong : Stmt := top 19
abbrev N_call_is_wrong : List Str := ["statement", "known", "function"]
theorem sc_call_is_wrong : FnScope N_call_is_wrong ["statement", "known"] (defScope s_call_is_wrong) := ⟨rfl, rfl, rfl, by decide +kernel, rfl, by decide +kernel, by decide +kernel⟩
def D_call_is_wrong : He.DefD := ⟨("call_is_wrong", none), "call_is_wrong", "call_is_wrong", defArgs s_call_is_wrong, defBody s_call_is_wrong, defScope s_call_is_wrong, [], []⟩
abbrev s_given_by : Stmt := top 15
abbrev N_given_by : List Str := ["statement", "kind"]
theorem sc_given_by : FnScope N_given_by ["statement"] (defScope s_given_by) := ⟨rfl, rfl, rfl, by decide +kernel, rfl, by decide +kernel, by decide +kernel⟩
def D_given_by : He.DefD := ⟨("given_by", none), "given_by", "given_by", defArgs s_given_by, defBody s_given_by, defScope s_given_by, [], []⟩
abbrev s_parts_of : Stmt := top 12
abbrev N_parts_of : List Str := ["expression"]
theorem sc_parts_of : FnScope N_parts_of ["expression"] (defScope s_parts_of) := ⟨rfl, rfl, rfl, by decide +kernel, rfl, by decide +kernel, by decide +kernel⟩
def D_parts_of : He.DefD := ⟨("parts_of", none), "parts_of", "parts_of", defArgs s_parts_of, defBody s_parts_of, defScope s_parts_of, [], []⟩
abbrev s_all_within : Stmt := top 13
abbrev N_all_within : List Str := ["expressions", "found", "expression"]
theorem sc_all_within : FnScope N_all_within ["expressions"] (defScope s_all_within) := ⟨rfl, rfl, rfl, by decide +kernel, rfl, by decide +kernel, by decide +kernel⟩
def D_all_within : He.DefD := ⟨("all_within", none), "all_within", "all_within", defArgs s_all_within, defBody s_all_within, defScope s_all_within, [], []⟩
abbrev s_expressions_of : Stmt := top 14
abbrev N_expressions_of : List Str := ["statement", "kind"]
theorem sc_expressions_of : FnScope N_expressions_of ["statement"] (defScope s_expressions_of) := ⟨rfl, rfl, rfl, by decide +kernel, rfl, by decide +kernel, by decide +kernel⟩
def D_expressions_of : He.DefD := ⟨("expressions_of", none), "expressions_of", "expressions_of", defArgs s_expressions_of, defBody s_expressions_of, defScope s_expressions_of, [], []⟩
abbrev s_boxes_read : Stmt := top 18
abbrev N_boxes_read : List Str := ["statement", "one"]
theorem sc_boxes_read : FnScope N_boxes_read ["statement"] (defScope s_boxes_read) := ⟨rfl, rfl, rfl, by decide +kernel, rfl, by decide +kernel, by decide +kernel⟩
def D_boxes_read : He.DefD := ⟨("boxes_read", none), "boxes_read", "boxes_read", defArgs s_boxes_read, defBody s_boxes_read, defScope s_boxes_read, [], []⟩
abbrev s_is_name : Stmt := top 9
abbrev N_is_name : List Str := ["text", "sign"]
theorem sc_is_name : FnScope N_is_name ["text"] (defScope s_is_name) := ⟨rfl, rfl, rfl, by decide +kernel, rfl, by decide +kernel, by decide +kernel⟩
def D_is_name : He.DefD := ⟨("is_name", none), "is_name", "is_name", defArgs s_is_name, defBody s_is_name, defScope s_is_name, [], []⟩
abbrev s_wrong_in : Stmt := top 20
abbrev N_wrong_in : List Str := ["function", "statement", "known", "within", "expression", "name", "one"]
theorem sc_wrong_in : FnScope N_wrong_in ["function", "statement", "known"] (defScope s_wrong_in) := ⟨rfl, rfl, rfl, by decide +kernel, rfl, by decide +kernel, by decide +kernel⟩
def D_wrong_in : He.DefD := ⟨("wrong_in", none), "wrong_in", "wrong_in", defArgs s_wrong_in, defBody s_wrong_in, defScope s_wrong_in, [], []⟩
abbrev s_look_at : Stmt := top 21
abbrev N_look_at : List Str := ["function", "ahead", "known", "at", "param", "statement", "word"]
theorem sc_look_at : FnScope N_look_at ["function", "ahead", "known"] (defScope s_look_at) := ⟨rfl, rfl, rfl, by decide +kernel, rfl, by decide +kernel, by decide +kernel⟩
def D_look_at : He.DefD := ⟨("look_at", none), "look_at", "look_at", defArgs s_look_at, defBody s_look_at, defScope s_look_at, [], []⟩
abbrev s_Book___init__ : Stmt := inClass (top 22) 0
abbrev N_Book___init__ : List Str := ["self", "functions", "known", "at", "function", "other"]
theorem sc_Book___init__ : FnScope N_Book___init__ ["self", "functions"] (defScope s_Book___init__) := ⟨rfl, rfl, rfl, by decide +kernel, rfl, by decide +kernel, by decide +kernel⟩
def D_Book___init__ : He.DefD := ⟨("Book", some "__init__"), "__init__", "Book.__init__", defArgs s_Book___init__, defBody s_Book___init__, defScope s_Book___init__, [], []⟩
abbrev s_law_kind : Stmt := top 55
abbrev N_law_kind : List Str := ["_law_given", "_law_good", "e"]
theorem sc_law_kind : FnScope N_law_kind ["_law_given"] (defScope s_law_kind) := ⟨rfl, rfl, rfl, by decide +kernel, rfl, by decide +kernel, by decide +kernel⟩
def D_law_kind : He.DefD := ⟨("_law_kind", none), "_law_kind", "_law_kind", defArgs s_law_kind, defBody s_law_kind, defScope s_law_kind, [], []⟩
abbrev s_law_refused : Stmt := top 54
abbrev N_law_refused : List Str := ["_law_given", "_law_word_here", "e"]
theorem sc_law_refused : FnScope N_law_refused ["_law_given"] (defScope s_law_refused) := ⟨rfl, rfl, rfl, by decide +kernel, rfl, by decide +kernel, by decide +kernel⟩
def D_law_refused : He.DefD := ⟨("_law_refused", none), "_law_refused", "_law_refused", defArgs s_law_refused, defBody s_law_refused, defScope s_law_refused, [], []⟩
abbrev s_Function___init__ : Stmt := inClass (top 10) 0
abbrev N_Function___init__ : List Str := ["self", "name", "params", "body", "results", "more"]
theorem sc_Function___init__ : FnScope N_Function___init__ ["self", "name", "params", "body", "results", "more"] (defScope s_Function___init__) := ⟨rfl, rfl, rfl, by decide +kernel, rfl, by decide +kernel, by decide +kernel⟩
def D_Function___init__ : He.DefD := ⟨("Function", some "__init__"), "__init__", "Function.__init__", defArgs s_Function___init__, defBody s_Function___init__, defScope s_Function___init__, [], [("results", .int 0), ("more", .bl false)]⟩
abbrev s_law_made : Stmt := top 43
abbrev N_law_made : List Str := ["_law_drawn_here", "_law_who", "_law_gets", "_law_inside", "_law_gives", "_law_star"]
theorem sc_law_made : FnScope N_law_made ["_law_drawn_here"] (defScope s_law_made) := ⟨rfl, rfl, rfl, by decide +kernel, rfl, by decide +kernel, by decide +kernel⟩
def D_law_made : He.DefD := ⟨("_law_made", none), "_law_made", "_law_made", defArgs s_law_made, defBody s_law_made, defScope s_law_made, [], []⟩
abbrev s_law_statements : Stmt := top 46
abbrev N_law_statements : List Str := ["_law_inside", "_law_found", "_law_one", "_law_inner", "_law_part"]
theorem sc_law_statements : FnScope N_law_statements ["_law_inside"] (defScope s_law_statements) := ⟨rfl, rfl, rfl, by decide +kernel, rfl, by decide +kernel, by decide +kernel⟩
def D_law_statements : He.DefD := ⟨("_law_statements", none), "_law_statements", "_law_statements", defArgs s_law_statements, defBody s_law_statements, defScope s_law_statements, [], []⟩
abbrev s_law_first : Stmt := top 48
abbrev N_law_first : List Str := ["_law_drawn_here", "_law_who", "_law_one"]
theorem sc_law_first : FnScope N_law_first ["_law_drawn_here", "_law_who"] (defScope s_law_first) := ⟨rfl, rfl, rfl, by decide +kernel, rfl, by decide +kernel, by decide +kernel⟩
def D_law_first : He.DefD := ⟨("_law_first", none), "_law_first", "_law_first", defArgs s_law_first, defBody s_law_first, defScope s_law_first, [], []⟩
abbrev s_law_wrong_call : Stmt := top 49
abbrev N_law_wrong_call : List Str := ["_law_one", "_law_drawn_here", "_law_called"]
theorem sc_law_wrong_call : FnScope N_law_wrong_call ["_law_one", "_law_drawn_here"] (defScope s_law_wrong_call) := ⟨rfl, rfl, rfl, by decide +kernel, rfl, by decide +kernel, by decide +kernel⟩
def D_law_wrong_call : He.DefD := ⟨("_law_wrong_call", none), "_law_wrong_call", "_law_wrong_call", defArgs s_law_wrong_call, defBody s_law_wrong_call, defScope s_law_wrong_call, [], []⟩
abbrev s_law_reserved : Stmt := top 27
abbrev N_law_reserved : List Str := ["_law_words"]
theorem sc_law_reserved : FnScope N_law_reserved [] (defScope s_law_reserved) := ⟨rfl, rfl, rfl, by decide +kernel, rfl, by decide +kernel, by decide +kernel⟩
def D_law_reserved : He.DefD := ⟨("_law_reserved", none), "_law_reserved", "_law_reserved", defArgs s_law_reserved, defBody s_law_reserved, defScope s_law_reserved, [], []⟩
abbrev s_law_is_name : Stmt := top 44
abbrev N_law_is_name : List Str := ["_law_text", "_law_sign"]
theorem sc_law_is_name : FnScope N_law_is_name ["_law_text"] (defScope s_law_is_name) := ⟨rfl, rfl, rfl, by decide +kernel, rfl, by decide +kernel, by decide +kernel⟩
def D_law_is_name : He.DefD := ⟨("_law_is_name", none), "_law_is_name", "_law_is_name", defArgs s_law_is_name, defBody s_law_is_name, defScope s_law_is_name, [], []⟩
abbrev s_law_parts : Stmt := top 45
abbrev N_law_parts : List Str := ["_law_thing", "_law_found", "_law_one"]
theorem sc_law_parts : FnScope N_law_parts ["_law_thing"] (defScope s_law_parts) := ⟨rfl, rfl, rfl, by decide +kernel, rfl, by decide +kernel, by decide +kernel⟩
def D_law_parts : He.DefD := ⟨("_law_parts", none), "_law_parts", "_law_parts", defArgs s_law_parts, defBody s_law_parts, defScope s_law_parts, [], []⟩
abbrev s_law_split : Stmt := top 47
abbrev N_law_split : List Str := ["_law_one"]
theorem sc_law_split : FnScope N_law_split ["_law_one"] (defScope s_law_split) := ⟨rfl, rfl, rfl, by decide +kernel, rfl, by decide +kernel, by decide +kernel⟩
def D_law_split : He.DefD := ⟨("_law_split", none), "_law_split", "_law_split", defArgs s_law_split, defBody s_law_split, defScope s_law_split, [], []⟩
abbrev s_law_word : Stmt := top 50
abbrev N_law_word : List Str := ["_law_one", "_law_function", "_law_drawn_here", "_law_names", "_law_things_here", "_law_parts_here", "_law_thing", "_law_part", "_law_called", "_law_who"]
theorem sc_law_word : FnScope N_law_word ["_law_one", "_law_function", "_law_drawn_here"] (defScope s_law_word) := ⟨rfl, rfl, rfl, by decide +kernel, rfl, by decide +kernel, by decide +kernel⟩
def D_law_word : He.DefD := ⟨("_law_word", none), "_law_word", "_law_word", defArgs s_law_word, defBody s_law_word, defScope s_law_word, [], []⟩
abbrev s_law_due : Stmt := top 51
abbrev N_law_due : List Str := ["_law_drawn_here", "_law_earlier", "_law_function", "_law_who", "_law_gets", "_law_inside", "_law_gives", "_law_star", "_law_at_here", "_law_one", "_law_word_here"]
theorem sc_law_due : FnScope N_law_due ["_law_drawn_here"] (defScope s_law_due) := ⟨rfl, rfl, rfl, by decide +kernel, rfl, by decide +kernel, by decide +kernel⟩
def D_law_due : He.DefD := ⟨("_law_due", none), "_law_due", "_law_due", defArgs s_law_due, defBody s_law_due, defScope s_law_due, [], []⟩
abbrev s_law_take : Stmt := top 25
abbrev N_law_take : List Str := ["_law_state", "_law_many", "_law_found", "_law_turn", "_law_cell", "_law_seed", "_law_mixed"]
theorem sc_law_take : FnScope N_law_take ["_law_state", "_law_many"] (defScope s_law_take) := ⟨rfl, rfl, rfl, by decide +kernel, rfl, by decide +kernel, by decide +kernel⟩
def D_law_take : He.DefD := ⟨("_law_take", none), "_law_take", "_law_take", defArgs s_law_take, defBody s_law_take, defScope s_law_take, [], []⟩
abbrev s_law_pick : Stmt := top 26
abbrev N_law_pick : List Str := ["_law_state", "_law_some"]
theorem sc_law_pick : FnScope N_law_pick ["_law_state", "_law_some"] (defScope s_law_pick) := ⟨rfl, rfl, rfl, by decide +kernel, rfl, by decide +kernel, by decide +kernel⟩
def D_law_pick : He.DefD := ⟨("_law_pick", none), "_law_pick", "_law_pick", defArgs s_law_pick, defBody s_law_pick, defScope s_law_pick, [], []⟩
abbrev s_law_bad_name : Stmt := top 52
abbrev N_law_bad_name : List Str := ["_law_state", "_law_names", "_law_some"]
theorem sc_law_bad_name : FnScope N_law_bad_name ["_law_state", "_law_names"] (defScope s_law_bad_name) := ⟨rfl, rfl, rfl, by decide +kernel, rfl, by decide +kernel, by decide +kernel⟩
def D_law_bad_name : He.DefD := ⟨("_law_bad_name", none), "_law_bad_name", "_law_bad_name", defArgs s_law_bad_name, defBody s_law_bad_name, defScope s_law_bad_name, [], []⟩
abbrev s_law_bent : Stmt := top 53
abbrev N_law_bent : List Str := ["_law_state", "_law_drawn_here", "_law_kind_here", "_law_at_here", "_law_who", "_law_gets", "_law_inside", "_law_gives", "_law_star", "_law_place", "_law_one"]
theorem sc_law_bent : FnScope N_law_bent ["_law_state", "_law_drawn_here"] (defScope s_law_bent) := ⟨rfl, rfl, rfl, by decide +kernel, rfl, by decide +kernel, by decide +kernel⟩
def D_law_bent : He.DefD := ⟨("_law_bent", none), "_law_bent", "_law_bent", defArgs s_law_bent, defBody s_law_bent, defScope s_law_bent, [], []⟩
abbrev s_law_odd : Stmt := top 30
abbrev N_law_odd : List Str := ["_law_state", "_law_kit"]
theorem sc_law_odd : FnScope N_law_odd ["_law_state", "_law_kit"] (defScope s_law_odd) := ⟨rfl, rfl, rfl, by decide +kernel, rfl, by decide +kernel, by decide +kernel⟩
def D_law_odd : He.DefD := ⟨("_law_odd", none), "_law_odd", "_law_odd", defArgs s_law_odd, defBody s_law_odd, defScope s_law_odd, [], []⟩
abbrev s_law_box : Stmt := top 31
abbrev N_law_box : List Str := ["_law_state", "_law_kit"]
theorem sc_law_box : FnScope N_law_box ["_law_state", "_law_kit"] (defScope s_law_box) := ⟨rfl, rfl, rfl, by decide +kernel, rfl, by decide +kernel, by decide +kernel⟩
def D_law_box : He.DefD := ⟨("_law_box", none), "_law_box", "_law_box", defArgs s_law_box, defBody s_law_box, defScope s_law_box, [], []⟩
abbrev s_law_name : Stmt := top 28
abbrev N_law_name : List Str := ["_law_state", "_law_had", "_law_letters", "_law_own", "_law_kind_here", "_law_word_here", "_law_k", "_law_other"]
theorem sc_law_name : FnScope N_law_name ["_law_state", "_law_had"] (defScope s_law_name) := ⟨rfl, rfl, rfl, by decide +kernel, rfl, by decide +kernel, by decide +kernel⟩
def D_law_name : He.DefD := ⟨("_law_name", none), "_law_name", "_law_name", defArgs s_law_name, defBody s_law_name, defScope s_law_name, [], []⟩
abbrev s_law_worth : Stmt := top 32
abbrev N_law_worth : List Str := ["_law_state"]
theorem sc_law_worth : FnScope N_law_worth ["_law_state"] (defScope s_law_worth) := ⟨rfl, rfl, rfl, by decide +kernel, rfl, by decide +kernel, by decide +kernel⟩
def D_law_worth : He.DefD := ⟨("_law_worth", none), "_law_worth", "_law_worth", defArgs s_law_worth, defBody s_law_worth, defScope s_law_worth, [], []⟩
abbrev s_law_leaf : Stmt := top 33
abbrev N_law_leaf : List Str := ["_law_state", "_law_kit", "_law_kind_here", "_law_names", "_law_head"]
theorem sc_law_leaf : FnScope N_law_leaf ["_law_state", "_law_kit"] (defScope s_law_leaf) := ⟨rfl, rfl, rfl, by decide +kernel, rfl, by decide +kernel, by decide +kernel⟩
def D_law_leaf : He.DefD := ⟨("_law_leaf", none), "_law_leaf", "_law_leaf", defArgs s_law_leaf, defBody s_law_leaf, defScope s_law_leaf, [], []⟩
abbrev s_law_expression : Stmt := top 34
abbrev N_law_expression : List Str := ["_law_state", "_law_kit", "_law_deep", "_law_kind_here", "_law_word_here", "_law_one"]
theorem sc_law_expression : FnScope N_law_expression ["_law_state", "_law_kit", "_law_deep"] (defScope s_law_expression) := ⟨rfl, rfl, rfl, by decide +kernel, rfl, by decide +kernel, by decide +kernel⟩
def D_law_expression : He.DefD := ⟨("_law_expression", none), "_law_expression", "_law_expression", defArgs s_law_expression, defBody s_law_expression, defScope s_law_expression, [], []⟩
abbrev s_law_things : Stmt := top 35
abbrev N_law_things : List Str := ["_law_state", "_law_kit", "_law_many", "_law_k"]
theorem sc_law_things : FnScope N_law_things ["_law_state", "_law_kit", "_law_many"] (defScope s_law_things) := ⟨rfl, rfl, rfl, by decide +kernel, rfl, by decide +kernel, by decide +kernel⟩
def D_law_things : He.DefD := ⟨("_law_things", none), "_law_things", "_law_things", defArgs s_law_things, defBody s_law_things, defScope s_law_things, [], []⟩
abbrev s_law_at : Stmt := top 37
abbrev N_law_at : List Str := ["_law_state", "_law_kit", "_law_who", "_law_gets", "_law_gives", "_law_star", "_law_place", "_law_many"]
theorem sc_law_at : FnScope N_law_at ["_law_state", "_law_kit"] (defScope s_law_at) := ⟨rfl, rfl, rfl, by decide +kernel, rfl, by decide +kernel, by decide +kernel⟩
def D_law_at : He.DefD := ⟨("_law_at", none), "_law_at", "_law_at", defArgs s_law_at, defBody s_law_at, defScope s_law_at, [], []⟩
abbrev s_law_call : Stmt := top 36
abbrev N_law_call : List Str := ["_law_state", "_law_kit", "_law_some", "_law_who", "_law_gets", "_law_gives", "_law_star", "_law_things_here", "_law_k"]
theorem sc_law_call : FnScope N_law_call ["_law_state", "_law_kit"] (defScope s_law_call) := ⟨rfl, rfl, rfl, by decide +kernel, rfl, by decide +kernel, by decide +kernel⟩
def D_law_call : He.DefD := ⟨("_law_call", none), "_law_call", "_law_call", defArgs s_law_call, defBody s_law_call, defScope s_law_call, [], []⟩
abbrev s_law_simple : Stmt := top 38
abbrev N_law_simple : List Str := ["_law_state", "_law_kit", "_law_kind_here"]
theorem sc_law_simple : FnScope N_law_simple ["_law_state", "_law_kit", "_law_kind_here"] (defScope s_law_simple) := ⟨rfl, rfl, rfl, by decide +kernel, rfl, by decide +kernel, by decide +kernel⟩
def D_law_simple : He.DefD := ⟨("_law_simple", none), "_law_simple", "_law_simple", defArgs s_law_simple, defBody s_law_simple, defScope s_law_simple, [], []⟩
abbrev s_law_body : Stmt := top 40
abbrev N_law_body : List Str := ["_law_state", "_law_kit", "_law_deep", "_law_found", "_law_k"]
theorem sc_law_body : FnScope N_law_body ["_law_state", "_law_kit", "_law_deep"] (defScope s_law_body) := ⟨rfl, rfl, rfl, by decide +kernel, rfl, by decide +kernel, by decide +kernel⟩
def D_law_body : He.DefD := ⟨("_law_body", none), "_law_body", "_law_body", defArgs s_law_body, defBody s_law_body, defScope s_law_body, [], []⟩
abbrev s_law_statement : Stmt := top 39
abbrev N_law_statement : List Str := ["_law_state", "_law_kit", "_law_deep", "_law_kind_here", "_law_first_here", "_law_who", "_law_thing", "_law_inside", "_law_box_here", "_law_step"]
theorem sc_law_statement : FnScope N_law_statement ["_law_state", "_law_kit", "_law_deep"] (defScope s_law_statement) := ⟨rfl, rfl, rfl, by decide +kernel, rfl, by decide +kernel, by decide +kernel⟩
def D_law_statement : He.DefD := ⟨("_law_statement", none), "_law_statement", "_law_statement", defArgs s_law_statement, defBody s_law_statement, defScope s_law_statement, [], []⟩
abbrev s_law_unlike : Stmt := top 29
abbrev N_law_unlike : List Str := ["_law_state", "_law_many", "_law_names", "_law_k"]
theorem sc_law_unlike : FnScope N_law_unlike ["_law_state", "_law_many"] (defScope s_law_unlike) := ⟨rfl, rfl, rfl, by decide +kernel, rfl, by decide +kernel, by decide +kernel⟩
def D_law_unlike : He.DefD := ⟨("_law_unlike", none), "_law_unlike", "_law_unlike", defArgs s_law_unlike, defBody s_law_unlike, defScope s_law_unlike, [], []⟩
abbrev s_law_heads : Stmt := top 41
abbrev N_law_heads : List Str := ["_law_state", "_law_boxes", "_law_found", "_law_names", "_law_at_here", "_law_who", "_law_gets"]
theorem sc_law_heads : FnScope N_law_heads ["_law_state", "_law_boxes"] (defScope s_law_heads) := ⟨rfl, rfl, rfl, by decide +kernel, rfl, by decide +kernel, by decide +kernel⟩
def D_law_heads : He.DefD := ⟨("_law_heads", none), "_law_heads", "_law_heads", defArgs s_law_heads, defBody s_law_heads, defScope s_law_heads, [], []⟩
abbrev s_law_drawn : Stmt := top 42
abbrev N_law_drawn : List Str := ["_law_state", "_law_odd_here", "_law_boxes", "_law_heads_here", "_law_bad", "_law_found", "_law_left", "_law_at_here", "_law_who", "_law_gets", "_law_gives", "_law_star", "_law_kit"]
theorem sc_law_drawn : FnScope N_law_drawn ["_law_state", "_law_odd_here"] (defScope s_law_drawn) := ⟨rfl, rfl, rfl, by decide +kernel, rfl, by decide +kernel, by decide +kernel⟩
def D_law_drawn : He.DefD := ⟨("_law_drawn", none), "_law_drawn", "_law_drawn", defArgs s_law_drawn, defBody s_law_drawn, defScope s_law_drawn, [], []⟩
abbrev s_law_begun : Stmt := top 24
abbrev N_law_begun : List Str := ["_law_script", "_law_cell"]
theorem sc_law_begun : FnScope N_law_begun ["_law_script"] (defScope s_law_begun) := ⟨rfl, rfl, rfl, by decide +kernel, rfl, by decide +kernel, by decide +kernel⟩
def D_law_begun : He.DefD := ⟨("_law_begun", none), "_law_begun", "_law_begun", defArgs s_law_begun, defBody s_law_begun, defScope s_law_begun, [], []⟩
abbrev s_law : Stmt := top 56
abbrev N_law : List Str := ["_law_script", "_law_state", "_law_odd_here", "_law_bends", "_law_drawn_here", "_law_k", "_law_due_here", "_law_given"]
theorem sc_law : FnScope N_law ["_law_script"] (defScope s_law) := ⟨rfl, rfl, rfl, by decide +kernel, rfl, by decide +kernel, by decide +kernel⟩
def D_law : He.DefD := ⟨("law", none), "law", "law", defArgs s_law, defBody s_law, defScope s_law, [], []⟩
abbrev s_xNoBook : Stmt := inClass (top 2) 0
abbrev N_xNoBook : List Str := ["self", "name", "word"]
theorem sc_xNoBook : FnScope N_xNoBook ["self", "name", "word"] (defScope s_xNoBook) := ⟨rfl, rfl, rfl, by decide +kernel, rfl, by decide +kernel, by decide +kernel⟩
def D_xNoBook : He.DefD := ⟨("NoBook", some "__init__"), "__init__", "NoBook.__init__", defArgs s_xNoBook, defBody s_xNoBook, defScope s_xNoBook, [], []⟩
def fx : List Fx := [free "range", free "enumerate", free "len", free "tuple", free "max", free "int", free "min", free "list", (fun K => ["Function"].all fun c => attrOk "more" c K), (fun K => ["Function"].all fun c => attrOk "results" c K), (fun K => ["Function"].all fun c => attrOk "body" c K), (fun K => ["Function"].all fun c => attrOk "params" c K), (fun K => ["Function"].all fun c => attrOk "name" c K), (fun K => ["NoBook"].all fun c => xfOk "word" c K), (fun K => ["NoBook"].all fun c => xfOk "name" c K), glo "NoBook", exTab [] [(("VowError", "NoBook"), false), (("NoBook", "NoBook"), true), (("NoText", "NoBook"), false)], (fun K => ["Book"].all fun c => attrOk "functions" c K), conS "LETTERS" "abcdefghijklmnopqrstuvwxyz", free "all", glo "RESERVED", conT "RESERVED" [.str "number", .str "plus", .str "less", .str "times", .str "under", .str "same", .str "ref", .str "many", .str "extra", .str "fn", .str "set", .str "say", .str "if", .str "else", .str "while", .str "call", .str "at", .str "return", .str "throw", .str "try", .str "catch", .str "end", .str "more"], conI "LONGEST" 8, glo "SUMS", conT "SUMS" [.str "plus", .str "less", .str "times", .str "under", .str "same"], glo "NoText", isTabN [(.b "NoneType", false), (.b "bool", false), (.b "int", false), (.b "str", false), (.b "tuple", false), (.b "list", false), (.b "dict", false), (.c "Function", false), (.c "Book", false), (.x "VowError", false), (.x "NoBook", false), (.x "NoText", true)] "NoText", free "isinstance", isTab [(.b "NoneType", false), (.b "bool", false), (.b "int", false), (.b "str", false), (.b "tuple", false), (.b "list", false), (.b "dict", false), (.c "Function", false), (.c "Book", false), (.x "VowError", true), (.x "NoBook", true), (.x "NoText", true)] (.type "ValueError"), free "ValueError", isTabN [(.b "NoneType", false), (.b "bool", false), (.b "int", false), (.b "str", false), (.b "tuple", false), (.b "list", false), (.b "dict", false), (.c "Function", false), (.c "Book", false), (.x "VowError", false), (.x "NoBook", true), (.x "NoText", false)] "NoBook", glo "VowError", exTab [] [(("VowError", "VowError"), true), (("NoBook", "VowError"), true), (("NoText", "VowError"), true)], xiB "NoBook", (fun K => noAt K (ga K "NoBook") [("name", 1), ("word", 2)]), glo "bodies_of", glo "statements_of", glo "takes", glo "call_is_wrong", glo "given_by", glo "parts_of", glo "all_within", glo "expressions_of", glo "boxes_read", glo "is_name", glo "wrong_in", glo "look_at", glo "Book", (fun K => (He.Fa.mkr "Book").ok K), glo "_law_kind", glo "_law_refused", glo "Function", (fun K => (He.Fa.mkr "Function").ok K), glo "_law_made", glo "_law_statements", glo "_law_first", glo "_law_wrong_call", glo "_law_reserved", glo "_law_is_name", glo "_law_parts", glo "_law_split", glo "_law_word", glo "_law_due", glo "_law_take", glo "_law_pick", glo "_law_bad_name", glo "_law_bent", glo "_law_odd", glo "_law_box", glo "_law_name", glo "_law_worth", glo "_law_leaf", glo "_law_expression", glo "_law_things", glo "_law_at", glo "_law_call", glo "_law_simple", glo "_law_body", glo "_law_statement", glo "_law_unlike", glo "_law_heads", glo "_law_drawn", glo "_law_begun", glo "law"]
def fn : List He.DefD := [D_bodies_of, D_statements_of, D_takes, D_call_is_wrong, D_given_by, D_parts_of, D_all_within, D_expressions_of, D_boxes_read, D_is_name, D_wrong_in, D_look_at, D_Book___init__, D_law_kind, D_law_refused, D_Function___init__, D_law_made, D_law_statements, D_law_first, D_law_wrong_call, D_law_reserved, D_law_is_name, D_law_parts, D_law_split, D_law_word, D_law_due, D_law_take, D_law_pick, D_law_bad_name, D_law_bent, D_law_odd, D_law_box, D_law_name, D_law_worth, D_law_leaf, D_law_expression, D_law_things, D_law_at, D_law_call, D_law_simple, D_law_body, D_law_statement, D_law_unlike, D_law_heads, D_law_drawn, D_law_begun, D_law, D_xNoBook]
abbrev RowX : PySem.W.OpenRow := PySem.W.OpenLaw.row PySem.Challenge.rw_callvows_k13_books_refused
abbrev hk : PySem.W.Hook := hkY 5 fx fn
def ob (s : PySem.W.SharedT) : He.AlD := lookY 5 fx fn (HandSHeadRun.getT s)
theorem ob_eq (s : PySem.W.SharedT) : ob s = hk.obs s.abs := lookY_eq (HandSHeadRun.getT_eq s)
def loose : List PySem.Str := (["VowError", "NoBook", "NoText", "RESERVED", "LETTERS", "LONGEST", "SUMS", "is_name", "Function", "takes", "parts_of", "all_within", "expressions_of", "given_by", "bodies_of", "statements_of", "boxes_read", "call_is_wrong", "wrong_in", "look_at", "Book", "_law_begun", "_law_take", "_law_pick", "_law_reserved", "_law_name", "_law_unlike", "_law_odd", "_law_box", "_law_worth"] : List PySem.Str) ++ (["_law_leaf", "_law_expression", "_law_things", "_law_call", "_law_at", "_law_simple", "_law_statement", "_law_body", "_law_heads", "_law_drawn", "_law_made", "_law_is_name", "_law_parts", "_law_statements", "_law_split", "_law_first", "_law_wrong_call", "_law_word", "_law_due", "_law_bad_name", "_law_bent", "_law_refused", "_law_kind"] : List PySem.Str)
theorem run_of {A B C D : Type} {x : Option A} {f : A → B} {g : A → C} {h : A → D} {a : B} {b : C} {c : D} (e1 : x.map f = some a) (e2 : x.map g = some b) (e3 : x.map h = some c) : x.map (fun s => (f s, g s, h s)) = some (a, b, c) := by
  cases x with
  | none => cases e1
  | some v =>
    cases e1
    cases e2
    cases e3
    rfl
open HandSHeadRun PySem PySem.W PySem.Calls PyProof.Rows in
theorem runA (w : World) (os : OsState) : (HandSHeadRun.endF (HandSHeadRun.stepQ (HandSHeadRun.denQ HandSHeadRun.tabQ) RowX.prog w) 5920 RowX.prog w os).map (fun s => looksF RowX.prog (boot_heap w.params) s.abs) = some (true) := by kernel_rfl
open HandSHeadRun PySem PySem.W PySem.Calls PyProof.Rows in
theorem runB (w : World) (os : OsState) : (HandSHeadRun.endF (HandSHeadRun.stepQ (HandSHeadRun.denQ HandSHeadRun.tabQ) RowX.prog w) 5920 RowX.prog w os).map (fun s => seenQ (PySem.W.view RowX.prog [56]) loose (importedModules RowX.prog.main.body) (fun s => xlAt (PySem.W.view RowX.prog [56]) [] s && recOk RowX.toRowW.records s) s.abs) = some (openGood (PySem.W.view RowX.prog [56]) loose) := by kernel_rfl
open HandSHeadRun PySem PySem.W PySem.Calls PyProof.Rows in
theorem runC (w : World) (os : OsState) : (HandSHeadRun.endF (HandSHeadRun.stepQ (HandSHeadRun.denQ HandSHeadRun.tabQ) RowX.prog w) 5920 RowX.prog w os).map (fun s => ob s) = some (hk.val w) := by kernel_rfl
theorem run (w : World) : HandSHeadRun.RunEq RowX (PySem.W.view RowX.prog [56]) hk ob 5920 loose w := fun os => run_of (runA w os) (runB w os) (runC w os)
end L_k13
namespace Vz
open PySem L2
abbrev XQ := Str → XP → Hs → Prop
abbrev noX : XQ := fun _ _ _ => False
def R.wp {α : Type} (r : R α) (Q : α → Hs → Prop) (E : XQ) : Prop := match r with
  | .ok v G => Q v G
  | .exc c d G => E c d G
  | .stuck => False
structure SP where
  nx : En → Hs → Prop
  rt : AV → Hs → Prop
  bk : En → Hs → Prop
  ct : En → Hs → Prop
  ex : XQ
def SR.wp (r : SR) (D : SP) : Prop := match r with
  | .nx ρ G => D.nx ρ G
  | .rt v G => D.rt v G
  | .bk ρ G => D.bk ρ G
  | .ct ρ G => D.ct ρ G
  | .exc c d _ G => D.ex c d G
  | .stuck => False
section
variable {α β : Type} {Q Q' : α → Hs → Prop} {P : β → Hs → Prop} {E E' : XQ} {D : SP} {ρ : En} {G : Hs}
@[simp] theorem wp_ok (v : α) : (R.ok v G).wp Q E = Q v G := rfl
@[simp] theorem wp_exc (c : Str) (d : XP) : (R.exc c d G : R α).wp Q E = E c d G := rfl
@[simp] theorem wp_bind (r : R α) (k : α → Hs → R β) : (r.bind k).wp P E = r.wp (fun v G => (k v G).wp P E) E := by cases r <;> rfl
@[simp] theorem wp_toS (r : R α) (k : α → Hs → SR) : (r.toS ρ k).wp D = r.wp (fun v G => (k v G).wp D) D.ex := by cases r <;> rfl
theorem R.wp.mono {r : R α} (h : r.wp Q E) (hq : ∀ v G, Q v G → Q' v G) (he : ∀ c d G, E c d G → E' c d G) : r.wp Q' E' := by
  cases r with
  | ok v G => exact hq v G h
  | exc c d G => exact he c d G h
  | stuck => exact h
theorem R.wp.to {r : R α} (h : r.wp Q noX) (hq : ∀ v G, Q v G → Q' v G) : r.wp Q' E' := h.mono hq fun _ _ _ => False.elim
theorem R.wp.ex {r : R α} (h : r.wp Q noX) : ∃ v G, r = .ok v G ∧ Q v G := by
  cases r with
  | ok v G => exact ⟨v, G, rfl, h⟩
  | exc c d G => exact h.elim
  | stuck => exact h.elim
theorem wp_ite {c : Prop} [Decidable c] (a b : R α) : (if c then a else b).wp Q E = if c then a.wp Q E else b.wp Q E := by split <;> rfl
theorem swp_ite {c : Prop} [Decidable c] (a b : SR) : (if c then a else b).wp D = if c then a.wp D else b.wp D := by split <;> rfl
@[simp] theorem wp_guard {c : Prop} [Decidable c] (a : R α) : (if c then a else .stuck).wp Q E = (c ∧ a.wp Q E) := by
  by_cases h : c
  · rw [if_pos h]
    exact propext ⟨fun x => ⟨h, x⟩, fun x => x.2⟩
  · rw [if_neg h]
    exact propext ⟨fun x => x.elim, fun x => h x.1⟩
structure SP.le (D D' : SP) : Prop where
  nx : ∀ ρ G, D.nx ρ G → D'.nx ρ G
  rt : ∀ v G, D.rt v G → D'.rt v G
  bk : ∀ ρ G, D.bk ρ G → D'.bk ρ G
  ct : ∀ ρ G, D.ct ρ G → D'.ct ρ G
  ex : ∀ c d G, D.ex c d G → D'.ex c d G
theorem SR.wp.mono {r : SR} {D D' : SP} (h : r.wp D) (l : D.le D') : r.wp D' := by
  cases r with
  | nx ρ G => exact l.nx _ _ h
  | rt ρ G => exact l.rt _ _ h
  | bk ρ G => exact l.bk _ _ h
  | ct ρ G => exact l.ct _ _ h
  | exc c d ρ G => exact l.ex _ _ _ h
  | stuck => exact h
@[simp] theorem wp_seq (s1 s2 : MS) : (mSeq s1 s2 ρ G).wp D = (s1 ρ G).wp { D with nx := fun ρ G => (s2 ρ G).wp D } := by
  unfold mSeq
  cases s1 ρ G <;> rfl
@[simp] theorem wp_nx : (mNx ρ G).wp D = D.nx ρ G := rfl
@[simp] theorem wp_brk : (mBk ρ G).wp D = D.bk ρ G := rfl
@[simp] theorem wp_cont : (mCt ρ G).wp D = D.ct ρ G := rfl
@[simp] theorem wp_drop (m : ME) : (mDrop m ρ G).wp D = (m ρ G).wp (fun _ G => D.nx ρ G) D.ex := wp_toS _ _
@[simp] theorem wp_ret (m : ME) : (mRet m ρ G).wp D = (m ρ G).wp (fun v G => D.rt v G) D.ex := wp_toS _ _
@[simp] theorem wp_retN : (mRetN ρ G).wp D = D.rt .non G := rfl
@[simp] theorem wp_if (t : MB) (s1 s2 : MS) : (mIf t s1 s2 ρ G).wp D = (t ρ G).wp (fun k G => if k = true then (s1 ρ G).wp D else (s2 ρ G).wp D) D.ex := by
  unfold mIf
  rw [wp_toS]
  congr 1
  funext k G
  exact swp_ite _ _
@[simp] theorem wp_asg (m : ME) (i : Nat) : (mAsg m (gNm i) ρ G).wp D = (m ρ G).wp (fun v G => D.nx (ρ.set i (some v)) G) D.ex := wp_toS _ _
def MG.wp (r : R En) (D : SP) : Prop := match r with
  | .ok ρ G => D.nx ρ G
  | _ => False
@[simp] theorem wp_asgT (m : ME) (g : MG) : (mAsg m g ρ G).wp D = (m ρ G).wp (fun v G => MG.wp (g v ρ G) D) D.ex := by
  unfold mAsg
  rw [wp_toS]
  congr 1
  funext v G
  cases g v ρ G <;> rfl
@[simp] theorem wp_par (i j : Nat) (ms : MEs) : (mPar i j ms ρ G).wp D = (ms ρ G).wp (fun vs G => match vs with
  | [v, w] => D.nx ((ρ.set i (some v)).set j (some w)) G
  | _ => False) D.ex := by
  unfold mPar
  rw [wp_toS]
  congr 1
  funext vs G
  match vs with
  | [] => rfl
  | [_] => rfl
  | [_, _] => rfl
  | _ :: _ :: _ :: _ => rfl
@[simp] theorem wp_dput (mo mi mv : ME) : (mDput mo mi mv ρ G).wp D = (mv ρ G).wp (fun u G => (mo ρ G).wp (fun v G => (mi ρ G).wp (fun w G => (fDp v w u G).wp (fun _ G => D.nx ρ G) D.ex) D.ex) D.ex) D.ex := by
  unfold mDput
  simp only [wp_toS]
  rfl
@[simp] theorem wp_mFn {QV : AV → Hs → Prop} (n : Nat) (b : MS) (xs : List AV) : (mFn n b xs G).wp QV E = (b (startA n xs) G).wp ⟨fun _ G => QV .non G, QV, fun _ _ => False, fun _ _ => False, E⟩ := by
  unfold mFn
  cases b (startA n xs) G <;> rfl
section
variable {QV : AV → Hs → Prop} {QVs : List AV → Hs → Prop} {QB : Bool → Hs → Prop}
@[simp] theorem wp_var (i : Nat) : (mVar i ρ G).wp QV E = (match ρ[i]? with
  | some (some v) => QV v G
  | _ => False) := by
  unfold mVar
  cases ρ[i]? with
  | none => rfl
  | some o => cases o <;> rfl
@[simp] theorem wp_c (v : AV) : (mC v ρ G).wp QV E = QV v G := rfl
@[simp] theorem wp_m2 (f : AV → AV → Hs → R AV) (ma mb : ME) : (m2 f ma mb ρ G).wp QV E = (ma ρ G).wp (fun v G => (mb ρ G).wp (fun w G => (f v w G).wp QV E) E) E := by
  unfold m2
  simp only [wp_bind]
@[simp] theorem wp_m1 (f : AV → Hs → R AV) (ma : ME) : (m1 f ma ρ G).wp QV E = (ma ρ G).wp (fun v G => (f v G).wp QV E) E := by
  unfold m1
  simp only [wp_bind]
theorem wp_asB (r : R AV) : (asB r).wp QB E = r.wp (fun v G => match v with
  | .bl b => QB b G
  | _ => False) E := by
  cases r with
  | ok v G => cases v <;> rfl
  | _ => rfl
@[simp] theorem wp_test (m : ME) : (mTest m ρ G).wp QB E = (m ρ G).wp (fun v G => match v with
  | .bl b => QB b G
  | _ => False) E := wp_asB _
@[simp] theorem wp_tru (m : ME) : (mTru m ρ G).wp QB E = (m ρ G).wp (fun v G => match truB G v with
  | some b => QB b G
  | none => False) E := by
  unfold mTru asT
  cases m ρ G with
  | ok v G => simp only [R.wp]; cases truB G v <;> rfl
  | _ => rfl
@[simp] theorem wp_and (ta tb : MB) : (mAnd ta tb ρ G).wp QB E = (ta ρ G).wp (fun k G => if k = true then (tb ρ G).wp QB E else QB false G) E := by
  unfold mAnd
  rw [wp_bind]
  congr 1
  funext k G
  exact wp_ite _ _
@[simp] theorem wp_or (ta tb : MB) : (mOr ta tb ρ G).wp QB E = (ta ρ G).wp (fun k G => if k = true then QB true G else (tb ρ G).wp QB E) E := by
  unfold mOr
  rw [wp_bind]
  congr 1
  funext k G
  exact wp_ite _ _
@[simp] theorem wp_not (ta : MB) : (mNot ta ρ G).wp QB E = (ta ρ G).wp (fun k G => QB (!k) G) E := by
  unfold mNot
  rw [wp_bind]
  rfl
@[simp] theorem wp_andV (ma mb : ME) : (mAndV ma mb ρ G).wp QV E = (ma ρ G).wp (fun v G => match v with
  | .bl k => if k = true then (mb ρ G).wp QV E else QV (.bl false) G
  | _ => False) E := by
  unfold mAndV
  rw [wp_bind, wp_asB]
  congr 1
  funext v G
  cases v <;> first | rfl | exact wp_ite _ _
@[simp] theorem wp_orV (ma mb : ME) : (mOrV ma mb ρ G).wp QV E = (ma ρ G).wp (fun v G => match v with
  | .bl k => if k = true then QV (.bl true) G else (mb ρ G).wp QV E
  | _ => False) E := by
  unfold mOrV
  rw [wp_bind, wp_asB]
  congr 1
  funext v G
  cases v <;> first | rfl | exact wp_ite _ _
@[simp] theorem wp_notV (ma : ME) : (mNotV ma ρ G).wp QV E = (ma ρ G).wp (fun v G => match v with
  | .bl k => QV (.bl (!k)) G
  | _ => False) E := by
  unfold mNotV
  rw [wp_bind, wp_asB]
  rfl
theorem wp_iteE (tc : MB) (ma mb : ME) : (mIte tc ma mb ρ G).wp QV E = (tc ρ G).wp (fun k G => if k = true then (ma ρ G).wp QV E else (mb ρ G).wp QV E) E := by
  unfold mIte
  rw [wp_bind]
  congr 1
  funext k G
  exact wp_ite _ _
@[simp] theorem wp_chain (f g : AV → AV → Hs → R AV) (ma mb mc : ME) : (mChain f g ma mb mc ρ G).wp QV E = (ma ρ G).wp (fun v G => (mb ρ G).wp (fun w G => (f v w G).wp (fun z G => match z with
  | .bl k => if k = true then (mc ρ G).wp (fun u G => (g w u G).wp QV E) E else QV (.bl false) G
  | _ => False) E) E) E := by
  unfold mChain
  simp only [wp_bind, wp_asB]
  congr 1
  funext v G
  congr 1
  funext w G
  congr 1
  funext z G
  cases z <;> first | rfl | (simp only [wp_ite, wp_bind, wp_ok])
@[simp] theorem wp_nil : (mNil ρ G).wp QVs E = QVs [] G := rfl
@[simp] theorem wp_cons (m : ME) (ms : MEs) : (mCons m ms ρ G).wp QVs E = (m ρ G).wp (fun v G => (ms ρ G).wp (fun vs G => QVs (v :: vs) G) E) E := by
  unfold mCons
  simp only [wp_bind, wp_ok]
@[simp] theorem wp_tup (ms : MEs) : (mTup ms ρ G).wp QV E = (ms ρ G).wp (fun vs G => vs.length ≤ szl ∧ QV (.tup vs) G) E := by
  unfold mTup
  rw [wp_bind]
  congr 1
  funext vs G
  exact wp_guard _
@[simp] theorem wp_lst (ms : MEs) : (mLst ms ρ G).wp QV E = (ms ρ G).wp (fun vs G => vs.length ≤ szl ∧ QV (.ref G.length) (G ++ [.lst vs])) E := by
  unfold mLst
  rw [wp_bind]
  congr 1
  funext vs G
  exact wp_guard _
@[simp] theorem wp_blt (f : List AV → Hs → R AV) (ms : MEs) : (mBlt f ms ρ G).wp QV E = (ms ρ G).wp (fun vs G => (f vs G).wp QV E) E := wp_bind _ _
@[simp] theorem wp_bm (q : AV → Hs → Bool) (f : AV → List AV → Hs → R AV) (mo : ME) (ms : MEs) : (mBm q f mo ms ρ G).wp QV E = (mo ρ G).wp (fun v G => q v G = true ∧ (ms ρ G).wp (fun vs G => (f v vs G).wp QV E) E) E := by
  unfold mBm
  rw [wp_bind]
  congr 1
  funext v G
  rw [wp_guard, wp_bind]
@[simp] theorem wp_call (N n m : Nat) (gA : List AV → List AV → List AV) (F : List AV → Hs → R AV) (ms mk : MEs) : (mCall N n m gA F ms mk ρ G).wp QV E =
    (ms ρ G).wp (fun xs G => (mk ρ G).wp (fun ys G => (xs.length = n ∧ ys.length = m ∧ (gA xs ys).length = N) ∧ (F (gA xs ys) G).wp QV E) E) E := by
  unfold mCall
  simp only [wp_bind]
  congr 1
  funext xs G
  congr 1
  funext ys G
  exact wp_guard _
@[simp] theorem wp_sl (ma : ME) (ml mh : MO) : (mSl ma ml mh ρ G).wp QV E = (ma ρ G).wp (fun v G => (ml ρ G).wp (fun lo G => (mh ρ G).wp (fun hi G => (fSl v lo hi G).wp QV E) E) E) E := by
  unfold mSl
  simp only [wp_bind]
@[simp] theorem wp_oN {QO : Option Int → Hs → Prop} : (mNone ρ G).wp QO E = QO none G := rfl
@[simp] theorem wp_oS {QO : Option Int → Hs → Prop} (m : ME) : (mSome m ρ G).wp QO E = (m ρ G).wp (fun v G => match v with
  | .int i => QO (some i) G
  | _ => False) E := by
  unfold mSome
  rw [wp_bind]
  congr 1
  funext v G
  cases v <;> rfl
end
end
end Vz
namespace Vz
open PySem L2
theorem ofS_inj (a b : String) : (Str.ofString a = Str.ofString b) = (a = b) := by
  refine propext ⟨fun h => ?_, fun h => by rw [h]⟩
  rw [Str.ofString_eq_toList, Str.ofString_eq_toList] at h
  injection h with h
  have h2 : a.toList.map Char.toNat = b.toList.map Char.toNat := by
    have := congrArg Array.toList h
    exact this
  have h3 : a.toList = b.toList := by
    refine List.map_inj_right (f := Char.toNat) (fun x y e => ?_) |>.mp h2
    exact Char.ext (UInt32.toNat_inj.mp e)
  exact String.toList_inj.mp h3
/-- the objects from b on stand as they stood -/
structure Kp (b : Nat) (G G' : Hs) : Prop where
  le : G.length ≤ G'.length
  at_ : ∀ n, b ≤ n → n < G.length → G'[n]? = G[n]?
theorem Kp.refl (b : Nat) (G : Hs) : Kp b G G := ⟨Nat.le_refl _, fun _ _ _ => rfl⟩
theorem Kp.trans {b : Nat} {G G1 G2 : Hs} (h : Kp b G G1) (k : Kp b G1 G2) : Kp b G G2 :=
  ⟨Nat.le_trans h.le k.le, fun n hb hn => (k.at_ n hb (Nat.lt_of_lt_of_le hn h.le)).trans (h.at_ n hb hn)⟩
theorem Kp.mono {b c : Nat} {G G1 : Hs} (h : Kp b G G1) (l : b ≤ c) : Kp c G G1 := ⟨h.le, fun n hb hn => h.at_ n (Nat.le_trans l hb) hn⟩
theorem Kp.app (b : Nat) (G G1 : Hs) : Kp b G (G ++ G1) := ⟨by simp, fun n _ hn => List.getElem?_append_left hn⟩
theorem Kp.set (G : Hs) {n b : Nat} (o : AO) (h : n < b) : Kp b G (G.set n o) := ⟨by simp, fun m hb hn => List.getElem?_set_ne (by omega)⟩
theorem Kp.get {b : Nat} {G G1 : Hs} (h : Kp b G G1) {n : Nat} {o : AO} (hb : b ≤ n) (e : G[n]? = some o) : G1[n]? = some o :=
  (h.at_ n hb (List.getElem?_eq_some_iff.mp e).1).trans e
def zAV (xs : List Int) : List AV := xs.map AV.int
theorem zAV_get (xs : List Int) (i : Nat) : (zAV xs)[i]? = xs[i]?.map AV.int := List.getElem?_map
theorem zAV_len (xs : List Int) : (zAV xs).length = xs.length := List.length_map ..
def drK (gl cl : Nat) (rest turn seed : Int) : List (Key × AV) :=
  [(.inr "great", .ref gl), (.inr "rest", .int rest), (.inr "turn", .int turn), (.inr "seed", .int seed), (.inr "cells", .ref cl)]
structure DrS (b t s : Nat) (G : Hs) (gl cl : Nat) (gs cells : List Int) (rest turn seed : Int) : Prop where
  sb : s < b
  glb : gl < b
  clb : cl < b
  sg : s ≠ gl
  sc : s ≠ cl
  gc : gl ≠ cl
  bl : b ≤ G.length
  at_s : G[s]? = some (.dk (drK gl cl rest turn seed))
  at_g : G[gl]? = some (.lst (zAV gs))
  at_c : G[cl]? = some (.lst (zAV cells))
  g0 : ∀ g ∈ gs, 0 ≤ g
  ne : cells ≠ []
  cb : ∀ c ∈ cells, 0 ≤ c ∧ c < 2147483629
  r0 : 0 ≤ rest
  t0 : 0 ≤ turn
  tt : turn ≤ t
  s0 : 0 ≤ seed
  s1 : seed < 2147483647
def Dr (b t s : Nat) (G : Hs) : Prop := ∃ gl cl gs cells rest turn seed, DrS b t s G gl cl gs cells rest turn seed
theorem DrS.kp {b t s : Nat} {G G' : Hs} {gl cl : Nat} {gs cells : List Int} {rest turn seed : Int} (h : DrS b t s G gl cl gs cells rest turn seed) (k : G.length ≤ G'.length) (e : ∀ n, n < b → G'[n]? = G[n]?) : DrS b t s G' gl cl gs cells rest turn seed :=
  ⟨h.sb, h.glb, h.clb, h.sg, h.sc, h.gc, Nat.le_trans h.bl k, (e _ h.sb).trans h.at_s, (e _ h.glb).trans h.at_g, (e _ h.clb).trans h.at_c, h.g0, h.ne, h.cb, h.r0, h.t0, h.tt, h.s0, h.s1⟩
theorem Dr.kp {b t s : Nat} {G G' : Hs} (h : Dr b t s G) (k : Kp 0 G G') : Dr b t s G' := by
  obtain ⟨gl, cl, gs, cells, rest, turn, seed, h⟩ := h
  exact ⟨gl, cl, gs, cells, rest, turn, seed, h.kp k.le fun n hn => k.at_ n (Nat.zero_le _) (Nat.lt_of_lt_of_le hn h.bl)⟩
theorem Dr.mono {b t t' s : Nat} {G : Hs} (h : Dr b t s G) (l : t ≤ t') : Dr b t' s G := by
  obtain ⟨gl, cl, gs, cells, rest, turn, seed, h⟩ := h
  exact ⟨gl, cl, gs, cells, rest, turn, seed, { h with tt := by have := h.tt; omega }⟩
theorem Dr.bl {b t s : Nat} {G : Hs} (h : Dr b t s G) : b ≤ G.length := let ⟨_, _, _, _, _, _, _, h⟩ := h; DrS.bl h
theorem log2_le {n k : Nat} (h : n < 2 ^ k) : n.log2 ≤ k := by
  by_cases h0 : n = 0
  · subst h0; simp
  · exact Nat.le_of_lt ((Nat.log2_lt h0).mpr h)
section
variable {gl cl : Nat} {rest turn seed v : Int}
theorem drK_great : getA (drK gl cl rest turn seed) (.inr "great") = some (.ref gl) := by simp [drK, getA, ofS_inj]
theorem drK_rest : getA (drK gl cl rest turn seed) (.inr "rest") = some (.int rest) := by simp [drK, getA, ofS_inj]
theorem drK_turn : getA (drK gl cl rest turn seed) (.inr "turn") = some (.int turn) := by simp [drK, getA, ofS_inj]
theorem drK_seed : getA (drK gl cl rest turn seed) (.inr "seed") = some (.int seed) := by simp [drK, getA, ofS_inj]
theorem drK_cells : getA (drK gl cl rest turn seed) (.inr "cells") = some (.ref cl) := by simp [drK, getA, ofS_inj]
theorem drK_prest : putA (drK gl cl rest turn seed) (.inr "rest") (.int v) = drK gl cl v turn seed := by simp [drK, putA, ofS_inj]
theorem drK_pturn : putA (drK gl cl rest turn seed) (.inr "turn") (.int v) = drK gl cl rest v seed := by simp [drK, putA, ofS_inj]
theorem drK_pseed : putA (drK gl cl rest turn seed) (.inr "seed") (.int v) = drK gl cl rest turn v := by simp [drK, putA, ofS_inj]
theorem drK_len : (drK gl cl rest turn seed).length < szl := by
  show 5 < szl
  decide
end
end Vz
namespace Vz
open PySem L2
theorem allS_map {α β : Type} {f : α → Option β} {g : α → β} : ∀ {xs : List α}, (∀ x ∈ xs, f x = some (g x)) → allS (xs.map f) = some (xs.map g)
  | [], _ => rfl
  | x :: xs, h => by
    rw [List.map_cons, List.map_cons, h x (List.mem_cons_self ..)]
    simp only [allS]
    rw [allS_map fun y hy => h y (List.mem_cons_of_mem _ hy)]
theorem datZ {n : Nat} {G : Hs} {gs : List Int} : allS ((zAV gs).map (dat (n + 1) G)) = some (gs.map PyData.int) := by
  unfold zAV
  rw [List.map_map]
  exact allS_map fun x _ => rfl
theorem canLayZ : ∀ gs : List Int, PyData.canLayAll0 (gs.map PyData.int) = true
  | [] => rfl
  | g :: gs => by
    rw [List.map_cons, PyData.canLayAll0, canLayZ gs]
    rfl
theorem depthZ : ∀ gs : List Int, PyData.depthAll (gs.map PyData.int) ≤ 1
  | [] => by simp [PyData.depthAll]
  | g :: gs => by
    have := depthZ gs
    rw [List.map_cons, PyData.depthAll]
    have h : PyData.depth (.int g) ≤ 1 := by simp [PyData.depth]
    omega
theorem shapedZ (gs : List Int) : SeqAt.shaped (.list (gs.map PyData.int)) = true := by
  unfold SeqAt.shaped
  have h1 := canLayZ gs
  have h2 := depthZ gs
  rw [PyData.canLay0, h1, PyData.depth]
  simp
  omega
theorem dat_lst {G : Hs} {n k : Nat} {xs : List AV} {ds : List PyData} (h : G[n]? = some (.lst xs)) (e : allS (xs.map (dat k G)) = some ds) : dat (k + 1) G (.ref n) = some (.list ds) := by
  show (match G[n]? with
    | some (.lst xs) => (match allS (xs.map (dat k G)) with
      | some ds => some (.list ds)
      | none => none)
    | _ => none : Option PyData) = _
  rw [h]
  show (match allS (xs.map (dat k G)) with
      | some ds => some (.list ds)
      | none => none : Option PyData) = _
  rw [e]
theorem ne_nil {G : Hs} {n m : Nat} {gs : List Int} (h : G[n]? = some (.lst (zAV gs))) (h' : G[m]? = some (.lst [])) : fNe (.ref n) (.ref m) G = .ok (.bl (!gs.isEmpty)) G := by
  have e1 : dat 12 G (.ref n) = some (.list (gs.map PyData.int)) := dat_lst h datZ
  have e2 : dat 12 G (.ref m) = some (.list (([] : List Int).map PyData.int)) := dat_lst h' rfl
  have e3 : PyData.eqv (.list (gs.map PyData.int)) (.list (([] : List Int).map PyData.int)) = gs.isEmpty := by
    cases gs <;> rfl
  have e4 : eqB G (.ref n) (.ref m) = some gs.isEmpty := by
    show eqF G (.ref n) (.ref m) = _
    unfold eqF
    rw [e1, e2]
    show (if _ then some _ else none) = _
    rw [if_pos ⟨shapedZ _, shapedZ _⟩, e3]
  unfold fNe
  rw [e4]
end Vz
namespace Vz
open PySem L2
section
variable {QV : AV → Hs → Prop} {E : XQ} {G : Hs} {i j : Int}
theorem wp_addI : (fAdd (.int i) (.int j) G).wp QV E = QV (.int (i + j)) G := rfl
theorem wp_mulI : (fMul (.int i) (.int j) G).wp QV E = (i.natAbs.log2 + j.natAbs.log2 < 1000000 ∧ QV (.int (i * j)) G) := wp_guard _
theorem wp_I2 {f : Int → Int → Option Int} {c : Prop} [Decidable c] {k : Int} (h : f i j = if c then some k else none) : (fI2 f (.int i) (.int j) G).wp QV E = (c ∧ QV (.int k) G) := by
  show (match f i j with
    | some k => R.ok (.int k) G
    | none => .stuck : R AV).wp QV E = _
  rw [h]
  by_cases hc : c
  · rw [if_pos hc]
    exact propext ⟨fun x => ⟨hc, x⟩, fun x => x.2⟩
  · rw [if_neg hc]
    exact propext ⟨fun x => x.elim, fun x => hc x.1⟩
theorem wp_modI : (fMod (.int i) (.int j) G).wp QV E = (0 < j ∧ QV (.int (i % j)) G) := wp_I2 rfl
theorem wp_divI : (fDiv (.int i) (.int j) G).wp QV E = ((0 < j ∧ j.natAbs.log2 < 9000) ∧ QV (.int (i / j)) G) := wp_I2 rfl
theorem wp_powI : (fPow (.int i) (.int j) G).wp QV E = ((0 ≤ j ∧ j ≤ 1000000 ∧ i.natAbs < 2 ^ 64) ∧ QV (.int (i ^ j.toNat)) G) := wp_I2 rfl
theorem log2_b {i : Int} {k : Nat} (h : i.natAbs < 2 ^ k) : i.natAbs.log2 ≤ k := log2_le h
theorem mul_room {i j : Int} (h : i.natAbs < 2 ^ 250) (h' : j.natAbs < 2 ^ 250) : i.natAbs.log2 + j.natAbs.log2 < 1000000 := by
  have := log2_b h
  have := log2_b h'
  omega
theorem atI_in {α : Type} {xs : List α} {i : Int} (h0 : 0 ≤ i) (h1 : i < xs.length) : atI xs i = xs[i.toNat]? := by
  have e : ixN xs.length i = some i.toNat := by
    unfold ixN
    rw [if_pos h0, if_pos (by omega)]
  unfold atI
  rw [e]
  rfl
/-- an item of a list -/
theorem wp_ixL {n : Nat} {xs : List AV} {w : AV} (h : G[n]? = some (.lst xs)) (h0 : 0 ≤ i) (h1 : i < xs.length) (e : xs[i.toNat]? = some w) : (fIx (.ref n) (.int i) G).wp QV E = QV w G := by
  have e1 : seqOf G (.ref n) = some xs := by
    unfold seqOf
    simp only [tupOf, lstOf, h]
  simp only [fIx, e1, atI_in h0 h1, e, wp_ok]
end
end Vz
namespace Vz
open PySem L2
def b_take3 : MS := (mSeq (mAsg (m2 fDg (mVar 0) (mC (.str "turn"))) (gNm 3))
  (mSeq (mDput (mVar 0) (mC (.str "turn")) (m2 fAdd (mVar 3) (mC (.int 1))))
  (mSeq (mAsg (m2 fIx (m2 fDg (mVar 0) (mC (.str "cells"))) (m2 fMod (mVar 3) (mBlt fLen (mCons (m2 fDg (mVar 0) (mC (.str "cells"))) mNil)))) (gNm 4))
  (mSeq (mAsg (m2 fMod (m2 fAdd (m2 fAdd (m2 fMul (m2 fDg (mVar 0) (mC (.str "seed"))) (mC (.int 48271))) (m2 fMul (mVar 4) (m2 fAdd (m2 fMul (mC (.int 2)) (mVar 3)) (mC (.int 3))))) (m2 fPow (mVar 3) (mC (.int 3)))) (mC (.int 2147483647))) (gNm 5))
  (mSeq (mDput (mVar 0) (mC (.str "seed")) (mVar 5))
  (mSeq (mAsg (m2 fAdd (m2 fMul (m2 fMod (m2 fPow (mVar 5) (mC (.int 2))) (mC (.int 2147483629))) (mC (.int 2147483587))) (m2 fMod (m2 fPow (mVar 5) (mC (.int 3))) (mC (.int 2147483579)))) (gNm 6))
  (mRet (m2 fMod (m2 fDiv (mVar 6) (mC (.int 7))) (mVar 1)))))))))
def b_take2 : MS := (mSeq (mIf (mTest (m2 fGt (m2 fDg (mVar 0) (mC (.str "rest"))) (mC (.int 0)))) (mSeq (mAsg (m2 fMod (m2 fDg (mVar 0) (mC (.str "rest"))) (mVar 1)) (gNm 2))
  (mSeq (mDput (mVar 0) (mC (.str "rest")) (m2 fDiv (m2 fDg (mVar 0) (mC (.str "rest"))) (mVar 1)))
  (mRet (mVar 2)))) mNx) b_take3)
def b_take : MS := (mSeq (mIf (mAnd (mTest (m2 fEq (m2 fDg (mVar 0) (mC (.str "rest"))) (mC (.int 0)))) (mTest (m2 fNe (m2 fDg (mVar 0) (mC (.str "great"))) (mLst mNil)))) (mDput (mVar 0) (mC (.str "rest")) (mBm isL fPopAt (m2 fDg (mVar 0) (mC (.str "great"))) (mCons (mC (.int 0)) mNil))) mNx) b_take2)
def f_take : List AV → Hs → R AV := mFn 7 b_take
section
variable {b t s : Nat} {G : Hs} {QV : AV → Hs → Prop} {E : XQ}
theorem wp_dgS {k : Str} {n : Nat} {kvs : List (Key × AV)} {u : AV} (h : G[n]? = some (.dk kvs)) (e : getA kvs (.inr k) = some u) : (fDg (.ref n) (.str k) G).wp QV E = QV u G := by
  simp only [fDg, dkR, h, kOf, e, wp_ok]
theorem wp_dpS {k : Str} {n : Nat} {kvs kvs' : List (Key × AV)} {u : AV} {QU : Unit → Hs → Prop} (h : G[n]? = some (.dk kvs)) (hl : kvs.length < szl) (e : putA kvs (.inr k) u = kvs') : (fDp (.ref n) (.str k) u G).wp QU E = QU () (G.set n (.dk kvs')) := by
  simp only [fDp, dkOf, h, kOf, e, hl, if_true, wp_ok]
theorem mod_b {a m : Int} (hm : 0 < m) : 0 ≤ a % m ∧ a % m < m := ⟨Int.emod_nonneg _ (by omega), Int.emod_lt_of_pos _ hm⟩
/-- the state with another rest, turn or seed -/
theorem DrS.put {gl cl : Nat} {gs cells : List Int} {rest turn seed rest' turn' seed' : Int} {t' : Nat} (h : DrS b t s G gl cl gs cells rest turn seed) (hr : 0 ≤ rest') (h0 : 0 ≤ turn') (h1 : turn' ≤ t') (h2 : 0 ≤ seed') (h3 : seed' < 2147483647) :
    DrS b t' s (G.set s (.dk (drK gl cl rest' turn' seed'))) gl cl gs cells rest' turn' seed' :=
  have hs : s < G.length := Nat.lt_of_lt_of_le h.sb h.bl
  ⟨h.sb, h.glb, h.clb, h.sg, h.sc, h.gc, by rw [List.length_set]; exact h.bl, by rw [List.getElem?_set_self hs], by rw [List.getElem?_set_ne h.sg]; exact h.at_g, by rw [List.getElem?_set_ne h.sc]; exact h.at_c, h.g0, h.ne, h.cb, hr, h0, h1, h2, h3⟩
theorem DrS.gset {gl cl : Nat} {gs gs' cells : List Int} {rest turn seed : Int} (h : DrS b t s G gl cl gs cells rest turn seed) (hg : ∀ g ∈ gs', 0 ≤ g) : DrS b t s (G.set gl (.lst (zAV gs'))) gl cl gs' cells rest turn seed :=
  have hs : gl < G.length := Nat.lt_of_lt_of_le h.glb h.bl
  ⟨h.sb, h.glb, h.clb, h.sg, h.sc, h.gc, by rw [List.length_set]; exact h.bl, by rw [List.getElem?_set_ne fun e => h.sg e.symm]; exact h.at_s, by rw [List.getElem?_set_self hs], by rw [List.getElem?_set_ne h.gc]; exact h.at_c, hg, h.ne, h.cb, h.r0, h.t0, h.tt, h.s0, h.s1⟩
theorem DrS.app {gl cl : Nat} {gs cells : List Int} {rest turn seed : Int} (h : DrS b t s G gl cl gs cells rest turn seed) (o : List AO) : DrS b t s (G ++ o) gl cl gs cells rest turn seed :=
  h.kp (by simp) fun n hn => List.getElem?_append_left (Nat.lt_of_lt_of_le hn h.bl)
/-- the rest of it: no great number is left -/
theorem take_ok3 {m : Int} {gl cl : Nat} {gs cells : List Int} {rest turn seed : Int} {D : SP} {G0 : Hs} (h : DrS b t s G gl cl gs cells rest turn seed) (hm : 0 < m) (hm2 : m < 2 ^ 64) (ht : t < 2 ^ 60) (k0 : Kp b G0 G)
    (hD : ∀ (r : Int) G', 0 ≤ r → r < m → Dr b (t + 1) s G' → Kp b G0 G' → D.rt (.int r) G') :
    (b_take3 [some (.ref s), some (.int m), none, none, none, none, none] G).wp D := by
  have hs : s < G.length := Nat.lt_of_lt_of_le h.sb h.bl
  have hc : cl < G.length := Nat.lt_of_lt_of_le h.clb h.bl
  have t0 := h.t0; have tt := h.tt; have s0 := h.s0; have s1 := h.s1
  unfold b_take3
  rw [wp_seq, wp_asg]
  simp only [wp_m2, wp_var, wp_c, List.getElem?_cons_zero, List.getElem?_cons_succ, wp_dgS h.at_s drK_turn, List.set_cons_zero, List.set_cons_succ]
  rw [wp_seq, wp_dput]
  simp only [wp_m2, wp_var, wp_c, List.getElem?_cons_zero, List.getElem?_cons_succ, fAdd, wp_ok, wp_dpS h.at_s drK_len drK_pturn]
  have h2 := h.put (t' := t + 1) h.r0 (turn' := turn + 1) (by omega) (by omega) h.s0 h.s1
  have k2 : Kp b G0 (G.set s (.dk (drK gl cl rest (turn + 1) seed))) := k0.trans (Kp.set _ _ h.sb)
  generalize G.set s (.dk (drK gl cl rest (turn + 1) seed)) = G2 at h2 k2 ⊢
  rw [wp_seq, wp_asg]
  simp only [wp_m2, wp_var, wp_c, List.getElem?_cons_zero, List.getElem?_cons_succ, wp_dgS h2.at_s drK_cells, List.set_cons_zero, List.set_cons_succ, wp_blt, wp_cons, wp_nil, fLen, h2.at_c, wp_ok]
  have hlen : 0 < (zAV cells).length := by
    unfold zAV
    rw [List.length_map]
    exact List.length_pos_iff.mpr h.ne
  have hm4 := @mod_b turn (zAV cells).length (by omega)
  obtain ⟨cell, hcell, hcv⟩ : ∃ c : Int, (zAV cells)[(turn % ((zAV cells).length : Int)).toNat]? = some (.int c) ∧ 0 ≤ c ∧ c < 2147483629 := by
    have hi : (turn % ((zAV cells).length : Int)).toNat < cells.length := by
      have e : (zAV cells).length = cells.length := List.length_map ..
      omega
    refine ⟨cells[(turn % ((zAV cells).length : Int)).toNat], ?_, h.cb _ (List.getElem_mem hi)⟩
    rw [zAV_get, List.getElem?_eq_getElem hi]
    rfl
  simp only [wp_modI, wp_ixL h2.at_c hm4.1 hm4.2 hcell]
  refine ⟨by omega, ?_⟩
  have hp : (turn ^ Int.toNat 3).natAbs < 2 ^ 250 := by
    have e : turn ^ Int.toNat 3 = turn ^ 3 := rfl
    have h3 : turn.natAbs < 2 ^ 61 := by omega
    have h4 : turn.natAbs ^ 3 < (2 ^ 61) ^ 3 := Nat.pow_lt_pow_left h3 (by decide)
    rw [e, Int.natAbs_pow]
    exact Nat.lt_of_lt_of_le h4 (by decide)
  rw [wp_seq, wp_asg]
  simp only [wp_m2, wp_var, wp_c, List.getElem?_cons_zero, List.getElem?_cons_succ, wp_dgS h2.at_s drK_seed, List.set_cons_zero, List.set_cons_succ, wp_mulI, wp_addI, wp_powI, wp_modI]
  refine ⟨mul_room (by omega) (by omega), mul_room (by omega) (by omega), mul_room (by omega) (by omega), by omega, by omega, ?_⟩
  have hs' := @mod_b (seed * 48271 + cell * (2 * turn + 3) + turn ^ Int.toNat 3) 2147483647 (by omega)
  generalize (seed * 48271 + cell * (2 * turn + 3) + turn ^ Int.toNat 3) % 2147483647 = seed' at hs' ⊢
  rw [wp_seq, wp_dput]
  simp only [wp_m2, wp_var, wp_c, List.getElem?_cons_zero, List.getElem?_cons_succ, wp_dpS h2.at_s drK_len drK_pseed]
  have h3 := h2.put (t' := t + 1) h2.r0 h2.t0 h2.tt hs'.1 hs'.2
  have k3 : Kp b G0 (G2.set s (.dk (drK gl cl rest (turn + 1) seed'))) := k2.trans (Kp.set _ _ h.sb)
  generalize G2.set s (.dk (drK gl cl rest (turn + 1) seed')) = G3 at h3 k3 ⊢
  rw [wp_seq, wp_asg]
  simp only [wp_m2, wp_var, wp_c, List.getElem?_cons_zero, List.getElem?_cons_succ, List.set_cons_zero, List.set_cons_succ, wp_mulI, wp_addI, wp_powI, wp_modI, wp_ret, wp_divI]
  have m1 := @mod_b (seed' ^ Int.toNat 2) 2147483629 (by omega)
  refine ⟨by omega, by omega, mul_room (by omega) (by omega), by omega, by omega, ⟨by omega, ?_⟩, hm, ?_⟩
  · exact Nat.lt_of_le_of_lt (log2_b (k := 3) (by decide)) (by decide)
  · have hm5 := @mod_b ((seed' ^ Int.toNat 2 % 2147483629 * 2147483587 + seed' ^ Int.toNat 3 % 2147483579) / 7) m hm
    exact hD _ _ hm5.1 hm5.2 ⟨_, _, _, _, _, _, _, h3⟩ k3
theorem take_ok2 {m : Int} {gl cl : Nat} {gs cells : List Int} {rest turn seed : Int} {D : SP} {G0 : Hs} (h : DrS b t s G gl cl gs cells rest turn seed) (hm : 0 < m) (hm2 : m < 2 ^ 64) (ht : t < 2 ^ 60) (k0 : Kp b G0 G)
    (hD : ∀ (r : Int) G', 0 ≤ r → r < m → Dr b (t + 1) s G' → Kp b G0 G' → D.rt (.int r) G') :
    (b_take2 [some (.ref s), some (.int m), none, none, none, none, none] G).wp D := by
  unfold b_take2
  rw [wp_seq, wp_if]
  simp only [wp_test, wp_m2, wp_var, wp_c, List.getElem?_cons_zero, List.getElem?_cons_succ, wp_dgS h.at_s drK_rest, fGt, fCmpI, wp_ok, decide_eq_true_eq]
  by_cases hr : 0 < rest
  · rw [if_pos hr, wp_seq, wp_asg]
    simp only [wp_m2, wp_var, wp_c, List.getElem?_cons_zero, List.getElem?_cons_succ, wp_dgS h.at_s drK_rest, fMod, fI2, if_pos hm, wp_ok, List.set_cons_zero, List.set_cons_succ]
    rw [wp_seq, wp_dput]
    have hl : m.natAbs.log2 < 9000 := by
      have := log2_le (n := m.natAbs) (k := 64) (by omega)
      omega
    simp only [wp_m2, wp_var, wp_c, List.getElem?_cons_zero, List.getElem?_cons_succ, wp_dgS h.at_s drK_rest, fDiv, fI2, if_pos (And.intro hm hl), wp_ok, wp_dpS h.at_s drK_len drK_prest, wp_ret]
    have hm3 := @mod_b rest m hm
    refine hD _ _ hm3.1 hm3.2 ⟨_, _, _, _, _, _, _, h.put (Int.ediv_nonneg h.r0 (by omega)) h.t0 ?_ h.s0 h.s1⟩ (k0.trans (Kp.set _ _ h.sb))
    have := h.tt
    omega
  · rw [if_neg hr]
    exact take_ok3 h hm hm2 ht k0 hD
theorem take_ok {m : Int} (h : Dr b t s G) (hm : 0 < m) (hm2 : m < 2 ^ 64) (ht : t < 2 ^ 60) {D : SP}
    (hD : ∀ (r : Int) G', 0 ≤ r → r < m → Dr b (t + 1) s G' → Kp b G G' → D.rt (.int r) G') : (b_take [some (.ref s), some (.int m), none, none, none, none, none] G).wp D := by
  obtain ⟨gl, cl, gs, cells, rest, turn, seed, h⟩ := h
  have hs : s < G.length := Nat.lt_of_lt_of_le h.sb h.bl
  have hgl : gl < G.length := Nat.lt_of_lt_of_le h.glb h.bl
  show (mSeq _ b_take2 _ G).wp D
  rw [wp_seq, wp_if, wp_and]
  simp only [wp_test, wp_m2, wp_var, wp_c, List.getElem?_cons_zero, List.getElem?_cons_succ, wp_dgS h.at_s drK_rest, fEq, eqB, wp_ok, decide_eq_true_eq]
  by_cases hr : rest = 0
  · rw [if_pos hr]
    have e2 : (G ++ [AO.lst []])[gl]? = some (.lst (zAV gs)) := (List.getElem?_append_left hgl).trans h.at_g
    have e3 : (G ++ [AO.lst []])[G.length]? = some (.lst []) := by simp
    have h2 := h.app [AO.lst []]
    have k2 : Kp b G (G ++ [AO.lst []]) := Kp.app _ _ _
    have hgl2 : gl < (G ++ [AO.lst []]).length := by simp; omega
    simp only [wp_dgS h.at_s drK_great, wp_lst, wp_nil, List.length_nil, Nat.zero_le, true_and, ne_nil e2 e3, wp_ok]
    generalize G ++ [AO.lst []] = G2 at h2 k2 e2 hgl2 ⊢
    cases gs with
    | nil => exact take_ok2 h2 hm hm2 ht k2 hD
    | cons g gs =>
      rw [if_pos (by rfl), wp_dput]
      have e4 : seqIndex? 0 (zAV (g :: gs)).length = some 0 := by
        simp [seqIndex?, zAV]
      simp only [wp_bm, wp_m2, wp_var, wp_c, List.getElem?_cons_zero, List.getElem?_cons_succ, wp_dgS h2.at_s drK_great, wp_cons, wp_nil, isL, lstOf, h2.at_g, Option.isSome_some, true_and, fPopAt, e4, wp_guard]
      refine ⟨by decide, ?_⟩
      show ((fDp (.ref s) (.str "rest") (.int g) _).wp _ _ : Prop)
      have h3 : DrS b t s (G2.set gl (.lst (zAV gs))) gl cl gs cells rest turn seed := h2.gset fun x hx => h.g0 x (List.mem_cons_of_mem _ hx)
      have k3 : Kp b G (G2.set gl (.lst (zAV gs))) := k2.trans (Kp.set _ _ h.glb)
      show ((fDp (.ref s) (.str "rest") (.int g) (G2.set gl (.lst (zAV gs)))).wp _ _ : Prop)
      rw [wp_dpS h3.at_s drK_len drK_prest]
      exact take_ok2 (h3.put (h.g0 g (List.mem_cons_self ..)) h.t0 h.tt h.s0 h.s1) hm hm2 ht (k3.trans (Kp.set _ _ h.sb)) hD
  · rw [if_neg hr]
    exact take_ok2 h hm hm2 ht (Kp.refl _ _) hD
end
end Vz
namespace Vz
open PySem L2
section
variable {QV : AV → Hs → Prop} {E : XQ} {G : Hs} {ρ : En} {D : SP}
@[simp] theorem g_nm (i : Nat) (v : AV) : gNm i v ρ G = .ok (ρ.set i (some v)) G := rfl
/-- a walk with what holds ahead of each turn -/
theorem wp_forF {gd : Option (Nat × List AV)} {g : MG} {b : MS} (I : Nat → En → Hs → Prop) : ∀ (vs : List AV) (i : Nat) (ρ : En) (G : Hs), I i ρ G →
    (∀ j ρ G, i ≤ j → j ≤ i + vs.length → I j ρ G → gdOk gd G) →
    (∀ j v ρ G, vs[j]? = some v → I (i + j) ρ G → MG.wp (g v ρ G) { D with nx := fun ρ1 G1 => (b ρ1 G1).wp { nx := I (i + j + 1), rt := D.rt, bk := D.nx, ct := I (i + j + 1), ex := D.ex } }) →
    (∀ ρ G, I (i + vs.length) ρ G → D.nx ρ G) → (forF gd g b vs ρ G).wp D
  | [], i, ρ, G, h, hg, hs, he => by
    simp only [forF]
    rw [if_pos (hg i ρ G (Nat.le_refl _) (Nat.le_add_right ..) h)]
    exact he ρ G h
  | v :: vs, i, ρ, G, h, hg, hs, he => by
    simp only [forF]
    rw [if_pos (hg i ρ G (Nat.le_refl _) (Nat.le_add_right ..) h)]
    have h1 := hs 0 v ρ G rfl h
    have next : ∀ ρ2 G2, I (i + 1) ρ2 G2 → (forF gd g b vs ρ2 G2).wp D := fun ρ2 G2 h2 =>
      wp_forF I vs (i + 1) ρ2 G2 h2 (fun j ρ G l1 l2 => hg j ρ G (by omega) (by rw [List.length_cons]; omega)) (fun j v ρ G e hI => by
        have := hs (j + 1) v ρ G e (by rw [show i + (j + 1) = i + 1 + j by omega]; exact hI)
        rw [show i + (j + 1) = i + 1 + j by omega] at this
        exact this) (fun ρ G hI => he ρ G (by rw [List.length_cons, show i + (vs.length + 1) = i + 1 + vs.length by omega]; exact hI))
    cases e1 : g v ρ G with
    | stuck => rw [e1] at h1; exact h1.elim
    | exc c d G' => rw [e1] at h1; exact h1.elim
    | ok ρ1 G1 =>
      rw [e1] at h1
      have h1 : (b ρ1 G1).wp { nx := I (i + 1), rt := D.rt, bk := D.nx, ct := I (i + 1), ex := D.ex } := h1
      show (match b ρ1 G1 with
        | .nx ρ2 G2 => forF gd g b vs ρ2 G2
        | .ct ρ2 G2 => forF gd g b vs ρ2 G2
        | .bk ρ2 G2 => .nx ρ2 G2
        | r => r : SR).wp D
      cases e2 : b ρ1 G1 with
      | nx ρ2 G2 => rw [e2] at h1; exact next ρ2 G2 h1
      | ct ρ2 G2 => rw [e2] at h1; exact next ρ2 G2 h1
      | bk ρ2 G2 => rw [e2] at h1; exact h1
      | rt v G2 => rw [e2] at h1; exact h1
      | exc c d ρ2 G2 => rw [e2] at h1; exact h1
      | stuck => rw [e2] at h1; exact h1
theorem wp_for {mi : MI} {g : MG} {b : MS} (I : Nat → En → Hs → Prop) (h : (mi ρ G).wp (fun k G1 => I 0 ρ G1 ∧ (∀ j ρ G, j ≤ k.1.length → I j ρ G → gdOk k.2 G) ∧
      (∀ j v ρ G, k.1[j]? = some v → I j ρ G → MG.wp (g v ρ G) { D with nx := fun ρ1 G1 => (b ρ1 G1).wp { nx := I (j + 1), rt := D.rt, bk := D.nx, ct := I (j + 1), ex := D.ex } }) ∧
      ∀ ρ G, I k.1.length ρ G → D.nx ρ G) D.ex) : (mFor mi g b ρ G).wp D := by
  unfold mFor
  rw [wp_toS]
  refine h.mono (fun k G1 ⟨h0, hg, hs, he⟩ => ?_) fun _ _ _ x => x
  refine wp_forF I k.1 0 ρ G1 h0 (fun j ρ G _ l h => hg j ρ G (by omega) h) (fun j v ρ G e h => ?_) fun ρ G h => he ρ G (by rw [Nat.zero_add] at h; exact h)
  have := hs j v ρ G e (by rw [Nat.zero_add] at h; exact h)
  rw [Nat.zero_add]
  exact this
@[simp] theorem wp_wk {QW : Wk → Hs → Prop} (m : ME) : (mWk m ρ G).wp QW E = (m ρ G).wp (fun v G => match wkOf G v with
  | some k => QW k G
  | none => False) E := by
  unfold mWk
  rw [wp_bind]
  congr 1
  funext v G
  cases wkOf G v <;> rfl
@[simp] theorem wp_rg1 {QW : Wk → Hs → Prop} (m : ME) : (mRg1 m ρ G).wp QW E = (m ρ G).wp (fun v G => match v with
  | .int j => (-(2 ^ 62) ≤ j ∧ j < 2 ^ 62) ∧ QW (rgA 0 j, none) G
  | _ => False) E := by
  unfold mRg1
  rw [wp_bind]
  congr 1
  funext v G
  cases v <;> first | rfl | exact wp_guard _
@[simp] theorem wp_rg2 {QW : Wk → Hs → Prop} (ma mb : ME) : (mRg2 ma mb ρ G).wp QW E = (ma ρ G).wp (fun v G => (mb ρ G).wp (fun w G => match v, w with
  | .int i, .int j => (-(2 ^ 62) ≤ i ∧ i < 2 ^ 62 ∧ -(2 ^ 62) ≤ j ∧ j < 2 ^ 62) ∧ QW (rgA i j, none) G
  | _, _ => False) E) E := by
  unfold mRg2
  simp only [wp_bind]
  congr 1
  funext v G
  congr 1
  funext w G
  cases v <;> cases w <;> first | rfl | exact wp_guard _
theorem rgA_get {lo hi : Int} {i : Nat} {v : AV} (h : (rgA lo hi)[i]? = some v) : v = .int (lo + i) ∧ lo + i < hi := by
  unfold rgA at h
  rw [List.getElem?_map] at h
  by_cases hi' : i < (hi - lo).toNat
  · rw [List.getElem?_range hi'] at h
    cases h
    exact ⟨rfl, by omega⟩
  · rw [List.getElem?_eq_none (by simp; omega)] at h
    cases h
theorem rgA_len {lo hi : Int} : (rgA lo hi).length = (hi - lo).toNat := by simp [rgA]
/-- of items that change nothing -/
theorem lcF_pure {gd : Option (Nat × List AV)} {g : MG} {t : MB} {m : ME} {p : AV → Bool} {y : AV → AV} : ∀ (vs acc : List AV), (∀ acc, gdOk gd (G ++ [.lst acc])) → acc.length + vs.length ≤ szl →
    (∀ v ∈ vs, ∀ acc, ∃ ρ1, g v ρ (G ++ [.lst acc]) = .ok ρ1 (G ++ [.lst acc]) ∧ t ρ1 (G ++ [.lst acc]) = .ok (p v) (G ++ [.lst acc]) ∧ (p v = true → m ρ1 (G ++ [.lst acc]) = .ok (y v) (G ++ [.lst acc]))) →
    lcF gd g t m G.length ρ vs (G ++ [.lst acc]) = .ok () (G ++ [.lst (acc ++ (vs.filter p).map y)])
  | [], acc, hg, hl, hb => by
    simp only [lcF]
    rw [if_pos (hg acc)]
    simp
  | v :: vs, acc, hg, hl, hb => by
    obtain ⟨ρ1, e1, e2, e3⟩ := hb v (List.mem_cons_self ..) acc
    simp only [lcF]
    rw [if_pos (hg acc), e1]
    simp only [e2]
    rw [List.length_cons] at hl
    have ih := fun acc' (h : acc'.length + vs.length ≤ szl) => lcF_pure (gd := gd) (g := g) (t := t) (m := m) (p := p) (y := y) vs acc' hg h fun v hv => hb v (List.mem_cons_of_mem _ hv)
    cases hp : p v with
    | false =>
      simp only
      rw [ih acc (by omega), List.filter_cons_of_neg (by rw [hp]; decide)]
    | true =>
      have e3 := e3 hp
      simp only [e3, List.getElem?_concat_length]
      rw [if_pos (by omega)]
      have es : (G ++ [AO.lst acc]).set G.length (.lst (acc ++ [y v])) = G ++ [.lst (acc ++ [y v])] := by simp
      rw [es, ih (acc ++ [y v]) (by simp; omega), List.filter_cons_of_pos hp, List.map_cons, List.append_assoc]
      rfl
theorem wp_lcP {mi : MI} {g : MG} {t : MB} {m : ME} {own : List Nat} (p : AV → Bool) (y : AV → AV) (h : (mi ρ G).wp (fun k G => k.1.length ≤ szl ∧ gdOk k.2 G ∧
      (∀ v ∈ k.1, ∀ acc, ∃ ρ1, g v (wipeA ρ own) (G ++ [.lst acc]) = .ok ρ1 (G ++ [.lst acc]) ∧ t ρ1 (G ++ [.lst acc]) = .ok (p v) (G ++ [.lst acc]) ∧ (p v = true → m ρ1 (G ++ [.lst acc]) = .ok (y v) (G ++ [.lst acc]))) ∧
      QV (.ref G.length) (G ++ [.lst ((k.1.filter p).map y)])) E) : (mLc mi g t m own ρ G).wp QV E := by
  unfold mLc
  rw [wp_bind]
  refine h.mono (fun k G ⟨hl, hg, hb, hq⟩ => ?_) fun _ _ _ x => x
  have hg' : ∀ acc, gdOk k.2 (G ++ [.lst acc]) := fun acc => by
    cases e : k.2 with
    | none => exact True.intro
    | some q =>
      obtain ⟨n, xs⟩ := q
      rw [e] at hg
      exact (List.getElem?_append_left (List.getElem?_eq_some_iff.mp hg).1).trans hg
  rw [lcF_pure k.1 [] hg' (by simpa using hl) hb]
  exact hq
/-- with what holds ahead of each turn; acc: what is gathered -/
theorem lcF_inv {gd : Option (Nat × List AV)} {g : MG} {t : MB} {m : ME} {n : Nat} (I : Nat → List AV → Hs → Prop) : ∀ (vs : List AV) (i : Nat) (acc : List AV) (G : Hs), I i acc G → G[n]? = some (.lst acc) →
    (∀ j acc G, i ≤ j → j ≤ i + vs.length → I j acc G → gdOk gd G) →
    (∀ j v acc G, vs[j]? = some v → I (i + j) acc G → G[n]? = some (.lst acc) → ∃ ρ1 G1, g v ρ G = .ok ρ1 G1 ∧ (t ρ1 G1).wp (fun b G2 => if b = true then
      (m ρ1 G2).wp (fun y G3 => G3[n]? = some (.lst acc) ∧ acc.length < szl ∧ I (i + j + 1) (acc ++ [y]) (G3.set n (.lst (acc ++ [y])))) noX else G2[n]? = some (.lst acc) ∧ I (i + j + 1) acc G2) noX) →
    (lcF gd g t m n ρ vs G).wp (fun _ G => ∃ acc, G[n]? = some (.lst acc) ∧ I (i + vs.length) acc G) noX
  | [], i, acc, G, h, hn, hg, hs => by
    simp only [lcF]
    rw [if_pos (hg i acc G (Nat.le_refl _) (Nat.le_add_right ..) h)]
    exact ⟨acc, hn, h⟩
  | v :: vs, i, acc, G, h, hn, hg, hs => by
    simp only [lcF]
    rw [if_pos (hg i acc G (Nat.le_refl _) (Nat.le_add_right ..) h)]
    obtain ⟨ρ1, G1, e1, h1⟩ := hs 0 v acc G rfl h hn
    have next : ∀ acc2 G2, I (i + 1) acc2 G2 → G2[n]? = some (.lst acc2) → (lcF gd g t m n ρ vs G2).wp (fun _ G => ∃ acc, G[n]? = some (.lst acc) ∧ I (i + (v :: vs).length) acc G) noX := fun acc2 G2 h2 hn2 => by
      have := lcF_inv (gd := gd) (g := g) (t := t) (m := m) (n := n) I vs (i + 1) acc2 G2 h2 hn2 (fun j acc G l1 l2 => hg j acc G (by omega) (by rw [List.length_cons]; omega)) (fun j v acc G e hI hn => by
        have := hs (j + 1) v acc G e (by rw [show i + (j + 1) = i + 1 + j by omega]; exact hI) hn
        rw [show i + (j + 1) = i + 1 + j by omega] at this
        exact this)
      rw [List.length_cons, show i + (vs.length + 1) = i + 1 + vs.length by omega]
      exact this
    rw [e1]
    simp only
    cases e2 : t ρ1 G1 with
    | stuck => rw [e2] at h1; exact h1.elim
    | exc c d G' => rw [e2] at h1; exact h1.elim
    | ok b G2 =>
      rw [e2] at h1
      have h1 : (if b = true then (m ρ1 G2).wp (fun y G3 => G3[n]? = some (.lst acc) ∧ acc.length < szl ∧ I (i + 0 + 1) (acc ++ [y]) (G3.set n (.lst (acc ++ [y])))) noX else G2[n]? = some (.lst acc) ∧ I (i + 0 + 1) acc G2) := h1
      cases b with
      | false =>
        rw [if_neg Bool.false_ne_true] at h1
        exact next acc G2 h1.2 h1.1
      | true =>
        rw [if_pos rfl] at h1
        simp only
        cases e3 : m ρ1 G2 with
        | stuck => rw [e3] at h1; exact h1.elim
        | exc c d G' => rw [e3] at h1; exact h1.elim
        | ok y G3 =>
          rw [e3] at h1
          obtain ⟨h3, h4, h5⟩ := h1
          simp only [h3]
          rw [if_pos h4]
          exact next _ _ h5 (List.getElem?_set_self (List.getElem?_eq_some_iff.mp h3).1)
theorem wp_lc {mi : MI} {g : MG} {t : MB} {m : ME} {own : List Nat} (I : Nat → List AV → Hs → Prop) (h : (mi ρ G).wp (fun k G0 => I 0 [] (G0 ++ [.lst []]) ∧ (∀ j acc G, j ≤ k.1.length → I j acc G → gdOk k.2 G) ∧
      (∀ j v acc G, k.1[j]? = some v → I j acc G → G[G0.length]? = some (.lst acc) → ∃ ρ1 G1, g v (wipeA ρ own) G = .ok ρ1 G1 ∧ (t ρ1 G1).wp (fun b G2 => if b = true then
        (m ρ1 G2).wp (fun y G3 => G3[G0.length]? = some (.lst acc) ∧ acc.length < szl ∧ I (j + 1) (acc ++ [y]) (G3.set G0.length (.lst (acc ++ [y])))) noX else G2[G0.length]? = some (.lst acc) ∧ I (j + 1) acc G2) noX) ∧
      ∀ acc G, G[G0.length]? = some (.lst acc) → I k.1.length acc G → QV (.ref G0.length) G) E) : (mLc mi g t m own ρ G).wp QV E := by
  unfold mLc
  rw [wp_bind]
  refine h.mono (fun k G ⟨h0, hg, hs, he⟩ => ?_) fun _ _ _ x => x
  rw [wp_bind]
  have := lcF_inv (gd := k.2) (g := g) (t := t) (m := m) (n := G.length) (ρ := wipeA ρ own) I k.1 0 [] (G ++ [.lst []]) h0 (by simp) (fun j acc G _ l h => hg j acc G (by omega) h) (fun j v acc G e h hn => by
    rw [Nat.zero_add] at h ⊢
    exact hs j v acc G e h hn)
  refine this.to fun _ G2 ⟨acc, hn, hI⟩ => ?_
  rw [Nat.zero_add] at hI
  exact he acc G2 hn hI
end
end Vz
namespace Vz
open PySem L2
section
variable {QV : AV → Hs → Prop} {QP : List (Key × AV) → Hs → Prop} {E : XQ} {G : Hs} {ρ : En} {D : SP}
open Classical in
theorem wp_dict (trs : List (ME × ME)) : (mDict trs ρ G).wp QV E = (mPairs trs ρ (G ++ [.dk []])).wp (fun kvs G1 => (kvs.length ≤ 15 ∧ G1[G.length]? = some (.dk [])) ∧ QV (.ref G.length) (G1.set G.length (.dk (mergeA kvs)))) E := by
  unfold mDict
  rw [wp_bind]
  congr 1
  funext kvs G1
  exact wp_guard _
theorem wp_prs0 : (mPairs [] ρ G).wp QP E = QP [] G := rfl
theorem wp_prs (mk mv : ME) (r : List (ME × ME)) : (mPairs ((mk, mv) :: r) ρ G).wp QP E = (mk ρ G).wp (fun w G1 => (mv ρ G1).wp (fun u G2 => match kOf w with
  | some k => (mPairs r ρ G2).wp (fun kvs G3 => QP ((k, u) :: kvs) G3) E
  | none => False) E) E := by
  rw [mPairs, wp_bind]
  congr 1
  funext w G1
  rw [wp_bind]
  congr 1
  funext u G2
  cases kOf w with
  | none => rfl
  | some k =>
    show ((mPairs r ρ G2).bind _).wp _ _ = _
    rw [wp_bind]
    rfl
theorem fAdd_lst {m n : Nat} {xs ys : List AV} (h : G[m]? = some (.lst xs)) (h' : G[n]? = some (.lst ys)) : (fAdd (.ref m) (.ref n) G).wp QV E = (xs.length + ys.length ≤ szl ∧ QV (.ref G.length) (G ++ [.lst (xs ++ ys)])) := by
  show (match G[m]?, G[n]? with
    | some (.lst xs), some (.lst ys) => if xs.length + ys.length ≤ szl then .ok (.ref G.length) (G ++ [.lst (xs ++ ys)]) else .stuck
    | _, _ => .stuck : R AV).wp QV E = _
  rw [h, h']
  exact wp_guard _
noncomputable def b_begun (sd : Int) : MS := (mRet (mDict [((mC (.str "great")), (mLc (mWk (mVar 0)) (gNm 1) (mTest (m2 fGe (mVar 1) (m2 fPow (mC (.int 10)) (mC (.int 18))))) (mVar 1) [1])), ((mC (.str "rest")), (mC (.int 0))), ((mC (.str "turn")), (mC (.int 0))), ((mC (.str "seed")), (mC (.int sd))), ((mC (.str "cells")), (m2 fAdd (mLc (mWk (mVar 0)) (gNm 1) mYes (m2 fMod (mVar 1) (mC (.int 2147483629))) [1]) (mLst (mCons (mC (.int 77)) mNil))))]))
noncomputable def f_begun (sd : Int) : List AV → Hs → R AV := mFn 2 (b_begun sd)
def isGreat : AV → Bool
  | .int i => decide ((10 : Int) ^ 18 ≤ i)
  | _ => false
def ofCell : AV → AV
  | .int i => .int (i % 2147483629)
  | v => v
theorem filt_z : ∀ ns : List Int, (zAV ns).filter isGreat = zAV (ns.filter fun i => decide ((10 : Int) ^ 18 ≤ i))
  | [] => rfl
  | n :: ns => by
    have ih := filt_z ns
    unfold zAV at ih ⊢
    rw [List.map_cons]
    by_cases h : (10 : Int) ^ 18 ≤ n
    · rw [List.filter_cons_of_pos (by exact decide_eq_true h), List.filter_cons_of_pos (by exact decide_eq_true h), ih, List.map_cons]
    · rw [List.filter_cons_of_neg (by exact fun q => h (of_decide_eq_true q)), List.filter_cons_of_neg (by exact fun q => h (of_decide_eq_true q)), ih]
theorem begun_ok {sd : Int} (h0 : 0 ≤ sd) (h1 : sd < 2147483647) {ns : List Int} (hn : ns.length ≤ 63) : (f_begun sd [scriptAV ns] G).wp (fun v G' => ∃ s, v = .ref s ∧ Dr G'.length 0 s G' ∧ Kp 0 G G') noX := by
  have hz : (zAV ns).length ≤ szl := by
    rw [zAV_len]
    exact Nat.le_trans hn (by decide)
  unfold f_begun
  rw [wp_mFn]
  show (mRet _ [some (.lk (zAV ns)), none] G).wp _
  rw [wp_ret, wp_dict]
  simp only [wp_prs, wp_c, kOf]
  refine wp_lcP isGreat id ?_
  simp only [wp_wk, wp_var, List.getElem?_cons_zero, wkOf]
  refine ⟨hz, True.intro, fun v hv acc => ?_, ?_⟩
  · obtain ⟨i, _, rfl⟩ := List.mem_map.mp hv
    exact ⟨_, rfl, rfl, fun _ => rfl⟩
  simp only [wp_m2]
  refine wp_lcP (fun _ => true) ofCell ?_
  simp only [wp_wk, wp_var, List.getElem?_cons_zero, wkOf]
  refine ⟨hz, True.intro, fun v hv acc => ?_, ?_⟩
  · obtain ⟨i, _, rfl⟩ := List.mem_map.mp hv
    exact ⟨_, rfl, True.intro, fun _ => rfl⟩
  simp only [wp_lst, wp_cons, wp_c, wp_nil, List.map_id, filt_z]
  refine ⟨by decide, ?_⟩
  have hf : (zAV ns).filter (fun _ => true) = zAV ns := List.filter_eq_self.mpr fun _ _ => rfl
  rw [hf]
  have hmap : (zAV ns).map ofCell = zAV (ns.map fun i => i % 2147483629) := by
    unfold zAV
    rw [List.map_map, List.map_map]
    rfl
  rw [hmap]
  generalize hgs : ns.filter (fun i => decide ((10 : Int) ^ 18 ≤ i)) = gs
  have g0 : ∀ g ∈ gs, 0 ≤ g := fun g hg => by
    rw [← hgs] at hg
    have := of_decide_eq_true (List.mem_filter.mp hg).2
    omega
  generalize hcs : ns.map (fun i => i % 2147483629) = cs
  have c0 : ∀ c ∈ cs, 0 ≤ c ∧ c < 2147483629 := fun c hc => by
    rw [← hcs] at hc
    obtain ⟨i, _, rfl⟩ := List.mem_map.mp hc
    exact mod_b (by decide)
  have hcl : cs.length = ns.length := by rw [← hcs, List.length_map]
  have eG : (((G ++ [AO.dk []] ++ [AO.lst (zAV gs)] ++ [AO.lst (zAV cs)]) ++ [AO.lst [AV.int 77]]) : Hs) = G ++ [AO.dk [], .lst (zAV gs), .lst (zAV cs), .lst [.int 77]] := by simp
  have l1 : (G ++ [AO.dk []]).length = G.length + 1 := by simp
  have l2 : (G ++ [AO.dk []] ++ [AO.lst (zAV gs)]).length = G.length + 2 := by simp
  have l3 : (G ++ [AO.dk []] ++ [AO.lst (zAV gs)] ++ [AO.lst (zAV cs)]).length = G.length + 3 := by simp
  rw [l2, l3, eG]
  rw [fAdd_lst (xs := zAV cs) (ys := [.int 77]) (by simp) (by simp)]
  refine ⟨by rw [zAV_len, hcl]; exact Nat.le_trans (Nat.add_le_add_right hn 1) (by decide), ?_⟩
  rw [wp_prs0, l1]
  have l4 : (G ++ [AO.dk [], .lst (zAV gs), .lst (zAV cs), .lst [.int 77]]).length = G.length + 4 := by simp
  rw [l4]
  have hm : mergeA [(.inr "great", .ref (G.length + 1)), (.inr "rest", .int 0), (.inr "turn", .int 0), (.inr "seed", .int sd), (.inr "cells", .ref (G.length + 4))] = drK (G.length + 1) (G.length + 4) 0 0 sd := by
    simp [mergeA, putA, ofS_inj, drK]
  rw [hm]
  have eG2 : (G ++ [AO.dk [], .lst (zAV gs), .lst (zAV cs), .lst [.int 77]] ++ [AO.lst (zAV cs ++ [.int 77])]).set G.length (.dk (drK (G.length + 1) (G.length + 4) 0 0 sd)) =
      G ++ [AO.dk (drK (G.length + 1) (G.length + 4) 0 0 sd), .lst (zAV gs), .lst (zAV cs), .lst [.int 77], .lst (zAV (cs ++ [77]))] := by
    simp [zAV]
  rw [eG2]
  refine ⟨⟨by simp, by simp⟩, _, rfl, ?_, Kp.app _ _ _⟩
  refine ⟨G.length + 1, G.length + 4, gs, cs ++ [77], 0, 0, sd, ⟨by simp, by simp, by simp, by omega, by omega, by omega, by simp, by simp, by simp, by simp, g0, by simp, fun c hc => ?_, by decide, by decide, by decide, h0, h1⟩⟩
  rcases List.mem_append.mp hc with hc | hc
  · exact c0 c hc
  · rw [List.mem_singleton.mp hc]
    decide
end
end Vz
namespace Vz
open PySem L2
section
variable {QV : AV → Hs → Prop} {QB : Bool → Hs → Prop} {E : XQ} {G : Hs} {ρ : En} {D : SP} {b t s : Nat}
theorem take_wp {m : Int} (h : Dr b t s G) (hm : 0 < m) (hm2 : m < 2 ^ 64) (ht : t < 2 ^ 60) (hq : ∀ (r : Int) G', 0 ≤ r → r < m → Dr b (t + 1) s G' → Kp b G G' → QV (.int r) G') : (f_take [.ref s, .int m] G).wp QV E := by
  unfold f_take
  rw [wp_mFn]
  exact take_ok h hm hm2 ht hq
theorem begun_wp {sd : Int} (h0 : 0 ≤ sd) (h1 : sd < 2147483647) {ns : List Int} (hn : ns.length ≤ 63) (hq : ∀ s G', Dr G'.length 0 s G' → Kp 0 G G' → QV (.ref s) G') : (f_begun sd [scriptAV ns] G).wp QV E :=
  (begun_ok h0 h1 hn).mono (fun v G' ⟨s, e, h1, h2⟩ => by rw [e]; exact hq s G' h1 h2) fun _ _ _ => False.elim
theorem mg_nm (i : Nat) (v : AV) : MG.wp (gNm i v ρ G) D = D.nx (ρ.set i (some v)) G := rfl
theorem len_S {a : Str} : (fLen [.str a] G).wp QV E = (a.length ≤ szl ∧ QV (.int a.length) G) := wp_guard _
theorem len_L {n : Nat} {xs : List AV} (h : G[n]? = some (.lst xs)) : (fLen [.ref n] G).wp QV E = QV (.int xs.length) G := by
  simp only [fLen, h, wp_ok]
theorem wp_addS {a c : Str} : (fAdd (.str a) (.str c) G).wp QV E = (a.length + c.length ≤ szl ∧ QV (.str (a ++ c)) G) := wp_guard _
theorem wp_slS {a : Str} {lo hi : Option Int} : (fSl (.str a) lo hi G).wp QV E = (a.length ≤ szl ∧ QV (.str (cutS a lo hi)) G) := wp_guard _
theorem wp_ixS {a : Str} {i : Int} (hz : a.length ≤ szl) (h0 : 0 ≤ i) (h1 : i < a.length) (hq : ∀ c, c ∈ a.cps.toList → QV (.str ⟨#[c]⟩) G) : (fIx (.str a) (.int i) G).wp QV E := by
  have hl : a.cps.toList.length = a.length := by simp [Str.length]
  have hi : i.toNat < a.cps.toList.length := by omega
  have e : atI a.cps.toList i = some (a.cps.toList[i.toNat]) := by
    rw [atI_in h0 (by omega), List.getElem?_eq_getElem hi]
  simp only [fIx, hz, if_true, e, wp_ok]
  exact hq _ (List.getElem_mem hi)
theorem flat_S : ∀ xs : List Str, (xs.map AV.str).all flatA = true
  | [] => rfl
  | _ :: xs => by
    rw [List.map_cons, List.all_cons, flat_S xs]
    rfl
theorem any_S (w : Str) : ∀ xs : List Str, ((xs.map AV.str).any fun y => eqA y (.str w)) = xs.any fun y => y == w
  | [] => rfl
  | x :: xs => by
    rw [List.map_cons, List.any_cons, List.any_cons, any_S w xs]
    rfl
theorem inB_seq {w : Str} {v : AV} {xs : List Str} (h : seqOf G v = some (xs.map .str)) (hs : ∀ z, v ≠ .str z) : inB G (.str w) v = some (xs.any fun y => y == w) := by
  have e : inB G (.str w) v = (match seqOf G v with
    | some xs => if flatA (.str w) = true ∧ xs.all flatA = true then some (xs.any fun y => eqA y (.str w)) else
      match lstOf G v, dat 12 G (.str w), allS (xs.map (dat 12 G)) with
      | some _, some d, some ds => if SeqAt.shaped d = true ∧ SeqAt.shaped (.list ds) = true then some (ds.any fun z => PyData.eqv z d) else none
      | _, _, _ => none
    | none => none) := by
    cases v <;> first | rfl | exact absurd rfl (hs _)
  rw [e, h]
  show (if _ then _ else _) = _
  rw [if_pos ⟨rfl, flat_S xs⟩, any_S]
theorem in_conS {w : Str} {xs : List Str} : (fIn (.str w) (.con (xs.map .str)) G).wp QV E = QV (.bl (xs.any fun y => y == w)) G := by
  unfold fIn
  rw [inB_seq rfl fun z e => by cases e]
  rfl
theorem seq_L {n : Nat} {xs : List AV} (h : G[n]? = some (.lst xs)) : seqOf G (.ref n) = some xs := by
  unfold seqOf
  simp only [tupOf, lstOf, h]
theorem in_lstS {w : Str} {n : Nat} {xs : List Str} (h : G[n]? = some (.lst (xs.map .str))) : (fIn (.str w) (.ref n) G).wp QV E = QV (.bl (xs.any fun y => y == w)) G := by
  unfold fIn
  rw [inB_seq (seq_L h) fun z e => by cases e]
  rfl
theorem bls_map : ∀ bs : List Bool, blsOf (bs.map AV.bl) = some bs
  | [] => rfl
  | b :: bs => by
    rw [List.map_cons, blsOf, bls_map bs]
/-- isinstance -/
theorem isi_wp {tab : List (Ty × Bool)} {v : AV} {ty : Ty} {r : Bool} (h1 : tyA G v = some ty) (h2 : tab.lookup ty = some r) : (fIsi tab v G).wp QV E = QV (.bl r) G := by
  unfold fIsi
  rw [h1]
  show (match tab.lookup ty with
    | some b => R.ok (.bl b) G
    | none => .stuck : R AV).wp QV E = _
  rw [h2]
  rfl
theorem tru_bl (b : Bool) : truB G (.bl b) = some b := rfl
theorem szl_eq : szl = 16777216 := rfl
end
end Vz
namespace Vz
open PySem PySem.Spec L2
section
variable {X : Cx} {W : WX} {a b c e o : Expr} {es rest : List Expr} {ma mb mc mo : ME} {ms mk : MEs} {pos p apos cpos : Pos} {x : Str} {k N n : Nat} {f C : Addr} {fd : FuncData} {ps ks : List Str} {F : List AV → Hs → R AV} {gA : List AV → List AV → List AV} {kws : List Keyword} {cn mn : Str}
/-- what __init__ gives is dropped -/
def mkR (r : R AV) (n : Nat) : R AV := match r with
  | .ok .non G => .ok (.ref n) G
  | .ok _ _ => .stuck
  | .exc c d G => .exc c d G
  | .stuck => .stuck
theorem mk_go {pins : List (Addr × Obj)} {σ : St} {H : Hp} {s : Shared} {Q : VK} {us ws : List Value} {vs zs : List V} {xs ys : List AV} {μ : Mu} {G : Hs} (M : Mk X.K (ga X.K cn) f)
    (D : FnG X.prog X.w X.K X.mg X.base (CX X.prog X.w) k f fd ps (fsp X.K ps.length F)) (hr : Rm (k + 1) X.A) (sh : Sh X.K fd ps (n + 1) ks gA) (tk : Takes X W)
    (I : Inv X pins σ H s) (r : Vals vs us) (rz : Vals zs ws) (l1 : xs.length = n) (l2 : ys.length = ks.length) (hG : RH X.K H μ G) (rx : RAs X.K H μ xs vs) (ry : RAs X.K H μ ys zs) (l3 : (gA (.ref G.length :: xs) ys).length = ps.length)
    (h : Po X.K (rA X.K) W σ H μ (mkR (F (gA (.ref G.length :: xs) ys) (G ++ [.ins cn []])) G.length) Q) : wpAny (model X.prog X.w) X.A (call (.ref (ga X.K cn)) us (ks.zip ws)) (EP X pins σ Q) X.xe s := by
  obtain ⟨g, gV, hb, hg⟩ := sh.ex
  have f1 : H s.heap.objs.size = none := I.hok.fresh (Nat.le_refl _)
  have f2 : H (s.heap.objs.size + 1) = none := I.hok.fresh (Nat.le_succ _)
  have ne : s.heap.objs.size + 1 ≠ s.heap.objs.size := Nat.succ_ne_self _
  have I2 := Inv.made (C := ga X.K cn) I
  have f3 : (upd H s.heap.objs.size (.own (s.heap.objs.size + 1))) (s.heap.objs.size + 1) = none := by rw [upd_ne ne]; exact f2
  have g1 : Gr H μ (upd H s.heap.objs.size (.own (s.heap.objs.size + 1))) μ := Gr.new f1
  have g2 := g1.trans (Gr.alloc (ho := .ins (ga X.K cn) s.heap.objs.size []) f3)
  have hG2 := (hG.new (ho := .own (s.heap.objs.size + 1)) f1).alloc (ho := .ins (ga X.K cn) s.heap.objs.size []) (o := .ins cn []) f3 ⟨_, [], upd_same, rfl, .nil⟩
  have r1 : Vals (V.ref (s.heap.objs.size + 1) :: vs) (Value.ref (s.heap.objs.size + 1) :: us) := .cons rfl r
  have r2 := hb.rel r1 rz
  have hfr := hG.fresh (s.heap.objs.size + 1)
  have rA2 := hg _ _ _ _ _ _ (RAs.cons (RA.ref (n := G.length) (a := s.heap.objs.size + 1) hfr) (rx.gr g2)) (ry.gr g2)
  have n1 : (Value.ref (s.heap.objs.size + 1) :: us).length = n + 1 := by
    rw [List.length_cons, ← r.length, ← rx.length, l1]
  refine wpAny_call (make_map (f := f) I.kIn M.makes M.init (beq_iff_eq.mp M.fn) (codeAny_mono (D.run _ X.stack _ _ ⟨Value.ref (s.heap.objs.size + 1) :: us, ks.zip ws⟩ (g (Value.ref (s.heap.objs.size + 1) :: us) ws) _
    (fun v H3 => v = .non ∧ Q (.ref (s.heap.objs.size + 1)) H3) (fun cls d H' => W cls d σ H') (hr.make _ us (ks.zip ws))
    (I2.env0.make _ us (ks.zip ws)) (hb.to _ (Value.ref (s.heap.objs.size + 1) :: us) ws I2.kIn n1 (rz.length.symm.trans (ry.length.symm.trans l2))) r2 ⟨by rw [← rA2.length]; exact l3, _, _, _, rA2, hG2, ?_⟩) fun r s' hq' => ?_))
  · cases q : F (gA (.ref G.length :: xs) ys) (G ++ [.ins cn []]) with
    | stuck => rw [q] at h; exact h.elim
    | exc c d G' =>
      rw [q] at h
      exact fun H' μ' dd g3 hr' hd => h H' μ' dd (g2.trans g3) hr' hd
    | ok v G' =>
      rw [q] at h
      cases v with
      | non =>
        intro H' μ' y g3 hG' ry'
        cases ry'
        exact ⟨rfl, h H' μ' (.ref (s.heap.objs.size + 1)) (g2.trans g3) hG' (.ref (hfr.gr g3))⟩
      | _ => exact h.elim
  · cases r with
    | error e => exact tk e s' (XE.of_call I2 (fun cls d H' h => h) hq')
    | ok fl =>
      cases fl with
      | ret u =>
        obtain ⟨v, H', I3, rv, ev, q3⟩ := I2.after hq'
        subst ev
        exact ⟨rv, ⟨V.ref (s.heap.objs.size + 1), H', I3, rfl, q3⟩⟩
      | next => exact False.elim hq'
      | brk => exact False.elim hq'
      | cont => exact False.elim hq'
def mMake (cn : Str) (N n m : Nat) (gA : List AV → List AV → List AV) (F : List AV → Hs → R AV) (ms mk : MEs) : ME := fun ρ G => (ms ρ G).bind fun xs G1 => (mk ρ G1).bind fun ys G2 =>
  if xs.length = n ∧ ys.length = m ∧ (gA (.ref G2.length :: xs) ys).length = N then mkR (F (gA (.ref G2.length :: xs) ys) (G2 ++ [.ins cn []])) G2.length else .stuck
theorem po_if {c : Prop} [Decidable c] {K : PySem.W.Frag} {σ : St} {H : Hp} {μ : Mu} {r : R AV} {Q : VK} (h : Po K (rA K) W σ H μ (if c then r else .stuck) Q) : c ∧ Po K (rA K) W σ H μ r Q := by
  by_cases hc : c
  · rw [if_pos hc] at h
    exact ⟨hc, h⟩
  · rw [if_neg hc] at h
    exact h.elim
/-- a class with all that its making leans on -/
structure Ck (P : Program) (w : World) (K : PySem.W.Frag) (mg : Str → Option Value) (base : Heap) (k : Nat) (cn : Str) (ps : List Str) (F : List AV → Hs → R AV) (shs : List Shp) : Prop where
  at_ : mg cn = some (.ref (ga K cn))
  mkr : Mk K (ga K cn) (He.ma K (ga K cn) "__init__")
  ex : ∃ fd, FnG P w K mg base (CX P w) k (He.ma K (ga K cn) "__init__") fd ps (fsp K ps.length F) ∧ ∀ s ∈ shs, Sh K fd ps (s.1 + 1) s.2.1 s.2.2
variable {shs : List Shp}
theorem se_mk (D : Ck X.prog X.w X.K X.mg X.base k cn ps F shs) (i : Nat) (hr : Rm (k + 1) X.A) (tk : Takes X W) (hg : Gl X cn) (ha : SA X W (e :: es) ms) (hi : shs[i]? = some (n, [], gA) := by rfl)
    (hdb : (cn == ("__debug__" : Str)) = false := by decide) (he : starEach (e :: es) X.env = (false, eval e X.env) :: starEach es X.env := by rfl) (hpl : (backTo pos (starEach es X.env)).any (·.1) = false := by rfl) :
    SE X W (.Call (.Name cn p) (e :: es) [] pos) (mMake cn ps.length n 0 gA F ms mNil) := by
  obtain ⟨fd, hF, hs⟩ := D.ex
  have sh := hs _ (List.mem_of_getElem? hi)
  refine ⟨fun pins s σ H Q I ⟨ρ, μ, G, hσ, hG, h⟩ => ?_⟩
  refine wpAny_Call_Name_kw (ld_glob I hg D.at_ ?_ hdb)
  refine PySem.W.callWith_K (h₀ := X.base) I.ok.mod.kin D.mkr.kp (thn (ha.run pos pins s σ H _ I (tG.bind (Q1 := fun vs H1 => ∃ xs μ1 G1, RAs X.K H1 μ1 xs vs ∧ RH X.K H1 μ1 G1 ∧ (xs.length = n ∧ (0 : Nat) = 0 ∧ (gA (.ref G1.length :: xs) []).length = ps.length) ∧
    Po X.K (rA X.K) W σ H1 μ1 (mkR (F (gA (.ref G1.length :: xs) []) (G1 ++ [.ins cn []])) G1.length) Q) hσ hG h
    fun xs G1 H1 μ1 vs g1 hσ1 hG1 rs h1 => ⟨xs, μ1, G1, rs, hG1, po_if (c := xs.length = n ∧ (0 : Nat) = 0 ∧ (gA (.ref G1.length :: xs) []).length = ps.length) (r := mkR (F (gA (.ref G1.length :: xs) []) (G1 ++ [.ins cn []])) G1.length) h1⟩)) fun us s1 ⟨vs, H1, I1, r, xs, μ1, G1, rs, hG1, ⟨l1, _, l3⟩, q⟩ => ⟨I1.kIn, ?_⟩) he hpl
  exact mk_go (ks := []) (ws := []) (zs := []) D.mkr hF hr sh tk I1 r .nil l1 rfl hG1 rs .nil l3 q
theorem se_mkk (D : Ck X.prog X.w X.K X.mg X.base k cn ps F shs) (i : Nat) (hr : Rm (k + 1) X.A) (tk : Takes X W) (hg : Gl X cn) (ha : SA X W (e :: es) ms) (hkw : SK X W kws mk) (hi : shs[i]? = some (n, ks, gA) := by rfl)
    (hall : (backToKw pos (keywordEach kws X.env)).all (·.1.isSome) = true := by rfl) (hks : (backToKw pos (keywordEach kws X.env)).filterMap (·.1) = ks := by rfl)
    (hdb : (cn == ("__debug__" : Str)) = false := by decide) (he : starEach (e :: es) X.env = (false, eval e X.env) :: starEach es X.env := by rfl)
    (hpl : ((backTo pos (starEach (e :: es) X.env)).any (·.1) || (backToKw pos (keywordEach kws X.env)).any (·.1.isNone)) = false := by rfl) :
    SE X W (.Call (.Name cn p) (e :: es) kws pos) (mMake cn ps.length n ks.length gA F ms mk) := by
  obtain ⟨fd, hF, hs⟩ := D.ex
  have sh := hs _ (List.mem_of_getElem? hi)
  refine ⟨fun pins s σ H Q I ⟨ρ, μ, G, hσ, hG, h⟩ => ?_⟩
  refine wpAny_Call_Name_kw (ld_glob I hg D.at_ ?_ hdb)
  refine PySem.W.callWith_KW (h₀ := X.base) I.ok.mod.kin D.mkr.kp hall (thn (ha.run pos pins s σ H _ I (tG.bind (Q1 := fun vs H1 => ∃ xs μ1 G1, RS X.K H1 μ1 ρ σ ∧ RAs X.K H1 μ1 xs vs ∧ RH X.K H1 μ1 G1 ∧ Po X.K (rA X.K) W σ H1 μ1 ((mk ρ G1).bind fun ys G2 =>
    if xs.length = n ∧ ys.length = ks.length ∧ (gA (.ref G2.length :: xs) ys).length = ps.length then mkR (F (gA (.ref G2.length :: xs) ys) (G2 ++ [.ins cn []])) G2.length else .stuck) Q) hσ hG h
    fun xs G1 H1 μ1 vs g1 hσ1 hG1 rs h1 => ⟨xs, μ1, G1, hσ1, rs, hG1, h1⟩)) fun us s1 ⟨vs, H1, I1, r, xs, μ1, G1, hσ1, rs, hG1, q⟩ => ?_) hpl he
  refine thn (hkw.run pos pins s1 σ H1 _ I1 (tG.bind (Q1 := fun zs H2 => ∃ ys μ2 G2, RAs X.K H2 μ2 xs vs ∧ RAs X.K H2 μ2 ys zs ∧ RH X.K H2 μ2 G2 ∧ (xs.length = n ∧ ys.length = ks.length ∧ (gA (.ref G2.length :: xs) ys).length = ps.length) ∧
    Po X.K (rA X.K) W σ H2 μ2 (mkR (F (gA (.ref G2.length :: xs) ys) (G2 ++ [.ins cn []])) G2.length) Q) hσ1 hG1 q
    fun ys G2 H2 μ2 zs g2 hσ2 hG2 rz h2 => ⟨ys, μ2, G2, rs.gr g2, rz, hG2, po_if h2⟩)) fun ws s2 ⟨zs, H2, I2, rzv, ys, μ2, G2, rs2, rz, hG2, ⟨l1, l2, l3⟩, q2⟩ => ⟨I2.kIn, ?_⟩
  rw [hks]
  exact mk_go D.mkr hF hr sh tk I2 r rzv l1 l2 hG2 rs2 rz l3 q2
/-- o is an instance of cn, without a field mn -/
def insOf (cn mn : Str) (G : Hs) : AV → Bool
  | .ref i => match G[i]? with
    | some (.ins c fs) => decide (c = cn) && (fs.lookup mn).isNone
    | _ => false
  | .iv c ns _ => decide (c = cn) && !decide (mn ∈ ns)
  | _ => false
def mMeth (cn mn : Str) (N n m : Nat) (gA : List AV → List AV → List AV) (F : List AV → Hs → R AV) (mo : ME) (ms mk : MEs) : ME := fun ρ G => (mo ρ G).bind fun v G0 => if insOf cn mn G0 v = true then (ms ρ G0).bind fun xs G1 => (mk ρ G1).bind fun ys G2 =>
  if xs.length = n ∧ ys.length = m ∧ (gA (v :: xs) ys).length = N then F (gA (v :: xs) ys) G2 else .stuck else .stuck
end
end Vz
namespace Vz
open PySem L2
section
variable {X : Cx} {W : WX} {a b c e o tg iter tg1 iter1 elt v1 v2 : Expr} {es rest : List Expr} {m ma mb mc mo : ME} {t t1 : MB} {ms mk : MEs} {pos p apos cpos : Pos} {x : Str} {K : PySem.W.Frag}
def fIAdd : AV → AV → Hs → R AV
  | .int i, .int j, G => .ok (.int (i + j)) G
  | .str a, .str b, G => if a.length + b.length ≤ szl then .ok (.str (a ++ b)) G else .stuck
  | .ref m, .ref n, G => match G[m]?, G[n]? with
    | some (.lst xs), some (.lst ys) => if xs.length + ys.length ≤ szl then .ok (.ref m) (G.set m (.lst (xs ++ ys))) else .stuck
    | _, _ => .stuck
  | _, _, _ => .stuck
def fStarts : AV → List AV → Hs → R AV
  | .str a, [.str b], G => .ok (.bl (Txt.startswith a b)) G
  | _, _, _ => .stuck
def fExt : AV → List AV → Hs → R AV
  | .ref m, [.ref n], G => match G[m]?, G[n]? with
    | some (.lst xs), some (.lst ys) => if xs.length + ys.length ≤ szl then .ok .non (G.set m (.lst (xs ++ ys))) else .stuck
    | _, _ => .stuck
  | _, _, _ => .stuck
theorem opM_ext : OpM K rExtend fExt := by
  intro W σ H μ G v vs x xs Q hG rv rs q
  match v, vs, rv, rs, q with
  | .ref m, [.ref n], rv, rs, q =>
    obtain ⟨y, rfl, ry⟩ := rs.one
    simp only [fExt] at q
    cases e1 : G[m]? with
    | none => simp only [e1] at q; exact q.elim
    | some o1 =>
      cases e2 : G[n]? with
      | none => rw [e1, e2] at q; cases o1 <;> exact q.elim
      | some o2 =>
        rw [e1, e2] at q
        cases o1 with
        | lst xs =>
          cases o2 with
          | lst ys =>
            obtain ⟨hz, q⟩ := po_if q
            obtain ⟨p1, vs, rfl, hn, hH, rz⟩ := mut_ok hG rv e1
            obtain ⟨p2, ws, rfl, hn2, hH2, rz2⟩ := mut_ok hG ry e2
            have gp : Gr H μ (upd H p1 (.lst (vs ++ ws))) μ := Gr.put hG hn e1
            exact ⟨p1, p2, vs, ws, rfl, rfl, hH, hH2, by rw [← rz.length, ← rz2.length]; exact hz, q _ μ _ gp (hG.put (o := .lst (xs ++ ys)) hn e1 ⟨_, upd_same, (rz.app rz2).gr gp⟩) .non⟩
          | _ => exact q.elim
        | _ => exact q.elim
end
end Vz
namespace Vz
open PySem L2
end Vz
namespace EnT
open PySem PySem.Spec PyProof.Rows L2
open AutoSeq1 (wpAny_loadPart')
theorem new_tup (ta : Addr) (vals : Array Value) (nn : Nat) (dd : Option Addr) (sl : Array (Option Value)) :
    Meets (Builtin.«enumerate.__new__» ⟨[.type "enumerate", .ref ta], []⟩) (fun _ R s => s.heap.get? ta = some { cls := .type "tuple", dict := dd, data := .seq vals nn, slots := sl } ∧
      R (.ok (.ret (.ref (s.heap.push { cls := .type "tuple_iterator", data := .fields #[.ref ta, .int 0 0] }).objs.size)))
        { s with heap := (s.heap.push { cls := .type "tuple_iterator", data := .fields #[.ref ta, .int 0 0] }).push { cls := .type "enumerate", data := .fields #[.none, .bool false, .ref s.heap.objs.size, rawInt 0, .none, .none] } }) :=
  .of_wp fun prog w A R s h0 => by
    obtain ⟨hp, g, d, tk, os⟩ := s
    obtain ⟨hl, h⟩ := h0
    have hsub := sub_enumerate
    have isT : Heap.IsTuple (Shared.heap ⟨hp, g, d, tk, os⟩) ta vals := ⟨_, hl, rfl, nn, rfl⟩
    wp_walk using wpAny_loadPart' hl
    refine wpAny_stack_any fun st => wpAny_pure ?_
    split
    · rename_i c _ _ _ _ _
      cases (c == Value.type "enumerate")
      · wp_walk using wpAny_loadPart' hl, wpAny_pyIter_tuple isT
        exact ⟨_, rfl, h⟩
      · wp_walk using wpAny_loadPart' hl, wpAny_pyIter_tuple isT
        exact ⟨_, rfl, h⟩
    · wp_walk using wpAny_loadPart' hl, wpAny_pyIter_tuple isT
      exact ⟨_, rfl, h⟩
section
variable {prog : Program} {w : World} {A : Around} {E : Value → Shared → Prop} {s : Shared}
theorem call_tup {ta : Addr} {vals : Array Value} {Q : Value → Shared → Prop} (ht : s.heap.IsTuple ta vals)
    (k : ∀ g', IsEnum g' (s.heap.objs.size + 1) s.heap.objs.size 0 .none → g'.IsTupleIter s.heap.objs.size ta 0 → (∀ b o, s.heap.get? b = some o → g'.get? b = some o) → Q (.ref (s.heap.objs.size + 1)) { s with heap := g' }) :
    wpAny (model prog w) A (call (.type "enumerate") [.ref ta]) Q E s := by
  obtain ⟨⟨cc, dd, dt, sl⟩, e1, e2, nn, e3⟩ := ht
  obtain rfl : cc = .type "tuple" := e2
  obtain rfl : dt = .seq vals nn := e3
  refine callType_new F.called_enumerate (by decide) (F.typeCall_enumerate_1 _) (F.newCall_enumerate_1 _) (fun ob => F.args_object_init_2 ob _) F.entry_enumerate_new (new_tup ta vals nn dd sl) ⟨e1, ?_⟩
  have z1 : (s.heap.push { cls := .type "tuple_iterator", data := .fields #[.ref ta, .int 0 0] }).objs.size = s.heap.objs.size + 1 := Heap.size_push ..
  show _ ∧ _
  rw [z1]
  have isE : IsEnum ((s.heap.push { cls := .type "tuple_iterator", data := .fields #[.ref ta, .int 0 0] }).push { cls := .type "enumerate", data := .fields #[.none, .bool false, .ref s.heap.objs.size, rawInt 0, .none, .none] }) (s.heap.objs.size + 1) s.heap.objs.size 0 .none := by
    have z2 := Heap.get?_push_size (s.heap.push { cls := .type "tuple_iterator", data := .fields #[.ref ta, .int 0 0] }) (o := { cls := .type "enumerate", data := .fields #[.none, .bool false, .ref s.heap.objs.size, rawInt 0, .none, .none] }) rfl
    rw [z1] at z2
    exact z2
  exact ⟨⟨_, isE, rfl⟩, k _ isE ⟨_, Heap.get?_push_of_some _ (Heap.get?_push_size _ rfl), rfl, rfl⟩ fun b o q => Heap.get?_push_of_some _ (Heap.get?_push_of_some _ q)⟩
end
theorem endT {P : Program} {w : World} {A : Around} {E : Value → Shared → Prop} {s : Shared} {en ti a : Addr} {i : Nat} {vals : Array Value} {c : Int} {old : Value} {Q : Option Value → Shared → Prop} (hh : A.handled = none) (q1 : IsEnum s.heap en ti c old) (q2 : s.heap.IsTupleIter ti a i) (isT : s.heap.IsTuple a vals)
    (hx : vals[i]? = none) (k : ∀ g', Heap.ExtBut ti s.heap g' → Q none { s with heap := g' }) : wpAny (model P w) A (pyNext (.ref en)) Q E s := by
  have D : Draws P w A.in1 ti [ti, a] i (fun _ _ => False) (fun j h => j = i ∧ h.IsTupleIter ti a i ∧ h.IsTuple a vals) :=
    { live := fun _ _ st => let ⟨o, ho, _⟩ := st.2.1; ⟨o, ho⟩
      frame := fun _ _ _ st hk => ⟨st.1, st.2.1.at fun o q => hk ti (by simp) o q, st.2.2.at fun o q => hk a (by simp) o q⟩
      item := fun j s Q E hj st _ => absurd st.1 (Nat.ne_of_lt hj)
      done := fun s Q E st hE => wpAny_nextOf_tuple_end (show A.in1.handled = none from hh) st.2.1 st.2.2 hx hE }
  exact wpAny_pyNext_enum_endD D q1 ⟨rfl, q2, isT⟩ k
/-- the tuple at a, each item in a new pair -/
def It2 (K : PySem.W.Frag) (a : Addr) : It :=
  ⟨fun i H => ∃ (ys : List V) (y : V), SqT K H a ys ∧ ys[i]? = some y, fun i H v H' => ∃ T y, v = .ref T ∧ H T = none ∧ H' = upd H T (.tup [.int (i : Nat), y]) ∧ ∀ ys, SqT K H a ys → ys[i]? = some y, fun i H => ∃ ys : List V, SqT K H a ys ∧ ys.length ≤ i⟩
theorem turn2 {P : Program} {w : World} {K : PySem.W.Frag} {elts : List Expr} {kk : Nat} {tpos : Pos} (a en ti : Addr) :
    Turn P w K (.Tuple elts kk tpos) (It2 K a) [en, ti] en (fun i h => (∃ old, IsEnum h en ti ((i : Nat) : Int) old) ∧ h.IsTupleIter ti a i ∧ en ≠ ti ∧ a ≠ ti ∧ a ≠ en) where
  mem := by simp
  obj := fun i h st b hb => by
    obtain ⟨⟨old, q1⟩, ⟨o, q2, _, q3⟩, _⟩ := st
    rcases (show b = en ∨ b = ti by simpa using hb) with z | z
    · subst z
      exact ⟨_, q1, fun v q => nomatch q⟩
    · subst z
      exact ⟨o, q2, fun v q => by rw [q3] at q; cases q⟩
  keep := fun i h h' st k => let ⟨⟨old, q1⟩, q2, q3⟩ := st; ⟨⟨old, k en (by simp) _ q1⟩, q2.at fun o q => k ti (by simp) o q, q3⟩
  item := by
    intro X hP hw hK hc i pins s σ H E I hf st hgo
    subst hP hw hK
    obtain ⟨⟨old, q1⟩, q2, n1, n2, n3⟩ := st
    obtain ⟨ys, y, hys, hy⟩ := hgo
    obtain ⟨its, rv, isT, _⟩ := I.tuple hys
    obtain ⟨u, hu, ru⟩ := rv.get hy
    have l1 : en < s.heap.objs.size := Heap.lt_size q1
    have l2 : ti < s.heap.objs.size := let ⟨_, q, _⟩ := q2; Heap.lt_size q
    have hui : its.toArray[i]? = some u := by simpa using hu
    refine wpAny_pyNext_enum_itemD (Draws.tuple (A := X.A.in1) (show X.A.in1.handled = none from I.ok.hd hc) ti a n2 its.toArray) q1 ⟨q2, isT⟩ (Array.getElem?_eq_some_iff.mp hui).1 n1 (by simp [n1, Ne.symm n3]) fun x g' tk hx out sti hT hsz hk => ?_
    obtain rfl : x = u := Option.some.inj (hx.symm.trans hui)
    refine ⟨_, rfl, wpAny_letOwnedTupleGo_enum (s := { s with heap := g', toks := tk + 1 }) out fun g2 isE sb => ?_⟩
    have hT2 : g2.get? s.heap.objs.size = some { cls := .type "tuple", data := .seq #[.int i tk, x] } := (sb.2 _ (Nat.ne_of_gt l1)).trans hT
    have made : ObjOk X.prog X.w (upd H s.heap.objs.size (.tup [.int (i : Nat), y])) g2 s.heap.objs.size (.tup [.int (i : Nat), y]) :=
      ⟨by show 2 ≤ sizeLine; decide, [.int i tk, x], .cons ⟨_, rfl⟩ (.cons ru .nil), ⟨_, hT2, rfl, _, rfl⟩⟩
    have I1 : Inv X pins σ (upd H s.heap.objs.size (.tup [.int (i : Nat), y])) { s with heap := g2, toks := tk + 1 } :=
      I.turnedNew (t' := tk + 1) (ch := [en, ti]) (fun b ob hb q => (sb.2 b fun z => hb (by simp [z])).trans (hk b ob (fun z => hb (by simp [z])) (fun z => hb (by simp [z])) q)) hf (Nat.le_refl _) made
    refine ⟨.ref s.heap.objs.size, _, I1, rfl, ⟨_, y, rfl, I.hok.fresh (Nat.le_refl _), rfl, fun zs hz => by rw [I.tuple_inj hz hys]; exact hy⟩, ⟨⟨x, ?_⟩, sti.1.at fun o q => (sb.2 ti (Ne.symm n1)).trans q, n1, n2, n3⟩, fun b hb => ?_⟩
    · rw [show ((i + 1 : Nat) : Int) = (i : Int) + 1 by omega]
      exact isE
    · have hb' : b < s.heap.objs.size := by
        rcases (show b = en ∨ b = ti by simpa using hb) with z | z
        · rw [z]
          exact l1
        · rw [z]
          exact l2
      rw [upd_ne (Nat.ne_of_lt hb')]
      exact (hf b hb).1
  done := by
    intro X hP hw hK hc i pins s σ H E I hf st hst
    subst hP hw hK
    obtain ⟨⟨old, q1⟩, q2, n1, n2, n3⟩ := st
    obtain ⟨ys, hys, hy⟩ := hst
    obtain ⟨its, rv, isT, _⟩ := I.tuple hys
    obtain ⟨f0, f1, f2, f3, f4, f5⟩ := hf ti (by simp)
    have hl := rv.length
    exact endT (I.ok.hd hc) q1 q2 isT (by simp; omega) fun g' eb => ⟨rfl, I.turned (t' := s.toks) (fun b o hb q => eb b o hb q) f0 f1 f3 f4 f5⟩
  self := fun A i s Q E st h => let ⟨⟨_, q1⟩, _⟩ := st; wpAny_pyIter_enum q1 h
def iEn2 (K : PySem.W.Frag) (ta : TA) : TI := fun σ H R => ta σ H fun vs H1 => ∃ a xs, vs = [.ref a] ∧ ((SqL K H1 a xs ∧ R (Ite K a) H1) ∨ (SqT K H1 a xs ∧ R (It2 K a) H1))
theorem pi_en2 {X : Cx} {e : Expr} {ta : TA} {p pos tpos : Pos} {elts : List Expr} {kk : Nat} (hg : Gl X "enumerate") (hm : X.mg "enumerate" = none) (ha : PA X [e] ta) (hs : starEach [e] X.env = [(false, eval e X.env)] := by rfl) :
    PI X (.Tuple elts kk tpos) (.Call (.Name "enumerate" p) [e] [] pos) (iEn2 X.K ta) := by
  refine ⟨fun pins s σ H R I h => ?_⟩
  refine Call_ (ld_blt I hg hm boot_enumerate (PyProof.Rows.callWith_type1 (thn (ha.run pos pins s σ H _ I h) fun us s1 ⟨vs, H1, I1, r1, q1⟩ => ?_) hs rfl))
  obtain ⟨a, xs, rfl, q⟩ := q1
  cases r1 with
  | cons r rr =>
    cases rr
    cases r
    have fin : ∀ (g' : Heap) (J : It) (St : Nat → Heap → Prop), IsEnum g' (s1.heap.objs.size + 1) s1.heap.objs.size 0 .none → (∀ b o, s1.heap.get? b = some o → g'.get? b = some o) →
        Turn X.prog X.w X.K (.Tuple elts kk tpos) J [s1.heap.objs.size + 1, s1.heap.objs.size] (s1.heap.objs.size + 1) St → St 0 g' → R J H1 → wpAny (model X.prog X.w) X.A (pyIter (.ref (s1.heap.objs.size + 1))) (PIE X pins σ (.Tuple elts kk tpos) R) X.xe { s1 with heap := g' } := fun g' J St isE hk T st hR => by
      have I2 : Inv X pins σ H1 { s1 with heap := g' } := I1.kept (t' := s1.toks) hk
      refine wpAny_pyIter_enum isE ⟨s1.heap.objs.size + 1, [s1.heap.objs.size + 1, s1.heap.objs.size], _, _, H1, rfl, I2, T, st, fun b hb => ?_, hR⟩
      have hle : s1.heap.objs.size ≤ b := by
        rcases (show b = s1.heap.objs.size + 1 ∨ b = s1.heap.objs.size by simpa using hb) with z | z
        · rw [z]
          exact Nat.le_succ _
        · exact Nat.le_of_eq z.symm
      exact I1.fpOk hle (I1.hok.fresh hle)
    rcases q with ⟨hq, hR⟩ | ⟨hq, hR⟩
    · obtain ⟨its, rv, isL, _⟩ := I1.list hq
      exact call_enumerate_list isL.isList fun g' isE hit _ hk => fin g' _ _ isE hk (turn_enum a (s1.heap.objs.size + 1) s1.heap.objs.size) ⟨⟨.none, isE⟩, hit, Nat.succ_ne_self _⟩ hR
    · obtain ⟨its, rv, isT, _⟩ := I1.tuple hq
      have la : a < s1.heap.objs.size := let ⟨_, z, _⟩ := isT; Heap.lt_size z
      exact call_tup isT fun g' isE hit hk => fin g' _ _ isE hk (turn2 a (s1.heap.objs.size + 1) s1.heap.objs.size) ⟨⟨.none, isE⟩, hit, Nat.succ_ne_self _, Nat.ne_of_lt la, Nat.ne_of_lt (Nat.lt_succ_of_lt la)⟩ hR
end EnT
namespace Vz
open PySem L2
def zipE (k : Wk) : Wk := ((List.range k.1.length).zipWith (fun i v => AV.tup [.int (i : Nat), v]) k.1, k.2)
theorem zipE_get {k : Wk} {i : Nat} : (zipE k).1[i]? = k.1[i]?.map fun v => AV.tup [.int (i : Nat), v] := by
  unfold zipE
  rw [List.getElem?_zipWith]
  by_cases h : i < k.1.length
  · rw [List.getElem?_range h, List.getElem?_eq_getElem h]
    rfl
  · rw [List.getElem?_eq_none (by simpa using h), List.getElem?_eq_none (by simpa using h)]
    rfl
theorem zipE_len {k : Wk} : (zipE k).1.length = k.1.length := by
  unfold zipE
  simp
/-- what enumerate walks -/
def enOf (G : Hs) : AV → Option Wk
  | .str _ => none
  | v => (wkOf G v).map zipE
def mEn (m : ME) : MI := fun ρ G => (m ρ G).bind fun v G1 => match enOf G1 v with
  | some k => .ok k G1
  | none => .stuck
section
variable {X : Cx} {W : WX} {e : Expr} {m : ME} {pos p tpos : Pos} {elts : List Expr} {kk : Nat} {K : PySem.W.Frag}
theorem itOk_en {J : It} {k : Wk} {H1 : Hp} {μ1 : Mu} {Sq : Hp → List V → Prop} (hgo : ∀ i H xs x, Sq H xs → xs[i]? = some x → J.go i H) (hst : ∀ i H xs, Sq H xs → xs.length ≤ i → J.stop i H)
    (hy : ∀ i H v H', J.yld i H v H' → ∃ T x, v = .ref T ∧ H T = none ∧ H' = upd H T (.tup [.int (i : Nat), x]) ∧ ∀ xs, Sq H xs → xs[i]? = some x)
    (h : ∀ H μ G, Gr H1 μ1 H μ → RH K H μ G → gdOk k.2 G → ∃ vs, Sq H vs ∧ RAs K H μ k.1 vs) : ItOk K J (zipE k) H1 μ1 := fun i H μ G g hG hgd => by
  obtain ⟨vs, hs, rs⟩ := h H μ G g hG hgd
  refine ⟨fun v hv => ?_, fun hi => hst i H vs hs (by rw [← rs.length]; rw [zipE_len] at hi; exact hi)⟩
  rw [zipE_get] at hv
  obtain ⟨u, hu, rfl⟩ := Option.map_eq_some_iff.mp hv
  obtain ⟨y, hyv, r⟩ := rs.get' hu
  refine ⟨hgo i H vs y hs hyv, fun x H' q => ?_⟩
  obtain ⟨T, z, rfl, hT, rfl, hz⟩ := hy i H x H' q
  have := hz vs hs
  rw [hyv] at this
  cases this
  have gn : Gr H μ (upd H T (.tup [.int (i : Nat), y])) μ := Gr.new hT
  exact ⟨gn, hG.new hT, .tup upd_same (.cons (.int _) (.cons (r.gr gn) .nil))⟩
theorem en_l {a : Addr} {k : Wk} {H1 : Hp} {μ1 : Mu} (h : ∀ H μ G, Gr H1 μ1 H μ → RH K H μ G → gdOk k.2 G → ∃ vs, SqL K H a vs ∧ RAs K H μ k.1 vs) : ItOk K (Ite K a) (zipE k) H1 μ1 :=
  itOk_en (Sq := fun H xs => SqL K H a xs) (fun i H xs x h1 h2 => ⟨xs, x, h1, h2⟩) (fun i H xs h1 h2 => ⟨xs, h1, h2⟩) (fun i H v H' q => q) h
theorem en_t {a : Addr} {k : Wk} {H1 : Hp} {μ1 : Mu} (h : ∀ H μ G, Gr H1 μ1 H μ → RH K H μ G → gdOk k.2 G → ∃ vs, SqT K H a vs ∧ RAs K H μ k.1 vs) : ItOk K (EnT.It2 K a) (zipE k) H1 μ1 :=
  itOk_en (Sq := fun H xs => SqT K H a xs) (fun i H xs x h1 h2 => ⟨xs, x, h1, h2⟩) (fun i H xs h1 h2 => ⟨xs, h1, h2⟩) (fun i H v H' q => q) h
theorem si_enum (hg : Gl X "enumerate") (hm : X.mg "enumerate" = none) (ha : SE X W e m) (hs : starEach [e] X.env = [(false, eval e X.env)] := by rfl) : SI X W (.Tuple elts kk tpos) (.Call (.Name "enumerate" p) [e] [] pos) (mEn m) := by
  refine PI.imp (EnT.pi_en2 hg hm (pa_cons ha pa_nil hs) hs) fun σ H Q ⟨ρ, μ, G, hσ, hG, h⟩ => tI.of hσ hG h (fun v G1 H1 μ1 x k g hG1 r hk q => ?_) fun v G1 => ?_
  · cases r with
    | tup h rs => cases hk; exact ⟨_, _, rfl, .inr ⟨SqT.of h, q _ (en_t fun H μ G g _ _ => ⟨_, SqT.of (g.tup _ _ h), rs.gr g⟩)⟩⟩
    | con h rs => cases hk; exact ⟨_, _, rfl, .inr ⟨h.sq, q _ (en_t fun H μ G g _ _ => ⟨_, h.sq, rs.gr g⟩)⟩⟩
    | lk h rs => cases hk; exact ⟨_, _, rfl, .inl ⟨h.sq, q _ (en_l fun H μ G g _ _ => ⟨_, (h.gr g).sq, rs.gr g⟩)⟩⟩
    | ls h rs => cases hk; exact ⟨_, _, rfl, .inl ⟨h.sq, q _ (en_l fun H μ G g _ _ => ⟨_, (h.gr g).sq, rs.gr g⟩)⟩⟩
    | ref h =>
      rename_i n a'
      obtain ⟨ob, ho, ro⟩ := hG1.obj h
      simp only [enOf, wkOf, ho] at hk
      cases ob with
      | lst xs =>
        cases hk
        obtain ⟨vs, h1, rs⟩ := ro
        refine ⟨_, _, rfl, .inl ⟨SqL.of h1, q _ (en_l fun H μ G g hG hgd => ?_)⟩⟩
        obtain ⟨vs', h2, rs'⟩ := hG.at_ n a' _ (h.gr g) hgd
        exact ⟨vs', SqL.of h2, rs'⟩
      | _ => cases hk
    | _ => cases hk
  · cases e : enOf G1 v with
    | none => exact .inr rfl
    | some k => exact .inl ⟨k, rfl⟩
end
end Vz
namespace Vz
open PySem L2
def AllSh1 (K : PySem.W.Frag) (fd : FuncData) (ps : List Str) : List Shp → Prop
  | [] => True
  | s :: r => Sh K fd ps (s.1 + 1) s.2.1 s.2.2 ∧ AllSh1 K fd ps r
theorem shs_all1 {K : PySem.W.Frag} {fd : FuncData} {ps : List Str} : ∀ {l : List Shp}, AllSh1 K fd ps l → ∀ s ∈ l, Sh K fd ps (s.1 + 1) s.2.1 s.2.2
  | [], _, _, h => nomatch h
  | a :: r, ⟨h1, h2⟩, s, h => by
    rcases List.mem_cons.mp h with e | h
    · rw [e]; exact h1
    · exact shs_all1 h2 s h
end Vz
namespace Vz
open PySem L2
end Vz
namespace Vz
open PySem L2
section
variable {QV : AV → Hs → Prop} {QB : Bool → Hs → Prop} {E : XQ} {G G1 : Hs} {ρ : En} {D : SP} {b t s n : Nat}
theorem Kp.setN {o : AO} (h : Kp b G G1) (l : G.length ≤ n) : Kp b G (G1.set n o) := ⟨by rw [List.length_set]; exact h.le, fun m hb hm => by rw [List.getElem?_set_ne (by omega)]; exact h.at_ m hb hm⟩
theorem Kp.up {c : Nat} (h : Kp 0 G G1) : Kp c G G1 := h.mono (Nat.zero_le _)
theorem Dr.low {G' : Hs} (h : Dr b t s G) (l : G.length ≤ G'.length) (e : ∀ m, m < b → G'[m]? = G[m]?) : Dr b t s G' := by
  obtain ⟨gl, cl, gs, cells, rest, turn, seed, h⟩ := h
  exact ⟨gl, cl, gs, cells, rest, turn, seed, h.kp l e⟩
theorem Dr.setN {o : AO} (h : Dr b t s G) (l : b ≤ n) : Dr b t s (G.set n o) := h.low (by simp) fun m hm => List.getElem?_set_ne (by omega)
theorem Dr.app {o : List AO} (h : Dr b t s G) : Dr b t s (G ++ o) := h.kp (Kp.app 0 _ _)
theorem wp_fld {cs : List Str} {f c : Str} {fs : List (Str × AV)} {v : AV} (h : G[n]? = some (.ins c fs)) (hc : c ∈ cs) (e : fs.lookup f = some v) : (fFld cs f (.ref n) G).wp QV E = QV v G := by
  simp only [fFld, h, hc, if_true, e, wp_ok]
@[simp] theorem wp_fst (cs : List Str) (f : Str) (mo mv : ME) : (mFst cs f mo mv ρ G).wp D = (mv ρ G).wp (fun u G => (mo ρ G).wp (fun v G => (fSt cs f v u G).wp (fun _ G => D.nx ρ G) D.ex) D.ex) D.ex := by
  unfold mFst
  simp only [wp_toS]
  rfl
theorem st_wp {QU : Unit → Hs → Prop} {cs : List Str} {f c : Str} {fs : List (Str × AV)} {u : AV} (h : G[n]? = some (.ins c fs)) (hc : c ∈ cs) (hl : fs.length < 1000) : (fSt cs f (.ref n) u G).wp QU E = QU () (G.set n (.ins c (putFA f u fs))) := by
  simp only [fSt, h, hc, hl, and_self, if_true, wp_ok]
theorem wp_mkR (r : R AV) (n : Nat) : (mkR r n).wp QV E = r.wp (fun v G => v = .non ∧ QV (.ref n) G) E := by
  cases r with
  | ok v G => cases v <;> simp [mkR, R.wp]
  | exc c d G => rfl
  | stuck => rfl
@[simp] theorem wp_make (cn : Str) (N n m : Nat) (gA : List AV → List AV → List AV) (F : List AV → Hs → R AV) (ms mk : MEs) : (mMake cn N n m gA F ms mk ρ G).wp QV E =
    (ms ρ G).wp (fun xs G => (mk ρ G).wp (fun ys G => (xs.length = n ∧ ys.length = m ∧ (gA (.ref G.length :: xs) ys).length = N) ∧ (F (gA (.ref G.length :: xs) ys) (G ++ [.ins cn []])).wp (fun v G1 => v = .non ∧ QV (.ref G.length) G1) E) E) E := by
  unfold mMake
  simp only [wp_bind]
  congr 1
  funext xs G
  congr 1
  funext ys G
  rw [wp_guard, wp_mkR]
@[simp] theorem wp_meth (cn mn : Str) (N n m : Nat) (gA : List AV → List AV → List AV) (F : List AV → Hs → R AV) (mo : ME) (ms mk : MEs) : (mMeth cn mn N n m gA F mo ms mk ρ G).wp QV E =
    (mo ρ G).wp (fun v G => insOf cn mn G v = true ∧ (ms ρ G).wp (fun xs G => (mk ρ G).wp (fun ys G => (xs.length = n ∧ ys.length = m ∧ (gA (v :: xs) ys).length = N) ∧ (F (gA (v :: xs) ys) G).wp QV E) E) E) E := by
  unfold mMeth
  rw [wp_bind]
  congr 1
  funext v G
  rw [wp_guard]
  simp only [wp_bind, wp_guard]
@[simp] theorem wp_aug (i : Nat) (f : AV → AV → Hs → R AV) (m : ME) : (mAug i f m ρ G).wp D = (match ρ[i]? with
  | some (some v) => (m ρ G).wp (fun w G => (f v w G).wp (fun u G => D.nx (ρ.set i (some u)) G) D.ex) D.ex
  | _ => False) := by
  unfold mAug
  cases ρ[i]? with
  | none => rfl
  | some o =>
    cases o with
    | none => rfl
    | some v =>
      simp only [wp_toS]
      rfl
@[simp] theorem wp_en {QW : Wk → Hs → Prop} (m : ME) : (mEn m ρ G).wp QW E = (m ρ G).wp (fun v G => match enOf G v with
  | some k => QW k G
  | none => False) E := by
  unfold mEn
  rw [wp_bind]
  congr 1
  funext v G
  cases enOf G v <;> rfl
theorem wp_appL {xs : List AV} {y : AV} (h : G[n]? = some (.lst xs)) : (fApp (.ref n) [y] G).wp QV E = (xs.length < szl ∧ QV .non (G.set n (.lst (xs ++ [y])))) := by
  simp only [fApp, h]
  exact wp_guard _
theorem isL_L {xs : List AV} (h : G[n]? = some (.lst xs)) : isL (.ref n) G = true := by
  simp only [isL, lstOf, h]
  rfl
theorem tuple_L {xs : List AV} (h : G[n]? = some (.lst xs)) : (fTuple [.ref n] G).wp QV E = QV (.tup xs) G := by
  simp only [fTuple, tupOf, lstOf, h, wp_ok]
theorem tuple_T {xs : List AV} : (fTuple [.tup xs] G).wp QV E = QV (.tup xs) G := rfl
theorem len_T {xs : List AV} : (fLen [.tup xs] G).wp QV E = QV (.int xs.length) G := rfl
theorem wp_ixT {xs : List AV} {i : Int} {w : AV} (h0 : 0 ≤ i) (h1 : i < xs.length) (e : xs[i.toNat]? = some w) : (fIx (.tup xs) (.int i) G).wp QV E = QV w G := by
  have e1 : seqOf G (.tup xs) = some xs := rfl
  simp only [fIx, e1, atI_in h0 h1, e, wp_ok]
theorem ixT0 {a : AV} {r : List AV} : (fIx (.tup (a :: r)) (.int 0) G).wp QV E = QV a G := wp_ixT (by decide) (by simp only [List.length_cons]; omega) rfl
theorem ixT1 {a0 a : AV} {r : List AV} : (fIx (.tup (a0 :: a :: r)) (.int 1) G).wp QV E = QV a G := wp_ixT (by decide) (by simp only [List.length_cons]; omega) rfl
theorem ixT2 {a0 a1 a : AV} {r : List AV} : (fIx (.tup (a0 :: a1 :: a :: r)) (.int 2) G).wp QV E = QV a G := wp_ixT (by decide) (by simp only [List.length_cons]; omega) rfl
theorem ixT3 {a0 a1 a2 a : AV} {r : List AV} : (fIx (.tup (a0 :: a1 :: a2 :: a :: r)) (.int 3) G).wp QV E = QV a G := wp_ixT (by decide) (by simp only [List.length_cons]; omega) rfl
theorem ixT4 {a0 a1 a2 a3 a : AV} {r : List AV} : (fIx (.tup (a0 :: a1 :: a2 :: a3 :: a :: r)) (.int 4) G).wp QV E = QV a G := wp_ixT (by decide) (by simp only [List.length_cons]; omega) rfl
theorem ixT5 {a0 a1 a2 a3 a4 a : AV} {r : List AV} : (fIx (.tup (a0 :: a1 :: a2 :: a3 :: a4 :: a :: r)) (.int 5) G).wp QV E = QV a G := wp_ixT (by decide) (by simp only [List.length_cons]; omega) rfl
theorem ixT6 {a0 a1 a2 a3 a4 a5 a : AV} {r : List AV} : (fIx (.tup (a0 :: a1 :: a2 :: a3 :: a4 :: a5 :: a :: r)) (.int 6) G).wp QV E = QV a G := wp_ixT (by decide) (by simp only [List.length_cons]; omega) rfl
/-- all but the object n stand as they stood -/
structure FrN (n : Nat) (G G' : Hs) : Prop where
  le : G.length ≤ G'.length
  at_ : ∀ m, m ≠ n → m < G.length → G'[m]? = G[m]?
theorem FrN.refl : FrN n G G := ⟨Nat.le_refl _, fun _ _ _ => rfl⟩
theorem FrN.app {o : List AO} {G' : Hs} (h : FrN n G G') : FrN n G (G' ++ o) := ⟨by rw [List.length_append]; have := h.le; omega, fun m hm hl => (List.getElem?_append_left (Nat.lt_of_lt_of_le hl h.le)).trans (h.at_ m hm hl)⟩
theorem FrN.set {o : AO} {G' : Hs} (h : FrN n G G') : FrN n G (G'.set n o) := ⟨by rw [List.length_set]; exact h.le, fun m hm hl => (List.getElem?_set_ne fun e => hm e.symm).trans (h.at_ m hm hl)⟩
theorem FrN.kp {G' : Hs} (h : FrN n (G ++ [o]) G') (e : n = G.length) : Kp 0 G G' := ⟨by have := h.le; rw [List.length_append] at this; omega, fun m _ hm => (h.at_ m (by omega) (by rw [List.length_append]; omega)).trans (List.getElem?_append_left hm)⟩
theorem rg1_ok {m : ME} {n : Int} {G0 : Hs} (h : m ρ G = .ok (.int n) G0) (h0 : -(2 ^ 62) ≤ n) (h1 : n < 2 ^ 62) : mRg1 m ρ G = .ok (rgA 0 n, none) G0 := by
  unfold mRg1
  rw [h]
  exact if_pos ⟨h0, h1⟩
theorem wk_ok {m : ME} {v : AV} {k : Wk} {G0 : Hs} (h : m ρ G = .ok v G0) (e : wkOf G0 v = some k) : mWk m ρ G = .ok k G0 := by
  unfold mWk
  rw [h]
  show (match wkOf G0 v with
    | some k => R.ok k G0
    | none => .stuck) = _
  rw [e]
theorem en_ok {m : ME} {v : AV} {k : Wk} {G0 : Hs} (h : m ρ G = .ok v G0) (e : enOf G0 v = some k) : mEn m ρ G = .ok k G0 := by
  unfold mEn
  rw [h]
  show (match enOf G0 v with
    | some k => R.ok k G0
    | none => .stuck) = _
  rw [e]
theorem wp_forK {mi : MI} {g : MG} {b : MS} {k : Wk} {G0 : Hs} (hk : mi ρ G = .ok k G0) (I : Nat → En → Hs → Prop) (h0 : I 0 ρ G0) (hg : ∀ j ρ G, j ≤ k.1.length → I j ρ G → gdOk k.2 G)
    (hs : ∀ j v ρ G, k.1[j]? = some v → I j ρ G → MG.wp (g v ρ G) { D with nx := fun ρ1 G1 => (b ρ1 G1).wp { nx := I (j + 1), rt := D.rt, bk := D.nx, ct := I (j + 1), ex := D.ex } })
    (he : ∀ ρ G, I k.1.length ρ G → D.nx ρ G) : (mFor mi g b ρ G).wp D := by
  refine wp_for I ?_
  rw [hk]
  exact ⟨h0, hg, hs, he⟩
theorem wp_lcK {mi : MI} {g : MG} {t : MB} {m : ME} {own : List Nat} {k : Wk} {G0 : Hs} (hk : mi ρ G = .ok k G0) (I : Nat → List AV → Hs → Prop) (h0 : I 0 [] (G0 ++ [.lst []])) (hg : ∀ j acc G, j ≤ k.1.length → I j acc G → gdOk k.2 G)
    (hs : ∀ j v acc G, k.1[j]? = some v → I j acc G → G[G0.length]? = some (.lst acc) → ∃ ρ1 G1, g v (wipeA ρ own) G = .ok ρ1 G1 ∧ (t ρ1 G1).wp (fun b G2 => if b = true then
        (m ρ1 G2).wp (fun y G3 => G3[G0.length]? = some (.lst acc) ∧ acc.length < szl ∧ I (j + 1) (acc ++ [y]) (G3.set G0.length (.lst (acc ++ [y])))) noX else G2[G0.length]? = some (.lst acc) ∧ I (j + 1) acc G2) noX)
    (he : ∀ acc G, G[G0.length]? = some (.lst acc) → I k.1.length acc G → QV (.ref G0.length) G) : (mLc mi g t m own ρ G).wp QV E := by
  refine wp_lc I ?_
  rw [hk]
  exact ⟨h0, hg, hs, he⟩
theorem wp_lcPK {mi : MI} {g : MG} {t : MB} {m : ME} {own : List Nat} {k : Wk} {G0 : Hs} (hk : mi ρ G = .ok k G0) (p : AV → Bool) (y : AV → AV) (hl : k.1.length ≤ szl) (hg : gdOk k.2 G0)
    (hb : ∀ v ∈ k.1, ∀ acc, ∃ ρ1, g v (wipeA ρ own) (G0 ++ [.lst acc]) = .ok ρ1 (G0 ++ [.lst acc]) ∧ t ρ1 (G0 ++ [.lst acc]) = .ok (p v) (G0 ++ [.lst acc]) ∧ (p v = true → m ρ1 (G0 ++ [.lst acc]) = .ok (y v) (G0 ++ [.lst acc])))
    (hq : QV (.ref G0.length) (G0 ++ [.lst ((k.1.filter p).map y)])) : (mLc mi g t m own ρ G).wp QV E := by
  refine wp_lcP p y ?_
  rw [hk]
  exact ⟨hl, hg, hb, hq⟩
theorem wk_L {xs : List AV} (h : G[n]? = some (.lst xs)) : wkOf G (.ref n) = some (xs, some (n, xs)) := by
  simp only [wkOf, h]
end
end Vz
namespace Vz
open PySem L2
section
variable {X : Cx} {W : WX} {a b c e : Expr} {es : List Expr} {m ma mb : ME} {ms : MEs} {pos : Pos} {s : Stmt} {st : MS}
/-- what e tells is not written any more -/
def mFz (m : ME) : ME := fun ρ G => (m ρ G).bind fun v G1 => match v with
  | .ref n => match G1[n]? with
    | some o => match fzV o with
      | some u => .ok u (G1.set n .gone)
      | none => .stuck
    | none => .stuck
  | v => .ok v G1
theorem fz_aft {K : PySem.W.Frag} {σ : St} {H : Hp} {μ : Mu} {G : Hs} {v : AV} {Q : VK} (h : Po K (rA K) W σ H μ ((R.ok v G).bind fun v G1 => match v with
  | .ref n => match G1[n]? with
    | some o => match fzV o with
      | some u => .ok u (G1.set n .gone)
      | none => .stuck
    | none => .stuck
  | v => .ok v G1) Q) : Po K (rA K) W σ H μ (.ok v G) Q := by
  cases v with
  | ref n =>
    simp only [R.bind_ok] at h
    cases e1 : G[n]? with
    | none => rw [e1] at h; exact h.elim
    | some o =>
      rw [e1] at h
      simp only at h
      cases e2 : fzV o with
      | none => rw [e2] at h; exact h.elim
      | some u =>
        rw [e2] at h
        intro H' μ' x g hG r
        cases r with
        | ref hn => exact h H' _ _ (g.trans Gr.fz) hG.fz (RO.fz hG hn e1 e2)
  | _ => exact h
theorem se_fz (h : SE X W e m) : SE X W e (mFz m) := by
  refine PE.imp h fun σ H Q ⟨ρ, μ, G, hσ, hG, h⟩ => ⟨ρ, μ, G, hσ, hG, ?_⟩
  unfold mFz at h
  cases e1 : m ρ G with
  | stuck => rw [e1] at h; exact h
  | exc c d G' => rw [e1] at h; exact h
  | ok v G1 => rw [e1] at h; exact fz_aft h
/-- what name i is is not written any more, behind st -/
def mFzA (i : Nat) (st : MS) : MS := fun ρ G => match st ρ G with
  | .nx ρ1 G1 => match ρ1[i]? with
    | some (some (.ref n)) => match G1[n]? with
      | some o => match fzV o with
        | some u => .nx (ρ1.set i (some u)) (G1.set n .gone)
        | none => .stuck
      | none => .stuck
    | _ => .nx ρ1 G1
  | r => r
theorem ss_fzA {i : Nat} (h : SS X W s st) : SS X W s (mFzA i st) := by
  refine PS.imp h fun D σ H ⟨ρ, μ, G, hσ, hG, h⟩ => ⟨ρ, μ, G, hσ, hG, ?_⟩
  unfold mFzA at h
  cases e1 : st ρ G with
  | nx ρ1 G1 =>
    rw [e1] at h
    simp only at h
    cases e2 : ρ1[i]? with
    | none => rw [e2] at h; exact h
    | some o =>
      rw [e2] at h
      cases o with
      | none => exact h
      | some v =>
        cases v with
        | ref n =>
          simp only at h
          cases e3 : G1[n]? with
          | none => rw [e3] at h; exact h.elim
          | some o =>
            rw [e3] at h
            simp only at h
            cases e4 : fzV o with
            | none => rw [e4] at h; exact h.elim
            | some u =>
              rw [e4] at h
              intro H' μ' σ' g hG' hσ'
              obtain ⟨x, hx, r⟩ := hσ'.at_ i _ e2
              cases r with
              | ref hn =>
                have hs := (hσ'.gr (Gr.fz (n := n) (H := H'))).set (i := i) (RO.fz hG' hn e3 e4)
                have es : σ'.set i (some (.ref _)) = σ' := List.ext_getElem? fun k => by
                  by_cases z : i = k
                  · subst z; rw [List.getElem?_set_self (List.getElem?_eq_some_iff.mp hx).1]; exact hx.symm
                  · rw [List.getElem?_set_ne z]
                rw [es] at hs
                exact h H' _ σ' (g.trans Gr.fz) hG'.fz hs
        | _ => exact h
  | _ => rw [e1] at h; exact h
def mLstI (ms : MEs) : ME := fun ρ G => (ms ρ G).bind fun vs G1 => if vs.length ≤ szl then .ok (.ls vs) G1 else .stuck
theorem ls_new {K : PySem.W.Frag} {H : Hp} {μ : Mu} {G : Hs} {p : Addr} {xs : List AV} {vs : List V} (hG : RH K H μ G) (hp : H p = none) (rs : RAs K H μ xs vs) : RA K (upd H p (.lst vs)) μ (.ls xs) (.ref p) :=
  .ls ⟨upd_same, hG.nmem hp⟩ (rs.gr (Gr.new hp))
theorem se_lstI (h : SA X W es ms) : SE X W (.List es pos) (mLstI ms) := by
  refine PE.imp (pe_lst h) fun σ H Q ⟨ρ, μ, G, hσ, hG, h⟩ => tG.bind hσ hG h fun vs G1 H1 μ1 xs g1 hσ1 hG1 rs h1 => ?_
  by_cases hz : vs.length ≤ szl
  · simp only [if_pos hz] at h1
    exact ⟨by rw [← rs.length]; exact hz, fun p hp => h1 _ _ _ (Gr.new hp) (hG1.new hp) (ls_new hG1 hp rs)⟩
  · simp only [if_neg hz] at h1
    exact h1.elim
/-- a list that was made here -/
def lstM (G : Hs) : AV → Option (List AV)
  | .ls xs => some xs
  | .ref n => match G[n]? with
    | some (.lst xs) => some xs
    | _ => none
  | _ => none
theorem lstM_ok {K : PySem.W.Frag} {H : Hp} {μ : Mu} {G : Hs} {v : AV} {x : V} {xs : List AV} (hG : RH K H μ G) (r : RA K H μ v x) (e : lstM G v = some xs) : ∃ a vs, x = .ref a ∧ H a = some (.lst vs) ∧ RAs K H μ xs vs := by
  cases r with
  | ls h rs => cases e; exact ⟨_, _, rfl, h.1, rs⟩
  | ref h =>
    obtain ⟨o, ho, ro⟩ := hG.obj h
    simp only [lstM, ho] at e
    cases o with
    | lst zs => cases e; obtain ⟨vs, h1, h2⟩ := ro; exact ⟨_, vs, rfl, h1, h2⟩
    | _ => cases e
  | _ => cases e
def fAddI (v w : AV) (G : Hs) : R AV := match lstM G v with
  | none => fAdd v w G
  | some xs => match lstM G w with
    | some ys => if xs.length + ys.length ≤ szl then .ok (.ls (xs ++ ys)) G else .stuck
    | none => .stuck
theorem op2_addI {K : PySem.W.Frag} : Op2 K (rAddA K) fAddI := by
  intro W σ H μ G v w x y Q hG rv rw' q
  unfold fAddI at q
  cases e1 : lstM G v with
  | none => rw [e1] at q; exact op2_add W σ H μ G v w x y Q hG rv rw' q
  | some xs =>
    rw [e1] at q
    simp only at q
    cases e2 : lstM G w with
    | none => rw [e2] at q; exact q.elim
    | some ys =>
      rw [e2] at q
      obtain ⟨hz, q⟩ := po_if q
      obtain ⟨p1, vs, rfl, h1, r1⟩ := lstM_ok hG rv e1
      obtain ⟨p2, ws, rfl, h2, r2⟩ := lstM_ok hG rw' e2
      exact .inr (.inl ⟨p1, p2, vs, ws, rfl, rfl, h1, h2, by rw [← r1.length, ← r2.length]; exact hz, fun p hp => q _ _ _ (Gr.new hp) (hG.new hp) (ls_new hG hp (r1.app r2))⟩)
/-- x += e, of a numbered list too -/
def fIAddI (v w : AV) (G : Hs) : R AV := match v with
  | .ref m => match G[m]?, lstM G w with
    | some (.lst xs), some ys => if xs.length + ys.length ≤ szl then .ok (.ref m) (G.set m (.lst (xs ++ ys))) else .stuck
    | _, _ => .stuck
  | v => fIAdd v w G
/-- list(xs), inline -/
def fListI : List AV → Hs → R AV
  | [v], G => match seqOf G v with
    | some xs => .ok (.ls xs) G
    | none => .stuck
  | _, _ => .stuck
theorem opN_listI {K : PySem.W.Frag} : OpN K (fun xs H Q => ∃ p ys, xs = [.ref p] ∧ (SqL K H p ys ∨ SqT K H p ys) ∧ ∀ l, H l = none → Q (.ref l) (upd H l (.lst ys))) fListI := by
  intro W σ H μ G vs xs Q hG rs q
  match vs, rs, q with
  | [v], rs, q =>
    obtain ⟨y, rfl, r⟩ := rs.one
    simp only [fListI] at q
    cases e : seqOf G v with
    | none => rw [e] at q; exact q.elim
    | some zs =>
      rw [e] at q
      obtain ⟨a, ws, rfl, hs, rt⟩ := seqOf_ok hG r e
      exact ⟨a, ws, rfl, hs, fun l hl => q _ _ _ (Gr.new hl) (hG.new hl) (ls_new hG hl rt)⟩
end
section
variable {QV : AV → Hs → Prop} {E : XQ} {G G1 : Hs} {ρ : En} {D : SP}
/-- what a number becomes -/
def fzQ (QV : AV → Hs → Prop) (v : AV) (G : Hs) : Prop := match v with
  | .ref n => match G[n]? with
    | some o => match fzV o with
      | some u => QV u (G.set n .gone)
      | none => False
    | none => False
  | v => QV v G
@[simp] theorem wp_fz (m : ME) : (mFz m ρ G).wp QV E = (m ρ G).wp (fzQ QV) E := by
  unfold mFz
  rw [wp_bind]
  congr 1
  funext v G
  cases v with
  | ref n =>
    unfold fzQ
    simp only
    cases G[n]? with
    | none => rfl
    | some o =>
      simp only
      cases fzV o <;> rfl
  | _ => rfl
@[simp] theorem fzQ_ls (xs : List AV) : fzQ QV (.ls xs) G = QV (.ls xs) G := rfl
@[simp] theorem fzQ_tup (xs : List AV) : fzQ QV (.tup xs) G = QV (.tup xs) G := rfl
@[simp] theorem fzQ_iv (c ns) (xs : List AV) : fzQ QV (.iv c ns xs) G = QV (.iv c ns xs) G := rfl
@[simp] theorem fzQ_int (i : Int) : fzQ QV (.int i) G = QV (.int i) G := rfl
@[simp] theorem fzQ_str (i : Str) : fzQ QV (.str i) G = QV (.str i) G := rfl
@[simp] theorem fzQ_bl (i : Bool) : fzQ QV (.bl i) G = QV (.bl i) G := rfl
@[simp] theorem fzQ_non : fzQ QV .non G = QV .non G := rfl
theorem fzQ_ref {n : Nat} {o : AO} {u : AV} (h : G[n]? = some o) (e : fzV o = some u) : fzQ QV (.ref n) G = QV u (G.set n .gone) := by
  simp only [fzQ, h, e]
theorem fzQ_lst {n : Nat} {xs : List AV} (h : G[n]? = some (.lst xs)) : fzQ QV (.ref n) G = QV (.ls xs) (G.set n .gone) := fzQ_ref h rfl
theorem fzQ_ins {n : Nat} {c : Str} {fs : List (Str × AV)} (h : G[n]? = some (.ins c fs)) : fzQ QV (.ref n) G = QV (.iv c (fs.map (·.1)) (fs.map (·.2))) (G.set n .gone) := fzQ_ref h rfl
theorem wp_fzA {i : Nat} {st : MS} : (mFzA i st ρ G).wp D = (st ρ G).wp { D with nx := fun ρ1 G1 => match ρ1[i]? with
    | some (some (.ref n)) => match G1[n]? with
      | some o => match fzV o with
        | some u => D.nx (ρ1.set i (some u)) (G1.set n .gone)
        | none => False
      | none => False
    | _ => D.nx ρ1 G1 } := by
  unfold mFzA
  cases st ρ G with
  | nx ρ1 G1 =>
    simp only [SR.wp]
    cases e2 : ρ1[i]? with
    | none => rfl
    | some o =>
      cases o with
      | none => rfl
      | some v =>
        cases v with
        | ref n =>
          simp only
          cases G1[n]? with
          | none => rfl
          | some o =>
            simp only
            cases fzV o <;> rfl
        | _ => rfl
  | _ => rfl
@[simp] theorem wp_lstI (ms : MEs) : (mLstI ms ρ G).wp QV E = (ms ρ G).wp (fun vs G => vs.length ≤ szl ∧ QV (.ls vs) G) E := by
  unfold mLstI
  rw [wp_bind]
  congr 1
  funext vs G
  exact wp_guard _
/-- i is x, then not written any more: an assignment -/
theorem wp_fzSet {i : Nat} {m : ME} (hi : i < ρ.length) : (mFzA i (mAsg m (gNm i)) ρ G).wp D = (mFz m ρ G).wp (fun v G => D.nx (ρ.set i (some v)) G) D.ex := by
  rw [wp_fzA, wp_asg, wp_fz]
  congr 1
  funext v G
  simp only [List.getElem?_set_self hi]
  cases v with
  | ref n =>
    unfold fzQ
    simp only [List.set_set]
  | _ => rfl
theorem wp_addLs {xs ys : List AV} : (fAddI (.ls xs) (.ls ys) G).wp QV E = (xs.length + ys.length ≤ szl ∧ QV (.ls (xs ++ ys)) G) := wp_guard _
theorem wp_addIs {a c : Str} : (fAddI (.str a) (.str c) G).wp QV E = (a.length + c.length ≤ szl ∧ QV (.str (a ++ c)) G) := wp_guard _
theorem wp_iaddIs {a c : Str} : (fIAddI (.str a) (.str c) G).wp QV E = (a.length + c.length ≤ szl ∧ QV (.str (a ++ c)) G) := wp_guard _
theorem ix_ls {xs : List AV} {i : Int} {v : AV} (h0 : 0 ≤ i) (h1 : i < xs.length) (h : xs[i.toNat]? = some v) : (fIx (.ls xs) (.int i) G).wp QV E = QV v G := by
  have e1 : seqOf G (.ls xs) = some xs := rfl
  simp only [fIx, e1, atI_in h0 h1, h, wp_ok]
theorem ixL0 {a : AV} {r : List AV} : (fIx (.ls (a :: r)) (.int 0) G).wp QV E = QV a G := ix_ls (by decide) (by simp only [List.length_cons]; omega) rfl
theorem ixL1 {a0 a : AV} {r : List AV} : (fIx (.ls (a0 :: a :: r)) (.int 1) G).wp QV E = QV a G := ix_ls (by decide) (by simp only [List.length_cons]; omega) rfl
theorem ixL2 {a0 a1 a : AV} {r : List AV} : (fIx (.ls (a0 :: a1 :: a :: r)) (.int 2) G).wp QV E = QV a G := ix_ls (by decide) (by simp only [List.length_cons]; omega) rfl
theorem ixL3 {a0 a1 a2 a : AV} {r : List AV} : (fIx (.ls (a0 :: a1 :: a2 :: a :: r)) (.int 3) G).wp QV E = QV a G := ix_ls (by decide) (by simp only [List.length_cons]; omega) rfl
theorem fld_iv {cs : List Str} {f c : Str} {ns : List Str} {xs : List AV} {v : AV} (hc : c ∈ cs) (h : (ns.zip xs).lookup f = some v) : (fFld cs f (.iv c ns xs) G).wp QV E = QV v G := by
  simp only [fFld, hc, if_true, h, wp_ok]
theorem tuple_ls {xs : List AV} : (fTuple [.ls xs] G).wp QV E = QV (.tup xs) G := rfl
end
end Vz
namespace Vz
open PySem L2
section
variable {QV : AV → Hs → Prop} {E : XQ} {G G0 G1 G2 : Hs} {ρ : En} {D : SP} {b t s n : Nat}
theorem FrN.kpt (h : FrN n G G1) (k : Kp 0 G1 G2) : FrN n G G2 := ⟨Nat.le_trans h.le k.le, fun m hm hl => (k.at_ m (Nat.zero_le _) (Nat.lt_of_lt_of_le hl h.le)).trans (h.at_ m hm hl)⟩
theorem FrN.kp0 {o : AO} (h : FrN G.length (G ++ [o]) G1) : Kp 0 G G1 := h.kp rfl
theorem Kp.get0 (k : Kp 0 G G1) {o : AO} (e : G[n]? = some o) : G1[n]? = some o := k.get (Nat.zero_le _) e
/-- of items that keep what stands -/
theorem wp_lcG {mi : MI} {g : MG} {tt : MB} {m : ME} {own : List Nat} {vs : List AV} (hk : mi ρ G = .ok (vs, none) G0) (k0 : Kp 0 G G0) (p : AV → Bool) (y : AV → AV) (hl : vs.length ≤ szl)
    (hb : ∀ v ∈ vs, ∀ G1, Kp 0 G0 G1 → ∃ ρ1, g v (wipeA ρ own) G1 = .ok ρ1 G1 ∧ (tt ρ1 G1).wp (fun k G2 => k = p v ∧ Kp 0 G1 G2 ∧ (k = true → (m ρ1 G2).wp (fun r G3 => r = y v ∧ Kp 0 G2 G3) noX)) noX)
    (hq : ∀ G', Kp 0 G G' → QV (.ls ((vs.filter p).map y)) G') : (mFz (mLc mi g tt m own) ρ G).wp QV E := by
  rw [wp_fz]
  refine wp_lcK hk (fun j acc G1 => acc = ((vs.take j).filter p).map y ∧ FrN G0.length (G0 ++ [.lst []]) G1) ⟨by simp, .refl⟩ (fun _ _ _ _ _ => True.intro) (fun j v acc G1 hv ⟨ha, hf⟩ hD => ?_) fun acc G1 hD ⟨ha, hf⟩ => ?_
  · have hv : vs[j]? = some v := hv
    obtain ⟨ρ1, e1, w⟩ := hb v (List.mem_of_getElem? hv) G1 hf.kp0
    refine ⟨ρ1, G1, e1, w.mono (fun k G2 ⟨ek, k2, w2⟩ => ?_) fun _ _ _ x => x⟩
    have hj : j < vs.length := (List.getElem?_eq_some_iff.mp hv).1
    have et : vs.take (j + 1) = vs.take j ++ [v] := by rw [List.take_succ, hv]; rfl
    cases k with
    | false =>
      rw [if_neg (by decide)]
      refine ⟨k2.get0 hD, ?_, hf.kpt k2⟩
      rw [et, List.filter_append, List.filter_cons_of_neg (by rw [← ek]; decide), List.filter_nil, List.append_nil]
      exact ha
    | true =>
      rw [if_pos rfl]
      refine (w2 rfl).mono (fun r G3 ⟨er, k3⟩ => ?_) fun _ _ _ x => x
      have hal : acc.length ≤ j := by
        rw [ha, List.length_map]
        exact Nat.le_trans (List.length_filter_le _ _) (by rw [List.length_take]; omega)
      refine ⟨k3.get0 (k2.get0 hD), by omega, ?_, ((hf.kpt k2).kpt k3).set⟩
      rw [et, List.filter_append, List.filter_cons_of_pos (by rw [← ek]), List.filter_nil, List.map_append, ← ha, er]
      rfl
  · show fzQ QV _ _
    rw [fzQ_lst hD, ha, List.take_length]
    exact hq _ (k0.trans (hf.kp0.setN (Nat.le_refl _)))
/-- of all items -/
theorem wp_lcM {mi : MI} {g : MG} {m : ME} {own : List Nat} {vs : List AV} (hk : mi ρ G = .ok (vs, none) G0) (k0 : Kp 0 G G0) (y : AV → AV) (hl : vs.length ≤ szl)
    (hb : ∀ v ∈ vs, ∀ G1, Kp 0 G0 G1 → ∃ ρ1, g v (wipeA ρ own) G1 = .ok ρ1 G1 ∧ (m ρ1 G1).wp (fun r G3 => r = y v ∧ Kp 0 G1 G3) noX)
    (hq : ∀ G', Kp 0 G G' → QV (.ls (vs.map y)) G') : (mFz (mLc mi g mYes m own) ρ G).wp QV E := by
  refine wp_lcG hk k0 (fun _ => true) y hl (fun v hv G1 k => ?_) fun G' k => ?_
  · obtain ⟨ρ1, e, w⟩ := hb v hv G1 k
    exact ⟨ρ1, e, rfl, Kp.refl _ _, fun _ => w⟩
  · rw [List.filter_eq_self.mpr fun _ _ => rfl]
    exact hq G' k
/-- of items that draw -/
theorem wp_lcD {mi : MI} {g : MG} {m : ME} {own : List Nat} {vs : List AV} (hk : mi ρ G = .ok (vs, none) G0) (k0 : Kp b G G0) (hd : Dr b t s G0) (c : Nat) (T : AV → AV → Prop) (hl : vs.length ≤ szl)
    (hb : ∀ j v G1, vs[j]? = some v → Dr b (t + c * j) s G1 → Kp b G0 G1 → ∃ ρ1, g v (wipeA ρ own) G1 = .ok ρ1 G1 ∧ (m ρ1 G1).wp (fun r G2 => T v r ∧ Dr b (t + c * (j + 1)) s G2 ∧ Kp b G1 G2) noX)
    (hq : ∀ (xs : List AV) (G' : Hs), xs.length = vs.length → (∀ (j : Nat) (v r : AV), vs[j]? = some v → xs[j]? = some r → T v r) → Dr b (t + c * vs.length) s G' → Kp b G G' → QV (.ls xs) G') : (mFz (mLc mi g mYes m own) ρ G).wp QV E := by
  rw [wp_fz]
  refine wp_lcK hk (fun j acc G1 => acc.length = j ∧ (∀ (i : Nat) (v r : AV), vs[i]? = some v → acc[i]? = some r → T v r) ∧ Dr b (t + c * j) s G1 ∧ Kp b G0 G1) ⟨rfl, fun i v r _ h => by simp at h, hd.app, Kp.app _ _ _⟩ (fun _ _ _ _ _ => True.intro)
    (fun j v acc G1 hv ⟨ha, hT, hd1, hk1⟩ hD => ?_) fun acc G1 hD ⟨ha, hT, hd1, hk1⟩ => ?_
  · have hv : vs[j]? = some v := hv
    have hj : j < vs.length := (List.getElem?_eq_some_iff.mp hv).1
    obtain ⟨ρ1, e1, w⟩ := hb j v G1 hv hd1 hk1
    refine ⟨ρ1, G1, e1, ?_⟩
    show R.wp _ _ _
    refine w.mono (fun r G3 ⟨er, d3, k3⟩ => ?_) fun _ _ _ x => x
    refine ⟨k3.get hd.bl hD, by omega, by simp [ha], fun i v' r' h1 h2 => ?_, d3.setN hd.bl, (hk1.trans k3).setN (Nat.le_refl _)⟩
    by_cases hi : i < acc.length
    · rw [List.getElem?_append_left hi] at h2
      exact hT i v' r' h1 h2
    · rw [List.getElem?_append_right (by omega)] at h2
      have e0 : i - acc.length = 0 := by
        cases q : i - acc.length with
        | zero => rfl
        | succ z => rw [q] at h2; simp at h2
      rw [e0] at h2
      have ei : i = j := by omega
      subst ei
      rw [hv] at h1
      cases h1
      cases h2
      exact er
  · show fzQ QV _ _
    rw [fzQ_lst hD]
    exact hq acc _ ha hT (hd1.setN hd.bl) (k0.trans (hk1.setN (Nat.le_refl _)))
end
end Vz
namespace Vz
open PySem L2
section
variable {QV : AV → Hs → Prop} {E : XQ} {G G0 G1 G2 : Hs} {ρ : En} {D : SP} {b t s n : Nat}
theorem all_of {T : AV → Prop} {vs xs : List AV} (hl : xs.length = vs.length) (h : ∀ (j : Nat) (v r : AV), vs[j]? = some v → xs[j]? = some r → T r) : ∀ r ∈ xs, T r := fun r hr => by
  obtain ⟨j, hj⟩ := List.mem_iff_getElem?.mp hr
  have : j < vs.length := by rw [← hl]; exact (List.getElem?_eq_some_iff.mp hj).1
  exact h j vs[j] r (List.getElem?_eq_getElem this) hj
theorem var_ok {i : Nat} {v : AV} (h : ρ[i]? = some (some v)) : mVar i ρ G = .ok v G := by
  unfold mVar
  rw [h]
theorem all_ls {bs : List Bool} : (fAll [.ls (bs.map .bl)] G).wp QV E = QV (.bl (bs.all id)) G := by
  simp only [fAll, lstOf, bls_map, wp_ok]
theorem sz0 : (0 ≤ szl) = True := eq_true (by decide)
theorem sz1 : (1 ≤ szl) = True := eq_true (by decide)
theorem sz2 : (2 ≤ szl) = True := eq_true (by decide)
theorem sz3 : (3 ≤ szl) = True := eq_true (by decide)
theorem sz4 : (4 ≤ szl) = True := eq_true (by decide)
theorem sz5 : (5 ≤ szl) = True := eq_true (by decide)
theorem sz6 : (6 ≤ szl) = True := eq_true (by decide)
theorem sz7 : (7 ≤ szl) = True := eq_true (by decide)
theorem sz8 : (8 ≤ szl) = True := eq_true (by decide)
theorem sz9 : (9 ≤ szl) = True := eq_true (by decide)
theorem sz10 : (10 ≤ szl) = True := eq_true (by decide)
theorem sz11 : (11 ≤ szl) = True := eq_true (by decide)
theorem sz12 : (12 ≤ szl) = True := eq_true (by decide)
theorem isS_s (w : Str) : (isS (.str w) G = true) = True := eq_true rfl
theorem isL_ls (xs : List AV) : (isL (.ls xs) G = true) = True := eq_true rfl
theorem in_tupS {w : Str} {xs : List Str} : (fIn (.str w) (.tup (xs.map .str)) G).wp QV E = QV (.bl (xs.any fun y => y == w)) G := by
  unfold fIn
  rw [inB_seq rfl fun z e => by cases e]
  rfl
theorem in_tup2 {w a c : Str} : (fIn (.str w) (.tup [.str a, .str c]) G).wp QV E = QV (.bl ([a, c].any fun y => y == w)) G := in_tupS (xs := [a, c])
theorem nin_tupS {w : Str} {xs : List Str} : (fNin (.str w) (.tup (xs.map .str)) G).wp QV E = QV (.bl (!xs.any fun y => y == w)) G := by
  unfold fNin
  rw [inB_seq rfl fun z e => by cases e]
  rfl
theorem nin_tup2 {w a c : Str} : (fNin (.str w) (.tup [.str a, .str c]) G).wp QV E = QV (.bl (![a, c].any fun y => y == w)) G := nin_tupS (xs := [a, c])
/-- for one name -/
theorem wp_forNm {mi : MI} {x : Nat} {body : MS} {vs : List AV} {gd : Option (Nat × List AV)} (hk : mi ρ G = .ok (vs, gd) G0) (I : Nat → En → Hs → Prop) (h0 : I 0 ρ G0) (hg : ∀ j ρ G, j ≤ vs.length → I j ρ G → gdOk gd G)
    (hs : ∀ j v ρ G, vs[j]? = some v → I j ρ G → (body (ρ.set x (some v)) G).wp { nx := I (j + 1), rt := D.rt, bk := D.nx, ct := I (j + 1), ex := D.ex })
    (he : ∀ ρ G, I vs.length ρ G → D.nx ρ G) : (mFor mi (gNm x) body ρ G).wp D :=
  wp_forK hk I h0 hg (fun j v ρ G e h => by rw [mg_nm]; exact hs j v ρ G e h) he
/-- for one name, over a range from nought -/
theorem wp_forRg {mi : MI} {x : Nat} {body : MS} {lo hi : Int} (hk : mi ρ G = .ok (rgA lo hi, none) G0) (I : Nat → En → Hs → Prop) (h0 : I 0 ρ G0)
    (hs : ∀ (j : Nat) ρ G, lo + j < hi → I j ρ G → (body (ρ.set x (some (.int (lo + j)))) G).wp { nx := I (j + 1), rt := D.rt, bk := D.nx, ct := I (j + 1), ex := D.ex })
    (he : ∀ ρ G, I (hi - lo).toNat ρ G → D.nx ρ G) : (mFor mi (gNm x) body ρ G).wp D :=
  wp_forNm hk I h0 (fun _ _ _ _ _ => True.intro) (fun j v ρ G e h => by obtain ⟨rfl, hj⟩ := rgA_get e; exact hs j ρ G hj h) (fun ρ G h => he ρ G (by rw [rgA_len] at h; exact h))
theorem wp_forR0 {mi : MI} {x : Nat} {body : MS} {n : Nat} (hk : mi ρ G = .ok (rgA 0 n, none) G0) (I : Nat → En → Hs → Prop) (h0 : I 0 ρ G0)
    (hs : ∀ (j : Nat) ρ G, j < n → I j ρ G → (body (ρ.set x (some (.int (j : Nat)))) G).wp { nx := I (j + 1), rt := D.rt, bk := D.nx, ct := I (j + 1), ex := D.ex })
    (he : ∀ ρ G, I n ρ G → D.nx ρ G) : (mFor mi (gNm x) body ρ G).wp D :=
  wp_forRg hk I h0 (fun j ρ G hj h => by rw [Int.zero_add]; exact hs j ρ G (by omega) h) (fun ρ G h => he ρ G (by rw [Int.sub_zero, Int.toNat_natCast] at h; exact h))
end
end Vz
namespace Vz
open PySem PySem.Spec L2 PyProof.Rows
section
variable {X : Cx} {W : WX} {a b c e o i : Expr} {es : List Expr} {m ma mb mo mi : ME} {ms : MEs} {pos : Pos}
/-- a, b, c = e1, e2, e3 : three names -/
def mPar3 (i j l : Nat) (ms : MEs) : MS := fun ρ G => (ms ρ G).toS ρ fun vs G1 => match vs with
  | [u, v, w] => .nx (((ρ.set i (some u)).set j (some v)).set l (some w)) G1
  | _ => .stuck
def fLs (o i v : AV) (G : Hs) : R Unit := match o, i with
  | .ref n, .int k => match G[n]? with
    | some (.lst xs) => match ixN xs.length k with
      | some j => .ok () (G.set n (.lst (xs.set j v)))
      | none => .stuck
    | _ => .stuck
  | _, _ => .stuck
def gLs (mo mi : ME) : MG := fun v ρ G => (mo ρ G).bind fun o G1 => (mi ρ G1).bind fun i G2 => (fLs o i v G2).bind fun _ G3 => .ok ρ G3
theorem fLs_ok {K : PySem.W.Frag} {H : Hp} {μ : Mu} {G G1 : Hs} {o i v : AV} {x y z : V} {u : Unit} (hG : RH K H μ G) (ro : RA K H μ o x) (ri : RA K H μ i y) (rv : RA K H μ v z) (e : fLs o i v G = .ok u G1) :
    ∃ p xs k j, x = .ref p ∧ y = .int k ∧ H p = some (.lst xs) ∧ ixN xs.length k = some j ∧ Gr H μ (upd H p (.lst (xs.set j z))) μ ∧ RH K (upd H p (.lst (xs.set j z))) μ G1 := by
  cases ro with
  | ref hn =>
    cases ri with
    | int k =>
      rename_i n a
      simp only [fLs] at e
      cases e1 : G[n]? with
      | none => rw [e1] at e; cases e
      | some ob =>
        rw [e1] at e
        cases ob with
        | lst xs =>
          simp only at e
          obtain ⟨vs, h1, h2⟩ := hG.at_ _ _ _ hn e1
          cases e2 : ixN xs.length k with
          | none => rw [e2] at e; cases e
          | some j =>
            rw [e2] at e
            cases e
            have gp : Gr H μ (upd H a (.lst (vs.set j z))) μ := Gr.put hG hn e1
            exact ⟨a, vs, k, j, rfl, rfl, h1, by rw [← h2.length]; exact e2, gp, hG.put (o := .lst (xs.set j v)) hn e1 ⟨_, upd_same, (RAs.set rv j h2).gr gp⟩⟩
        | _ => cases e
    | _ => cases e
  | _ => cases e
theorem sg_ls (ho : SE X W o mo) (hi : SE X W i mi)
    (ha : ∀ v, assign (.Subscript o i pos) X.env v = (do
      let ov ← holding [v] (eval o X.env)
      let iv ← holding [v, ov] (eval i X.env)
      standAt pos
      holding [v, ov, iv] (setItem ov iv v)
      release [v, ov, iv] []) := by intro _; rfl) : SG X W [] (.Subscript o i pos) (gLs mo mi) := by
  refine PG.imp (pg_sub ho hi set_list ha) fun v σ H Q ⟨av, ρ, μ, G, r, hσ, hG, h⟩ => ⟨ρ, μ, G, hσ, hG, ?_⟩
  unfold gLs at h
  cases e1 : mo ρ G with
  | stuck => rw [e1] at h; exact h.elim
  | exc c d G' => rw [e1] at h; exact h.elim
  | ok ov G1 =>
    rw [e1] at h
    intro H1 μ1 x g1 hG1 r1
    refine ⟨ρ, μ1, G1, hσ.gr g1, hG1, ?_⟩
    simp only [R.bind_ok] at h
    cases e2 : mi ρ G1 with
    | stuck => rw [e2] at h; exact h.elim
    | exc c d G' => rw [e2] at h; exact h.elim
    | ok iv G2 =>
      rw [e2] at h
      intro H2 μ2 y g2 hG2 r2
      simp only [R.bind_ok] at h
      cases e3 : fLs ov iv av G2 with
      | stuck => rw [e3] at h; exact h.elim
      | exc c d G' => rw [e3] at h; exact h.elim
      | ok u G3 =>
        rw [e3] at h
        have h : ∀ H' μ' σ', Gr H μ H' μ' → RH X.K H' μ' G3 → RS X.K H' μ' ρ σ' → σ'.length = σ.length → (∀ j, j ∉ ([] : List Nat) → σ'[j]? = σ[j]?) → Q σ' H' := h
        obtain ⟨p, xs, k, j, hx, hy, hp, hj, gp, hr⟩ := fLs_ok hG2 (r1.gr g2) r2 ((r.gr g1).gr g2) e3
        exact ⟨p, xs, k, j, hx, hy, hp, hj, h _ μ2 σ ((g1.trans g2).trans gp) hr (((hσ.gr g1).gr g2).gr gp) rfl fun _ _ => rfl⟩
end
end Vz
namespace Vz
open PySem PySem.Spec L2 PyProof.Rows
end Vz
namespace Vz
open PySem PySem.Spec L2
open PyProof.Rows (AllBare)
section
variable {X : Cx} {pins : List (Addr × Obj)} {σ : St} {H : Hp} {sI s s' : Shared} {B : Heap} {a : Addr} {C : Value} {d : Option Addr} {oe : Obj} {vs : Array Value}
/-- back on the ground, the exception tracked -/
theorem Inv_held (I : Inv X pins σ H sI) (nb : ∀ b o, sI.heap.get? b = some o → b ∉ frs X.stack → B.get? b = some o) (st : B.StaysIn s'.heap) (up : sI.heap.UpToSlots s'.heap) (os : s'.os = sI.os) (ag : AllBare s'.gens)
    (hB : B.get? a = none) (nfr : a ∉ frs X.stack) (na : H a = none) (ha : s'.heap.get? a = some oe) (hz : Zc C d oe) (hd : oe.data = .fields vs) : Inv X pins σ (upd H a (xo a C d)) s' := by
  have hsa : sI.heap.get? a = none := by
    cases q : sI.heap.get? a with
    | none => rfl
    | some o =>
      have z := nb a o q nfr
      rw [hB] at z
      cases z
  have ne : ∀ {b : Addr} {o : Obj}, sI.heap.get? b = some o → b ≠ a := fun {b o} e z => by
    rw [z, hsa] at e
    cases e
  have inFr : ∀ b ∈ frs X.stack, ∀ o, sI.heap.get? b = some o → ∃ sl, s'.heap.get? b = some { o with slots := sl } := fun b m o g => by
    obtain ⟨_, o2, g2, no⟩ := I.stack.mem m
    cases g.symm.trans g2
    exact up b o g no
  have hok : HOk X.prog X.w (upd H a (xo a C d)) s'.heap := fun b o q => by
    by_cases hb : b = a
    · subst hb
      rw [upd_same] at q
      cases q
      exact xo_ok ha hz hd
    · rw [upd_ne hb] at q
      exact (((I.inGround nb).kept st) b o q).stay (fun c v _ r => r) (fun c hc => by rw [upd_ne (ne_of_none hc na)]; exact hc) (fun c xs hc => by rw [upd_ne (ne_of_none hc na)]; exact hc)
  have J := I.call (ch := []) (h' := s'.heap) (g' := s'.gens) (t' := s'.toks) (d' := s'.drawn) (H' := upd H a (xo a C d))
    ⟨fun b o e _ hb _ => st b o (nb b o e hb), fun b o e _ hb _ => inFr b hb o e, fun b o e n _ => by rw [upd_ne (ne e)]; exact n, fun b o e _ => by
      by_cases hb : b ∈ frs X.stack
      · obtain ⟨sl, q⟩ := inFr b hb o e
        exact ⟨_, q⟩
      · exact ⟨o, st b o (nb b o e hb)⟩, fun b xs e => by rw [upd_ne (ne_of_none e na)]; exact e, fun b o u e => by rw [upd_ne (ne_of_none e na)]; exact e, fun b ps e => ⟨#[], by rw [upd_ne (ne_of_none e na), e]; simp⟩⟩
    hok ag (fun _ z => nomatch z)
  obtain ⟨hp1, gn1, dr1, tk1, os1⟩ := s'
  cases (show os1 = sI.os from os)
  exact J
/-- in the suite -/
theorem _root_.L2.Inv.suiteH (I : Inv X pins σ H s) (a : Addr) : Inv (X.suite a (X.pn ++ pins)) [] σ H s :=
  ⟨I.ok.suite _ _, I.os, I.bare, I.base, I.loc, I.cell, I.free, I.freeC, fun p hp => I.pin p (by rw [List.append_nil] at hp; exact hp), I.hok, I.len⟩
theorem _root_.L2.Inv.unsuiteH {pn' : List (Addr × Obj)} (I : Inv (X.suite a (X.pn ++ pins)) pn' σ H s) (ok : X.Ok) : Inv X pins σ H s :=
  ⟨ok, I.os, I.bare, I.base, I.loc, I.cell, I.free, I.freeC, fun p hp => I.pin p (List.mem_append_left _ hp), I.hok, I.len⟩
end
/-- an except clause: its class, the slot of its name, what its suite does -/
structure Hd where
  c : Value
  i : Option Nat
  t : TS
def unN : Option Nat → Ends → Ends
  | none, D => D
  | some i, D => { nx := fun σ H => D.nx (σ.set i none) H, rt := D.rt, bk := fun σ H => D.bk (σ.set i none) H, ct := fun σ H => D.ct (σ.set i none) H }
def inN : Option Nat → Addr → St → St
  | none, _, σ => σ
  | some i, a, σ => σ.set i (some (.ref a))
def wTry (K : PySem.W.Frag) (Wout : WX) (D : Ends) : List Hd → WX
  | [] => Wout
  | h :: r => fun cls d σ H => ∃ b, PySem.W.exmOne K cls h.c = some b ∧ (b = true → ∀ a, H a = none → h.t (unN h.i D) (inN h.i a σ) (upd H a (xo a cls d))) ∧ (b = false → wTry K Wout D r cls d σ H)
inductive HdsX (X : Cx) : List ExceptHandler → List Hd → Prop
  | nil : HdsX X [] []
  | one {x : Str} {c : Value} {t : TS} {b₀ : Stmt} {suite : List Stmt} {np pos' : Pos} {hds : List ExceptHandler} {l : List Hd} (hc : Names X x c)
      (hsu : ∀ (a : Addr) (pn : List (Addr × Obj)), PSs (X.suite a pn) (b₀ :: suite) t) (r : HdsX X hds l) : HdsX X (.ExceptHandler (some (.Name x np)) none (b₀ :: suite) pos' :: hds) (⟨c, none, t⟩ :: l)
  | as {x n : Str} {i : Nat} {c : Value} {t : TS} {b₀ : Stmt} {suite : List Stmt} {np pos' : Pos} {hds : List ExceptHandler} {l : List Hd} (hc : Names X x c) (hi : X.N[i]? = some n) (hln : X.env.kindOf n = some .local)
      (hsu : ∀ (a : Addr) (pn : List (Addr × Obj)), PSs (X.suite a pn) (b₀ :: suite) t) (r : HdsX X hds l) : HdsX X (.ExceptHandler (some (.Name x np)) (some n) (b₀ :: suite) pos' :: hds) (⟨c, some i, t⟩ :: l)
theorem sp_move {X Y : Cx} {ps qs : List (Addr × Obj)} {D : Ends} {fl : Flow} {t : Shared} (go : ∀ {σ : L2.St} {H : Hp}, Inv X ps σ H t → Inv Y qs σ H t) (z : L2.SP X ps D fl t) : L2.SP Y qs D fl t := by
  cases fl with
  | next => exact let ⟨σ, H, I, q⟩ := z; ⟨σ, H, go I, q⟩
  | brk => exact let ⟨σ, H, I, q⟩ := z; ⟨σ, H, go I, q⟩
  | cont => exact let ⟨σ, H, I, q⟩ := z; ⟨σ, H, go I, q⟩
  | ret u => exact let ⟨v, σ, H, I, rv, q⟩ := z; ⟨v, σ, H, go I, rv, q⟩
section
variable {X : Cx} {body orelse : List Stmt} {h₀ : ExceptHandler} {hds : List ExceptHandler} {l : List Hd} {pos : Pos} {tb : WX → TS} {u : TS} {Wout : WX}
/-- the clauses, one behind the other, over a ground on which the exception has landed -/
structure Land (X : Cx) (ps : List (Addr × Obj)) (B : Heap) (sI s1 : Shared) (hL : Heap) (σ : L2.St) (H : Hp) (a : Addr) (cls : Value) (d : Option Addr) : Prop where
  inv : Inv X ps σ H sI
  low : ∀ b o, sI.heap.get? b = some o → b ∉ frs X.stack → B.get? b = some o
  fly : HandSPX.FlyingZ B (X.env :: X.outer) a (Zc cls d) hL
  ups : sI.heap.UpToSlots hL
  os : s1.os = sI.os
  bare : AllBare s1.gens
  na : H a = none
section
variable {ps : List (Addr × Obj)} {B : Heap} {sI s1 : Shared} {hL : Heap} {σ : L2.St} {H : Hp} {a : Addr} {cls : Value} {d : Option Addr}
theorem Land.onward (Y : Land X ps B sI s1 hL σ H a cls d) {hM : Heap} (fy : HandSPX.FlyingZ B (X.env :: X.outer) a (Zc cls d) hM) (up : hL.UpToSlots hM) : Land X ps B sI s1 hM σ H a cls d :=
  { Y with fly := fy, ups := Y.ups.trans up }
theorem Land.plain (Y : Land X ps B sI s1 hL σ H a cls d) : Inv X ps σ H { s1 with heap := hL } := Y.inv.landed Y.low Y.fly.1 Y.ups Y.os Y.bare
theorem Land.notFrame (Y : Land X ps B sI s1 hL σ H a cls d) (hs : X.stack = X.env :: X.outer) : a ∉ frs X.stack := fun m => by
  obtain ⟨ob, vs, g, _, dt⟩ := Y.fly.there
  rw [hs] at m
  obtain ⟨_, ob2, g2, no⟩ := Y.fly.2.2.1.mem m
  rw [g] at g2
  cases g2
  exact no vs dt
/-- tracked from now on -/
theorem Land.tracked (Y : Land X ps B sI s1 hL σ H a cls d) (hs : X.stack = X.env :: X.outer) : Inv (X.suite a (X.pn ++ ps)) [] σ (upd H a (xo a cls d)) { s1 with heap := hL } := by
  obtain ⟨ob, vs, g, z, dt⟩ := Y.fly.there
  have J : Inv X ps σ (upd H a (xo a cls d)) { s1 with heap := hL } := Inv_held (oe := ob) (vs := vs) Y.inv Y.low Y.fly.1 Y.ups Y.os Y.bare Y.fly.2.1 (Y.notFrame hs) Y.na g z dt
  exact J.suiteH a
theorem clauses_ok (hs : X.stack = X.env :: X.outer) (hf : X.env.frame = some X.env.locals) (hN : X.N.Nodup) (tk : Takes X Wout) {D : Ends} (ok : X.Ok) : ∀ {hk : List ExceptHandler} {ls : List Hd}, HdsX X hk ls → ∀ {hL : Heap}, Land X ps B sI s1 hL σ H a cls d →
    wTry X.K Wout D ls cls d σ H → wpAny (model X.prog X.w) X.A (handleBy (.ref a) X.env hk) (L2.SP X ps D) X.xe { s1 with heap := hL } := by
  have ask : ∀ {hL : Heap} {x : Str} {np : Pos} {c : Value} {Q : Value → Shared → Prop} {E : Value → Shared → Prop}, Land X ps B sI s1 hL σ H a cls d → Names X x c → Q c { s1 with heap := hL } →
      wpAny (model X.prog X.w) (X.A.mark (some (.ref a))) (eval (.Name x np) X.env) Q E { s1 with heap := hL } := fun {hL x np c Q E} Y nm q => by
    have S := Y.plain.suiteH a
    rcases nm with ⟨g, nd, e | ⟨e, bt, nn⟩⟩
    · exact ld_glob (X := X.suite a (X.pn ++ ps)) S g e q nd
    · exact ld_blt (X := X.suite a (X.pn ++ ps)) S g e bt q nn nd
  have same : ∀ {hL : Heap} {c : Value} {b : Bool}, Land X ps B sI s1 hL σ H a cls d → PySem.W.exmOne X.K cls c = some b → PySem.W.Looks (model X.prog X.w) hL (excMatches (.ref a) c) b := fun {hL c b} Y e => by
    obtain ⟨ob, vs, g, z, dt⟩ := Y.fly.there
    exact PySem.W.exm_one Y.plain.kIn (fun A Q E s k q => wpAny_typeOf_ref (k _ _ g) (by rw [z.1]; exact q)) e
  intro hk ls hh
  induction hh with
  | nil =>
    intro hL Y w
    refine wpAny_handleBy_nil ?_
    obtain ⟨_, _, _, ob, vs, T, _, _, g, _, dt, tb1, _⟩ := id Y.fly
    have away : wpAny (model X.prog X.w) X.A (setFlight (.ref a) X.env.frame) (fun _ t => wpAny (model X.prog X.w) X.A (throw (.ref a) : Sem Flow) (L2.SP X ps D) X.xe t) X.xe { s1 with heap := hL } := by
      rw [hf]
      refine HandSPX.setFlight_upZ Y.fly fun hM hold up => wpAny_throw (tk _ _ ⟨a, B, sI, ps, σ, H, cls, d, rfl, Y.inv, Y.low, Y.ups.trans up, .inr (.inr ?_), Y.na, Y.os, Y.bare, w⟩)
      rw [hs]
      exact hold
    unfold PySem.passOn
    refine wpAny_bind (wpAny_field g dt tb1 ?_)
    rw [if_neg (by simp : ¬ ((Value.ref T == Value.none) = true))]
    first
      | exact wpAny_bind away
      | exact wpAny_bind (wpAny_pure (wpAny_bind away))
  | one nm su r next =>
    intro hL Y ⟨b, e, yes, no⟩
    refine wpAny_handleBy_cons (codeAny_handlers_test (ask Y nm ((same Y e).here ?_))) (by intro q; cases q)
    cases b with
    | false => exact next Y (no rfl)
    | true =>
      refine codeAny_handlers_suite (HandSPX.lands_againZ Y.fly fun hM fy up => ?_)
      exact wpAny_mono ((su a (X.pn ++ ps)).run [] _ _ _ _ ((Y.onward fy up).tracked hs) (yes rfl a Y.na)) (fun fl t z => sp_move (fun I => I.unsuiteH ok) z) fun _ _ z => z.elim
  | @as x n i c t b₀ suite np pos' hk2 ls2 nm hi ln su r next =>
    intro hL Y ⟨b, e, yes, no⟩
    refine wpAny_handleBy_cons (codeAny_handlers_test (ask Y nm ((same Y e).here ?_))) (by intro q; cases q)
    cases b with
    | false => exact next Y (no rfl)
    | true =>
      refine codeAny_handlers_suite_as (HandSPX.lands_againZ Y.fly fun hM fy up => ?_)
      refine store_ok (X := X.suite a (X.pn ++ ps)) (v := .ref a) ((Y.onward fy up).tracked hs) hN hi (.inl ln) rfl (fun t1 I1 => ?_) (.inr ln)
      refine wpAny_mono ((su a (X.pn ++ ps)).run [] t1 _ _ _ I1 (yes rfl a Y.na)) (fun fl t z => ?_) fun _ _ z => z.elim
      have bye : ∀ {τ : L2.St} {G : Hp} {Q : Shared → Prop}, Inv (X.suite a (X.pn ++ ps)) [] τ G t → (∀ t2, Inv X ps (τ.set i none) G t2 → Q t2) →
          wpAny (model X.prog X.w) X.A (do bindName X.env n .none; unbindBehindTheSuite X.env n pos') (fun _ t2 => Q t2) X.xe t := fun {τ G Q} I q => gone_ok (I.unsuiteH ok) hN hi ln q
      cases fl with
      | next => exact let ⟨_, _, I, q⟩ := z; bye I fun t2 J => ⟨_, _, J, q⟩
      | brk => exact let ⟨_, _, I, q⟩ := z; bye I fun t2 J => ⟨_, _, J, q⟩
      | cont => exact let ⟨_, _, I, q⟩ := z; bye I fun t2 J => ⟨_, _, J, q⟩
      | ret v => exact let ⟨_, _, _, I, rv, q⟩ := z; bye I fun t2 J => ⟨_, _, _, J, rv, q⟩
end
theorem ps_tryX (hs : X.stack = X.env :: X.outer) (hf : X.env.frame = some X.env.locals) (hN : X.N.Nodup) (tk : Takes X Wout)
    (hb : ∀ (W : WX) (pn : List (Addr × Obj)) (xe : Value → Shared → Prop), Takes (X.tr pn xe) W → PSs (X.tr pn xe) body (tb W))
    (hh : HdsX X (h₀ :: hds) l) (ho : PSs X orelse u) : PS X (.Try body (h₀ :: hds) orelse [] pos) (fun D σ H => tb (wTry X.K Wout D l) { D with nx := u D } σ H) := by
  refine ⟨fun ps s σ H D I h => wpAny_Try_except ?_⟩
  have ok := I.ok
  let air : Value → Shared → Prop := fun v t => wpAny (model X.prog X.w) X.A (noteFrame v X.env) (fun _ t2 => wpAny (model X.prog X.w) X.A (setFlight v none) (fun _ t3 =>
    wpAny (model X.prog X.w) X.A (handleBy v X.env (h₀ :: hds)) (L2.SP X ps D) X.xe t3) X.xe t2) X.xe t
  have takes : Takes (X.tr (X.pn ++ ps) air) (wTry X.K Wout D l) := fun v t fl => by
    obtain ⟨a, B, sI, ps', τ, G, cls, d, e, I', low, up, sky, na, os, bare, w⟩ := fl
    subst e
    have fr : X.A.frames = some (X.env :: X.outer) := ok.frames.trans (by rw [hs])
    have sk : Sky B (X.env :: X.outer) a (Zc cls d) X.env.locals t.heap := hs ▸ sky
    exact Sky.land Zc.steady fr hf sk fun hL fy up2 => clauses_ok hs hf hN tk ok hh ⟨I'.ofTry ok, low, fy, up.trans up2, os, bare, na⟩ w
  refine wpAny_mono ((hb _ _ air takes).run [] s σ H { D with nx := u D } (I.toTry _) h) (fun fl t z => ?_) fun _ _ z => z
  cases fl with
  | next => exact let ⟨_, _, J, q⟩ := z; ho.run ps t _ _ D (J.ofTry ok) q
  | brk => exact let ⟨τ, G, J, q⟩ := z; ⟨τ, G, J.ofTry ok, q⟩
  | cont => exact let ⟨τ, G, J, q⟩ := z; ⟨τ, G, J.ofTry ok, q⟩
  | ret v => exact let ⟨w, τ, G, J, rv, q⟩ := z; ⟨w, τ, G, J.ofTry ok, rv, q⟩
end
end Vz
namespace Vz
open PySem L2
abbrev noW : WX := fun _ _ _ _ => False
/-- an except clause -/
structure HdA where
  c : Str
  i : Option Nat
  m : MS
def pickH (tab : XTab) (c : Str) : List HdA → Option (Option HdA)
  | [] => some none
  | h :: r => match tab.lookup (c, h.c) with
    | some true => some (some h)
    | some false => pickH tab c r
    | none => none
def unA : Option Nat → En → En
  | none, ρ => ρ
  | some i, ρ => ρ.set i none
def inA : Option Nat → AV → En → En
  | none, _, ρ => ρ
  | some i, v, ρ => ρ.set i (some v)
/-- behind a suite -/
def outH (i : Option Nat) : SR → SR
  | .nx ρ G => .nx (unA i ρ) G
  | .bk ρ G => .bk (unA i ρ) G
  | .ct ρ G => .ct (unA i ρ) G
  | .rt v G => .rt v G
  | .exc _ _ _ _ => .stuck
  | .stuck => .stuck
def catchA (tab : XTab) (hs : List HdA) (c : Str) (d : XP) (ρ : En) (G : Hs) : SR := match pickH tab c hs with
  | some (some h) => outH h.i (h.m (inA h.i (.xv c d.1 d.2) ρ) G)
  | some none => .exc c d ρ G
  | none => .stuck
def mTry (tab : XTab) (mb : MS) (hs : List HdA) (mo : MS) : MS := fun ρ G => match mb ρ G with
  | .nx ρ1 G1 => mo ρ1 G1
  | .exc c d ρ1 G1 => catchA tab hs c d ρ1 G1
  | r => r
inductive SHds (bs : List Str) (X : Cx) : List ExceptHandler → List HdA → Prop
  | nil : SHds bs X [] []
  | one {x : Str} {m : MS} {b₀ : Stmt} {suite : List Stmt} {np pos' : Pos} {hds : List ExceptHandler} {l : List HdA} (hc : Names X x (hcV bs X.K x))
      (hsu : ∀ (a : Addr) (pn : List (Addr × Obj)), SSs (X.suite a pn) noW (b₀ :: suite) m) (r : SHds bs X hds l) : SHds bs X (.ExceptHandler (some (.Name x np)) none (b₀ :: suite) pos' :: hds) (⟨x, none, m⟩ :: l)
  | as {x n : Str} {i : Nat} {m : MS} {b₀ : Stmt} {suite : List Stmt} {np pos' : Pos} {hds : List ExceptHandler} {l : List HdA} (hc : Names X x (hcV bs X.K x)) (hi : X.N[i]? = some n) (hln : X.env.kindOf n = some .local)
      (hsu : ∀ (a : Addr) (pn : List (Addr × Obj)), SSs (X.suite a pn) noW (b₀ :: suite) m) (r : SHds bs X hds l) : SHds bs X (.ExceptHandler (some (.Name x np)) (some n) (b₀ :: suite) pos' :: hds) (⟨x, some i, m⟩ :: l)
def HdA.hd (bs : List Str) (K : PySem.W.Frag) (h : HdA) : Hd := ⟨hcV bs K h.c, h.i, tS K noW h.m⟩
theorem SHds.hx {bs : List Str} {X : Cx} {hds : List ExceptHandler} {l : List HdA} (h : SHds bs X hds l) : HdsX X hds (l.map (HdA.hd bs X.K)) := by
  induction h with
  | nil => exact .nil
  | one hc hsu r ih => exact .one hc hsu ih
  | as hc hi hln hsu r ih => exact .as hc hi hln hsu ih
theorem RS.in_ {K : PySem.W.Frag} {H : Hp} {μ : Mu} {ρ : En} {σ : St} (h : RS K H μ ρ σ) {i : Option Nat} {v : AV} {a : Addr} (r : RA K H μ v (.ref a)) : RS K H μ (inA i v ρ) (inN i a σ) := by
  cases i with
  | none => exact h
  | some i => exact h.set r
theorem RS.un {K : PySem.W.Frag} {H : Hp} {μ : Mu} {ρ : En} {σ : St} (h : RS K H μ ρ σ) (i : Nat) : RS K H μ (ρ.set i none) (σ.set i none) := h.unset
/-- the exception as a value -/
theorem xv_ra {K : PySem.W.Frag} {H : Hp} {μ : Mu} {G : Hs} (hG : RH K H μ G) {c : Str} {d : XP} {a : Addr} {dd : Option Addr} (na : H a = none) (hd : RD K H μ d dd) : RA K (upd H a (xo a (.ref (ga K c)) dd)) μ (.xv c d.1 d.2) (.ref a) := by
  cases dd with
  | none =>
    obtain ⟨ns, xs⟩ := d
    have e : (ns, xs) = ([], []) := hd
    cases e
    exact .xv0 upd_same (hG.nmem na)
  | some dx =>
    obtain ⟨gs, h1, h2, h3, h4⟩ := hd
    exact .xv upd_same (hG.nmem na) (by rw [upd_ne (ne_of_none h1 na)]; exact h1) h2 h3 (h4.gr (Gr.new na))
theorem out_ok {K : PySem.W.Frag} {W : WX} {D : Ends} {H : Hp} {μ : Mu} {i : Option Nat} {r : SR} (h : PoS K W D H μ (outH i r)) : PoS K noW (unN i D) H μ r := by
  cases i with
  | none =>
    cases r with
    | exc c d ρ G => exact h.elim
    | _ => exact h
  | some i =>
    cases r with
    | nx ρ G => exact fun H' μ' σ' g hG hσ => h H' μ' (σ'.set i none) g hG (hσ.un i)
    | bk ρ G => exact fun H' μ' σ' g hG hσ => h H' μ' (σ'.set i none) g hG (hσ.un i)
    | ct ρ G => exact fun H' μ' σ' g hG hσ => h H' μ' (σ'.set i none) g hG (hσ.un i)
    | rt v G => exact h
    | exc c d ρ G => exact h.elim
    | stuck => exact h
theorem catch_ok {bs : List Str} {tab : XTab} {K : PySem.W.Frag} {W : WX} {D : Ends} (hT : exTab bs tab K = true) {c : Str} {d : XP} {ρ : En} {G : Hs} {H : Hp} {μ : Mu} {σ : St} {dd : Option Addr} (hG : RH K H μ G) (hσ : RS K H μ ρ σ) (hd : RD K H μ d dd) :
    ∀ hs : List HdA, PoS K W D H μ (catchA tab hs c d ρ G) → wTry K W D (hs.map (HdA.hd bs K)) (.ref (ga K c)) dd σ H
  | [], h => h H μ σ dd (Gr.refl _ _) hG hσ hd
  | x :: r, h => by
    have look : ∀ b, tab.lookup (c, x.c) = some b → PySem.W.exmOne K (.ref (ga K c)) (hcV bs K x.c) = some b := fun b e => of_decide_eq_true (List.all_eq_true.mp hT _ (lookup_mem' e))
    unfold catchA pickH at h
    cases e : tab.lookup (c, x.c) with
    | none => rw [e] at h; exact h.elim
    | some b =>
      rw [e] at h
      refine ⟨b, look b e, fun hb a na => ?_, fun hb => ?_⟩
      · subst hb
        exact ⟨_, _, _, (hσ.gr (Gr.new na)).in_ (xv_ra hG na hd), hG.new na, (out_ok h).gr (Gr.new na)⟩
      · subst hb
        exact catch_ok hT hG hσ hd r h
section
variable {X : Cx} {W : WX} {body orelse : List Stmt} {h₀ : ExceptHandler} {hds : List ExceptHandler} {l : List HdA} {pos : Pos} {mb mo : MS} {bs : List Str} {tab : XTab}
theorem ss_try (hT : exTab bs tab X.K = true) (hs : X.stack = X.env :: X.outer) (hf : X.env.frame = some X.env.locals) (hN : X.N.Nodup) (tk : Takes X W)
    (hb : ∀ (W' : WX) (pn : List (Addr × Obj)) (xe : Value → Shared → Prop), Takes (X.tr pn xe) W' → SSs (X.tr pn xe) W' body mb)
    (hh : SHds bs X (h₀ :: hds) l) (ho : SSs X W orelse mo) : SS X W (.Try body (h₀ :: hds) orelse [] pos) (mTry tab mb l mo) := by
  refine PS.imp (ps_tryX (tb := fun W' => tS X.K W' mb) hs hf hN tk hb hh.hx ho) fun D σ H ⟨ρ, μ, G, hσ, hG, h⟩ => ⟨ρ, μ, G, hσ, hG, ?_⟩
  unfold mTry at h
  cases e : mb ρ G with
  | nx ρ1 G1 =>
    rw [e] at h
    exact fun H' μ' σ' g hG' hσ' => ⟨ρ1, μ', G1, hσ', hG', PoS.gr g h⟩
  | rt v G1 => rw [e] at h; exact h
  | bk ρ1 G1 => rw [e] at h; exact h
  | ct ρ1 G1 => rw [e] at h; exact h
  | exc c d ρ1 G1 =>
    rw [e] at h
    exact fun H' μ' σ' dd g hG' hσ' hd => catch_ok hT hG' hσ' hd l (PoS.gr g h)
  | stuck => rw [e] at h; exact h
end
section
variable {D : SP} {ρ : En} {G : Hs} {tab : XTab} {hs : List HdA} {mb mo : MS}
@[simp] theorem wp_outH (i : Option Nat) (r : SR) : (outH i r).wp D = r.wp { nx := fun ρ G => D.nx (unA i ρ) G, rt := D.rt, bk := fun ρ G => D.bk (unA i ρ) G, ct := fun ρ G => D.ct (unA i ρ) G, ex := fun _ _ _ => False } := by
  cases r <;> rfl
/-- the exceptional end of a statement, with its names -/
def SR.wpx (r : SR) (D : SP) (E : Str → XP → En → Hs → Prop) : Prop := match r with
  | .nx ρ G => D.nx ρ G
  | .rt v G => D.rt v G
  | .bk ρ G => D.bk ρ G
  | .ct ρ G => D.ct ρ G
  | .exc c d ρ G => E c d ρ G
  | .stuck => False
theorem wp_try : (mTry tab mb hs mo ρ G).wp D = (mb ρ G).wpx { D with nx := fun ρ G => (mo ρ G).wp D } (fun c d ρ G => (catchA tab hs c d ρ G).wp D) := by
  unfold mTry
  cases mb ρ G <;> rfl
@[simp] theorem wpx_seq (s1 s2 : MS) (E : Str → XP → En → Hs → Prop) : (mSeq s1 s2 ρ G).wpx D E = (s1 ρ G).wpx { D with nx := fun ρ G => (s2 ρ G).wpx D E } E := by
  unfold mSeq
  cases s1 ρ G <;> rfl
@[simp] theorem wpx_nx (E : Str → XP → En → Hs → Prop) : (mNx ρ G).wpx D E = D.nx ρ G := rfl
@[simp] theorem wpx_toS {α : Type} (r : R α) (k : α → Hs → SR) (E : Str → XP → En → Hs → Prop) : (r.toS ρ k).wpx D E = r.wp (fun v G => (k v G).wpx D E) (fun c d G => E c d ρ G) := by cases r <;> rfl
@[simp] theorem wpx_drop (m : ME) (E : Str → XP → En → Hs → Prop) : (mDrop m ρ G).wpx D E = (m ρ G).wp (fun _ G => D.nx ρ G) (fun c d G => E c d ρ G) := wpx_toS _ _ _
@[simp] theorem wpx_ret (m : ME) (E : Str → XP → En → Hs → Prop) : (mRet m ρ G).wpx D E = (m ρ G).wp (fun v G => D.rt v G) (fun c d G => E c d ρ G) := wpx_toS _ _ _
@[simp] theorem wpx_asg (m : ME) (i : Nat) (E : Str → XP → En → Hs → Prop) : (mAsg m (gNm i) ρ G).wpx D E = (m ρ G).wp (fun v G => D.nx (ρ.set i (some v)) G) (fun c d G => E c d ρ G) := wpx_toS _ _ _
theorem swpx_ite {c : Prop} [Decidable c] (a b : SR) (E : Str → XP → En → Hs → Prop) : (if c then a else b).wpx D E = if c then a.wpx D E else b.wpx D E := by split <;> rfl
@[simp] theorem wpx_if (t : MB) (s1 s2 : MS) (E : Str → XP → En → Hs → Prop) : (mIf t s1 s2 ρ G).wpx D E = (t ρ G).wp (fun k G => if k = true then (s1 ρ G).wpx D E else (s2 ρ G).wpx D E) (fun c d G => E c d ρ G) := by
  unfold mIf
  rw [wpx_toS]
  congr 1
  funext k G
  exact swpx_ite _ _ _
end
end Vz
namespace Vz
open PySem PySem.Spec L2
open PyProof.Rows (AllBare)
def XKind (bm : List Value) (n : String) : Prop := (HandSPX.refsVE bm = true ∧ n = "ValueError.__new__") ∨ (bm = ESX.exTail ∧ n = "Exception.__new__")
theorem xkB_ok {bm : List Value} {n : String} (h : xkB bm n = true) : XKind bm n := by
  unfold xkB at h
  simp only [Bool.or_eq_true, Bool.and_eq_true, decide_eq_true_eq] at h
  exact h
structure XC (K : PySem.W.Frag) (C : Addr) : Prop where
  cls : ∃ nm q N bs bm sn sub ab col dd k0 k1 k2 k3 k5 n, K.lookup C = some (excClassObj nm q C N bs bm true sn sub ab col dd k0 k1 k2 k3 k5 n) ∧ XKind bm n
  sa : PySem.W.findIn K (.ref C) "__setattr__" = some (some (.builtin "object.__setattr__"))
  exC : PySem.W.subIn K (.ref C) (.type "BaseException") = some true
  tyC : PySem.W.typeIn K (.ref C) = some (.type "type")
  kC : PySem.W.keepIn K (.ref C) = true
theorem xcB_ok {K : PySem.W.Frag} {C : Addr} (h : xcB K C = true) : ∃ nm q N bs bm sn sub ab col dd k0 k1 k2 k3 k5 n, K.lookup C = some (excClassObj nm q C N bs bm true sn sub ab col dd k0 k1 k2 k3 k5 n) ∧ XKind bm n := by
  unfold xcB at h
  split at h
  · rename_i dd cd sl lk
    split at h
    · rename_i C2 bm k0 k1 k2 k3 n k5 em es
      obtain ⟨h1, h⟩ := He.ba h
      obtain ⟨h2, h⟩ := He.ba h
      obtain ⟨h3, h4⟩ := He.ba h
      obtain ⟨nm, bs, mro, ns, qn, hd, sn, sub, ab, col, dl⟩ := cd
      cases sl with
      | mk l =>
        have e1 : C2 = C := of_decide_eq_true h1
        have e2 : dl = false := by simpa using h2
        have e3 : hd = true := h3
        simp only at em es
        subst e1 e2 e3 em es
        exact ⟨nm, qn, ns, bs, bm, sn, sub, ab, col, dd, k0, k1, k2, k3, k5, n, lk, xkB_ok h4⟩
    · cases h
  · cases h
theorem xcA_ok {K : PySem.W.Frag} {C : Addr} (h : xcA C K = true) : XC K C := by
  obtain ⟨h1, h⟩ := He.ba h
  obtain ⟨h2, h⟩ := He.ba h
  obtain ⟨h3, h⟩ := He.ba h
  obtain ⟨h4, h5⟩ := He.ba h
  exact ⟨xcB_ok h1, of_decide_eq_true h2, of_decide_eq_true h3, of_decide_eq_true h4, h5⟩
section
variable {X : Cx} {pins : List (Addr × Obj)} {σ : St} {H : Hp} {s : Shared} {a C dx : Addr} {f : Str} {y : V} {u : Value} {fs : List (Str × V)} {Q : Unit → Shared → Prop} {E : Value → Shared → Prop} {A : Around}
abbrev xcd (nm q : Str) (C N : Addr) (bs bm : List Value) (sn : List Str) (sub : List Value) (ab : Bool) (col : Option Bool) : ClassData :=
  { name := nm, bases := bs, mro := .ref C :: bm, ns := N, qualname := q, hasDict := true, slotNames := sn, subclasses := sub, abstract := ab, collection := col, hasDel := false }
theorem first_put (T : XC X.K C) (I : Inv X pins σ H s) (e : H a = some (exo a C none)) (no : PySem.W.findIn X.K (.ref C) f = some none) (ry : RelV y u)
    (h : ∀ dx t, H dx = none → dx ≠ a → Inv X pins σ (upd (upd H dx (exd dx [(f, y)])) a (exo a C (some dx))) t → Q () t) : wpAny (model X.prog X.w) A (setAttr (.ref a) f u) Q E s := by
  obtain ⟨nm, q, N, bs, bm, sn, sub, ab, col, dd, k0, k1, k2, k3, k5, n, lk, kind⟩ := T.cls
  have cl : PySem.W.clsIn X.K C = some (xcd nm q C N bs bm sn sub ab col) := by unfold PySem.W.clsIn; rw [lk] <;> rfl
  obtain ⟨t1, at1⟩ := exo_at I.hok e
  obtain ⟨hp, g, d, tk, os⟩ := s
  have end_ : ∀ (h2 : Heap) (tk2 dx : Nat), (∀ b o, b ≠ a → hp.get? b = some o → h2.get? b = some o) → hp.objs.size ≤ dx → dx ≠ a → h2.get? a = some ({ cls := .ref C, dict := some dx, data := .fields #[.ref t1, .none, .none, .none, .bool false, .none] } : Obj) →
      h2.Ns1 dx (fun z => if z = f then some u else none) → Q () ⟨h2, g, d, tk2, os⟩ := fun h2 tk2 dx keep new ne ga ns => by
    have free : H dx = none := I.hok.fresh new
    have low : ∀ {b : Addr} {o : Obj}, hp.get? b = some o → b ≠ dx := fun {b o} z => Nat.ne_of_lt (Nat.lt_of_lt_of_le (Heap.lt_size z) new)
    have off : ∀ {b : Addr}, H b = none → b ≠ a := fun {b} z w => by rw [w, e] at z; cases z
    have U : Un X.fs [] H (upd (upd H dx (exd dx [(f, y)])) a (exo a C (some dx))) hp h2 := {
      keep := fun b o z n _ _ => keep b o (off n) z
      slot := fun b o z n _ _ => ⟨o.slots, keep b o (off n) z⟩
      free := fun b o z n _ => (upd_ne (off n)).trans ((upd_ne (low z)).trans n)
      there := fun b o z _ => (Classical.em (b = a)).elim (fun w => ⟨_, w ▸ ga⟩) fun w => ⟨o, keep b o w z⟩
      tups := fun b xs z => (upd_ne (at_ne e z exo_tup)).trans ((upd_ne (ne_of_none z free)).trans z)
      frzs := fun b o v z => (upd_ne (at_ne e z exo_frz)).trans ((upd_ne (ne_of_none z free)).trans z)
      tbls := fun b ps z => ⟨#[], by rw [upd_ne (at_ne e z exo_tbl), upd_ne (ne_of_none z free), z, Array.append_empty]⟩ }
    refine h dx _ free ne (I.un (t' := tk2) U fun b o z => ?_)
    by_cases w1 : b = a
    · rw [w1, upd_same] at z
      cases z
      rw [w1]
      exact exo_ok ga
    rw [upd_ne w1] at z
    by_cases w2 : b = dx
    · rw [w2, upd_same] at z
      cases z
      rw [w2]
      exact exd_ok ns (relO_put (fs := []) ry fun _ => trivial)
    rw [upd_ne w2] at z
    refine (I.hok b o z).stay (fun c v m gt => keep c v (fun w => ?_) gt) (fun c m => ?_) fun c xs m => ?_
    · rcases m with m | m
      · exact w1 (m.symm.trans w)
      · exact at_ne e m exo_own w
    · rw [upd_ne (at_ne e m exo_own), upd_ne (ne_of_none m free)]
      exact m
    · rw [upd_ne (at_ne e m exo_tup), upd_ne (ne_of_none m free)]
      exact m
  refine PySem.W.set_plain I.kIn (ox := { cls := .ref C, dict := none, data := .fields #[.ref t1, .none, .none, .none, .bool false, .none] }) (od := none) ⟨at1, rfl, rfl, trivial⟩ T.sa ?_
  rcases kind with ⟨k, _⟩ | ⟨k, _⟩
  · exact HandSPX.exc_osa I.kIn at1 cl (show HandSPX.refsVE (.ref C :: bm) = true from k) rfl no end_
  · exact ESX.osa_new I.kIn at1 cl (congrArg (Value.ref C :: ·) k) rfl no end_
theorem next_put (T : XC X.K C) (I : Inv X pins σ H s) (e : H a = some (exo a C (some dx))) (ed : H dx = some (exd dx fs)) (hl : fs.length ≤ 900) (no : PySem.W.findIn X.K (.ref C) f = some none) (ry : RelV y u)
    (h : ∀ t, Inv X pins σ (upd H dx (exd dx ((f, y) :: fs))) t → Q () t) : wpAny (model X.prog X.w) A (setAttr (.ref a) f u) Q E s := by
  obtain ⟨nm, q, N, bs, bm, sn, sub, ab, col, dd, k0, k1, k2, k3, k5, n, lk, kind⟩ := T.cls
  have cl : PySem.W.clsIn X.K C = some (xcd nm q C N bs bm sn sub ab col) := by unfold PySem.W.clsIn; rw [lk] <;> rfl
  obtain ⟨t1, at1⟩ := exo_at I.hok e
  obtain ⟨mA, ns, rel⟩ := exd_at I.hok ed
  have win := within_of rel
  obtain ⟨hp, g, d, tk, os⟩ := s
  obtain ⟨od, _, _, atd, _, _⟩ := ns.count win
  have few : (fs.map (·.1)).length ≤ 1000 := by rw [List.length_map]; omega
  have end_ : ∀ (h2 : Heap) (tk2 : Nat), (∀ b o, b ≠ dx → hp.get? b = some o → h2.get? b = some o) → h2.Ns1 dx (fun z => if z = f then some u else mA z) → Q () ⟨h2, g, d, tk2, os⟩ := fun h2 tk2 keep ns2 => by
    have there : ∃ o, h2.get? dx = some o := let ⟨o, _, _, z, _⟩ := ns2; ⟨o, z⟩
    exact h _ (I.write (t' := tk2) (x := dx) (e := dx) (o := exd dx ((f, y) :: fs)) (by rw [ed]; trivial) (.inl rfl) keep there (exd_ok ns2 (relO_put ry rel)))
  refine PySem.W.set_plain I.kIn (ox := { cls := .ref C, dict := some dx, data := .fields #[.ref t1, .none, .none, .none, .bool false, .none] }) (od := some od) ⟨at1, rfl, rfl, atd⟩ T.sa ?_
  rcases kind with ⟨k, _⟩ | ⟨k, _⟩
  · exact OEX.osa_old I.kIn at1 ns win few cl (show HandSPX.refsVE (.ref C :: bm) = true from k) rfl no end_
  · exact ESX.osa_old I.kIn at1 ns win few cl (congrArg (Value.ref C :: ·) k) rfl no end_
end
/-- self.f = e within such an __init__ -/
def tPut (K : PySem.W.Frag) (C : Addr) (f : Str) (to te : TE) : TS := fun D σ H => te σ H fun y H1 => to σ H1 fun x H2 => ∃ a : Addr, x = .ref a ∧
  ((H2 a = some (exo a C none) ∧ ∀ dx, H2 dx = none → dx ≠ a → D.nx σ (upd (upd H2 dx (exd dx [(f, y)])) a (exo a C (some dx)))) ∨
    ∃ (dx : Addr) (fs : List (Str × V)), H2 a = some (exo a C (some dx)) ∧ H2 dx = some (exd dx fs) ∧ fs.length ≤ 900 ∧ D.nx σ (upd H2 dx (exd dx ((f, y) :: fs))))
theorem ps_put {X : Cx} {C : Addr} {o e : Expr} {to te : TE} {f : Str} {p' pos : Pos} (T : XC X.K C) (no : PySem.W.findIn X.K (.ref C) f = some none) (ho : PE X o to) (he : PE X e te) (hs : swapsWith e (some (.Attribute o f p')) pos.line X.env = pure false := by rfl) :
    PS X (.Assign [.Attribute o f p'] e pos) (tPut X.K C f to te) := by
  refine ⟨fun pins s σ H D I h => plainObj_wpAny_Assign_Attribute (thn (he.run pins s σ H _ I h) fun v s1 ⟨y, H1, I1, r1, q1⟩ => thn (ho.run pins s1 σ H1 _ I1 q1) fun z s2 ⟨x, H2, I2, r2, a, ex, q⟩ => ?_) hs⟩
  subst ex
  cases (show z = Value.ref a from r2)
  rcases q with ⟨ea, q⟩ | ⟨dx, fs, ea, ed, hl, q⟩
  · exact first_put T I2 ea no r1 fun dx t n ne J => ⟨σ, _, J, q dx n ne⟩
  · exact next_put T I2 ea ed hl no r1 fun t J => ⟨σ, _, J, q⟩
inductive OstB (X : Cx) : List Stmt → List (Str × Nat) → Prop
  | nil : OstB X [] []
  | cons {o e : Expr} {f : Str} {i : Nat} {p' pos : Pos} {body : List Stmt} {fl : List (Str × Nat)} (ho : PE X o (tVar 0)) (he : PE X e (tVar i)) (r : OstB X body fl) (hs : swapsWith e (some (.Attribute o f p')) pos.line X.env = pure false := by rfl) :
      OstB X (.Assign [.Attribute o f p'] e pos :: body) ((f, i) :: fl)
def tPuts (K : PySem.W.Frag) (C : Addr) : List (Str × Nat) → TS
  | [] => tNext
  | p :: r => tSeq (tPut K C p.1 (tVar 0) (tVar p.2)) (tPuts K C r)
theorem OstB.pss {X : Cx} {C : Addr} (T : XC X.K C) {body : List Stmt} {fl : List (Str × Nat)} (h : OstB X body fl) (no : noAt X.K C fl = true) : PSs X body (tPuts X.K C fl) := by
  induction h with
  | nil => exact pss_nil
  | cons ho he r hs ih =>
    obtain ⟨n1, n2⟩ := He.ba no
    exact pss_cons (ps_put T (of_decide_eq_true n1) ho he hs) (ih n2)
def vfs (fl : List (Str × Nat)) (vs : List V) (fs : List (Str × V)) : List (Str × V) := (fl.map fun p => (p.1, vs.getD p.2 .non)).reverse ++ fs
theorem vfs_cons {p : Str × Nat} {fl : List (Str × Nat)} {vs : List V} {fs : List (Str × V)} : vfs (p :: fl) vs fs = vfs fl vs ((p.1, vs.getD p.2 .non) :: fs) := by
  unfold vfs
  rw [List.map_cons, List.reverse_cons, List.append_assoc, List.singleton_append]
theorem start_at {N : List Str} {vs : List V} {i : Nat} (h : i < vs.length) : (start N vs)[i]? = some (some (vs.getD i .non)) := by
  unfold L2.start
  rw [List.getElem?_append_left (by simpa using h), List.getElem?_map, List.getElem?_eq_getElem h, List.getD_eq_getElem?_getD, List.getElem?_eq_getElem h]
  rfl
theorem puts_on {K : PySem.W.Frag} {C a dx : Addr} {vs : List V} {N : List Str} {D : Ends} (ne : dx ≠ a) (h0 : vs.getD 0 .non = .ref a) (hp : 0 < vs.length) : ∀ (fl : List (Str × Nat)) (fs : List (Str × V)) (H : Hp), (∀ p ∈ fl, p.2 < vs.length) → fs.length + fl.length ≤ 900 →
    H a = some (exo a C (some dx)) → H dx = some (exd dx fs) → (∀ H2, H2 = upd H dx (exd dx (vfs fl vs fs)) → D.nx (start N vs) H2) → tPuts K C fl D (start N vs) H
  | [], fs, H, _, _, ea, ed, q => q H (by funext b; by_cases e : b = dx; (· rw [e, upd_same, ed]; rfl); (· rw [upd_ne e]))
  | p :: fl, fs, H, hl, hn, ea, ed, q => by
    have hn2 : fs.length + (fl.length + 1) ≤ 900 := hn
    refine ⟨_, start_at (hl p (List.mem_cons_self ..)), _, start_at hp, a, h0, .inr ⟨dx, fs, ea, ed, by omega, ?_⟩⟩
    refine puts_on ne h0 hp fl _ _ (fun r m => hl r (List.mem_cons_of_mem _ m)) (by rw [List.length_cons]; omega) (by rw [upd_ne ne.symm]; exact ea) upd_same fun H2 e => q H2 ?_
    rw [e, upd_upd, vfs_cons]
/-- the promise of such an __init__ -/
def xsp (C : Addr) (fl : List (Str × Nat)) (n : Nat) : Sp := fun vs H Q _ => vs.length = n ∧ ∃ a, vs.getD 0 .non = .ref a ∧ H a = some (exo a C none) ∧ ∀ dx, H dx = none → dx ≠ a → Q .non (upd (upd H dx (exd dx (vfs fl vs []))) a (exo a C (some dx)))
theorem fn_x {P : Program} {w : World} {K : PySem.W.Frag} {mg : Str → Option Value} {base : Heap} {x qual : Str} {params : Arguments} {body : List Stmt} {scope : Scope} {dvs : List V} {kws : List (Str × V)} {f C : Addr} {fd : FuncData} {N ps : List Str} {k : Nat} {fl : List (Str × Nat)}
    (Fn : FunD K x qual params body scope dvs kws f fd) (S : FnScope N ps scope) (T : XC K C) (no : noAt K C fl = true) (h0 : (!fl.isEmpty && (decide (0 < ps.length) && (decide (fl.length ≤ 900) && fl.all fun p => decide (p.2 < ps.length)))) = true)
    (hb : ∀ (cdv : Value) (A : Around) (outer : List Env) (s : Shared) (H : Hp) (E : XK), OstB (cxOf (CX P w) P w K mg base N qual scope f cdv A outer s H E) body fl) :
    FnG P w K mg base (CX P w) (k + 1) f fd ps (xsp C fl ps.length) := by
  obtain ⟨b1, h0⟩ := He.ba h0
  obtain ⟨b2, h0⟩ := He.ba h0
  obtain ⟨b3, b4⟩ := He.ba h0
  refine fnG_of Fn S (fun vs H Q E h => h.1) fun cdv A outer s H vs Q E hr ⟨hl, a, e0, ea, q⟩ => ⟨_, (hb cdv A outer s H E).pss T no, ?_⟩
  cases fl with
  | nil => cases b1
  | cons p fl =>
    have hp : 0 < vs.length := by rw [hl]; exact of_decide_eq_true b2
    have h9 : fl.length + 1 ≤ 900 := of_decide_eq_true b3
    have hi : ∀ r ∈ p :: fl, r.2 < vs.length := fun r m => by rw [hl]; exact of_decide_eq_true (List.all_eq_true.mp b4 r m)
    refine ⟨_, start_at (hi p (List.mem_cons_self ..)), _, start_at hp, a, e0, .inl ⟨ea, fun dx n ne => ?_⟩⟩
    refine puts_on ne e0 hp fl [(p.1, vs.getD p.2 .non)] _ (fun r m => hi r (List.mem_cons_of_mem _ m)) (by show 0 + 1 + fl.length ≤ 900; omega) upd_same (by rw [upd_ne ne, upd_same]) fun H2 e => ?_
    have e2 : H2 = upd (upd H dx (exd dx (vfs (p :: fl) vs []))) a (exo a C (some dx)) := by
      rw [e, vfs_cons]
      funext b
      by_cases w1 : b = dx
      · rw [w1, upd_same, upd_ne ne, upd_same]
      · rw [upd_ne w1]
        by_cases w2 : b = a
        · rw [w2, upd_same, upd_same]
        · rw [upd_ne w2, upd_ne w2, upd_ne w1, upd_ne w1]
    exact e2 ▸ q dx n ne
end Vz
namespace Vz
open PySem PySem.Spec L2
open PyProof.Rows (AllBare)
section
variable {X : Cx} {W : WX} {e : Expr} {es : List Expr} {ta : TA} {ms : MEs} {x : Str} {C fI : Addr} {k : Nat} {fd : FuncData} {ps : List Str} {fl : List (Str × Nat)} {p pos : Pos}
/-- C(e, ..): what stands then -/
def tMkX (C : Addr) (fl : List (Str × Nat)) (n : Nat) (ta : TA) : St → Hp → XK → Prop := fun σ H Q => ta σ H fun vs H1 => vs.length + 1 = n ∧ n ≤ 1000 ∧ ∀ d, H1 d = none → Q (.ref C) (some d) (upd H1 d (.xd (vfs fl (.non :: vs) [])))
theorem vfs_self {vs : List V} {a : V} (h : fl.all (fun q => decide (0 < q.2)) = true) : vfs fl (a :: vs) [] = vfs fl (.non :: vs) [] := by
  unfold vfs
  congr 2
  refine List.map_congr_left fun q m => ?_
  have := of_decide_eq_true (List.all_eq_true.mp h q m)
  obtain ⟨f, i⟩ := q
  cases i with
  | zero => cases this
  | succ i => rfl
theorem pmk_x (T : XC X.K C) (iC : PySem.W.findIn X.K (.ref C) "__init__" = some (some (.ref fI))) (tI : PySem.W.typeIn X.K (.ref fI) = some (.type "function")) (F1 : FnG X.prog X.w X.K X.mg X.base (CX X.prog X.w) k fI fd ps (xsp C fl ps.length))
    (hr : Rm (k + 1) X.A) (hb : Binds X.K fd ps []) (hi : fl.all (fun q => decide (0 < q.2)) = true) (hg : Gl X x) (hm : X.mg x = some (.ref C)) (ha : PA X (e :: es) ta)
    (hdb : (x == ("__debug__" : Str)) = false := by decide) (he : starEach (e :: es) X.env = (false, eval e X.env) :: starEach es X.env := by rfl) (hpl : (backTo pos (starEach es X.env)).any (·.1) = false := by rfl) :
    PMk X (.Call (.Name x p) (e :: es) [] pos) (tMkX C fl ps.length ta) := by
  intro pins s σ H Q I h
  obtain ⟨nm, q, N, bs, bm, sn, sub, ab, col, dd, k0, k1, k2, k3, k5, n, lk, kind⟩ := T.cls
  refine wpAny_Call_Name_kw (ld_glob I hg hm ?_ hdb)
  refine PySem.W.callWith_K (h₀ := X.base) I.ok.mod.kin T.kC (thn (ha.run pos pins s σ H _ I h) fun us s1 ⟨vs, H1, I1, r1, hn, hz, q1⟩ => ⟨I1.kIn, ?_⟩) he hpl
  show wpAny _ _ (call (.ref C) us) _ _ _
  obtain ⟨hp, g, dr, tk, os⟩ := s1
  have up1 : hp.objs.size ≤ hp.objs.size + 1 := Nat.le_succ _
  have free : H1 (hp.objs.size + 1) = none := I1.hok.fresh up1
  have keep : ∀ b o, hp.get? b = some o → ((hp.push (PySem.W.kdv_tup us)).push (HandSPX.excO C hp.objs.size)).get? b = some o := fun b o z => Heap.get?_push_of_some _ (Heap.get?_push_of_some _ z)
  have new : ((hp.push (PySem.W.kdv_tup us)).push (HandSPX.excO C hp.objs.size)).get? (hp.objs.size + 1) = some (HandSPX.excO C hp.objs.size) := by heap_get
  have I2 : Inv X pins σ (upd H1 (hp.objs.size + 1) (exo (hp.objs.size + 1) C none)) ⟨(hp.push (PySem.W.kdv_tup us)).push (HandSPX.excO C hp.objs.size), g, dr, tk, os⟩ :=
    I1.laid (t' := tk) (a := hp.objs.size + 1) (o := exo (hp.objs.size + 1) C none) (h' := (hp.push (PySem.W.kdv_tup us)).push (HandSPX.excO C hp.objs.size)) keep up1 (exo_ok new)
  have r2 : Vals (V.ref (hp.objs.size + 1) :: vs) (Value.ref (hp.objs.size + 1) :: us) := .cons rfl r1
  have len : (V.ref (hp.objs.size + 1) :: vs).length = ps.length := hn
  have lenU : (Value.ref (hp.objs.size + 1) :: us).length = ps.length := r2.length.symm.trans len
  have room : us.length ≤ sizeLine := by
    have := r1.length
    rw [sizeLine_eq]
    omega
  -- what the __init__ leaves
  let End : VK := fun v H2 => v = .non ∧ ∃ d, d ≠ hp.objs.size + 1 ∧ H1 d = none ∧ H2 = upd (upd (upd H1 (hp.objs.size + 1) (exo (hp.objs.size + 1) C none)) d (exd d (vfs fl (.non :: vs) []))) (hp.objs.size + 1) (exo (hp.objs.size + 1) C (some d))
  have wish : xsp C fl ps.length (V.ref (hp.objs.size + 1) :: vs) (upd H1 (hp.objs.size + 1) (exo (hp.objs.size + 1) C none)) End (fun _ _ _ => False) :=
    ⟨len, _, rfl, upd_same, fun d n ne => ⟨rfl, d, ne, by rw [upd_ne ne] at n; exact n, by rw [vfs_self hi]⟩⟩
  have bound : BindsTo ⟨(hp.push (PySem.W.kdv_tup us)).push (HandSPX.excO C hp.objs.size), g, dr, tk, os⟩ fd ⟨Value.ref (hp.objs.size + 1) :: us, []⟩ (ps.zip (Value.ref (hp.objs.size + 1) :: us)) := by
    have := hb ⟨(hp.push (PySem.W.kdv_tup us)).push (HandSPX.excO C hp.objs.size), g, dr, tk, os⟩ (Value.ref (hp.objs.size + 1) :: us) I2.kIn (by rw [List.append_nil]; exact lenU)
    rw [List.append_nil] at this
    exact this
  have ran : codeAny (model X.prog X.w) (X.A.under (.builtin "type.__call__" ⟨.ref C :: us, []⟩)) (.call (.ref fI) ⟨.ref (hp.objs.size + 1) :: us, []⟩) (PySem.W.InitBack (hp.objs.size + 1) (fun r s' => match r with | .ok (.ret v) => MkP X pins σ Q v s' | .ok _ => False | .error er => X.xe er s'))
      ⟨(hp.push (PySem.W.kdv_tup us)).push (HandSPX.excO C hp.objs.size), g, dr, tk, os⟩ := by
    refine codeAny_mono (F1.run _ X.stack _ _ ⟨Value.ref (hp.objs.size + 1) :: us, []⟩ (Value.ref (hp.objs.size + 1) :: us) _ End (fun _ _ _ => False) (hr.make C us []) (I2.env0.make C us []) bound r2 wish) fun r s' z => ?_
    cases r with
    | error er =>
      obtain ⟨_, _, _, _, _, _, _, _, _, _, _, _, no⟩ := z
      exact no.elim
    | ok fw =>
      cases fw with
      | ret u =>
        obtain ⟨v, H2, os2, bare2, un2, hok2, rv, ev, d, ne, nd, eH⟩ := z
        subst ev
        obtain ⟨h2, g2, d2, t2, os'⟩ := s'
        have ea : H2 (hp.objs.size + 1) = some (exo (hp.objs.size + 1) C (some d)) := by rw [eH, upd_same]
        have ed : H2 d = some (exd d (vfs fl (.non :: vs) [])) := by rw [eH, upd_ne ne, upd_same]
        have eQ : upd (del H2 (hp.objs.size + 1)) d (.xd (vfs fl (.non :: vs) [])) = upd H1 d (.xd (vfs fl (.non :: vs) [])) := by
          funext b
          by_cases w1 : b = d
          · rw [w1, upd_same, upd_same]
          · rw [upd_ne w1, upd_ne w1]
            by_cases w2 : b = hp.objs.size + 1
            · rw [w2, del_same, free]
            · rw [del_ne w2, eH, upd_ne w2, upd_ne w1, upd_ne w2]
        exact ⟨rv, mk_end (raises_own T.exC T.tyC) I1 up1 keep un2 hok2 os2 bare2 ea ed nd (by rw [eQ]; exact q1 d nd)⟩
      | next => exact False.elim z
      | brk => exact False.elim z
      | cont => exact False.elim z
  refine wpAny_call ?_
  rcases kind with ⟨k, rfl⟩ | ⟨k, rfl⟩
  · exact codeAny_mono (HandSPX.call_own F.excBase_ValueError (fun Y => HandSPX.refsVE_contains Y bm k) (I1.kIn _ _ lk) (PySem.W.looks_findIn I1.kIn iC) (fun self => PySem.W.bind_fn I1.kIn self tI) room ran) fun r s' z => z
  · subst k
    exact codeAny_mono (HandSPX.call_own F.excBase_Exception (fun _ => rfl) (I1.kIn _ _ lk) (PySem.W.looks_findIn I1.kIn iC) (fun self => PySem.W.bind_fn I1.kIn self tI) room ran) fun r s' z => z
end
end Vz
namespace Vz
open PySem L2
/-- what C(e, ..) bears: field f is its i-th argument (the self counted) -/
def mkX (fl : List (Str × Nat)) (xs : List AV) : XP := ((fl.map (·.1)).reverse, (fl.map fun p => (AV.non :: xs).getD p.2 .non).reverse)
section
variable {K : PySem.W.Frag} {H : Hp} {μ : Mu}
theorem RAs.getD_ {xs : List AV} {vs : List V} (r : RAs K H μ xs vs) (i : Nat) : RA K H μ (xs.getD i .non) (vs.getD i .non) := by
  rw [List.getD_eq_getElem?_getD, List.getD_eq_getElem?_getD]
  rcases r.get? i with ⟨e1, e2⟩ | ⟨v, u, e1, e2, r⟩
  · rw [e1, e2]; exact .non
  · rw [e1, e2]; exact r
theorem fls_ra {xs : List AV} {vs : List V} (r : RAs K H μ xs vs) : ∀ fl : List (Str × Nat), RAs K H μ (fl.map fun p => xs.getD p.2 .non) (fl.map fun p => vs.getD p.2 .non)
  | [] => .nil
  | p :: fl => .cons (r.getD_ p.2) (fls_ra r fl)
theorem mkX_rd {G : Hs} {xs : List AV} {vs : List V} {fl : List (Str × Nat)} {d : Addr} (hG : RH K H μ G) (r : RAs K H μ xs vs) (n : H d = none) : RD K (upd H d (.xd (vfs fl (.non :: vs) []))) μ (mkX fl xs) (some d) := by
  refine ⟨_, upd_same, hG.nmem n, ?_, ?_⟩
  · simp only [mkX, vfs, List.append_nil, List.map_reverse, List.map_map]
    rfl
  · have := ((fls_ra (RAs.cons .non r) fl).rev).gr (Gr.new (ho := .xd (vfs fl (.non :: vs) [])) n)
    simp only [mkX, vfs, List.append_nil, List.map_reverse, List.map_map] at this ⊢
    exact this
end
/-- an own exception class with its own __init__ -/
structure Xk (P : Program) (w : World) (K : PySem.W.Frag) (mg : Str → Option Value) (base : Heap) (k : Nat) (cn : Str) (n : Nat) (fl : List (Str × Nat)) : Prop where
  at_ : mg cn = some (.ref (ga K cn))
  xc : XC K (ga K cn)
  ini : PySem.W.findIn K (.ref (ga K cn)) "__init__" = some (some (.ref (He.ma K (ga K cn) "__init__")))
  tin : PySem.W.typeIn K (.ref (He.ma K (ga K cn) "__init__")) = some (.type "function")
  ok : fl.all (fun q => decide (0 < q.2)) = true
  ex : ∃ fd ps, ps.length = n ∧ FnG P w K mg base (CX P w) k (He.ma K (ga K cn) "__init__") fd ps (xsp (ga K cn) fl ps.length) ∧ Binds K fd ps []
theorem xiB_ok {cn : Str} {K : PySem.W.Frag} (h : xiB cn K = true) : XC K (ga K cn) ∧ PySem.W.findIn K (.ref (ga K cn)) "__init__" = some (some (.ref (He.ma K (ga K cn) "__init__"))) ∧ PySem.W.typeIn K (.ref (He.ma K (ga K cn) "__init__")) = some (.type "function") := by
  obtain ⟨h1, h⟩ := He.ba h
  obtain ⟨h2, h3⟩ := He.ba h
  exact ⟨xcA_ok h1, of_decide_eq_true h2, of_decide_eq_true h3⟩
theorem xk_mk {P : Program} {w : World} {K : PySem.W.Frag} {mg : Str → Option Value} {base : Heap} {cn qual x : Str} {params : Arguments} {body : List Stmt} {scope : Scope} {fd : FuncData} {N ps : List Str} {k : Nat} {fl : List (Str × Nat)}
    (hat : mg cn = some (.ref (ga K cn))) (hx : XC K (ga K cn) ∧ PySem.W.findIn K (.ref (ga K cn)) "__init__" = some (some (.ref (He.ma K (ga K cn) "__init__"))) ∧ PySem.W.typeIn K (.ref (He.ma K (ga K cn) "__init__")) = some (.type "function"))
    (no : noAt K (ga K cn) fl = true) (Fn : FunD K x qual params body scope [] [] (He.ma K (ga K cn) "__init__") fd) (S : FnScope N ps scope)
    (h0 : (!fl.isEmpty && (decide (0 < ps.length) && (decide (fl.length ≤ 900) && fl.all fun p => decide (p.2 < ps.length)))) = true) (h1 : fl.all (fun q => decide (0 < q.2)) = true)
    (hb : ∀ (cdv : Value) (A : Around) (outer : List Env) (s : Shared) (H : Hp) (E : XK), OstB (cxOf (CX P w) P w K mg base N qual scope (He.ma K (ga K cn) "__init__") cdv A outer s H E) body fl)
    (hbind : ∀ (kV doc pm : Value) (an : Option Addr) (cdv ct : Value) (us : List Value), us.length = ps.length → bindArgs (PySem.W.fnOf x qual params body scope .none kV doc pm an cdv ct) ⟨us, []⟩ = pure (ps.zip us)) :
    Xk P w K mg base (k + 1) cn ps.length fl :=
  ⟨hat, hx.1, hx.2.1, hx.2.2, h1, fd, ps, rfl, fn_x Fn S hx.1 no h0 hb, Fn.bindsN hbind⟩
def mRaise (cn : Str) (fl : List (Str × Nat)) (n : Nat) (ms : MEs) : MS := fun ρ G => (ms ρ G).toS ρ fun xs G1 => if xs.length + 1 = n ∧ n ≤ 1000 then .exc cn (mkX fl xs) ρ G1 else .stuck
def mRaise0 (cn : Str) : MS := fun ρ G => .exc cn ([], []) ρ G
def mMkx (cn : Str) (fl : List (Str × Nat)) (n : Nat) (ms : MEs) : ME := fun ρ G => (ms ρ G).bind fun xs G1 => if xs.length + 1 = n ∧ n ≤ 1000 then .ok (.xv cn (mkX fl xs).1 (mkX fl xs).2) G1 else .stuck
def mMkx0 (cn : Str) : ME := fun ρ G => .ok (.xv cn [] []) G
section
variable {X : Cx} {W : WX} {e : Expr} {es : List Expr} {ms : MEs} {m : ME} {x : Str} {k n : Nat} {fl : List (Str × Nat)} {p pos pos' : Pos}
theorem tMkX_go {σ : St} {H : Hp} {Q : XK} (h : tG X.K (rAs X.K) W (fun ρ G => (ms ρ G)) σ H fun vs H1 => vs.length + 1 = n ∧ n ≤ 1000 ∧ ∀ d, H1 d = none → Q (.ref (ga X.K x)) (some d) (upd H1 d (.xd (vfs fl (.non :: vs) [])))) : tMkX (ga X.K x) fl n (tG X.K (rAs X.K) W ms) σ H Q := h
theorem ss_raise (D : Xk X.prog X.w X.K X.mg X.base k x n fl) (hr : Rm (k + 1) X.A) (hc : X.calm = true) (tk : Takes X W) (hg : Gl X x) (ha : SA X W (e :: es) ms) (hdb : (x == ("__debug__" : Str)) = false := by decide)
    (he : starEach (e :: es) X.env = (false, eval e X.env) :: starEach es X.env := by rfl) (hpl : (backTo pos (starEach es X.env)).any (·.1) = false := by rfl) : SS X W (.Raise (some (.Call (.Name x p) (e :: es) [] pos)) none pos') (mRaise x fl n ms) := by
  obtain ⟨fd, ps, hn, F1, hb⟩ := D.ex
  refine PS.imp (ps_raise hc tk (pmk_x D.xc D.ini D.tin F1 hr hb D.ok hg D.at_ ha hdb he hpl)) fun De σ H ⟨ρ, μ, G, hσ, hG, h⟩ => tMkX_go ?_
  refine tG.toS hσ hG h fun xs G1 H1 μ1 vs g1 hσ1 hG1 rs h1 => ?_
  by_cases hl : xs.length + 1 = n ∧ n ≤ 1000
  · rw [if_pos hl] at h1
    refine ⟨by rw [← rs.length, hn]; exact hl.1, by rw [hn]; exact hl.2, fun d nd => ?_⟩
    exact h1 _ μ1 σ (some d) (Gr.new nd) (hG1.new nd) (hσ1.gr (Gr.new nd)) (mkX_rd hG1 rs nd)
  · rw [if_neg hl] at h1
    exact h1.elim
/-- e.f, e a tracked exception -/
def tXfd (K : PySem.W.Frag) (f : Str) (te : TE) : TE := fun σ H Q => te σ H fun x H1 => ∃ (a : Addr) (c : Str) (dx : Addr) (gs : List (Str × V)) (v : V), x = .ref a ∧ H1 a = some (xo a (.ref (ga K c)) (some dx)) ∧ H1 dx = some (.xd gs) ∧ xcOk c K = true ∧ PySem.W.findIn K (.ref (ga K c)) f = some none ∧ gs.lookup f = some v ∧ Q v H1
theorem pe_xfd {te : TE} {f : Str} (he : PE X e te) (hb : attributeBase e f X.env (eval e X.env) = eval e X.env := by rfl) : PE X (.Attribute e f pos) (tXfd X.K f te) := by
  refine ⟨fun pins s σ H Q I h => attr_of hb (thn (he.run pins s σ H _ I h) fun u s1 ⟨x, H1, I1, rx, a, c, dx, gs, v, ex, ea, ed, ok, no, l, q⟩ => ?_)⟩
  subst ex
  cases (show u = Value.ref a from rx)
  have C := xcOk_ok ok
  obtain ⟨oe, vs, ha, hz, hf⟩ := xo_at I1.hok ea
  obtain ⟨mA, ns, rel⟩ := (I1.hok dx _ ed : ObjOk X.prog X.w H1 s1.heap dx (.xd gs))
  obtain ⟨od, ho, hl⟩ := lookIn_ns ns
  obtain ⟨u, hu, ru⟩ := RelO.some_of (v := v) (o := mA f) (by rw [← l]; exact rel f)
  have J : PySem.W.InstAt s1.heap a oe (ga X.K c) (some od) := ⟨ha, hz.1, by unfold PySem.W.notCls; rw [hf] <;> rfl, by rw [hz.2]; exact ho⟩
  exact HandSPX.exc_get I1.kIn J C.hga C.hgt C.hs (PySem.W.findObj_own C.hd no rfl (by rw [hl, hu])) (handed_of ru) ⟨v, H1, I1.tok _, ru, q⟩
def fXfd (cs : List Str) (f : Str) : AV → Hs → R AV
  | .xv c ns xs, G => if c ∈ cs then match (ns.zip xs).lookup f with
    | some v => .ok v G
    | none => .stuck
    else .stuck
  | _, _ => .stuck
theorem rf_zip {K : PySem.W.Frag} {H : Hp} {μ : Mu} : ∀ {xs : List AV} {gs : List (Str × V)}, RAs K H μ xs (gs.map (·.2)) → RF K H μ ((gs.map (·.1)).zip xs) gs := fun {xs gs} r => by
  have hl : xs.length = gs.length := by rw [r.length, List.length_map]
  have e1 : ((gs.map (·.1)).zip xs).map (·.1) = gs.map (·.1) := List.map_fst_zip (by simp [hl])
  have e2 : ((gs.map (·.1)).zip xs).map (·.2) = xs := List.map_snd_zip (by simp [hl])
  exact ⟨e1, by rw [e2]; exact r⟩
theorem xfd_go {cs : List Str} {f : Str} (hc : (cs.all fun c => xfOk f c X.K) = true) {σ : St} {H : Hp} {Q : VK} (h : tG X.K (rA X.K) W (m1 (fXfd cs f) m) σ H Q) : tXfd X.K f (tG X.K (rA X.K) W m) σ H Q := by
  obtain ⟨ρ, μ, G, hσ, hG, h⟩ := h
  refine tG.bind hσ hG h fun v G1 H1 μ1 x g1 hσ1 hG1 r h1 => ?_
  cases r with
  | @xv a dx c ns gs xs h3 _ h4 _ en rs =>
    subst en
    simp only [fXfd] at h1
    by_cases hm : c ∈ cs
    · rw [if_pos hm] at h1
      cases e : ((gs.map (·.1)).zip xs).lookup f with
      | none => rw [e] at h1; exact h1.elim
      | some v =>
        rw [e] at h1
        obtain ⟨z, hz, rz⟩ := (rf_zip rs).look e
        obtain ⟨k1, k2⟩ := He.ba (List.all_eq_true.mp hc c hm)
        exact ⟨_, c, dx, gs, z, rfl, h3, h4, k1, of_decide_eq_true k2, hz, Po.now (v := v) h1 hG1 rz⟩
    · rw [if_neg hm] at h1
      exact h1.elim
  | @xv0 a c _ _ =>
    simp only [fXfd] at h1
    by_cases hm : c ∈ cs
    · rw [if_pos hm] at h1; exact h1.elim
    · rw [if_neg hm] at h1; exact h1.elim
  | _ => exact h1.elim
theorem se_xfd {f : Str} (cs : List Str) (hc : (cs.all fun c => xfOk f c X.K) = true) (ha : SE X W e m) (hb : attributeBase e f X.env (eval e X.env) = eval e X.env) : SE X W (.Attribute e f pos) (m1 (fXfd cs f) m) :=
  PE.imp (pe_xfd ha hb) fun σ H Q h => xfd_go hc h
end
section
variable {QV : AV → Hs → Prop} {E : XQ} {D : SP} {ρ : En} {G : Hs}
@[simp] theorem wp_raise (cn : Str) (fl : List (Str × Nat)) (n : Nat) (ms : MEs) : (mRaise cn fl n ms ρ G).wp D = (ms ρ G).wp (fun xs G => (xs.length + 1 = n ∧ n ≤ 1000) ∧ D.ex cn (mkX fl xs) G) D.ex := by
  unfold mRaise
  rw [wp_toS]
  congr 1
  funext xs G
  by_cases h : xs.length + 1 = n ∧ n ≤ 1000
  · rw [if_pos h]; exact propext ⟨fun x => ⟨h, x⟩, fun x => x.2⟩
  · rw [if_neg h]; exact propext ⟨fun x => x.elim, fun x => (h x.1).elim⟩
@[simp] theorem wpx_raise (cn : Str) (fl : List (Str × Nat)) (n : Nat) (ms : MEs) (Ex : Str → XP → En → Hs → Prop) : (mRaise cn fl n ms ρ G).wpx D Ex = (ms ρ G).wp (fun xs G => (xs.length + 1 = n ∧ n ≤ 1000) ∧ Ex cn (mkX fl xs) ρ G) (fun c d G => Ex c d ρ G) := by
  unfold mRaise
  rw [wpx_toS]
  congr 1
  funext xs G
  by_cases h : xs.length + 1 = n ∧ n ≤ 1000
  · rw [if_pos h]; exact propext ⟨fun x => ⟨h, x⟩, fun x => x.2⟩
  · rw [if_neg h]; exact propext ⟨fun x => x.elim, fun x => (h x.1).elim⟩
@[simp] theorem wp_raise0 (cn : Str) : (mRaise0 cn ρ G).wp D = D.ex cn ([], []) G := rfl
@[simp] theorem wpx_raise0 (cn : Str) (Ex : Str → XP → En → Hs → Prop) : (mRaise0 cn ρ G).wpx D Ex = Ex cn ([], []) ρ G := rfl
@[simp] theorem wp_mkx (cn : Str) (fl : List (Str × Nat)) (n : Nat) (ms : MEs) : (mMkx cn fl n ms ρ G).wp QV E = (ms ρ G).wp (fun xs G => (xs.length + 1 = n ∧ n ≤ 1000) ∧ QV (.xv cn (mkX fl xs).1 (mkX fl xs).2) G) E := by
  unfold mMkx
  rw [wp_bind]
  congr 1
  funext xs G
  exact wp_guard _
@[simp] theorem wp_mkx0 (cn : Str) : (mMkx0 cn ρ G).wp QV E = QV (.xv cn [] []) G := rfl
end
end Vz
namespace Vz
open PySem L2
theorem names_own {X : Cx} {bs : List Str} {x : Str} (hg : Gl X x) (hm : X.mg x = some (.ref (ga X.K x))) (hn : decide (x ∈ bs) = false) (hd : (x == ("__debug__" : Str)) = false) : Names X x (hcV bs X.K x) := by
  unfold hcV
  rw [if_neg (of_decide_eq_false hn)]
  exact ⟨hg, hd, .inl hm⟩
end Vz
namespace Vz
open PySem L2
end Vz
namespace Vz
open PySem L2
end Vz
namespace Vz
open PySem L2
section
variable {QV : AV → Hs → Prop} {E : XQ} {G : Hs} {ρ : En} {D : SP}
theorem wp_par3 {i j l : Nat} {ms : MEs} : (mPar3 i j l ms ρ G).wp D = (ms ρ G).wp (fun vs G => match vs with
    | [u, v, w] => D.nx (((ρ.set i (some u)).set j (some v)).set l (some w)) G
    | _ => False) D.ex := by
  unfold mPar3
  rw [wp_toS]
  congr 1
  funext vs G
  match vs with
  | [] => rfl
  | [_] => rfl
  | [_, _] => rfl
  | [_, _, _] => rfl
  | _ :: _ :: _ :: _ :: _ => rfl
end
end Vz
namespace Vz
open PySem L2
/-- closed data, so deep at most -/
def DaD (k : Nat) (v : AV) (d : PyData) : Prop := (∀ G n, dat (n + k) G v = some d) ∧ d.canLay0 = true ∧ d.depth ≤ k
def Da (k : Nat) (v : AV) : Prop := ∃ d, DaD k v d
theorem DaD.mono {k j : Nat} {v : AV} {d : PyData} (h : DaD k v d) (l : k ≤ j) : DaD j v d := by
  obtain ⟨h1, h2, h3⟩ := h
  refine ⟨fun G n => ?_, h2, by omega⟩
  have := h1 G (n + (j - k))
  rw [show n + (j - k) + k = n + j by omega] at this
  exact this
theorem Da.mono {k j : Nat} {v : AV} (h : Da k v) (l : k ≤ j) : Da j v := let ⟨d, h⟩ := h; ⟨d, h.mono l⟩
theorem daD_int (i : Int) : DaD 1 (.int i) (.int i) := ⟨fun _ _ => rfl, by simp [PyData.canLay0], by simp [PyData.depth]⟩
theorem daD_bl (i : Bool) : DaD 1 (.bl i) (.bool i) := ⟨fun _ _ => rfl, by simp [PyData.canLay0], by simp [PyData.depth]⟩
theorem daD_non : DaD 1 .non .none := ⟨fun _ _ => rfl, by simp [PyData.canLay0], by simp [PyData.depth]⟩
theorem daD_str {s : Str} (h : (PyData.str s).canLay0 = true) : DaD 1 (.str s) (.str s) := ⟨fun _ _ => rfl, h, by simp [PyData.depth]⟩
theorem da_int (i : Int) : Da 1 (.int i) := ⟨_, daD_int i⟩
theorem da_bl (i : Bool) : Da 1 (.bl i) := ⟨_, daD_bl i⟩
theorem da_non : Da 1 .non := ⟨_, daD_non⟩
theorem da_str {s : Str} (h : (PyData.str s).canLay0 = true) : Da 1 (.str s) := ⟨_, daD_str h⟩
inductive DaDs (k : Nat) : List AV → List PyData → Prop
  | nil : DaDs k [] []
  | cons {v : AV} {d : PyData} {vs : List AV} {ds : List PyData} (h : DaD k v d) (r : DaDs k vs ds) : DaDs k (v :: vs) (d :: ds)
theorem DaDs.get {k : Nat} {vs : List AV} {ds : List PyData} (h : DaDs k vs ds) : (∀ G n, allS (vs.map (dat (n + k) G)) = some ds) ∧ PyData.canLayAll0 ds = true ∧ PyData.depthAll ds ≤ k := by
  induction h with
  | nil => exact ⟨fun _ _ => rfl, rfl, by simp [PyData.depthAll]⟩
  | @cons v d vs ds h r ih =>
    obtain ⟨h1, h2, h3⟩ := h
    obtain ⟨i1, i2, i3⟩ := ih
    have hd : PyData.depthAll (d :: ds) = max d.depth (PyData.depthAll ds) := by simp [PyData.depthAll]
    exact ⟨fun G n => by simp only [List.map_cons, allS, h1 G n, i1 G n], by rw [PyData.canLayAll0, h2, i2]; rfl, by rw [hd]; omega⟩
theorem daD_tup {k : Nat} {vs : List AV} {ds : List PyData} (h : DaDs k vs ds) : DaD (k + 1) (.tup vs) (.tuple ds) := by
  obtain ⟨h1, h2, h3⟩ := h.get
  refine ⟨fun G n => ?_, by rw [PyData.canLay0]; exact h2, by rw [PyData.depth]; omega⟩
  show dat ((n + k) + 1) G (.tup vs) = _
  simp only [dat, h1 G n]
theorem daD_ls {k : Nat} {vs : List AV} {ds : List PyData} (h : DaDs k vs ds) : DaD (k + 1) (.ls vs) (.list ds) := by
  obtain ⟨h1, h2, h3⟩ := h.get
  refine ⟨fun G n => ?_, by rw [PyData.canLay0]; exact h2, by rw [PyData.depth]; omega⟩
  show dat ((n + k) + 1) G (.ls vs) = _
  simp only [dat, h1 G n]
theorem das_of {k : Nat} : ∀ {vs : List AV}, (∀ v ∈ vs, Da k v) → ∃ ds, DaDs k vs ds
  | [], _ => ⟨[], .nil⟩
  | v :: vs, h => by
    obtain ⟨d, hd⟩ := h v (List.mem_cons_self ..)
    obtain ⟨ds, hs⟩ := das_of (vs := vs) fun w hw => h w (List.mem_cons_of_mem _ hw)
    exact ⟨d :: ds, .cons hd hs⟩
theorem da_tup {k : Nat} {vs : List AV} (h : ∀ v ∈ vs, Da k v) : Da (k + 1) (.tup vs) := let ⟨_, h⟩ := das_of h; ⟨_, daD_tup h⟩
theorem DaD.shaped {k : Nat} {v : AV} {d : PyData} (h : DaD k v d) (l : k ≤ 60) : SeqAt.shaped d = true := by
  unfold SeqAt.shaped
  rw [h.2.1, decide_eq_true (by have := h.2.2; omega : d.depth ≤ 64)]
  rfl
theorem DaD.at12 {k : Nat} {v : AV} {d : PyData} (h : DaD k v d) (l : k ≤ 12) (G : Hs) : dat 12 G v = some d := by
  have := h.1 G (12 - k)
  rw [show 12 - k + k = 12 by omega] at this
  exact this
section
variable {QV : AV → Hs → Prop} {E : XQ} {G : Hs} {ρ : En} {k : Nat} {v w : AV}
theorem eqF_da {j : Nat} {d e : PyData} (h : DaD k v d) (h2 : DaD j w e) (l : k ≤ 12) (l2 : j ≤ 12) : eqF G v w = some (PyData.eqv d e) := by
  unfold eqF
  rw [h.at12 l, h2.at12 l2]
  simp only
  rw [if_pos ⟨h.shaped (by omega), h2.shaped (by omega)⟩]
theorem eqB_refl (h : Da k v) (l : k ≤ 12) : eqB G v v = some true := by
  obtain ⟨d, h⟩ := h
  have e : eqF G v v = some true := by rw [eqF_da h h l l, SeqAt.eqv_refl d h.2.1]
  cases v with
  | int i => show some (decide (i = i)) = _; rw [decide_eq_true rfl]
  | str i => show some (decide (i = i)) = _; rw [decide_eq_true rfl]
  | bl i => show some (decide (i = i)) = _; rw [decide_eq_true rfl]
  | non => rfl
  | _ => exact e
theorem ne_refl (h : Da k v) (l : k ≤ 12) : (fNe v v G).wp QV E = QV (.bl false) G := by
  unfold fNe
  rw [eqB_refl h l]
  rfl
theorem eq_of_wp {α : Type} {r : R α} {v : α} {G : Hs} (h : r.wp (fun v' G' => v' = v ∧ G' = G) noX) : r = .ok v G := by
  obtain ⟨v', G', e, rfl, rfl⟩ := h.ex
  exact e
theorem wp_forX {mi : MI} {g : MG} {body : MS} (h : (mi ρ G).wp (fun k G1 => k.2 = none ∧ ∃ I : Nat → En → Hs → Prop, I 0 ρ G1 ∧
      (∀ (j : Nat) v ρ' G', k.1[j]? = some v → I j ρ' G' → MG.wp (g v ρ' G') { D with nx := fun ρ1 G1 => (body ρ1 G1).wp { nx := I (j + 1), rt := D.rt, bk := D.nx, ct := I (j + 1), ex := D.ex } }) ∧ ∀ ρ' G', I k.1.length ρ' G' → D.nx ρ' G') D.ex) : (mFor mi g body ρ G).wp D := by
  unfold mFor
  rw [wp_toS]
  refine h.mono (fun k G1 ⟨e, I, h0, hs, he⟩ => ?_) fun _ _ _ z => z
  obtain ⟨vs, gd⟩ := k
  have e : gd = none := e
  subst e
  refine wp_forF I vs 0 ρ G1 h0 (fun _ _ _ _ _ _ => True.intro) (fun j v ρ' G' e h => ?_) fun ρ' G' h => he ρ' G' (by rw [Nat.zero_add] at h; exact h)
  rw [Nat.zero_add] at h ⊢
  exact hs j v ρ' G' e h
/-- for x in range(m) -/
theorem wp_forRX {m : ME} {x : Nat} {body : MS} (h : (m ρ G).wp (fun v G1 => ∃ n : Int, v = .int n ∧ (-(2 ^ 62) ≤ n ∧ n < 2 ^ 62) ∧ ∃ I : Nat → En → Hs → Prop, I 0 ρ G1 ∧
      (∀ (j : Nat) ρ' G', (j : Int) < n → I j ρ' G' → (body (ρ'.set x (some (.int (j : Nat)))) G').wp { nx := I (j + 1), rt := D.rt, bk := D.nx, ct := I (j + 1), ex := D.ex }) ∧ ∀ ρ' G', I n.toNat ρ' G' → D.nx ρ' G') D.ex) :
    (mFor (mRg1 m) (gNm x) body ρ G).wp D := by
  refine wp_forX ?_
  rw [wp_rg1]
  refine h.mono (fun v G1 ⟨n, e, hb, I, h0, hs, he⟩ => ?_) fun _ _ _ z => z
  subst e
  refine ⟨hb, rfl, I, h0, fun j v ρ' G' e h => ?_, fun ρ' G' h => he ρ' G' ?_⟩
  · obtain ⟨rfl, hj⟩ := rgA_get e
    rw [mg_nm, Int.zero_add]
    exact hs j ρ' G' (by omega) h
  · have e2 : (rgA 0 n).length = n.toNat := by rw [rgA_len]; simp
    rw [← e2]
    exact h
theorem wp_gT2 {i j : Nat} {v w : AV} : MG.wp (gTp 2 (gCo (gNm i) (gCo (gNm j) gNi)) (.tup [v, w]) ρ G) D = D.nx ((ρ.set i (some v)).set j (some w)) G := rfl
theorem catch_yes {tab : XTab} {c x : Str} {d : XP} {i : Option Nat} {m : MS} {hs : List HdA} (h : tab.lookup (c, x) = some true) : catchA tab (⟨x, i, m⟩ :: hs) c d ρ G = outH i (m (inA i (.xv c d.1 d.2) ρ) G) := by
  unfold catchA pickH
  simp only [h]
end
end Vz
namespace Vz
open PySem PySem.Spec L2 PyProof.Rows
end Vz
namespace Vz
open PySem PySem.Spec L2
open PyProof.Rows (AllBare)
def kwx {α : Type} (π : List Nat) (ws : List α) : List α := π.filterMap fun j => ws[j]?
section
variable {X : Cx} {W : WX} {kws : List Keyword} {tk : TA} {mk : MEs} {x : Str} {C fI : Addr} {k n m : Nat} {fd : FuncData} {ps ks : List Str} {fl : List (Str × Nat)} {π : List Nat} {p pos : Pos}
def mMkxK (cn : Str) (fl : List (Str × Nat)) (n m : Nat) (π : List Nat) (mk : MEs) : ME := fun ρ G => (mk ρ G).bind fun ys G1 => if ys.length = m ∧ (kwx π ys).length + 1 = n ∧ n ≤ 1000 then .ok (.xv cn (mkX fl (kwx π ys)).1 (mkX fl (kwx π ys)).2) G1 else .stuck
def mRaiseK (cn : Str) (fl : List (Str × Nat)) (n m : Nat) (π : List Nat) (mk : MEs) : MS := fun ρ G => (mk ρ G).toS ρ fun ys G1 => if ys.length = m ∧ (kwx π ys).length + 1 = n ∧ n ≤ 1000 then .exc cn (mkX fl (kwx π ys)) ρ G1 else .stuck
end
section
variable {QV : AV → Hs → Prop} {E : XQ} {D : SP} {ρ : En} {G : Hs}
@[simp] theorem wp_mkxK (cn : Str) (fl : List (Str × Nat)) (n m : Nat) (π : List Nat) (mk : MEs) : (mMkxK cn fl n m π mk ρ G).wp QV E = (mk ρ G).wp (fun ys G => (ys.length = m ∧ (kwx π ys).length + 1 = n ∧ n ≤ 1000) ∧ QV (.xv cn (mkX fl (kwx π ys)).1 (mkX fl (kwx π ys)).2) G) E := by
  unfold mMkxK
  rw [wp_bind]
  congr 1
  funext xs G
  exact wp_guard _
@[simp] theorem wp_raiseK (cn : Str) (fl : List (Str × Nat)) (n m : Nat) (π : List Nat) (mk : MEs) : (mRaiseK cn fl n m π mk ρ G).wp D = (mk ρ G).wp (fun ys G => (ys.length = m ∧ (kwx π ys).length + 1 = n ∧ n ≤ 1000) ∧ D.ex cn (mkX fl (kwx π ys)) G) D.ex := by
  unfold mRaiseK
  rw [wp_toS]
  congr 1
  funext ys G
  by_cases h : ys.length = m ∧ (kwx π ys).length + 1 = n ∧ n ≤ 1000
  · rw [if_pos h]; exact propext ⟨fun x => ⟨h, x⟩, fun x => x.2⟩
  · rw [if_neg h]; exact propext ⟨fun x => x.elim, fun x => (h x.1).elim⟩
end
end Vz
namespace Vz
open PySem PySem.Spec L2
def tyV (K : PySem.W.Frag) (cn : Str) : Option String → Value
  | some T => .type T
  | none => .ref (ga K cn)
end Vz
namespace Vz
open PySem PySem.Spec L2
open PyProof.Rows (IsTup Subscript_ tail_any tupleItemsOf_ subscriptTail)
theorem fmap_congr {α β : Type} {f g : α → Option β} : ∀ {l : List α}, (∀ x ∈ l, f x = g x) → l.filterMap f = l.filterMap g
  | [], _ => rfl
  | x :: l, h => by rw [List.filterMap_cons, List.filterMap_cons, h x (List.mem_cons_self ..), fmap_congr fun y hy => h y (List.mem_cons_of_mem _ hy)]
section
variable {prog : Program} {w : World} {A : Around} {E : Value → Shared → Prop} {s : Shared}
theorem back_pick (items : Array Value) : (List.range items.size).filterMap (fun k : Nat => items[(((items.size : Int) - 1) + (k : Int) * (-1)).toNat]?) = items.toList.reverse := by
  have e := PySem.W.krv_pick items
  unfold slicePick at e
  rw [PySem.W.krv_bounds] at e
  have e2 : ((sliceRange ((items.size : Int) - 1) (-1) (-1)).filterMap (items[·]?)) = items.toList.reverse := by
    have := congrArg Array.toList e
    simpa using this
  rw [← e2, PySem.W.krv_sliceRange, List.filterMap_map]
  refine fmap_congr fun k hk => ?_
  have := List.mem_range.mp hk
  show items[_]? = items[items.size - 1 - k]?
  congr 1
  omega
theorem back_places (n : Nat) : Builtin.Slice.slicePlaces ((n : Int) - 1) (-1) (-1) = n := by
  unfold Builtin.Slice.slicePlaces
  rw [if_neg (by decide)]
  by_cases h : (n : Int) - 1 > -1
  · rw [if_pos h, show (-(-1) : Int) = 1 from rfl, Int.ediv_one]
    omega
  · rw [if_neg h]
    omega
theorem back_applied {sl : Addr} {vs : Value} {n : Nat} {Q : Int × Int × Nat → Shared → Prop} (hs : s.heap.IsSliceOf sl .none .none vs) (ps : IsPart vs (some (-1)))
    (h : Q ((n : Int) - 1, -1, n) s) : wpAny (model prog w) A (Builtin.Slice.sliceApplied (.ref sl) (pure (n : Int))) Q E s := by
  obtain ⟨os, hos, hcs, hds⟩ := id hs
  unfold Builtin.Slice.sliceApplied Builtin.Slice.sliceFields
  refine wpAny_bind (wpAny_bind (wpAny_field hos hds (x := .none) rfl (wpAny_bind (wpAny_field hos hds (x := .none) rfl (wpAny_bind (wpAny_field hos hds (x := vs) rfl (wpAny_pure ?_)))))))
  refine wpAny_bind (HT.slicePart_ ps ?_)
  show wpAny _ _ (if ((-1 : Int) == 0) = true then _ else _) _ _ s
  rw [if_neg (by decide)]
  refine wpAny_bind (HT.slicePart_ .none (wpAny_bind (HT.slicePart_ .none (wpAny_bind (wpAny_pure ?_)))))
  have e : Builtin.Slice.sliceAdjust none none (-1) (n : Int) = ((n : Int) - 1, -1) := rfl
  show wpAny _ _ (match Builtin.Slice.sliceAdjust none none (-1) (n : Int) with | (lo, hi) => pure (lo, (-1 : Int), Builtin.Slice.slicePlaces lo hi (-1))) _ _ s
  rw [e]
  show wpAny _ _ (pure ((n : Int) - 1, (-1 : Int), Builtin.Slice.slicePlaces ((n : Int) - 1) (-1) (-1))) _ _ s
  rw [back_places]
  exact wpAny_pure h
theorem back_item {t sl : Addr} {items : Array Value} {vs : Value} {Q : Value → Shared → Prop} (ht : IsTup s.heap t items) (hs : s.heap.IsSliceOf sl .none .none vs) (ps : IsPart vs (some (-1))) (hz : items.size ≤ sizeLine)
    (h : Q (.ref s.heap.objs.size) { s with heap := s.heap.push { cls := .type "tuple", data := .seq items.toList.reverse.toArray } }) : wpAny (model prog w) A (getItem (.ref t) (.ref sl)) Q E s := by
  obtain ⟨os, hos, hcs, hds⟩ := id hs
  have tS : s.TypeIs (.ref sl) "slice" := ⟨os, hos, hcs⟩
  have room : sizeOk (.seq items.toList.reverse.toArray) := by
    show items.toList.reverse.toArray.size ≤ sizeLine
    rw [List.size_toArray, List.length_reverse, Array.length_toList]
    exact hz
  unfold getItem
  try with_reducible refine wpAny_holding ?_
  first | refine wpAny_bind (wpAny_pure ?_) | skip
  refine wpAny_bind (wpAny_sequenceKey ht.typeIs (by decide) ?_)
  refine wpAny_bind (wpAny_callSpecial?_slot (name := Str.ofString "__getitem__") ht.typeIs PyProof.Rows.slot_tuple_getitem (wpAny_call_entry PyProof.Rows.slot_tuple_getitem ht.typeIs PyProof.Rows.entry_tuple_getitem ?_ (PyProof.Rows.args_tuple_getitem _ _)))
  show wpAny _ _ (Builtin.Tuple.tupleItemsOf (.ref t) >>= _) _ _ s
  refine wpAny_bind (tupleItemsOf_ ht ?_)
  refine wpAny_bind (wpAny_typeOf tS ?_)
  rw [if_pos (by decide)]
  refine wpAny_bind (back_applied hs ps ?_)
  have no : ¬ ((((items.size : Int) - 1) == 0 && (-1 : Int) == 1 && items.size == items.size) = true) := by
    intro q
    rw [Bool.and_eq_true, Bool.and_eq_true] at q
    exact absurd q.1.2 (by decide)
  show wpAny _ _ (if (((items.size : Int) - 1) == 0 && (-1 : Int) == 1 && items.size == items.size) = true then _ else _) _ _ s
  rw [if_neg no, back_pick]
  first
    | exact wpAny_bind (m := Builtin.Tuple.tupleExact _) (wpAny_newObj_type (wpAny_pure ⟨_, rfl, wpAny_pure h⟩) room)
    | exact wpAny_bind (m := Builtin.Tuple.tupleExact _) (wpAny_newObj_type (wpAny_bind (wpAny_pure (wpAny_pure ⟨_, rfl, wpAny_pure h⟩))) room)
    | exact wpAny_bind (wpAny_bind (m := Builtin.Tuple.tupleExact _) (wpAny_newObj_type (wpAny_pure (wpAny_pure ⟨_, rfl, wpAny_pure h⟩)) room))
    | exact wpAny_bind (wpAny_bind (m := Builtin.Tuple.tupleExact _) (wpAny_newObj_type (wpAny_pure ⟨_, rfl, wpAny_pure h⟩) room))
end
def tRev (K : PySem.W.Frag) (te : TE) : TE := fun σ H Q => te σ H fun x H1 => (∃ a xs, x = .ref a ∧ SqT K H1 a xs ∧ ∀ p, H1 p = none → Q (.ref p) (upd H1 p (.tup xs.reverse))) ∨ ∃ a xs, x = .ref a ∧ SqL K H1 a xs ∧ ∀ p, H1 p = none → Q (.ref p) (upd H1 p (.lst xs.reverse))
section
variable {X : Cx} {W : WX} {e : Expr} {te : TE} {ma : ME} {k : Nat} {p1 p2 p3 pos : Pos}
theorem pe_rev (he : PE X e te) : PE X (.Subscript e (.Slice none none (some (.UnaryOp .USub (.Constant (.int 1) k p1) p2)) p3) pos) (tRev X.K te) := by
  refine ⟨fun pins s σ H Q I h => ?_⟩
  refine Subscript_ (thn (he.run pins s σ H _ I h) fun v s1 ⟨x, H1, I1, r1, q1⟩ => ?_)
  have step : PO X (some (.UnaryOp .USub (.Constant (.int 1) k p1) p2)) (tPart (tUn (rU fun i => .int (-i)) (tC (.int 1)))) := po_some (pe_un un_neg pe_int)
  refine wpAny_Slice (thn (po_none.run pins s1 σ H1 (fun o H2 => o = none ∧ H2 = H1) I1 ⟨rfl, rfl⟩) fun vl s2 ⟨l, H2, I2, pl, el, e2⟩ => ?_)
  subst el e2
  refine thn (po_none.run pins s2 σ H2 (fun o H3 => o = none ∧ H3 = H2) I2 ⟨rfl, rfl⟩) fun vu s3 ⟨u, H3, I3, pu, eu, e3⟩ => ?_
  subst eu e3
  refine thn (step.run pins s3 σ H3 (fun o H4 => o = some (-1) ∧ H4 = H3) I3 ⟨1, rfl, -1, rfl, rfl, rfl⟩) fun vs s4 ⟨o, H4, I4, ps, eo, e4⟩ => ?_
  subst eo e4
  have I5 : Inv X pins σ H4 { s4 with heap := s4.heap.push { cls := .type "slice", data := .fields #[vl, vu, vs] } } := I4.kept (t' := s4.toks) fun b ob q => Heap.get?_push_of_some _ q
  cases pl
  cases pu
  rcases q1 with ⟨a, xs, ex, hx, q⟩ | ⟨a, xs, ex, hx, q⟩
  · subst ex
    cases r1
    obtain ⟨its, r, ht, hz⟩ := I5.tuple hx
    show wpAny (model X.prog X.w) X.A (subscriptTail e (.Slice none none (some (.UnaryOp .USub (.Constant (.int 1) k p1) p2)) p3) (.ref a) (.ref s4.heap.objs.size)) (EP X pins σ Q) X.xe { s4 with heap := s4.heap.push { cls := .type "slice", data := .fields #[.none, .none, vs] } }
    refine tail_any (ops := [.ref a, .ref s4.heap.objs.size]) ht.typeIs (PyProof.Rows.slot_tuple_getitem.lookup) ?_ (by with_unfolding_all rfl)
    have hl : its.length = xs.length := r.length.symm
    refine back_item ht (Heap.IsSliceOf.new _ .none .none vs) ps (by rw [List.size_toArray, hl]; exact hz) ?_
    refine ⟨.ref _, _, I5.laid (t' := s4.toks) (o := .tup xs.reverse) (fun b ob q => Heap.get?_push_of_some _ q) (Nat.le_refl _) ?_, rfl, q _ (I5.hok.fresh (Nat.le_refl _))⟩
    exact ⟨by rw [List.length_reverse]; exact hz, _, r.reverse, IsTup.new _ _⟩
  · subst ex
    cases r1
    obtain ⟨its, r, ht, hz⟩ := I5.list hx
    have hl : its.length = xs.length := r.length.symm
    show wpAny (model X.prog X.w) X.A (subscriptTail e (.Slice none none (some (.UnaryOp .USub (.Constant (.int 1) k p1) p2)) p3) (.ref a) (.ref s4.heap.objs.size)) (EP X pins σ Q) X.xe { s4 with heap := s4.heap.push { cls := .type "slice", data := .fields #[.none, .none, vs] } }
    refine tail_any (ops := [.ref a, .ref s4.heap.objs.size]) ht.isList.typeIs (PySem.slot_list_getitem.lookup) ?_ (by with_unfolding_all rfl)
    refine wpAny_getItem_list_slice ht.isList (Heap.IsSliceOf.new _ .none .none vs) .none .none ps (by decide) ?_ (by rw [List.size_toArray]; omega)
    rw [PySem.W.krv_pick]
    refine ⟨.ref _, _, I5.laid (t' := s4.toks) (o := .lst xs.reverse) (fun b ob q => Heap.get?_push_of_some _ q) (Nat.le_refl _) ?_, rfl, q _ (I5.hok.fresh (Nat.le_refl _))⟩
    exact ⟨by rw [List.length_reverse]; exact hz, _, 0, r.reverse, Heap.get?_push_size _ rfl⟩
def fRev (v : AV) (G : Hs) : R AV := match tupOf v with
  | some xs => .ok (.tup xs.reverse) G
  | none => match lstOf G v with
    | some xs => .ok (.ref G.length) (G ++ [.lst xs.reverse])
    | none => .stuck
theorem se_rev (ha : SE X W e ma) : SE X W (.Subscript e (.Slice none none (some (.UnaryOp .USub (.Constant (.int 1) k p1) p2)) p3) pos) (m1 fRev ma) := by
  refine PE.imp (pe_rev ha) fun σ H Q ⟨ρ, μ, G, hσ, hG, h⟩ => tG.bind hσ hG h fun v G1 H1 μ1 x g1 hσ1 hG1 r h1 => ?_
  have h1 : Po X.K (rA X.K) W σ H1 μ1 (fRev v G1) Q := h1
  unfold fRev at h1
  cases e : tupOf v with
  | some xs =>
    rw [e] at h1
    obtain ⟨p, vs, rfl, hq, rs⟩ := tupOf_ok r e
    exact .inl ⟨p, vs, rfl, hq, fun q hqn => h1 _ _ _ (Gr.new hqn) (hG1.new hqn) (.tup upd_same (RAs.rev (rs.gr (Gr.new hqn))))⟩
  | none =>
    rw [e] at h1
    cases e2 : lstOf G1 v with
    | none => simp only [e2] at h1; exact h1.elim
    | some xs =>
      simp only [e2] at h1
      obtain ⟨p, vs, rfl, hq, rs⟩ := lstOf_ok hG1 r e2
      exact .inr ⟨p, vs, rfl, hq, fun q hqn => h1 _ _ _ (Gr.alloc hqn) (hG1.alloc hqn ⟨_, upd_same, RAs.rev (rs.gr (Gr.alloc hqn))⟩) (.ref (hG1.fresh q))⟩
end
section
variable {QV : AV → Hs → Prop} {E : XQ} {G : Hs}
theorem rev_T {xs : List AV} : (fRev (.tup xs) G).wp QV E = QV (.tup xs.reverse) G := rfl
end
end Vz
namespace Vz
open PySem PySem.Spec L2
section
variable {X : Cx} {W : WX} {kx vx tg iter : Expr} {ifs : List Expr} {scope : Scope} {own' : List (Str × Nat)} {t : MB} {mk mv : ME} {pos : Pos}
open Classical in
/-- the turns: the new dict is the object D -/
noncomputable def dcF (gd : Option (Nat × List AV)) (g : MG) (t : MB) (mk mv : ME) (D : Nat) (ρ : En) : List AV → Hs → R Unit
  | [], G => if gdOk gd G then .ok () G else .stuck
  | v :: vs, G => if gdOk gd G then match g v ρ G with
      | .ok ρ1 G1 => match t ρ1 G1 with
        | .ok true G2 => match mk ρ1 G2 with
          | .ok y G3 => match mv ρ1 G3 with
            | .ok z G4 => match kOf y, G4[D]? with
              | some k, some (.dk acc) => if acc.length < szl then dcF gd g t mk mv D ρ vs (G4.set D (.dk (putA acc k z))) else .stuck
              | _, _ => .stuck
            | _ => .stuck
          | _ => .stuck
        | .ok false G2 => dcF gd g t mk mv D ρ vs G2
        | _ => .stuck
      | _ => .stuck
    else .stuck
noncomputable def mDc (mi : MI) (g : MG) (t : MB) (mk mv : ME) (own : List Nat) : ME := fun ρ G => (mi ρ G).bind fun k G1 => (dcF k.2 g t mk mv G1.length (wipeA ρ own) k.1 (G1 ++ [.dk []])).bind fun _ G2 => .ok (.ref G1.length) G2
theorem dc_go {S own : List Nat} {mi : MI} {g : MG} (hS : ∀ j ∈ S, j ∈ own) {K : PySem.W.Frag} {σ : St} {H : Hp} {Q : VK} (h : tG K (rA K) W (mDc mi g t mk mv own) σ H Q) :
    tDc (tI K W mi) (tT K WN S g) (tG K rB WN t) (tG K (rA K) WN mk) (tG K (rA K) WN mv) own σ H Q := by
  obtain ⟨ρ, μ, G, hσ, hG, h⟩ := h
  refine ⟨ρ, μ, G, hσ, hG, ?_⟩
  unfold mDc at h
  cases e : mi ρ G with
  | stuck => rw [e] at h; exact h
  | exc c d G1 => rw [e] at h; exact h
  | ok k G1 =>
    rw [e] at h
    simp only [R.bind_ok] at h
    intro H1 μ1 J g1 hG1 ok D hD
    have gD : Gr H1 μ1 (upd H1 D (.dK [])) (μ1 ++ [some D]) := Gr.alloc hD
    have hGD : RH K (upd H1 D (.dK [])) (μ1 ++ [some D]) (G1 ++ [.dk []]) := hG1.alloc hD ⟨[], upd_same, RF.nil'⟩
    have hDn : Num (μ1 ++ [some D]) G1.length D := hG1.fresh D
    have hw := (hσ.gr (g1.trans gD)).wipe own
    have h0 : Po K (rA K) W σ (upd H1 D (.dK [])) (μ1 ++ [some D]) ((dcF k.2 g t mk mv G1.length (wipeA ρ own) k.1 (G1 ++ [.dk []])).bind fun _ G2 => .ok (.ref G1.length) G2) Q := Po.gr (g1.trans gD) h
    refine ⟨fun i mm H => mm = k.1.length - i ∧ i ≤ k.1.length ∧ ∃ μ G, Gr (upd H1 D (.dK [])) (μ1 ++ [some D]) H μ ∧ RH K H μ G ∧ Po K (rA K) W σ H μ ((dcF k.2 g t mk mv G1.length (wipeA ρ own) (k.1.drop i) G).bind fun _ G2 => .ok (.ref G1.length) G2) Q,
      ⟨k.1.length, rfl, Nat.zero_le _, _, _, Gr.refl _ _, hGD, h0⟩, ?_⟩
    rintro i mm H2 ⟨rfl, hi2, μ2, G2, g2, hG2, h2⟩
    have hDn2 : Num μ2 (G1.length) D := hDn.gr g2
    by_cases hlt : i < k.1.length
    · rw [List.drop_eq_getElem_cons hlt] at h2
      simp only [dcF] at h2
      by_cases hgd : gdOk k.2 G2
      · rw [if_pos hgd] at h2
        obtain ⟨go, yl⟩ := (ok i H2 μ2 G2 (gD.trans g2) hG2 hgd).1 _ (List.getElem?_eq_getElem hlt)
        refine .inr ⟨go, fun H' => ∃ μ G, Gr (upd H1 D (.dK [])) (μ1 ++ [some D]) H' μ ∧ RH K H' μ G ∧ Po K (rA K) W σ H' μ ((dcF k.2 g t mk mv G1.length (wipeA ρ own) (k.1.drop (i + 1)) G).bind fun _ G2 => .ok (.ref G1.length) G2) Q,
          fun H' z => ⟨k.1.length - (i + 1), by omega, rfl, hlt, z⟩, fun x H' y => ?_⟩
        obtain ⟨g3, hG3, rx⟩ := yl x H' y
        have g13 := g2.trans g3
        refine ⟨_, wipeA ρ own, μ2, G2, rx, hw.gr g13, hG3, ?_⟩
        have h3 := Po.gr g3 h2
        cases e3 : g k.1[i] (wipeA ρ own) G2 with
        | stuck => rw [e3] at h3; exact h3
        | exc c d G' => rw [e3] at h3; exact h3
        | ok ρ4 G4 =>
          rw [e3] at h3
          simp only at h3
          intro H4 μ4 σ4 g4 hG4 hσ4 l4 j4
          have h4 := Po.gr g4 h3
          have g14 := g13.trans g4
          refine ⟨(wipe_eq hS l4 j4).trans wipe_wipe, ρ4, μ4, G4, hσ4, hG4, ?_⟩
          cases e4 : t ρ4 G4 with
          | stuck => rw [e4] at h4; exact h4
          | exc c d G' => rw [e4] at h4; exact h4.elim
          | ok b G5 =>
            rw [e4] at h4
            intro H5 μ5 b' g5 hG5 eb
            have eb : b = b' := eb
            subst eb
            have h5 := Po.gr g5 h4
            have g15 := g14.trans g5
            cases b with
            | false => exact iteF ⟨μ5, G5, g15, hG5, h5⟩
            | true =>
              refine iteT ⟨ρ4, μ5, G5, hσ4.gr g5, hG5, ?_⟩
              simp only at h5
              cases e6 : mk ρ4 G5 with
              | stuck => rw [e6] at h5; exact h5
              | exc c d G' => rw [e6] at h5; exact h5.elim
              | ok y G6 =>
                rw [e6] at h5
                simp only at h5
                intro H6 μ6 y' g6 hG6 ry
                have h6 := Po.gr g6 h5
                have g16 := g15.trans g6
                refine ⟨ρ4, μ6, G6, (hσ4.gr g5).gr g6, hG6, ?_⟩
                cases e7 : mv ρ4 G6 with
                | stuck => rw [e7] at h6; exact h6
                | exc c d G' => rw [e7] at h6; exact h6.elim
                | ok z G7 =>
                  rw [e7] at h6
                  simp only at h6
                  intro H7 μ7 z' g7 hG7 rz
                  have h7 := Po.gr g7 h6
                  have g17 := g16.trans g7
                  have hDn7 : Num μ7 (G1.length) D := hDn.gr g17
                  obtain ⟨o, ho, ro⟩ := hG7.obj hDn7
                  cases ek : kOf y with
                  | none => rw [ek] at h7; exact h7.elim
                  | some key =>
                    have ey := kOf_ok (ry.gr g7) ek
                    rw [ek, ho] at h7
                    cases o with
                    | dk acc =>
                      simp only at h7
                      obtain ⟨ws, hv, rs⟩ := ro
                      by_cases hz : acc.length < szl
                      · rw [if_pos hz] at h7
                        have gp : Gr H7 μ7 (upd H7 D (.dK (putK ws key z'))) μ7 := Gr.put hG7 hDn7 ho
                        refine ⟨ws, key, ey, hv, by rw [← rs.length]; exact hz, μ7, _, g17.trans gp, hG7.put (o := .dk (putA acc key z)) hDn7 ho ⟨_, upd_same, ?_⟩, Po.gr gp h7⟩
                        exact RF.put key (rz.gr gp) ⟨rs.1, rs.2.gr gp⟩
                      · rw [if_neg hz] at h7
                        exact h7.elim
                    | _ => exact h7.elim
      · rw [if_neg hgd] at h2
        exact h2.elim
    · have ei : i = k.1.length := by omega
      rw [List.drop_eq_nil_of_le (by omega)] at h2
      simp only [dcF] at h2
      by_cases hgd : gdOk k.2 G2
      · rw [if_pos hgd] at h2
        exact .inl ⟨(ok i H2 μ2 G2 (gD.trans g2) hG2 hgd).2 (by omega), Po.now (v := AV.ref G1.length) h2 hG2 (.ref hDn2)⟩
      · rw [if_neg hgd] at h2
        exact h2.elim
theorem sw_trueD {kx vx : Expr} {gs : List Comprehension} {scope : Scope} {pos py : Pos} {y : Str} {l : Nat} {env : Env} (hk : env.scope.kind = .function) (hy : env.scope.names.lookup y = some .local) (hl : (py.line == pos.line) = true)
    (ha : (scope.names.any fun (n, k) => n == y && (k == .local || k == .cell)) = false) : swapsWith (.DictComp kx vx gs scope pos) (some (.Name y py)) l env = pure true := by
  have ky : env.kindOf y = some .local := hy
  have hb : env.blockKind = .function := by unfold Env.blockKind; rw [hk]; rfl
  unfold swapsWith
  simp only [hb, ky, ha, Expr.pos, hl]
  rfl
theorem ps_setDc {i : Nat} {y : Str} {py spos : Pos} {own : List (Str × Nat)} {wi : TI} {g : TG} {tt : TT} {tk tv : TE} (hc : X.calm = true) (hN : X.N.Nodup) (hy : X.N[i]? = some y) (hyl : X.env.scope.names.lookup y = some .local)
    (hsw : swapsWith (.DictComp kx vx [⟨tg, iter, ifs, 0⟩] scope pos) (some (.Name y py)) spos.line X.env = pure true) (hi : PI X tg iter wi) (ok : BlkOk X.N X.env.scope scope own)
    (hg : ∀ (s : Shared) (H : Hp) (C : Addr) (cl : List (Str × Addr)) (fp : List Addr), PG (X.blk s H scope (compEnvC scope cl C X.env) fp) tg g) (ht : ∀ (s : Shared) (H : Hp) (C : Addr) (cl : List (Str × Addr)) (fp : List Addr), PTs (X.blk s H scope (compEnvC scope cl C X.env) fp) ifs tt)
    (hk : ∀ (s : Shared) (H : Hp) (C : Addr) (cl : List (Str × Addr)) (fp : List Addr), PE (X.blk s H scope (compEnvC scope cl C X.env) fp) kx tk)
    (he : ∀ (s : Shared) (H : Hp) (C : Addr) (cl : List (Str × Addr)) (fp : List Addr), PE (X.blk s H scope (compEnvC scope cl C X.env) fp) vx tv) (hs : ∀ x, foldedSetIterable iter X.env x = pure x := by intro _; rfl) :
    PS X (.Assign [.Name y py] (.DictComp kx vx [⟨tg, iter, ifs, 0⟩] scope pos) spos) (tAsg (tDc wi g tt tk tv (own.map (·.2))) (gName i)) := by
  refine ⟨fun pins s σ H D I h => ?_⟩
  rw [exec_Assign_Name_used _ _ _ _ hsw]
  refine wpAny_bind (wpAny_standAt (wpAny_bind ?_))
  show wpAny _ X.A (do let _ ← comprehension (.DictComp kx vx [⟨tg, iter, ifs, 0⟩] scope pos) scope X.env (firstIterPos [⟨tg, iter, ifs, 0⟩] pos) newDict false (eval iter X.env) (some (assign (.Name y py) X.env))) _ _ s
  have h : tDc wi g tt tk tv (own.map (·.2)) σ H (fun x H1 => gName i x σ H1 D.nx) := h
  refine wpAny_bind (thn (dc_core (Qf := fun _ s' => L2.SP X pins D .next s') hc hN I hi ok hg ht hk he hs h fun L C s' m H' I' q hn f => ?_) fun _ s' hq => wpAny_pure (wpAny_pure hq))
  show wpAny _ _ (assign (.Name y py) X.env (.ref L)) _ _ _
  refine wpAny_assign_Name (store_ok2 (v := V.ref L) I' hN hy (.inl hyl) rfl (fun s2 I2 ⟨a, sb, ha⟩ => ?_) (.inr hyl))
  obtain ⟨f0, f1, f2, f3, f4, f5⟩ := f
  have haC : C ≠ a := by
    rcases ha with z | z
    · rw [z]; exact f1
    · exact fun e => f4 y a z e.symm
  refine ⟨m, hn.sameBut sb haC, fun h3 sb3 => ?_⟩
  exact ⟨_, H', I2.turned (t' := s2.toks) (fun b o hb e => (sb3.2 b hb).trans e) f0 f1 f3 f4 f5, q⟩
theorem ss_setDc {S : List Nat} {i : Nat} {y : Str} {py spos : Pos} {own : List (Str × Nat)} {mi : MI} {g : MG} (hc : X.calm = true) (hN : X.N.Nodup) (hy : X.N[i]? = some y) (hyl : X.env.scope.names.lookup y = some .local)
    (hsw : swapsWith (.DictComp kx vx [⟨tg, iter, ifs, 0⟩] scope pos) (some (.Name y py)) spos.line X.env = pure true) (hi : SI X W tg iter mi) (ok : BlkOk X.N X.env.scope scope own) (hS : ∀ j ∈ S, j ∈ own.map (·.2))
    (hg : ∀ (s : Shared) (H : Hp) (C : Addr) (cl : List (Str × Addr)) (fp : List Addr), SG (X.blk s H scope (compEnvC scope cl C X.env) fp) WN S tg g)
    (ht : ∀ (s : Shared) (H : Hp) (C : Addr) (cl : List (Str × Addr)) (fp : List Addr), STs (X.blk s H scope (compEnvC scope cl C X.env) fp) WN ifs t)
    (hk : ∀ (s : Shared) (H : Hp) (C : Addr) (cl : List (Str × Addr)) (fp : List Addr), SE (X.blk s H scope (compEnvC scope cl C X.env) fp) WN kx mk)
    (he : ∀ (s : Shared) (H : Hp) (C : Addr) (cl : List (Str × Addr)) (fp : List Addr), SE (X.blk s H scope (compEnvC scope cl C X.env) fp) WN vx mv) (hs : ∀ x, foldedSetIterable iter X.env x = pure x := by intro _; rfl) :
    SS X W (.Assign [.Name y py] (.DictComp kx vx [⟨tg, iter, ifs, 0⟩] scope pos) spos) (mAsg (mDc mi g t mk mv (own.map (·.2))) (gNm i)) := by
  refine PS.imp (ps_setDc (g := tT X.K WN S g) (tt := tG X.K rB WN t) (tk := tG X.K (rA X.K) WN mk) (tv := tG X.K (rA X.K) WN mv) hc hN hy hyl hsw hi ok hg ht hk he hs) fun D σ H ⟨ρ, μ, G, hσ, hG, h⟩ => dc_go hS (W := W) ⟨ρ, μ, G, hσ, hG, ?_⟩
  unfold mAsg at h
  cases e : mDc mi g t mk mv (own.map (·.2)) ρ G with
  | stuck => rw [e] at h; exact h
  | exc c d G' => rw [e] at h; exact fun H' μ' dd g hG' hd => h H' μ' σ dd g hG' (hσ.gr g) hd
  | ok v G1 =>
    rw [e] at h
    exact fun H1 μ1 z g1 hG1 r => h H1 μ1 _ g1 hG1 ((hσ.gr g1).set r)
end
end Vz
namespace Vz
open PySem PySem.Spec L2
section
variable {X : Cx} {W : WX} {o e f : Expr} {mo mi md : ME} {apos cpos : Pos}
def fDgo (v w d : AV) (G : Hs) : R AV := match dkR G v, kOf w with
  | some kvs, some k => .ok ((getA kvs k).getD d) G
  | _, _ => .stuck
def mDget1 (mo mi : ME) : ME := fun ρ G => (mo ρ G).bind fun v G1 => if (dkR G1 v).isSome = true then (mi ρ G1).bind fun w G2 => fDgo v w .non G2 else .stuck
def mDget2 (mo mi md : ME) : ME := fun ρ G => (mo ρ G).bind fun v G1 => if (dkR G1 v).isSome = true then (mi ρ G1).bind fun w G2 => (md ρ G2).bind fun u G3 => fDgo v w u G3 else .stuck
theorem RAo.orElse {K : PySem.W.Frag} {H : Hp} {μ : Mu} {u : Option AV} {o : Option V} {d : AV} {z : V} (h : RAo K H μ u o) (r : RA K H μ d z) : RA K H μ (u.getD d) (o.getD z) := by
  cases u <;> cases o <;> first | exact r | exact h.elim | exact h
theorem isD_of {K : PySem.W.Frag} {H : Hp} {μ : Mu} {G : Hs} {v : AV} {x : V} (hG : RH K H μ G) (r : RA K H μ v x) (h : (dkR G v).isSome = true) : ∃ a, x = .ref a ∧ IsD H a := by
  obtain ⟨kvs, e⟩ := Option.isSome_iff_exists.mp h
  obtain ⟨a, ws, rfl, hp, _⟩ := dkR_ok hG r e
  exact ⟨a, rfl, .inl ⟨ws, .inl hp⟩⟩
theorem dgo_go {K : PySem.W.Frag} {σ : St} {H : Hp} {μ : Mu} {G : Hs} {v w d : AV} {y z : V} {a : Addr} {Q : VK} (hG : RH K H μ G) (rv : RA K H μ v (.ref a)) (ry : RA K H μ w y) (rz : RA K H μ d z) (h : Po K (rA K) W σ H μ (fDgo v w d G) Q) : ∃ o, DGet H a y o ∧ Q (o.getD z) H := by
  unfold fDgo at h
  cases e1 : dkR G v with
  | none => rw [e1] at h; exact h.elim
  | some kvs =>
    cases e2 : kOf w with
    | none => rw [e1, e2] at h; exact h.elim
    | some k =>
      rw [e1, e2] at h
      obtain ⟨b, ws, eb, hp, rf⟩ := dkR_ok hG rv e1
      cases eb
      exact ⟨valV ws k, .inl ⟨ws, k, .inl hp, kOf_ok ry e2, rfl⟩, Po.now (v := (getA kvs k).getD d) h hG ((rf.get k).orElse rz)⟩
theorem se_dget1 (hu : X.A.units + 1 < cLine) (ho : SE X W o mo) (he : SE X W e mi) (hb : attributeBase o "get" X.env (eval o X.env) = eval o X.env := by rfl)
    (hf : ((backTo cpos (starEach [e] X.env)).all (fun x => !x.1) && (backToKw cpos (keywordEach [] X.env)).all (fun x => x.1.isSome) && decide (([e] : List Expr).length + ([] : List Keyword).length + (if ([] : List Keyword).isEmpty then 0 else 1) < 30)) = true := by rfl)
    (hl : (apos.endLine == cpos.line) = true := by rfl) (ht : backTo cpos (starEach [e] X.env) = [(false, eval e X.env)] := by rfl) : SE X W (.Call (.Attribute o "get" apos) [e] [] cpos) (mDget1 mo mi) := by
  refine PE.imp (pe_dget1 hu ho he ⟨hb, hf, hl, ht⟩) fun σ H Q ⟨ρ, μ, G, hσ, hG, h⟩ => tG.bind hσ hG h fun v G1 H1 μ1 x g1 hσ1 hG1 rv h1 => ?_
  by_cases hq : (dkR G1 v).isSome = true
  · rw [if_pos hq] at h1
    obtain ⟨a, rfl, d⟩ := isD_of hG1 rv hq
    exact ⟨a, rfl, d, tG.bind hσ1 hG1 h1 fun w G2 H2 μ2 y g2 hσ2 hG2 rw' h2 => dgo_go hG2 (rv.gr g2) rw' .non h2⟩
  · rw [if_neg hq] at h1
    exact h1.elim
theorem se_dget2 (hu : X.A.units + 1 < cLine) (ho : SE X W o mo) (he : SE X W e mi) (hd : SE X W f md) (hb : attributeBase o "get" X.env (eval o X.env) = eval o X.env := by rfl)
    (hf : ((backTo cpos (starEach [e, f] X.env)).all (fun x => !x.1) && (backToKw cpos (keywordEach [] X.env)).all (fun x => x.1.isSome) && decide (([e, f] : List Expr).length + ([] : List Keyword).length + (if ([] : List Keyword).isEmpty then 0 else 1) < 30)) = true := by rfl)
    (hl : (apos.endLine == cpos.line) = true := by rfl) (ht : backTo cpos (starEach [e, f] X.env) = [(false, eval e X.env), (false, eval f X.env)] := by rfl) : SE X W (.Call (.Attribute o "get" apos) [e, f] [] cpos) (mDget2 mo mi md) := by
  refine PE.imp (pe_dget2 hu ho he hd ⟨hb, hf, hl, ht⟩) fun σ H Q ⟨ρ, μ, G, hσ, hG, h⟩ => tG.bind hσ hG h fun v G1 H1 μ1 x g1 hσ1 hG1 rv h1 => ?_
  by_cases hq : (dkR G1 v).isSome = true
  · rw [if_pos hq] at h1
    obtain ⟨a, rfl, d⟩ := isD_of hG1 rv hq
    exact ⟨a, rfl, d, tG.bind hσ1 hG1 h1 fun w G2 H2 μ2 y g2 hσ2 hG2 rw' h2 => tG.bind hσ2 hG2 h2 fun u G3 H3 μ3 z g3 hσ3 hG3 ru h3 => dgo_go hG3 ((rv.gr g2).gr g3) (rw'.gr g3) ru h3⟩
  · rw [if_neg hq] at h1
    exact h1.elim
end
section
variable {QV : AV → Hs → Prop} {E : XQ} {G : Hs} {ρ : En}
@[simp] theorem wp_dget1 (mo mi : ME) : (mDget1 mo mi ρ G).wp QV E = (mo ρ G).wp (fun v G => (dkR G v).isSome = true ∧ (mi ρ G).wp (fun w G => (fDgo v w .non G).wp QV E) E) E := by
  unfold mDget1
  rw [wp_bind]
  congr 1
  funext v G
  by_cases h : (dkR G v).isSome = true
  · rw [if_pos h, wp_bind]; exact propext ⟨fun x => ⟨h, x⟩, fun x => x.2⟩
  · rw [if_neg h]; exact propext ⟨fun x => x.elim, fun x => (h x.1).elim⟩
@[simp] theorem wp_dget2 (mo mi md : ME) : (mDget2 mo mi md ρ G).wp QV E = (mo ρ G).wp (fun v G => (dkR G v).isSome = true ∧ (mi ρ G).wp (fun w G => (md ρ G).wp (fun u G => (fDgo v w u G).wp QV E) E) E) E := by
  unfold mDget2
  rw [wp_bind]
  congr 1
  funext v G
  by_cases h : (dkR G v).isSome = true
  · rw [if_pos h, wp_bind]
    simp only [wp_bind]
    exact propext ⟨fun x => ⟨h, x⟩, fun x => x.2⟩
  · rw [if_neg h]; exact propext ⟨fun x => x.elim, fun x => (h x.1).elim⟩
end
end Vz
namespace TDq
open PySem PySem.W PySem.Calls PySem.Spec PyProof.Rows PyProof.V
section
variable {prog : Program} {w : World} {K : Type} [DecidableEq K] {knd : HeapKind prog w K} {A : Around} {E : Value → Shared → Prop} {s : Shared}
/-- the walk over one dict's entries, each looked for in the other -/
inductive Hits (prog : Program) (w : World) (A : Around) (s : Shared) (kb : List (K × Addr × Value)) : List (K × Addr × Value) → Bool → Prop
  | nil : Hits prog w A s kb [] true
  | miss {x : K × Addr × Value} {r : List (K × Addr × Value)} : (∀ (j : Nat) (p : Addr × Value), kb[j]? ≠ some (x.1, p)) → Hits prog w A s kb (x :: r) false
  | hit {x : K × Addr × Value} {r : List (K × Addr × Value)} {j : Nat} {p : Addr × Value} {e b : Bool} : kb[j]? = some (x.1, p) → SeqAt.EqP prog w A s x.2.2 p.2 e → Hits prog w A s kb r b → Hits prog w A s kb (x :: r) (e && b)
theorem key_once {kb : List (K × Addr × Value)} (hn : (kb.map (·.1)).Nodup) {i j : Nat} {k : K} {p q : Addr × Value} (h1 : kb[i]? = some (k, p)) (h2 : kb[j]? = some (k, q)) : p = q :=
  Option.some.inj ((atKey_of_get hn h1).symm.trans (atKey_of_get hn h2))
theorem same {nm : String} {a b : Addr} {ka kb : List (K × Addr × Value)} {r : Bool} {Q : Bool → Shared → Prop} (ha : (a == sysModules) = false) (hb : (b == sysModules) = false) (hu : knd.room A)
    (da : s.heap.DictOfH knd a ka) (db : s.heap.DictOfH knd b kb) (hits : ka.length = kb.length → Hits prog w A s kb ka r) (h : Q (ka.length == kb.length && r) s) :
    wpAny (model prog w) A (Builtin.Dict.samePairs nm a b) Q E s := by
  obtain ⟨oa, es, ep, hoa, _, hda, hea, hisa, hna⟩ := da
  obtain ⟨ob, es', ep', hob, _, hdb, heb, hisb, hnb⟩ := db
  have hla : ka.length = es.size := (size_of_entries hea).symm
  have hlb : kb.length = es'.size := (size_of_entries heb).symm
  rw [hla, hlb] at h
  unfold Builtin.Dict.samePairs Builtin.Dict.showsAll
  rw [if_neg (show ¬ (a == sysModules) = true by rw [ha]; exact Bool.false_ne_true), if_neg (show ¬ (b == sysModules) = true by rw [hb]; exact Bool.false_ne_true)]
  refine wpAny_bind (wpAny_pure (wpAny_bind (wpAny_pure ?_)))
  refine wpAny_bind (wpAny_dictEntries hoa hda ?_)
  dsimp only
  refine wpAny_bind (wpAny_dictEntries hob hdb ?_)
  by_cases hsz : es.size = es'.size
  case neg =>
    rw [if_pos (by simpa using hsz)]
    have no : (es.size == es'.size) = false := by simpa using hsz
    rw [no, Bool.false_and] at h
    exact wpAny_bind (wpAny_rule (wpAny_pure h))
  case pos =>
    have h' : Q r s := by simpa [hsz] using h
    have all := hits (by rw [hla, hlb]; exact hsz)
    rw [if_neg (by rw [hsz]; simp)]
    refine wpAny_bind (wpAny_dictEpoch hoa hda ?_)
    refine wpAny_bind ?_
    rw [Std.Legacy.Range.forIn_eq_forIn_range']
    simp only [Std.Legacy.Range.size, Nat.sub_zero, Nat.add_sub_cancel, Nat.div_one]
    refine wpAny_forIn_list _
      (fun rest q s' => s' = s ∧ q = (none, ()) ∧ ∃ i, rest = List.range' i (es.size - i) ∧ i ≤ es.size ∧ Hits prog w A s kb (ka.drop i) r)
      _ ?_ ?_ _ _ ⟨rfl, rfl, 0, by simp, Nat.zero_le _, all⟩
    · rintro x rest q s' ⟨rfl, rfl, i, hr, hi, rem⟩
      have lt : i < es.size := by
        rcases Nat.lt_or_ge i es.size with z | z
        · exact z
        · rw [Nat.sub_eq_zero_of_le z] at hr; simp at hr
      obtain ⟨rfl, hrest⟩ : x = i ∧ rest = List.range' (i + 1) (es.size - (i + 1)) := by
        rw [show es.size - i = (es.size - (i + 1)) + 1 by omega, List.range'_succ] at hr
        injection hr with h1 h2
        exact ⟨h1, h2⟩
      have lt' : x < ka.length := by rw [hla]; exact lt
      obtain ⟨k, ad, v, ekv⟩ : ∃ k ad v, ka[x] = (k, ad, v) := ⟨_, _, _, rfl⟩
      have drp : ka.drop x = (k, ad, v) :: ka.drop (x + 1) := by rw [← ekv]; exact List.drop_eq_getElem_cons lt'
      have ent : es[x]? = some ⟨knd.hash k, .ref ad, v⟩ := by
        rw [entry_at hea x, List.getElem?_eq_getElem lt', ekv]
        rfl
      have isk : knd.is s'.heap k ad := by
        have := hisa _ (List.getElem_mem lt')
        rw [ekv] at this
        exact this
      refine wpAny_bind (wpAny_dictEntries hoa hda ?_)
      rw [ent]
      rw [drp] at rem
      show wpAny _ _ (holding [.ref ad, v] _ >>= _) _ _ _
      refine wpAny_bind (wpAny_holding (wpAny_bind (wpAny_dictFind_heap hu isk hob hdb heb hisb hnb (fun none_ => ?_) fun j p hj => ?_)))
      · have er : r = false := by
          cases rem with
          | miss _ => rfl
          | hit hy _ _ => exact absurd hy (none_ _ _)
        rw [er] at h'
        refine wpAny_pure ?_
        show wpAny _ _ (if (!false) = true then _ else _) _ _ _
        rw [if_pos (by decide)]
        exact wpAny_pure (wpAny_pure h')
      · refine wpAny_bind (wpAny_dictEntries hob hdb ?_)
        have ent' : es'[j]? = some ⟨knd.hash k, .ref p.1, p.2⟩ := by
          rw [entry_at heb j, hj]
          rfl
        rw [ent']
        cases rem with
        | miss none_ => exact absurd hj (none_ j p)
        | @hit _ _ j' p' e b' hy he hrr =>
          obtain rfl := key_once hnb hj hy
          refine wpAny_holding (he _ _ ?_)
          cases e with
          | false =>
            show wpAny _ _ (if (!false) = true then _ else _) _ _ _
            rw [if_pos (by decide)]
            exact wpAny_pure (wpAny_pure h')
          | true =>
            show wpAny _ _ (if (!true) = true then _ else _) _ _ _
            rw [if_neg (by decide)]
            refine wpAny_bind (wpAny_dictEpoch hoa hda ?_)
            rw [if_neg (by simp)]
            exact wpAny_pure ⟨rfl, rfl, x + 1, hrest, lt, hrr⟩
    · rintro q s' ⟨rfl, rfl, i, hr, hi, rem⟩
      have last : i = es.size := by
        rcases Nat.lt_or_ge i es.size with z | z
        · rw [show es.size - i = (es.size - (i + 1)) + 1 by omega, List.range'_succ] at hr; exact nomatch hr
        · exact Nat.le_antisymm hi z
      refine wpAny_pure ?_
      rw [last, ← hla, List.drop_length] at rem
      cases rem
      exact h'
end
end TDq
namespace Vz
open PySem PySem.Spec L2
def kOfs : List AV → Option (List Key)
  | [] => some []
  | v :: vs => match kOf v, kOfs vs with
    | some k, some ks => some (k :: ks)
    | _, _ => none
def tkOf : AV → Option (List Key)
  | .tup xs => kOfs xs
  | _ => none
section
variable {K : PySem.W.Frag} {H : Hp} {μ : Mu} {G : Hs}
def dtOf (G : Hs) : AV → Option (Nat × List (List Key × AV))
  | .ref n => match G[n]? with
    | some (.dt kvs) => some (n, kvs)
    | _ => none
  | _ => none
/-- as it is read -/
def dtR (G : Hs) : AV → Option (List (List Key × AV))
  | .ref n => match G[n]? with
    | some (.dt kvs) => some kvs
    | _ => none
  | .it ks xs => some (ks.zip xs)
  | _ => none
end
section
variable {X : Cx} {W : WX} {o i e f value : Expr} {mo mi md mv ma mb : ME} {pos pos' apos cpos : Pos}
/-- {} -/
def mDictT : ME := fun _ G => .ok (.ref G.length) (G ++ [.dt []])
/-- d[t] = v -/
def fDpT (v w u : AV) (G : Hs) : R Unit := match dtOf G v, tkOf w with
  | some (n, kvs), some k => if kvs.length < szl then .ok () (G.set n (.dt (putA kvs k u))) else .stuck
  | _, _ => .stuck
def mDputT (mo mi mv : ME) : MS := fun ρ G => (mv ρ G).toS ρ fun u G1 => (mo ρ G1).toS ρ fun v G2 => (mi ρ G2).toS ρ fun w G3 => (fDpT v w u G3).toS ρ fun _ G4 => .nx ρ G4
def fDgoT (v w d : AV) (G : Hs) : R AV := match dtR G v, tkOf w with
  | some kvs, some k => .ok ((getA kvs k).getD d) G
  | _, _ => .stuck
def mDgetT1 (mo mi : ME) : ME := fun ρ G => (mo ρ G).bind fun v G1 => if (dtR G1 v).isSome = true then (mi ρ G1).bind fun w G2 => fDgoT v w .non G2 else .stuck
def mDgetT2 (mo mi md : ME) : ME := fun ρ G => (mo ρ G).bind fun v G1 => if (dtR G1 v).isSome = true then (mi ρ G1).bind fun w G2 => (md ρ G2).bind fun u G3 => fDgoT v w u G3 else .stuck
end
end Vz
namespace Vz
open PySem PySem.Spec L2
end Vz
namespace Vz
open PySem L2
end Vz
namespace Vz
open PySem L2
section
variable {X : Cx} {W : WX}
def mLR (m : ME) : ME := fun ρ G => (m ρ G).bind fun v G1 => match v with
  | .int n => if 0 ≤ n ∧ n ≤ 16777216 then .ok (.ref G1.length) (G1 ++ [.lst (rgA 0 n)]) else .stuck
  | _ => .stuck
end
end Vz
namespace Vz
open PySem L2 PyProof.Rows
end Vz
namespace Vz
open PySem L2
section
variable {QV : AV → Hs → Prop} {E : XQ} {G : Hs} {ρ : En} {D : SP}
@[simp] theorem wp_dictT : (mDictT ρ G).wp QV E = QV (.ref G.length) (G ++ [.dt []]) := rfl
@[simp] theorem wp_dputT (mo mi mv : ME) : (mDputT mo mi mv ρ G).wp D = (mv ρ G).wp (fun u G => (mo ρ G).wp (fun v G => (mi ρ G).wp (fun w G => (fDpT v w u G).wp (fun _ G => D.nx ρ G) D.ex) D.ex) D.ex) D.ex := by
  unfold mDputT
  simp only [wp_toS]
  rfl
@[simp] theorem wp_dgetT1 (mo mi : ME) : (mDgetT1 mo mi ρ G).wp QV E = (mo ρ G).wp (fun v G => (dtR G v).isSome = true ∧ (mi ρ G).wp (fun w G => (fDgoT v w .non G).wp QV E) E) E := by
  unfold mDgetT1
  rw [wp_bind]
  congr 1
  funext v G
  by_cases h : (dtR G v).isSome = true
  · rw [if_pos h, wp_bind]; exact propext ⟨fun x => ⟨h, x⟩, fun x => x.2⟩
  · rw [if_neg h]; exact propext ⟨fun x => x.elim, fun x => (h x.1).elim⟩
@[simp] theorem wp_dgetT2 (mo mi md : ME) : (mDgetT2 mo mi md ρ G).wp QV E = (mo ρ G).wp (fun v G => (dtR G v).isSome = true ∧ (mi ρ G).wp (fun w G => (md ρ G).wp (fun u G => (fDgoT v w u G).wp QV E) E) E) E := by
  unfold mDgetT2
  rw [wp_bind]
  congr 1
  funext v G
  by_cases h : (dtR G v).isSome = true
  · rw [if_pos h, wp_bind]
    refine propext ⟨fun x => ⟨h, ?_⟩, fun x => ?_⟩
    · simp only [wp_bind] at x
      exact x
    · simp only [wp_bind]
      exact x.2
  · rw [if_neg h]; exact propext ⟨fun x => x.elim, fun x => (h x.1).elim⟩
@[simp] theorem wp_lr (m : ME) : (mLR m ρ G).wp QV E = (m ρ G).wp (fun v G => match v with
    | .int n => (0 ≤ n ∧ n ≤ 16777216) ∧ QV (.ref G.length) (G ++ [.lst (rgA 0 n)])
    | _ => False) E := by
  unfold mLR
  rw [wp_bind]
  congr 1
  funext v G
  cases v with
  | int n =>
    by_cases h : 0 ≤ n ∧ n ≤ 16777216
    · simp only [if_pos h]
      exact propext ⟨fun x => ⟨h, x⟩, fun x => x.2⟩
    · simp only [if_neg h]
      exact propext ⟨fun x => x.elim, fun x => (h x.1).elim⟩
  | _ => rfl
end
end Vz
namespace Vz
open PySem L2
section
variable {D : SP} {ρ : En} {G : Hs}
theorem wp_nxN : (mNx ρ G).wp D = D.nx ρ G := propext Iff.rfl
theorem wp_brkN : (mBk ρ G).wp D = D.bk ρ G := propext Iff.rfl
theorem wp_contN : (mCt ρ G).wp D = D.ct ρ G := propext Iff.rfl
end
end Vz
namespace ZpM
open PySem PySem.Spec PyProof.Rows L2
/-- a list (true) or a tuple (false) -/
def Sq (k : Bool) (K : PySem.W.Frag) (H : Hp) (a : Addr) (xs : List V) : Prop := match k with
  | true => SqL K H a xs
  | false => SqT K H a xs
def IsQ (k : Bool) (h : Heap) (a : Addr) (vs : Array Value) : Prop := match k with
  | true => h.IsList a vs
  | false => h.IsTuple a vs
def IsQI (k : Bool) (h : Heap) (it a : Addr) (i : Nat) : Prop := match k with
  | true => h.IsListIter it a i
  | false => h.IsTupleIter it a i
theorem IsQ.at {k : Bool} {h h' : Heap} {a : Addr} {vs : Array Value} (x : IsQ k h a vs) (e : ∀ o, h.get? a = some o → h'.get? a = some o) : IsQ k h' a vs := by
  cases k
  · exact Heap.IsTuple.at x e
  · exact Heap.IsList.at x e
theorem IsQI.at {k : Bool} {h h' : Heap} {it a : Addr} {i : Nat} (x : IsQI k h it a i) (e : ∀ o, h.get? it = some o → h'.get? it = some o) : IsQI k h' it a i := by
  cases k
  · exact Heap.IsTupleIter.at x e
  · exact Heap.IsListIter.at x e
theorem IsQI.here {k : Bool} {h : Heap} {it a : Addr} {i : Nat} (x : IsQI k h it a i) : ∃ o, h.get? it = some o ∧ ∀ v, o.data ≠ .cell v := by
  cases k <;> (obtain ⟨o, e, _, d⟩ := x; exact ⟨o, e, fun v q => by rw [d] at q; cases q⟩)
end ZpM
namespace Vz
open PySem L2
/-- lists and tuples that nobody writes -/
def fixOf : AV → Option (Bool × List AV)
  | .tup xs => some (false, xs)
  | .con xs => some (false, xs)
  | .ls xs => some (true, xs)
  | .lk xs => some (true, xs)
  | _ => none
def zipA (xs ys : List AV) : List AV := List.zipWith (fun x y => AV.tup [x, y]) xs ys
def fZm : List AV → Hs → R Wk
  | [v, w], G => match fixOf v, fixOf w with
    | some p, some q => .ok (zipA p.2 q.2, none) G
    | _, _ => .stuck
  | _, _ => .stuck
/-- zip(a, b) -/
def mZm (ms : MEs) : MI := fun ρ G => (ms ρ G).bind fZm
section
variable {QW : Wk → Hs → Prop} {E : XQ} {ρ : En} {G : Hs}
@[simp] theorem wp_zm (ms : MEs) : (mZm ms ρ G).wp QW E = (ms ρ G).wp (fun vs G => (fZm vs G).wp QW E) E := by
  unfold mZm
  rw [wp_bind]
end
end Vz
namespace ZpM
open PySem PySem.Spec PyProof.Rows PySem.W L2
theorem Sq.len {X : Cx} {pins : List (Addr × Obj)} {σ : L2.St} {H : Hp} {s : Shared} {k : Bool} {a : Addr} {xs : List V} (I : Inv X pins σ H s) (h : Sq k X.K H a xs) : xs.length ≤ sizeLine := by
  cases k
  · obtain ⟨its, rv, p, z⟩ := I.tuple h; first | exact z | (rw [rv.length]; simpa using z)
  · obtain ⟨its, rv, p, z⟩ := I.list h; first | exact z | (rw [rv.length]; simpa using z)
end ZpM
namespace Vz
open PySem L2
end Vz
namespace Vz
open PySem PySem.Spec L2 PyProof.Rows
/-- a ring of defs, so deep -/
def ringF (st : (Nat → List AV → Hs → R AV) → Nat → List AV → Hs → R AV) : Nat → Nat → List AV → Hs → R AV
  | 0 => fun _ _ _ => .stuck
  | n + 1 => st (ringF st n)
theorem fnG_no {CX : CXT} {P : Program} {w : World} {K : PySem.W.Frag} {mg : Str → Option Value} {base : Heap} {k : Nat} {f : Addr} {fd : FuncData} {ps : List Str} : FnG P w K mg base CX k f fd ps (fsp K ps.length fun _ _ => .stuck) :=
  ⟨fun _ _ _ _ h => h.1, fun _ _ _ _ _ _ _ _ _ _ _ _ _ h => let ⟨_, _, _, _, _, _, q⟩ := h; q.elim⟩
/-- room, whatever is handled -/
structure RmQ (k : Nat) (A : Around) : Prop where
  dp : A.depth + 3 * k + 5 < recursionLimit
  un : A.units + 16 * k + 200 < cLine
  gd : A.guards = some []
section
variable {k j : Nat} {A : Around}
theorem RmQ.mono (r : RmQ k A) (h : j ≤ k) : RmQ j A := ⟨by have := r.dp; omega, by have := r.un; omega, r.gd⟩
theorem RmQ.deeper (r : RmQ (k + 1) A) (env : Env) : RmQ k (A.deeper env) := ⟨by have := r.dp; show A.depth + 1 + _ + 5 < _; omega, by have := r.un; show A.units + 3 + _ + 200 < _; omega, r.gd⟩
end
end Vz
namespace Vz
open PySem PySem.Spec L2
end Vz
namespace Vz
open PySem L2
end Vz
namespace Vz
open PySem L2
def rgD (lo hi : Int) : List AV := (List.range (lo - hi).toNat).map fun i => .int (lo + ((i : Nat) : Int) * (-1))
@[irreducible] def fRgD : List AV → Hs → R Wk
  | [.int i, .int j, .int c], G => if c = -1 ∧ -(2 ^ 62) ≤ i ∧ i < 2 ^ 62 ∧ -(2 ^ 62) ≤ j ∧ j < 2 ^ 62 then .ok (rgD i j, none) G else .stuck
  | _, _ => .stuck
def mRgD (ms : MEs) : MI := fun ρ G => (ms ρ G).bind fRgD
section
variable {QV : AV → Hs → Prop} {QW : Wk → Hs → Prop} {E : XQ} {ρ : En} {G : Hs}
@[simp] theorem wp_rgD (ms : MEs) : (mRgD ms ρ G).wp QW E = (ms ρ G).wp (fun vs G => (fRgD vs G).wp QW E) E := by
  unfold mRgD
  rw [wp_bind]
end
end Vz
namespace Vz
open PySem L2
end Vz
namespace Pl
open PySem Vz
/-- the five sums -/
inductive Sk where
  | plus | less | times | under | same
  deriving DecidableEq
def Sk.word : Sk → Str
  | .plus => "plus"
  | .less => "less"
  | .times => "times"
  | .under => "under"
  | .same => "same"
inductive Ex where
  | num (n : Int) | box (x : Str) | ref (f : Str) | many | extra (e : Ex) | sum (k : Sk) (a b : Ex)
def Ex.av : Ex → AV
  | .num n => .tup [.str "number", .int n]
  | .box x => .tup [.str "box", .str x]
  | .ref f => .tup [.str "ref", .str f]
  | .many => .tup [.str "many"]
  | .extra e => .tup [.str "extra", e.av]
  | .sum k a b => .tup [.str k.word, a.av, b.av]
inductive St where
  | set (x : Str) (e : Ex)
  | say (e : Ex)
  | call (ts : List Str) (f : Str) (es : List Ex)
  | at_ (t : Str) (e : Ex) (es : List Ex)
  | ret (es : List Ex)
  | throw (e : Ex)
  | ite (c : Ex) (a b : List St)
  | whl (c : Ex) (b : List St)
  | try_ (a : List St) (x : Str) (b : List St)
mutual
def St.av : St → AV
  | .set x e => .tup [.str "set", .str x, e.av]
  | .say e => .tup [.str "say", e.av]
  | .call ts f es => .tup [.str "call", .tup (ts.map .str), .str f, .tup (es.map Ex.av)]
  | .at_ t e es => .tup [.str "at", .str t, e.av, .tup (es.map Ex.av)]
  | .ret es => .tup [.str "return", .tup (es.map Ex.av)]
  | .throw e => .tup [.str "throw", e.av]
  | .ite c a b => .tup [.str "if", c.av, .tup (bdA a), .tup (bdA b)]
  | .whl c b => .tup [.str "while", c.av, .tup (bdA b)]
  | .try_ a x b => .tup [.str "try", .tup (bdA a), .str x, .tup (bdA b)]
def bdA : List St → List AV
  | [] => []
  | s :: r => s.av :: bdA r
end
structure Fn where
  name : Str
  params : List Str
  body : List St
  results : Nat
  more : Bool
def strA (xs : List Str) : List AV := xs.map .str
def fnN : List Str := ["name", "params", "body", "results", "more"]
def Fn.av (f : Fn) : AV := .iv "Function" fnN [.str f.name, .tup (strA f.params), .tup (bdA f.body), .int f.results, .bl f.more]
def bookA (fs : List Fn) : AV := .iv "Book" ["functions"] [.tup (fs.map Fn.av)]
abbrev M : Int := 1000000007
inductive En where
  | spent | fault (s : Str)
  deriving DecidableEq
def En.av : En → AV
  | .spent => .tup [.str "spent"]
  | .fault s => .tup [.str "fault", .str s]
inductive Lg where
  | inn (f : Str) (xs : List Int) | out (f : Str) (xs : List Int) | gone (f : Str)
  deriving DecidableEq
def Lg.av : Lg → AV
  | .inn f xs => .tup [.str "in", .str f, .tup (zAV xs)]
  | .out f xs => .tup [.str "out", .str f, .tup (zAV xs)]
  | .gone f => .tup [.str "gone", .str f]
def saidA (p : Int × List Str) : AV := .tup [.int p.1, .tup (strA p.2)]
structure Rs where
  fuel : Int
  work : List Str
  said : List (Int × List Str)
  log : List Lg
abbrev Bx := List (Str × Int)
def Bx.get (bx : Bx) (x : Str) : Option Int := match bx with
  | [] => none
  | (y, v) :: r => if y = x then some v else Bx.get r x
def Bx.put (bx : Bx) (x : Str) (v : Int) : Bx := if (bx.any fun p => decide (p.1 = x)) = true then bx.map (fun p => if p.1 = x then (p.1, v) else p) else bx ++ [(x, v)]
abbrev lim : Nat := 1000000
def summed : Sk → Int → Int → Int
  | .plus, a, b => (a + b) % M
  | .less, a, b => (a - b) % M
  | .times, a, b => a * b % M
  | .under, a, b => if a < b then 1 else 0
  | .same, a, b => if a = b then 1 else 0
def placeOf (fs : List Fn) (x : Str) : Option Nat := match fs with
  | [] => none
  | f :: r => if f.name = x then some 0 else (placeOf r x).map (· + 1)
/-- none where the run ends within a row of worths (an extra that there is not), too -/
def evE (fs : List Fn) (bx : Bx) (xs : List Int) : Ex → Option Int
  | .num n => some n
  | .box x => bx.get x
  | .ref f => (placeOf fs f).map fun (k : Nat) => (k : Int)
  | .many => some xs.length
  | .extra e => match evE fs bx xs e with
    | some i => if 0 ≤ i then xs[i.toNat]? else none
    | none => none
  | .sum k a b => match evE fs bx xs a with
    | some i => match evE fs bx xs b with
      | some j => if k = .times ∧ ¬ (i.natAbs < 2 ^ 64 ∧ j.natAbs < 2 ^ 64) then none else some (summed k i j)
      | none => none
    | none => none
def evs (fs : List Fn) (bx : Bx) (xs : List Int) : List Ex → Option (List Int)
  | [] => some []
  | e :: r => match evE fs bx xs e with
    | some i => match evs fs bx xs r with
      | some l => some (i :: l)
      | none => none
    | none => none
inductive Out where
  | next | ret (vs : List Int) | thrown (w : Int) | stop (e : En)
abbrev RR := Option (Out × Rs × Bx)
def exBoxes : Ex → List Str
  | .box x => [x]
  | .extra e => exBoxes e
  | .sum _ a b => exBoxes a ++ exBoxes b
  | _ => []
def esBoxes : List Ex → List Str
  | [] => []
  | e :: r => exBoxes e ++ esBoxes r
mutual
def stBoxes : St → List Str
  | .set x e => [x] ++ exBoxes e
  | .say e => exBoxes e
  | .call ts _ es => ts ++ esBoxes es
  | .at_ t e es => [t] ++ (exBoxes e ++ esBoxes es)
  | .ret es => esBoxes es
  | .throw e => exBoxes e
  | .ite c a b => exBoxes c ++ (bdBoxes a ++ bdBoxes b)
  | .whl c b => exBoxes c ++ bdBoxes b
  | .try_ a x b => bdBoxes a ++ [x] ++ bdBoxes b
def bdBoxes : List St → List Str
  | [] => []
  | s :: r => stBoxes s ++ bdBoxes r
end
/-- each once, as it comes first -/
def once (acc : List Str) : List Str → List Str
  | [] => acc
  | x :: r => if x ∈ acc then once acc r else once (acc ++ [x]) r
def Fn.boxes (f : Fn) : List Str := once [] (f.params ++ bdBoxes f.body)
def bx0 (xs : List Str) : Bx := xs.map fun x => (x, 0)
def putG (bx : Bx) (x : Str) (v : Int) : Option Bx := if lim ≤ bx.length then none else some (bx.put x v)
def puts : Bx → List Str → List Int → Option Bx
  | bx, x :: xs, v :: vs => match putG bx x v with
    | some b => puts b xs vs
    | none => none
  | bx, _, _ => some bx
def Fn.start (f : Fn) (things : List Int) : Option Bx := puts (bx0 f.boxes) f.params things
structure Ops where
  comeIn : Fn → List Int → Rs → Option (Out × Rs)
  doAll : List Int → List St → Rs → Bx → RR
  doOne : List Int → St → Rs → Bx → RR
  doPlain : List Int → St → Rs → Bx → RR
  doAt : List Int → Str → Ex → List Ex → Rs → Bx → RR
  doTry : List Int → List St → Str → List St → Rs → Bx → RR
  doWhile : List Int → Ex → List St → Rs → Bx → RR
def noOps : Ops := ⟨fun _ _ _ => none, fun _ _ _ _ => none, fun _ _ _ _ => none, fun _ _ _ _ => none, fun _ _ _ _ _ _ => none, fun _ _ _ _ _ _ => none, fun _ _ _ _ _ => none⟩
def runAll (one : St → Rs → Bx → RR) : List St → Rs → Bx → RR
  | [], st, bx => some (.next, st, bx)
  | s :: r, st, bx => if st.fuel < 1 then some (.stop .spent, st, bx) else match one s { st with fuel := st.fuel - 1 } bx with
    | some (.next, st', bx') => runAll one r st' bx'
    | x => x
/-- those above so many are gone -/
def leaveTo (many : Nat) (st : Rs) : Rs := { st with work := st.work.take many, log := st.log ++ ((st.work.drop many).reverse.map .gone) }
def whileF (ask : Bx → Option Int) (body : Rs → Bx → RR) : Nat → Rs → Bx → RR
  | 0, _, _ => none
  | k + 1, st, bx => match ask bx with
    | none => none
    | some w => if w = 0 then some (.next, st, bx) else match body st bx with
      | some (.next, st', bx') => if st'.fuel < 1 then some (.stop .spent, st', bx') else whileF ask body k { st' with fuel := st'.fuel - 1 } bx'
      | x => x
def takes (f : Fn) (many : Nat) : Bool := decide (many = f.params.length) || (f.more && decide (f.params.length < many))
section
variable (fs : List Fn) (o : Ops)
def outF (f : Fn) (vs : List Int) (st : Rs) : Option (Out × Rs) := if lim ≤ st.log.length ∨ st.work = [] then none else some (.ret vs, { st with work := st.work.dropLast, log := st.log ++ [.out f.name vs] })
def comeInF (f : Fn) (things : List Int) (st : Rs) : Option (Out × Rs) :=
  if 12 ≤ st.work.length then some (.stop (.fault "deep"), st) else if lim ≤ st.log.length then none else
  match f.start things with
  | none => none
  | some bx => match o.doAll (things.drop f.params.length) f.body { st with work := st.work ++ [f.name], log := st.log ++ [.inn f.name things] } bx with
    | none => none
    | some (.next, s2, _) => if f.results ≤ 1000 then outF f (List.replicate f.results 0) s2 else none
    | some (.ret vs, s2, _) => outF f vs s2
    | some (r, s2, _) => some (r, s2)
def doOneF (xs : List Int) (s : St) (st : Rs) (bx : Bx) : RR := match s with
  | .ite c a b => match evE fs bx xs c with
    | some w => o.doAll xs (if w = 0 then b else a) st bx
    | none => none
  | .whl c b => o.doWhile xs c b st bx
  | .try_ a x b => o.doTry xs a x b st bx
  | .ret es => match evs fs bx xs es with
    | some vs => some (.ret vs, st, bx)
    | none => none
  | .throw e => match evE fs bx xs e with
    | some w => some (.thrown w, st, bx)
    | none => none
  | s => o.doPlain xs s st bx
def doPlainF (xs : List Int) (s : St) (st : Rs) (bx : Bx) : RR := match s with
  | .set x e => match evE fs bx xs e with
    | some w => (putG bx x w).map fun b => (.next, st, b)
    | none => none
  | .say e => match evE fs bx xs e with
    | some w => if lim ≤ st.said.length then none else some (.next, { st with said := st.said ++ [(w, st.work.reverse)] }, bx)
    | none => none
  | .call ts g es => match evs fs bx xs es with
    | some vs => match (placeOf fs g).bind fun i => fs[i]? with
      | none => none
      | some f => match o.comeIn f vs st with
        | none => none
        | some (.ret rs, s2) => (puts bx ts rs).map fun b => (.next, s2, b)
        | some (r, s2) => some (r, s2, bx)
    | none => none
  | .at_ t e es => o.doAt xs t e es st bx
  | _ => none
def doAtF (xs : List Int) (t : Str) (e : Ex) (es : List Ex) (st : Rs) (bx : Bx) : RR := match evE fs bx xs e with
  | none => none
  | some at_ => match evs fs bx xs es with
    | none => none
      | some vs => if fs.length ≤ at_ then some (.stop (.fault "noplace"), st, bx) else if at_ < 0 then none else match fs[at_.toNat]? with
      | none => none
      | some f => if ¬ f.results = 1 ∨ takes f vs.length = false then some (.stop (.fault "misfit"), st, bx) else match o.comeIn f vs st with
        | none => none
        | some (.ret (r :: _), s2) => (putG bx t r).map fun b => (.next, s2, b)
        | some (.ret [], _) => none
        | some (r, s2) => some (r, s2, bx)
def doTryF (xs : List Int) (a : List St) (x : Str) (b : List St) (st : Rs) (bx : Bx) : RR := match o.doAll xs a st bx with
  | some (.thrown w, s2, bx2) => if lim ≤ s2.log.length + s2.work.length then none else match putG bx2 x w with
    | some bx3 => o.doAll xs b (leaveTo st.work.length s2) bx3
    | none => none
  | r => r
def stepO : Ops where
  comeIn := comeInF o
  doAll := fun xs body st bx => runAll (o.doOne xs) body st bx
  doOne := doOneF fs o
  doPlain := doPlainF fs o
  doAt := doAtF fs o
  doTry := doTryF o
  doWhile := fun xs c b st bx => whileF (fun bx => evE fs bx xs c) (o.doAll xs b) (st.fuel.toNat + 1) st bx
end
def ops (fs : List Fn) : Nat → Ops
  | 0 => noOps
  | n + 1 => stepO fs (ops fs n)
end Pl
namespace Vz
open PySem L2
section
variable {K : PySem.W.Frag}
def fExtA (v : AV) (vs : List AV) (G : Hs) : R AV := match v, vs with
  | .ref m, [.ls ys] => match G[m]? with
    | some (.lst xs) => if xs.length + ys.length ≤ szl then .ok .non (G.set m (.lst (xs ++ ys))) else .stuck
    | _ => .stuck
  | v, vs => fExt v vs G
theorem opM_extA : OpM K rExtend fExtA := by
  intro W σ H μ G v vs x xs Q hG rv rs q
  unfold fExtA at q
  split at q
  · rename_i m ys
    obtain ⟨y, rfl, ry⟩ := rs.one
    cases e1 : G[m]? with
    | none => rw [e1] at q; exact q.elim
    | some o1 =>
      rw [e1] at q
      cases o1 with
      | lst zs =>
        obtain ⟨hz, q⟩ := po_if q
        obtain ⟨p1, us, rfl, hn, hH, rz⟩ := mut_ok hG rv e1
        cases ry with
        | @ls a ws _ hl rl =>
          have gp : Gr H μ (upd H p1 (.lst (us ++ ws))) μ := Gr.put hG hn e1
          exact ⟨p1, a, us, ws, rfl, rfl, hH, hl.1, by rw [← rz.length, ← rl.length]; exact hz, q _ μ _ gp (hG.put (o := .lst (zs ++ ys)) hn e1 ⟨_, upd_same, (rz.app rl).gr gp⟩) .non⟩
      | _ => exact q.elim
  · exact opM_ext W σ H μ G _ _ x xs Q hG rv rs q
end
section
variable {QV : AV → Hs → Prop} {E : XQ} {G : Hs} {ρ : En} {D : SP}
theorem wp_extA {n : Nat} {xs ys : List AV} (h : G[n]? = some (.lst xs)) : (fExtA (.ref n) [.ls ys] G).wp QV E = (xs.length + ys.length ≤ szl ∧ QV .non (G.set n (.lst (xs ++ ys)))) := by
  unfold fExtA
  simp only [h]
  exact wp_guard _
theorem dcF_inv {gd : Option (Nat × List AV)} {g : MG} {t : MB} {mk mv : ME} {n : Nat} (I : Nat → List (Key × AV) → Hs → Prop) :
    ∀ (vs : List AV) (i : Nat) (acc : List (Key × AV)) (G : Hs), I i acc G → G[n]? = some (.dk acc) →
      (∀ j acc G, i ≤ j → j ≤ i + vs.length → I j acc G → gdOk gd G) →
      (∀ j v acc G, vs[j]? = some v → I (i + j) acc G → G[n]? = some (.dk acc) → ∃ ρ1 G1, g v ρ G = .ok ρ1 G1 ∧ (t ρ1 G1).wp (fun b G2 => if b = true then
        (mk ρ1 G2).wp (fun y G3 => (mv ρ1 G3).wp (fun z G4 => ∃ k, kOf y = some k ∧ G4[n]? = some (.dk acc) ∧ acc.length < szl ∧ I (i + j + 1) (putA acc k z) (G4.set n (.dk (putA acc k z)))) noX) noX
        else G2[n]? = some (.dk acc) ∧ I (i + j + 1) acc G2) noX) →
      (dcF gd g t mk mv n ρ vs G).wp (fun _ G2 => ∃ acc, G2[n]? = some (.dk acc) ∧ I (i + vs.length) acc G2) noX
  | [], i, acc, G, h, hn, hg, hs => by
    have z := hg i acc G (Nat.le_refl _) (Nat.le_add_right _ _) h
    unfold dcF
    rw [if_pos z]
    exact ⟨acc, hn, h⟩
  | v :: vs, i, acc, G, h, hn, hg, hs => by
    have z := hg i acc G (Nat.le_refl _) (Nat.le_add_right _ _) h
    obtain ⟨ρ1, G1, e1, q⟩ := hs 0 v acc G rfl h hn
    have rest : ∀ acc' G', I (i + 1) acc' G' → G'[n]? = some (.dk acc') → (dcF gd g t mk mv n ρ vs G').wp (fun _ G2 => ∃ acc, G2[n]? = some (.dk acc) ∧ I (i + (v :: vs).length) acc G2) noX := fun acc' G' h' hn' => by
      have := dcF_inv I vs (i + 1) acc' G' h' hn' (fun j a G'' l1 l2 => hg j a G'' (by omega) (by simp only [List.length_cons]; omega)) (fun j w a G'' e hI hN => by
        have e2 : i + 1 + j = i + (j + 1) := by omega
        have e3 : i + 1 + j + 1 = i + (j + 1) + 1 := by omega
        rw [e2] at hI
        rw [e3]
        exact hs (j + 1) w a G'' e hI hN)
      have e4 : i + 1 + vs.length = i + (v :: vs).length := by simp only [List.length_cons]; omega
      rw [e4] at this
      exact this
    unfold dcF
    rw [if_pos z, e1]
    simp only
    cases et : t ρ1 G1 with
    | stuck => rw [et] at q; exact q.elim
    | exc c d G' => rw [et] at q; exact q.elim
    | ok b G2 =>
      rw [et] at q
      cases b with
      | false =>
        obtain ⟨q1, q2⟩ : G2[n]? = some (.dk acc) ∧ I (i + 0 + 1) acc G2 := q
        exact rest acc G2 q2 q1
      | true =>
        have q : (mk ρ1 G2).wp (fun y G3 => (mv ρ1 G3).wp (fun z G4 => ∃ k, kOf y = some k ∧ G4[n]? = some (.dk acc) ∧ acc.length < szl ∧ I (i + 0 + 1) (putA acc k z) (G4.set n (.dk (putA acc k z)))) noX) noX := q
        simp only
        cases ek : mk ρ1 G2 with
        | stuck => rw [ek] at q; exact q.elim
        | exc c d G' => rw [ek] at q; exact q.elim
        | ok y G3 =>
          rw [ek] at q
          have q : (mv ρ1 G3).wp (fun z G4 => ∃ k, kOf y = some k ∧ G4[n]? = some (.dk acc) ∧ acc.length < szl ∧ I (i + 0 + 1) (putA acc k z) (G4.set n (.dk (putA acc k z)))) noX := q
          simp only
          cases ev : mv ρ1 G3 with
          | stuck => rw [ev] at q; exact q.elim
          | exc c d G' => rw [ev] at q; exact q.elim
          | ok zz G4 =>
            rw [ev] at q
            obtain ⟨k, q1, q2, q3, q4⟩ : ∃ k, kOf y = some k ∧ G4[n]? = some (.dk acc) ∧ acc.length < szl ∧ I (i + 0 + 1) (putA acc k zz) (G4.set n (.dk (putA acc k zz))) := q
            simp only [q1, q2, if_pos q3]
            refine rest _ _ q4 ?_
            rw [List.getElem?_set_self (List.getElem?_eq_some_iff.mp q2).1]
theorem wp_dc {mi : MI} {g : MG} {t : MB} {mk mv : ME} {own : List Nat} (I : Nat → List (Key × AV) → Hs → Prop) (h : (mi ρ G).wp (fun k G0 => I 0 [] (G0 ++ [.dk []]) ∧ (∀ j acc G, j ≤ k.1.length → I j acc G → gdOk k.2 G) ∧
      (∀ j v acc G, k.1[j]? = some v → I j acc G → G[G0.length]? = some (.dk acc) → ∃ ρ1 G1, g v (wipeA ρ own) G = .ok ρ1 G1 ∧ (t ρ1 G1).wp (fun b G2 => if b = true then
        (mk ρ1 G2).wp (fun y G3 => (mv ρ1 G3).wp (fun z G4 => ∃ q, kOf y = some q ∧ G4[G0.length]? = some (.dk acc) ∧ acc.length < szl ∧ I (j + 1) (putA acc q z) (G4.set G0.length (.dk (putA acc q z)))) noX) noX
        else G2[G0.length]? = some (.dk acc) ∧ I (j + 1) acc G2) noX) ∧
      ∀ acc G, G[G0.length]? = some (.dk acc) → I k.1.length acc G → QV (.ref G0.length) G) E) : (mDc mi g t mk mv own ρ G).wp QV E := by
  unfold mDc
  rw [wp_bind]
  refine h.mono (fun k G ⟨h0, hg, hs, he⟩ => ?_) fun _ _ _ x => x
  rw [wp_bind]
  have := dcF_inv (gd := k.2) (g := g) (t := t) (mk := mk) (mv := mv) (n := G.length) (ρ := wipeA ρ own) I k.1 0 [] (G ++ [.dk []]) h0 (by simp) (fun j acc G _ l h => hg j acc G (by omega) h) (fun j v acc G e h hn => by
    rw [Nat.zero_add] at h ⊢
    exact hs j v acc G e h hn)
  refine this.to fun _ G2 ⟨acc, hn, hI⟩ => ?_
  rw [Nat.zero_add] at hI
  exact he acc G2 hn hI
end
end Vz
namespace Pl
open PySem Vz
structure FrP (P : Nat → Prop) (G G' : Hs) : Prop where
  le : G.length ≤ G'.length
  at_ : ∀ n, ¬ P n → n < G.length → G'[n]? = G[n]?
section
variable {P Q : Nat → Prop} {G G1 G2 : Hs}
theorem FrP.refl : FrP P G G := ⟨Nat.le_refl _, fun _ _ _ => rfl⟩
theorem FrP.trans (h : FrP P G G1) (k : FrP P G1 G2) : FrP P G G2 := ⟨Nat.le_trans h.le k.le, fun n hn hl => (k.at_ n hn (Nat.lt_of_lt_of_le hl h.le)).trans (h.at_ n hn hl)⟩
theorem FrP.mono (h : FrP P G G1) (l : ∀ n, P n → Q n) : FrP Q G G1 := ⟨h.le, fun n hn hl => h.at_ n (fun z => hn (l n z)) hl⟩
theorem FrP.kp (h : Kp 0 G G1) : FrP P G G1 := ⟨h.le, fun n _ hl => h.at_ n (Nat.zero_le _) hl⟩
theorem FrP.set {n : Nat} {o : AO} (h : FrP P G G1) (hn : P n) : FrP P G (G1.set n o) := ⟨by rw [List.length_set]; exact h.le, fun m hm hl => (List.getElem?_set_ne fun e => hm (by rw [← e]; exact hn)).trans (h.at_ m hm hl)⟩
theorem FrP.app {o : List AO} (h : FrP P G G1) : FrP P G (G1 ++ o) := h.trans ⟨by simp, fun n _ hl => List.getElem?_append_left hl⟩
theorem FrP.get {n : Nat} {o : AO} (h : FrP P G G1) (hn : ¬ P n) (e : G[n]? = some o) : G1[n]? = some o := (h.at_ n hn (List.getElem?_eq_some_iff.mp e).1).trans e
end
/-- where a run's things stand -/
structure Ad where
  R : Nat
  w : Nat
  s : Nat
  l : Nat
def Ad.mem (A : Ad) (n : Nat) : Prop := n = A.R ∨ n = A.w ∨ n = A.s ∨ n = A.l
def runF (A : Ad) (fs : List Fn) (fuel : Int) : List (Str × AV) := [("book", bookA fs), ("fuel", .int fuel), ("work", .ref A.w), ("said", .ref A.s), ("log", .ref A.l)]
structure RunH (A : Ad) (fs : List Fn) (st : Rs) (G : Hs) : Prop where
  r : G[A.R]? = some (.ins "Running" (runF A fs st.fuel))
  w : G[A.w]? = some (.lst (strA st.work))
  s : G[A.s]? = some (.lst (st.said.map saidA))
  l : G[A.l]? = some (.lst (st.log.map Lg.av))
  ne : A.w ≠ A.s ∧ A.w ≠ A.l ∧ A.s ≠ A.l
def bxK (bx : Bx) : List (L2.Key × AV) := bx.map fun p => (.inr p.1, .int p.2)
def BxH (d : Nat) (bx : Bx) (G : Hs) : Prop := G[d]? = some (.dk (bxK bx))
section
variable {A : Ad} {fs : List Fn} {st : Rs} {G G1 : Hs} {d : Nat} {bx : Bx}
theorem RunH.neR (h : RunH A fs st G) : A.R ≠ A.w ∧ A.R ≠ A.s ∧ A.R ≠ A.l := by
  refine ⟨fun e => ?_, fun e => ?_, fun e => ?_⟩
  · have := h.r; rw [e, h.w] at this; cases this
  · have := h.r; rw [e, h.s] at this; cases this
  · have := h.r; rw [e, h.l] at this; cases this
theorem RunH.nd (h : RunH A fs st G) (b : BxH d bx G) : ¬ A.mem d := by
  unfold BxH at b
  rintro (e | e | e | e)
  · rw [e, h.r] at b; cases b
  · rw [e, h.w] at b; cases b
  · rw [e, h.s] at b; cases b
  · rw [e, h.l] at b; cases b
theorem RunH.fr {P : Nat → Prop} (h : RunH A fs st G) (f : FrP P G G1) (hp : ∀ n, A.mem n → ¬ P n) : RunH A fs st G1 :=
  ⟨f.get (hp _ (.inl rfl)) h.r, f.get (hp _ (.inr (.inl rfl))) h.w, f.get (hp _ (.inr (.inr (.inl rfl)))) h.s, f.get (hp _ (.inr (.inr (.inr rfl)))) h.l, h.ne⟩
theorem RunH.kp (h : RunH A fs st G) (k : Kp 0 G G1) : RunH A fs st G1 := h.fr (P := fun _ => False) (.kp k) fun _ _ z => z
theorem BxH.kp (h : BxH d bx G) (k : Kp 0 G G1) : BxH d bx G1 := k.get0 h
theorem lt_of {n : Nat} {o : AO} (h : G[n]? = some o) : n < G.length := (List.getElem?_eq_some_iff.mp h).1
theorem set_self {n : Nat} {o o' : AO} (h : G[n]? = some o) : (G.set n o')[n]? = some o' := List.getElem?_set_self (lt_of h)
theorem set_other {n m : Nat} {o' : AO} (h : m ≠ n) : (G.set n o')[m]? = G[m]? := List.getElem?_set_ne fun e => h e.symm
theorem RunH.fuel (h : RunH A fs st G) (g : Int) : RunH A fs { st with fuel := g } (G.set A.R (.ins "Running" (runF A fs g))) := by
  obtain ⟨n1, n2, n3⟩ := h.neR
  exact ⟨set_self h.r, (set_other n1.symm).trans h.w, (set_other n2.symm).trans h.s, (set_other n3.symm).trans h.l, h.ne⟩
theorem RunH.work (h : RunH A fs st G) (ws : List Str) : RunH A fs { st with work := ws } (G.set A.w (.lst (strA ws))) := by
  obtain ⟨n1, n2, n3⟩ := h.neR
  exact ⟨(set_other n1).trans h.r, set_self h.w, (set_other h.ne.1.symm).trans h.s, (set_other h.ne.2.1.symm).trans h.l, h.ne⟩
theorem RunH.said (h : RunH A fs st G) (xs : List (Int × List Str)) : RunH A fs { st with said := xs } (G.set A.s (.lst (xs.map saidA))) := by
  obtain ⟨n1, n2, n3⟩ := h.neR
  exact ⟨(set_other n2).trans h.r, (set_other h.ne.1).trans h.w, set_self h.s, (set_other h.ne.2.2.symm).trans h.l, h.ne⟩
theorem RunH.log (h : RunH A fs st G) (xs : List Lg) : RunH A fs { st with log := xs } (G.set A.l (.lst (xs.map Lg.av))) := by
  obtain ⟨n1, n2, n3⟩ := h.neR
  exact ⟨(set_other n3).trans h.r, (set_other h.ne.2.1).trans h.w, (set_other h.ne.2.2).trans h.s, set_self h.l, h.ne⟩
def Ex.dep : Ex → Nat
  | .extra e => e.dep + 1
  | .sum _ a b => max a.dep b.dep + 1
  | _ => 1
mutual
def St.dep : St → Nat
  | .ite _ a b => max (bdDep a) (bdDep b) + 1
  | .whl _ b => bdDep b + 1
  | .try_ a _ b => max (bdDep a) (bdDep b) + 1
  | _ => 1
def bdDep : List St → Nat
  | [] => 0
  | s :: r => max s.dep (bdDep r)
end
def exsDep : List Ex → Nat
  | [] => 0
  | e :: r => max e.dep (exsDep r)
/-- the expressions of a statement -/
def St.exs : St → List Ex
  | .set _ e => [e]
  | .say e => [e]
  | .call _ _ es => es
  | .at_ _ e es => [e] ++ es
  | .ret es => es
  | .throw e => [e]
  | .ite c _ _ => [c]
  | .whl c _ => [c]
  | .try_ _ _ _ => []
mutual
/-- all statements of a body are so -/
def stAll (p : St → Bool) : St → Bool
  | .ite c a b => p (.ite c a b) && (bdAll p a && bdAll p b)
  | .whl c b => p (.whl c b) && bdAll p b
  | .try_ a x b => p (.try_ a x b) && (bdAll p a && bdAll p b)
  | s => p s
def bdAll (p : St → Bool) : List St → Bool
  | [] => true
  | s :: r => stAll p s && bdAll p r
end
/-- fit for the layer: few parts, not too deep -/
def stFit (s : St) : Bool := decide (exsDep s.exs ≤ 12) && decide (s.exs.length ≤ 1000)
def Fn.fit (f : Fn) : Bool := bdAll stFit f.body && decide (bdDep f.body ≤ 12) && decide (f.params.length ≤ 1000) && decide ((f.params ++ bdBoxes f.body).length ≤ 100000)
end
end Pl
namespace Vz
open PySem L2
end Vz
namespace Pl
open PySem Vz
def Ex.parts : Ex → List Ex
  | .extra e => [e]
  | .sum _ a b => [a, b]
  | _ => []
def Ex.subs : Ex → List Ex
  | .extra e => .extra e :: e.subs
  | .sum k a b => .sum k a b :: (a.subs ++ b.subs)
  | e => [e]
def subsOf : List Ex → List Ex
  | [] => []
  | e :: r => e.subs ++ subsOf r
theorem subs_parts (e : Ex) : e.subs = e :: subsOf e.parts := by
  cases e <;> simp [Ex.subs, Ex.parts, subsOf]
theorem subs_len : ∀ e : Ex, e.subs.length + 1 ≤ 2 ^ e.dep
  | .num _ => by simp [Ex.subs, Ex.dep]
  | .box _ => by simp [Ex.subs, Ex.dep]
  | .ref _ => by simp [Ex.subs, Ex.dep]
  | .many => by simp [Ex.subs, Ex.dep]
  | .extra e => by
    have h := subs_len e
    have h1 : 1 ≤ 2 ^ e.dep := Nat.one_le_two_pow
    simp only [Ex.subs, Ex.dep, List.length_cons, Nat.pow_succ]
    omega
  | .sum k a b => by
    have h1 := subs_len a
    have h2 := subs_len b
    have l1 : 2 ^ a.dep ≤ 2 ^ (max a.dep b.dep) := Nat.pow_le_pow_right (by decide) (by omega)
    have l2 : 2 ^ b.dep ≤ 2 ^ (max a.dep b.dep) := Nat.pow_le_pow_right (by decide) (by omega)
    simp only [Ex.subs, Ex.dep, List.length_cons, List.length_append, Nat.pow_succ]
    omega
theorem subsOf_len {n : Nat} : ∀ es : List Ex, exsDep es ≤ n → (subsOf es).length ≤ es.length * 2 ^ n
  | [], _ => by simp [subsOf]
  | e :: r, h => by
    simp only [exsDep] at h
    have h1 := subs_len e
    have h2 := subsOf_len r (n := n) (by omega)
    have l1 : 2 ^ e.dep ≤ 2 ^ n := Nat.pow_le_pow_right (by decide) (by omega)
    simp only [subsOf, List.length_append, List.length_cons, Nat.add_mul, Nat.one_mul]
    omega
theorem parts_dep (e : Ex) : exsDep e.parts + 1 ≤ e.dep ∨ e.parts = [] := by
  cases e <;> simp [Ex.parts, exsDep, Ex.dep] <;> omega
theorem dep_pos (e : Ex) : 1 ≤ e.dep := by cases e <;> simp [Ex.dep]
theorem exsDep_mem {e : Ex} : ∀ {es : List Ex}, e ∈ es → e.dep ≤ exsDep es
  | [], h => nomatch h
  | f :: r, h => by
    simp only [exsDep]
    rcases List.mem_cons.mp h with q | q
    · subst q; omega
    · have := exsDep_mem q; omega
def isBox : Ex → Option Str
  | .box x => some x
  | _ => none
theorem exBoxes_subs : ∀ e : Ex, exBoxes e = e.subs.filterMap isBox
  | .num _ => rfl
  | .box _ => rfl
  | .ref _ => rfl
  | .many => rfl
  | .extra e => by
    rw [Ex.subs, List.filterMap_cons_none rfl, ← exBoxes_subs e]
    rfl
  | .sum k a b => by
    rw [Ex.subs, List.filterMap_cons_none rfl, List.filterMap_append, ← exBoxes_subs a, ← exBoxes_subs b]
    rfl
theorem esBoxes_subs : ∀ es : List Ex, esBoxes es = (subsOf es).filterMap isBox
  | [] => rfl
  | e :: r => by simp [esBoxes, subsOf, exBoxes_subs e, esBoxes_subs r]
/-- the boxes that a statement gives something, but a try's -/
def St.given : St → List Str
  | .set x _ => [x]
  | .call ts _ _ => ts
  | .at_ t _ _ => [t]
  | _ => []
def St.bodies : St → List (List St)
  | .ite _ a b => [a, b]
  | .whl _ b => [b]
  | _ => []
def St.isTry : St → Bool
  | .try_ _ _ _ => true
  | _ => false
end Pl
namespace Vz
open PySem PySem.Spec L2
def rEqE (K : PySem.W.Frag) (n : Bool) : R2 := fun x y H Q => ∃ a b xs, x = .ref a ∧ y = .ref b ∧ SqT K H a xs ∧ SqT K H b [] ∧ Q (.bl (if n then !xs.isEmpty else xs.isEmpty)) H
section
variable {X : Cx}
theorem op_eqE (hu : X.A.units + 64 < cLine) : OpR X (compareOp .Eq) (rEqE X.K false) := by
  intro pins s σ H x y v u Q I rx ry ⟨a, b, xs, ex, ey, ha, hb, q⟩
  subst ex ey
  cases rx
  cases ry
  obtain ⟨its, r1, h1, _⟩ := I.tuple ha
  obtain ⟨its2, r2, h2, _⟩ := I.tuple hb
  cases r2
  have z1 : its.length = xs.length := r1.length.symm
  refine SeqAt.RcAt.tuples (e := fun _ => true) h1 h2 (by omega) (fun j _ j2 => absurd j2 (by simp)) _ _ _ _ ?_
  refine ⟨.bl _, H, I, rfl, ?_⟩
  have e : ((List.range (min its.toArray.size ([] : List Value).toArray.size)).all (fun _ => true) && its.toArray.size == ([] : List Value).toArray.size) = xs.isEmpty := by
    rw [List.size_toArray, z1]
    cases xs <;> simp
  rw [e]
  exact q
end
def fEqE (v w : AV) (G : Hs) : R AV := match tupOf v, tupOf w with
  | some xs, some [] => .ok (.bl xs.isEmpty) G
  | _, _ => .stuck
theorem op2_eqE {K : PySem.W.Frag} : Op2 K (rEqE K false) fEqE := by
  intro W σ H μ G v w x y Q hG rv rw' q
  unfold fEqE at q
  cases e : tupOf v with
  | none => rw [e] at q; exact q.elim
  | some xs =>
    cases e2 : tupOf w with
    | none => rw [e, e2] at q; exact q.elim
    | some ys =>
      rw [e, e2] at q
      cases ys with
      | cons y l => exact q.elim
      | nil =>
        obtain ⟨a, vs, rfl, h1, rs⟩ := tupOf_ok rv e
        obtain ⟨b, ws, rfl, h2, rs2⟩ := tupOf_ok rw' e2
        cases rs2
        refine ⟨a, b, vs, rfl, rfl, h1, h2, ?_⟩
        have el : vs.isEmpty = xs.isEmpty := by cases rs <;> rfl
        rw [if_neg (by decide), el]
        exact Po.now (v := AV.bl xs.isEmpty) q hG (.bl _)
section
variable {QV : AV → Hs → Prop} {E : XQ} {G : Hs}
theorem wp_eqE {xs : List AV} : (fEqE (.tup xs) (.tup []) G).wp QV E = QV (.bl xs.isEmpty) G := rfl
end
end Vz
namespace Vz
open PySem PySem.Spec L2 PyProof.Rows
open AutoSeq1 (wpAny_loadPart')
end Vz
namespace Vz
open PySem L2
section
variable {QV : AV → Hs → Prop} {QB : Bool → Hs → Prop} {QVs : List AV → Hs → Prop} {E : XQ} {D : SP} {ρ : En} {G : Hs} {i j : Int} {xs : List AV}
theorem wp_okN {α : Type} {Q : α → Hs → Prop} (v : α) : (R.ok v G).wp Q E = Q v G := propext Iff.rfl
theorem wp_retNN : (mRetN ρ G).wp D = D.rt .non G := propext Iff.rfl
theorem wp_cN (v : AV) : (mC v ρ G).wp QV E = QV v G := propext Iff.rfl
theorem wp_nilN : (mNil ρ G).wp QVs E = QVs [] G := propext Iff.rfl
theorem wp_oNN {QO : Option Int → Hs → Prop} : (mNone ρ G).wp QO E = QO none G := propext Iff.rfl
theorem wp_addN : (fAdd (.int i) (.int j) G).wp QV E = QV (.int (i + j)) G := propext Iff.rfl
theorem wp_subN : (fSub (.int i) (.int j) G).wp QV E = QV (.int (i - j)) G := propext Iff.rfl
theorem wp_ltN : (fLt (.int i) (.int j) G).wp QV E = QV (.bl (decide (i < j))) G := propext Iff.rfl
theorem wp_leN : (fLe (.int i) (.int j) G).wp QV E = QV (.bl (decide (i ≤ j))) G := propext Iff.rfl
theorem wp_gtN : (fGt (.int i) (.int j) G).wp QV E = QV (.bl (decide (j < i))) G := propext Iff.rfl
theorem wp_geN : (fGe (.int i) (.int j) G).wp QV E = QV (.bl (decide (j ≤ i))) G := propext Iff.rfl
theorem wp_eqN : (fEq (.int i) (.int j) G).wp QV E = QV (.bl (decide (i = j))) G := propext Iff.rfl
theorem wp_neN : (fNe (.int i) (.int j) G).wp QV E = QV (.bl (!decide (i = j))) G := propext Iff.rfl
theorem wp_eqSN {a b : Str} : (fEq (.str a) (.str b) G).wp QV E = QV (.bl (decide (a = b))) G := propext Iff.rfl
theorem wp_neSN {a b : Str} : (fNe (.str a) (.str b) G).wp QV E = QV (.bl (!decide (a = b))) G := propext Iff.rfl
theorem wp_eqBN {a b : Bool} : (fEq (.bl a) (.bl b) G).wp QV E = QV (.bl (decide (a = b))) G := propext Iff.rfl
theorem wp_neBN {a b : Bool} : (fNe (.bl a) (.bl b) G).wp QV E = QV (.bl (!decide (a = b))) G := propext Iff.rfl
theorem mg_nmN (i : Nat) (v : AV) : MG.wp (gNm i v ρ G) D = D.nx (ρ.set i (some v)) G := propext Iff.rfl
theorem isN_nN : (fIsN .non .non G).wp QV E = QV (.bl true) G := propext Iff.rfl
theorem notN_nN : (fNotN .non .non G).wp QV E = QV (.bl false) G := propext Iff.rfl
theorem isN_iN {i : Int} : (fIsN (.int i) .non G).wp QV E = QV (.bl false) G := propext Iff.rfl
theorem notN_iN {i : Int} : (fNotN (.int i) .non G).wp QV E = QV (.bl true) G := propext Iff.rfl
theorem fzQ_lsN (xs : List AV) : fzQ QV (.ls xs) G = QV (.ls xs) G := propext Iff.rfl
theorem fzQ_tupN (xs : List AV) : fzQ QV (.tup xs) G = QV (.tup xs) G := propext Iff.rfl
theorem fzQ_ivN (c ns) (xs : List AV) : fzQ QV (.iv c ns xs) G = QV (.iv c ns xs) G := propext Iff.rfl
theorem fzQ_intN (i : Int) : fzQ QV (.int i) G = QV (.int i) G := propext Iff.rfl
theorem fzQ_strN (i : Str) : fzQ QV (.str i) G = QV (.str i) G := propext Iff.rfl
theorem fzQ_blN (i : Bool) : fzQ QV (.bl i) G = QV (.bl i) G := propext Iff.rfl
theorem fzQ_nonN : fzQ QV .non G = QV .non G := propext Iff.rfl
theorem wp_addIN : (fAddI (.int i) (.int j) G).wp QV E = QV (.int (i + j)) G := propext Iff.rfl
theorem wp_iaddIN : (fIAddI (.int i) (.int j) G).wp QV E = QV (.int (i + j)) G := propext Iff.rfl
theorem len_lsN : (fLen [.ls xs] G).wp QV E = QV (.int xs.length) G := propext Iff.rfl
theorem list_lsN : (fListI [.ls xs] G).wp QV E = QV (.ls xs) G := propext Iff.rfl
theorem tuple_lsN : (fTuple [.ls xs] G).wp QV E = QV (.tup xs) G := propext Iff.rfl
theorem starts_SN {a c : Str} : (fStarts (.str a) [.str c] G).wp QV E = QV (.bl (Txt.startswith a c)) G := propext Iff.rfl
end
end Vz
namespace Vz
open PySem PySem.Spec L2
section
variable {K : PySem.W.Frag}
def isD (v : AV) (G : Hs) : Bool := (dkR G v).isSome
theorem tyM_d {K : PySem.W.Frag} : TyM K "dict" isD := fun H μ G v x hG r h => by
  unfold isD at h
  cases e : dkR G v with
  | none => rw [e] at h; cases h
  | some xs =>
    obtain ⟨a, ws, rfl, hs, _⟩ := dkR_ok hG r e
    exact .inr (.inr (.inl ⟨rfl, .inl ⟨ws, hs⟩⟩))
theorem mutD_ok {H : Hp} {μ : Mu} {G : Hs} {n : Nat} {x : V} {kvs : List (Key × AV)} (hG : RH K H μ G) (r : RA K H μ (.ref n) x) (e : G[n]? = some (.dk kvs)) : ∃ a ws, x = .ref a ∧ Num μ n a ∧ H a = some (.dK ws) ∧ RF K H μ kvs ws := by
  cases r with
  | ref h =>
    obtain ⟨ws, h1, h2⟩ := hG.at_ _ _ _ h e
    exact ⟨_, ws, rfl, h, h1, h2⟩
theorem d_update {X : Cx} {pins : List (Addr × Obj)} {σ : St} {H : Hp} {s : Shared} {a b : Addr} {kvs more : List (Key × V)} {A : Around} {E : Value → Shared → Prop} {Q : Value → Shared → Prop} (I : Inv X pins σ H s) (e : H a = some (.dK kvs)) (e2 : Rd H b (.dK more)) (hne : a ≠ b) (hl : kvs.length + more.length ≤ sizeLine)
    (h : ∀ s', Inv X pins σ (upd H a (.dK (mergeK kvs more))) s' → Q .none s') : wpAny (model X.prog X.w) A (call (.builtin "dict.update") [.ref a, .ref b]) Q E s := by
  obtain ⟨z, hd, vs, rel, dd⟩ := dk_of I.hok e
  obtain ⟨z2, hd2, ws, rel2, dd2⟩ := dk_rd I.hok e2
  refine call_meetsIn PySem.F.slot_dict_update dd.typeIs PySem.F.entry_dict_update (PySem.F.args_dict_update_2 _ _) (meets_dict_update (mixKind X.prog X.w) a b hne hd2) ⟨vs, ws, dd, dd2, by rw [← rel.length, ← rel2.length]; exact hl, fun h' dd' _ hs => h _ ?_⟩
  have he : ∃ q, h'.get? a = some q := let ⟨q, _, _, hq, _⟩ := dd'; ⟨q, hq⟩
  exact d_write (t' := s.toks) I (by rw [e]; exact True.intro) hs he (dk_new (Nat.le_trans (length_mergeK more kvs) hl) hd (KV.merge rel2 rel) dd')
def rDUpd : V → List V → Hp → VK → Prop := fun x vs H Q => ∃ (a b : Addr) (kvs more : List (Key × V)), x = .ref a ∧ vs = [.ref b] ∧ H a = some (.dK kvs) ∧ Rd H b (.dK more) ∧ a ≠ b ∧ kvs.length + more.length ≤ sizeLine ∧ Q .non (upd H a (.dK (mergeK kvs more)))
theorem mt_dupd {X : Cx} : MtR X "dict.update" rDUpd := by
  intro pins s σ H x vs v us Q I rx rv h
  obtain ⟨a, b, kvs, more, ex, ev, e, e2, hne, hl, q⟩ := h
  subst ex
  subst ev
  obtain rfl : v = Value.ref a := rx
  obtain ⟨u, rfl, ru⟩ := vals1 rv
  cases ru
  exact d_update I e e2 hne hl fun s' I' => ⟨.non, _, I', rfl, q⟩
def otherA (n : Nat) : AV → Bool
  | .ref m => !decide (m = n)
  | _ => true
def fDUpd : AV → List AV → Hs → R AV
  | .ref n, [w], G => match G[n]?, dkR G w with
    | some (.dk kvs), some more => if otherA n w = true ∧ kvs.length + more.length ≤ szl then .ok .non (G.set n (.dk (more.foldl (fun acc kv => putA acc kv.1 kv.2) kvs))) else .stuck
    | _, _ => .stuck
  | _, _, _ => .stuck
theorem opM_dupd : OpM K rDUpd fDUpd := by
  intro W σ H μ G v vs x xs Q hG rv rs q
  unfold fDUpd at q
  split at q
  · rename_i n w
    obtain ⟨y, rfl, ry⟩ := rs.one
    split at q
    · rename_i kvs more e1 e2
      obtain ⟨hz, q⟩ := po_if q
      obtain ⟨a, ws, rfl, hn, hH, rz⟩ := mutD_ok hG rv e1
      have ha := hG.lv hn e1 (by intro h; cases h)
      obtain ⟨b, us, rfl, hb, rf⟩ := dkR_ok hG ry e2
      have hne : a ≠ b := by
        intro eab
        subst eab
        cases ry with
        | @ref m _ hm =>
          have hz := hz.1
          simp only [otherA, Bool.not_eq_true', decide_eq_false_iff_not] at hz
          obtain ⟨o, ho, ro⟩ := hG.obj hm
          have l : o ≠ .gone := by
            intro l
            subst l
            simp [dkR, ho] at e2
          exact hz (hG.nd _ _ _ (hG.lv hm ho l) ha)
        | id _ hm _ _ => exact hm (List.mem_of_getElem? ha)
        | _ => simp [dkR] at e2
      have gp : Gr H μ (upd H a (.dK (mergeK ws us))) μ := Gr.put hG hn e1
      exact ⟨a, b, ws, us, rfl, rfl, hH, .inl hb, hne, by rw [← rz.length, ← rf.length]; exact hz.2, q _ μ _ gp (hG.put (o := .dk (more.foldl (fun acc kv => putA acc kv.1 kv.2) kvs)) hn e1 ⟨_, upd_same, (merge_ok rf rz).gr gp⟩) .non⟩
    · exact q.elim
  · exact q.elim
end
section
variable {QV : AV → Hs → Prop} {E : XQ} {G : Hs} {ρ : En} {D : SP}
theorem dupd_wp {n : Nat} {w : AV} {kvs more kvs' : List (Key × AV)} (h : G[n]? = some (.dk kvs)) (hw : dkR G w = some more) (ho : otherA n w = true) (hl : kvs.length + more.length ≤ szl) (e : more.foldl (fun acc kv => putA acc kv.1 kv.2) kvs = kvs') : (fDUpd (.ref n) [w] G).wp QV E = QV .non (G.set n (.dk kvs')) := by
  subst e
  simp only [fDUpd, h, hw]
  rw [if_pos ⟨ho, hl⟩]
  rfl
theorem isD_D {n : Nat} {kvs : List (Key × AV)} (h : G[n]? = some (.dk kvs)) : isD (.ref n) G = true := by simp [isD, dkR, h]
end
end Vz
namespace Vz
open PySem L2
end Vz
namespace Vz
open PySem L2
def fAddW (v w : AV) (G : Hs) : R AV := match lstM G v with
  | none => fAdd v w G
  | some xs => match lstM G w with
    | some ys => if xs.length + ys.length ≤ szl then .ok (.ref G.length) (G ++ [.lst (xs ++ ys)]) else .stuck
    | none => .stuck
theorem op2_addW {K : PySem.W.Frag} : Op2 K (rAddA K) fAddW := by
  intro W σ H μ G v w x y Q hG rv rw' q
  unfold fAddW at q
  cases e1 : lstM G v with
  | none => rw [e1] at q; exact op2_add W σ H μ G v w x y Q hG rv rw' q
  | some xs =>
    rw [e1] at q
    simp only at q
    cases e2 : lstM G w with
    | none => rw [e2] at q; exact q.elim
    | some ys =>
      rw [e2] at q
      obtain ⟨hz, q⟩ := po_if q
      obtain ⟨p1, vs, rfl, h1, r1⟩ := lstM_ok hG rv e1
      obtain ⟨p2, ws, rfl, h2, r2⟩ := lstM_ok hG rw' e2
      exact .inr (.inl ⟨p1, p2, vs, ws, rfl, rfl, h1, h2, by rw [← r1.length, ← r2.length]; exact hz, fun p hp => q _ _ _ (Gr.alloc hp) (hG.alloc hp ⟨_, upd_same, (r1.app r2).gr (Gr.alloc hp)⟩) (.ref (hG.fresh p))⟩)
section
variable {QV : AV → Hs → Prop} {E : XQ} {G : Hs} {i j : Int} {xs ys : List AV}
theorem addW_rl {n : Nat} (h : G[n]? = some (.lst xs)) : (fAddW (.ref n) (.ls ys) G).wp QV E = (xs.length + ys.length ≤ szl ∧ QV (.ref G.length) (G ++ [.lst (xs ++ ys)])) := by
  have e : lstM G (.ref n) = some xs := by simp only [lstM, h]
  unfold fAddW
  rw [e]
  exact wp_guard _
end
end Vz
namespace Vz
open PySem L2
section
variable {QV : AV → Hs → Prop} {E : XQ} {G G0 : Hs} {ρ : En}
theorem FrN.setN {D : Nat} {o : AO} {G1 : Hs} (h : FrN D G0 G1) : FrN D G0 (G1.set D o) := ⟨by rw [List.length_set]; exact h.le, fun m hm hl => (List.getElem?_set_ne (Ne.symm hm)).trans (h.at_ m hm hl)⟩
end
end Vz
namespace L2
open PySem PySem.Spec PyProof.Rows
end L2
namespace Vz
open PySem L2
end Vz
namespace Vz
open PySem L2
def scal : AV → Bool
  | .non => true
  | .bl _ => true
  | .int _ => true
  | .str _ => true
  | _ => false
end Vz
namespace Vz
open PySem L2
/-- what niceness gives -/
structure NiceD (d : PyData) (k : Nat) : Prop where
  sh : PyData.leavesShort 50 d = true
  sw : PyData.showable d = true
  nd : d.hasDict = false
  dp : d.depth ≤ k
  ly : d.canLay0 = true
structure NiceDs (d : List PyData) (k : Nat) : Prop where
  sh : PyData.leavesShortAll 50 d = true
  sw : PyData.showableAll d = true
  nd : PyData.hasDictAll d = false
  dp : PyData.depthAll d ≤ k
  ly : PyData.canLayAll0 d = true
theorem NiceDs.tup {ds : List PyData} {k : Nat} (h : NiceDs ds k) : NiceD (.tuple ds) (k + 1) := ⟨by rw [PyData.leavesShort]; exact h.sh, by rw [PyData.showable]; exact h.sw, by rw [PyData.hasDict]; exact h.nd, by rw [PyData.depth]; have := h.dp; omega, by rw [PyData.canLay0]; exact h.ly⟩
theorem NiceDs.lst {ds : List PyData} {k : Nat} (h : NiceDs ds k) : NiceD (.list ds) (k + 1) := ⟨by rw [PyData.leavesShort]; exact h.sh, by rw [PyData.showable]; exact h.sw, by rw [PyData.hasDict]; exact h.nd, by rw [PyData.depth]; have := h.dp; omega, by rw [PyData.canLay0]; exact h.ly⟩
/-- seen as the same data -/
def Sm (G : Hs) (v w : AV) : Prop := ∀ n, dat n G v = dat n G w
inductive Sms (G : Hs) : List AV → List AV → Prop
  | nil : Sms G [] []
  | cons {v w : AV} {vs ws : List AV} (h : Sm G v w) (r : Sms G vs ws) : Sms G (v :: vs) (w :: ws)
section
variable {QV : AV → Hs → Prop} {E : XQ} {G : Hs} {k : Nat} {v w u x : AV} {vs ws : List AV}
theorem Sm.symm (h : Sm G v w) : Sm G w v := fun n => (h n).symm
theorem Sm.trans (h : Sm G v w) (h2 : Sm G w u) : Sm G v u := fun n => (h n).trans (h2 n)
theorem Sms.map (h : Sms G vs ws) (n : Nat) : vs.map (dat n G) = ws.map (dat n G) := by
  induction h with
  | nil => rfl
  | cons h r ih => rw [List.map_cons, List.map_cons, h n, ih]
end
end Vz
namespace Vz
open PySem PySem.Spec L2
section
variable {K : PySem.W.Frag}
def mergeT (acc : List (List Key × V)) (kvs : List (List Key × V)) : List (List Key × V) := kvs.foldl (fun a kv => putK a kv.1 kv.2) acc
section
variable {X : Cx}
theorem KT.merge {H : Hp} : ∀ {kvs : List (List Key × V)} {prs : List (List Key × Addr × Value)} {acc : List (List Key × V)} {xs : List (List Key × Addr × Value)}, KT H kvs prs → KT H acc xs → KT H (mergeT acc kvs) (storedAllH xs prs)
  | _, _, _, _, .nil, h => h
  | kv :: kvs, q :: prs, acc, xs, .cons h t, r => by
    obtain ⟨h1, h2, h3⟩ := h
    have := KT.merge t (KT.put r kv.1 h2 h3)
    rw [show storedH xs kv.1 q.2.1 q.2.2 = storedH xs q.1 q.2.1 q.2.2 by rw [h1]] at this
    exact this
end
end
end Vz
namespace SrtT
open PySem PySem.Spec PyProof.Rows Srt SrtO
abbrev K3 := Int × Bool × Str
abbrev k2 (p : K3) : Int × Int := (p.1, b2i p.2.1)
section
variable {prog : Program} {w : World} {A : Around} {E : Value → Shared → Prop} {s : Shared}
def IsTri (h : Heap) (v : Value) (k : K3) : Prop := ∃ a o t u n, v = .ref a ∧ h.get? a = some o ∧ o.cls = .type "tuple" ∧ o.data = .seq #[.int k.1 t, .str k.2.2 u, .bool k.2.1] n
theorem IsTri.keeps {h h' : Heap} {v : Value} {k : K3} (x : IsTri h v k) (hk : ∀ b o, h.get? b = some o → o.cls = .type "tuple" → h'.get? b = some o) : IsTri h' v k := by
  obtain ⟨a, o, t, u, n, e, ho, hc, hd⟩ := x
  exact ⟨a, o, t, u, n, e, hk a o ho hc, hc, hd⟩
end
section
variable {α : Type} {lt : α → α → Bool}
def ins (lt : α → α → Bool) (x : α) : List α → List α
  | [] => [x]
  | y :: r => if lt y x = true then y :: ins lt x r else x :: y :: r
end
end SrtT
namespace L2
open PySem PySem.Spec PyProof.Rows
abbrev ltT (k : V → SrtT.K3) (x y : V) : Bool := SrtO.lexB (SrtT.k2 (k x)) (SrtT.k2 (k y))
end L2
namespace Vz
open PySem L2
def kA3 : AV → SrtT.K3
  | .tup [.int x, .str s, .bl b] => (x, b, s)
  | _ => (0, false, Str.ofString "")
def isTri : AV → Bool
  | .tup [.int _, .str _, .bl _] => true
  | _ => false
def kV3 (H : Hp) : V → SrtT.K3
  | .ref t => match H t with
    | some (.tup [.int x, .str s, .bl b]) => (x, b, s)
    | _ => (0, false, Str.ofString "")
  | _ => (0, false, Str.ofString "")
abbrev lt3 (x y : AV) : Bool := SrtO.lexB (SrtT.k2 (kA3 x)) (SrtT.k2 (kA3 y))
inductive RT3 (K : PySem.W.Frag) (H : Hp) (μ : Mu) : List AV → List V → Prop
  | nil : RT3 K H μ [] []
  | cons {x : AV} {w : V} {xs : List AV} {ws : List V} (h : RA K H μ x w) (e : kV3 H w = kA3 x) (t : RT3 K H μ xs ws) : RT3 K H μ (x :: xs) (w :: ws)
section
variable {K : PySem.W.Frag} {H : Hp} {μ : Mu}
theorem tri_ra {x : AV} {w : V} (r : RA K H μ x w) (h : isTri x = true) : ∃ t, w = V.ref t ∧ kV3 H w = kA3 x ∧ H t = some (.tup [.int (kA3 x).1, .str (kA3 x).2.2, .bl (kA3 x).2.1]) := by
  match x, h, r with
  | .tup [.int n, .str s, .bl b], _, .tup (a := t) hh (.cons r1 (.cons r2 (.cons r3 .nil))) =>
    cases r1
    cases r2
    cases r3
    refine ⟨t, rfl, ?_, hh⟩
    unfold kV3
    simp only [hh]
    rfl
theorem RT3.of : ∀ {xs : List AV} {ws : List V}, RAs K H μ xs ws → xs.all isTri = true → RT3 K H μ xs ws
  | _, _, .nil, _ => .nil
  | _, _, .cons r rs, h => by
    rw [List.all_cons, Bool.and_eq_true] at h
    obtain ⟨_, _, e, _⟩ := tri_ra r h.1
    exact .cons r e (RT3.of rs h.2)
theorem RT3.ins {x : AV} {w : V} (r : RA K H μ x w) (e : kV3 H w = kA3 x) : ∀ {xs : List AV} {ws : List V}, RT3 K H μ xs ws → RT3 K H μ (SrtT.ins lt3 x xs) (SrtT.ins (ltT (kV3 H)) w ws)
  | _, _, .nil => .cons r e .nil
  | _, _, .cons (x := y) (w := u) (xs := ys) (ws := us) r' e' t => by
    unfold SrtT.ins
    have e2 : lt3 y x = ltT (kV3 H) u w := by show SrtO.lexB _ _ = SrtO.lexB _ _; rw [e, e']
    rw [e2]
    split
    · exact .cons r' e' (t.ins r e)
    · exact .cons r e (.cons r' e' t)
theorem RT3.mem : ∀ {xs : List AV} {ws : List V}, RT3 K H μ xs ws → ∀ w ∈ ws, ∃ x ∈ xs, RA K H μ x w ∧ kV3 H w = kA3 x
  | _, _, .nil, w, h => by simp at h
  | _, _, .cons r e t, w, h => by
    rcases List.mem_cons.mp h with rfl | h
    · exact ⟨_, List.mem_cons_self, r, e⟩
    · obtain ⟨x, m, p⟩ := t.mem w h
      exact ⟨x, List.mem_cons_of_mem _ m, p⟩
end
end Vz
namespace Vz
open PySem L2
end Vz
namespace L2
open PySem PySem.Spec PyProof.Rows
end L2
namespace Vz
open PySem L2
end Vz
namespace Vz
open PySem L2
end Vz
namespace Vz
open PySem L2
end Vz
namespace PySem
open Sem (wp)
end PySem
namespace L2
open PySem PySem.Spec PyProof.Rows
end L2
namespace L2
open PySem PySem.Spec PyProof.Rows
end L2
namespace Vz
open PySem L2
end Vz
namespace Vz
open PySem PySem.Spec L2
/-- each number once -/
def dd : List Int → List Int
  | [] => []
  | x :: xs => if x ∈ xs then dd xs else x :: dd xs
end Vz
namespace Px
open PySem Vz Pl
/-- none: the layer has no road; some none: an extra that there is not -/
def evX (fs : List Fn) (bx : Bx) (xs : List Int) : Ex → Option (Option Int)
  | .num n => some (some n)
  | .box x => (bx.get x).map some
  | .ref f => (placeOf fs f).map fun (k : Nat) => some (k : Int)
  | .many => some (some xs.length)
  | .extra e => match evX fs bx xs e with
    | some (some i) => if 0 ≤ i then some (xs[i.toNat]?) else none
    | some none => some none
    | none => none
  | .sum k a b => match evX fs bx xs a with
    | some (some i) => match evX fs bx xs b with
      | some (some j) => if k = .times ∧ ¬ (i.natAbs < 2 ^ 64 ∧ j.natAbs < 2 ^ 64) then none else some (some (summed k i j))
      | some none => some none
      | none => none
    | some none => some none
    | none => none
def evsX (fs : List Fn) (bx : Bx) (xs : List Int) : List Ex → Option (Option (List Int))
  | [] => some (some [])
  | e :: r => match evX fs bx xs e with
    | some (some i) => match evsX fs bx xs r with
      | some (some l) => some (some (i :: l))
      | some none => some none
      | none => none
    | some none => some none
    | none => none
abbrev noxO : Out := .stop (.fault "noextra")
def askX {α : Type} (r : Option (Option α)) (st : Rs) (bx : Bx) (k : α → RR) : RR := match r with
  | none => none
  | some none => some (noxO, st, bx)
  | some (some w) => k w
def whileX (ask : Bx → Option (Option Int)) (body : Rs → Bx → RR) : Nat → Rs → Bx → RR
  | 0, _, _ => none
  | k + 1, st, bx => askX (ask bx) st bx fun w => if w = 0 then some (.next, st, bx) else match body st bx with
      | some (.next, st', bx') => if st'.fuel < 1 then some (.stop .spent, st', bx') else whileX ask body k { st' with fuel := st'.fuel - 1 } bx'
      | x => x
section
variable (fs : List Fn) (o : Ops)
def doOneX (xs : List Int) (s : St) (st : Rs) (bx : Bx) : RR := match s with
  | .ite c a b => askX (evX fs bx xs c) st bx fun w => o.doAll xs (if w = 0 then b else a) st bx
  | .whl c b => o.doWhile xs c b st bx
  | .try_ a x b => o.doTry xs a x b st bx
  | .ret es => askX (evsX fs bx xs es) st bx fun vs => some (.ret vs, st, bx)
  | .throw e => askX (evX fs bx xs e) st bx fun w => some (.thrown w, st, bx)
  | s => o.doPlain xs s st bx
def callX (r : Option (Out × Rs)) (bx : Bx) (k : List Int → Rs → RR) : RR := match r with
  | none => none
  | some (.ret rs, s2) => k rs s2
  | some (r, s2) => some (r, s2, bx)
def doPlainX (xs : List Int) (s : St) (st : Rs) (bx : Bx) : RR := match s with
  | .set x e => askX (evX fs bx xs e) st bx fun w => (putG bx x w).map fun b => (.next, st, b)
  | .say e => askX (evX fs bx xs e) st bx fun w => if lim ≤ st.said.length then none else some (.next, { st with said := st.said ++ [(w, st.work.reverse)] }, bx)
  | .call ts g es => askX (evsX fs bx xs es) st bx fun vs => match (placeOf fs g).bind fun i => fs[i]? with
      | none => none
      | some f => callX (o.comeIn f vs st) bx fun rs s2 => (puts bx ts rs).map fun b => (.next, s2, b)
  | .at_ t e es => o.doAt xs t e es st bx
  | _ => none
def doAtX (xs : List Int) (t : Str) (e : Ex) (es : List Ex) (st : Rs) (bx : Bx) : RR := askX (evX fs bx xs e) st bx fun at_ => askX (evsX fs bx xs es) st bx fun vs =>
  if fs.length ≤ at_ then some (.stop (.fault "noplace"), st, bx) else if at_ < 0 then none else match fs[at_.toNat]? with
      | none => none
      | some f => if ¬ f.results = 1 ∨ takes f vs.length = false then some (.stop (.fault "misfit"), st, bx) else callX (o.comeIn f vs st) bx fun rs s2 => match rs with
        | r :: _ => (putG bx t r).map fun b => (.next, s2, b)
        | [] => none
def stepX : Ops where
  comeIn := comeInF o
  doAll := fun xs body st bx => runAll (o.doOne xs) body st bx
  doOne := doOneX fs o
  doPlain := doPlainX fs o
  doAt := doAtX fs o
  doTry := doTryF o
  doWhile := fun xs c b st bx => whileX (fun bx => evX fs bx xs c) (o.doAll xs b) (st.fuel.toNat + 1) st bx
end
def opsX (fs : List Fn) : Nat → Ops
  | 0 => noOps
  | n + 1 => stepX fs (opsX fs n)
theorem ask_inv {α : Type} {r : Option (Option α)} {st s2 : Rs} {bx b2 : Bx} {out : Out} {k : α → RR} (h : askX r st bx k = some (out, s2, b2)) :
    ∃ i, r = some i ∧ ((i = none ∧ out = noxO ∧ s2 = st ∧ b2 = bx) ∨ ∃ w, i = some w ∧ k w = some (out, s2, b2)) := by
  rcases r with _ | _ | w
  · cases h
  · cases h; exact ⟨none, rfl, .inl ⟨rfl, rfl, rfl, rfl⟩⟩
  · exact ⟨some w, rfl, .inr ⟨w, rfl, h⟩⟩
theorem call_inv {r : Option (Out × Rs)} {bx : Bx} {k : List Int → Rs → RR} {x : Out × Rs × Bx} (h : callX r bx k = some x) :
    (∃ rs s1, r = some (.ret rs, s1) ∧ k rs s1 = some x) ∨ ∃ o1 s1, r = some (o1, s1) ∧ (∀ rs, o1 ≠ .ret rs) ∧ x = (o1, s1, bx) := by
  rcases r with _ | ⟨o1, s1⟩
  · cases h
  · cases o1 with
    | ret rs => exact .inl ⟨rs, s1, rfl, h⟩
    | next => cases h; exact .inr ⟨_, _, rfl, (fun _ e => nomatch e), rfl⟩
    | thrown w => cases h; exact .inr ⟨_, _, rfl, (fun _ e => nomatch e), rfl⟩
    | stop w => cases h; exact .inr ⟨_, _, rfl, (fun _ e => nomatch e), rfl⟩
end Px
namespace Px
open PySem Vz Pl
abbrev okW (i : Int) : Bool := decide (0 ≤ i) && decide (i < 1000000007)
def exW (fs : List Fn) (bs : List Str) : Ex → Bool
  | .num n => okW n
  | .box x => decide (x ∈ bs)
  | .ref g => (placeOf fs g).isSome
  | .many => true
  | .extra e => exW fs bs e
  | .sum _ a b => exW fs bs a && exW fs bs b
/-- a function's boxes -/
structure BxOk (bs : List Str) (bx : Bx) : Prop where
  ks : bx.map Prod.fst = bs
  vs : ∀ p ∈ bx, okW p.2 = true
theorem BxOk.len {bs : List Str} {bx : Bx} (h : BxOk bs bx) : bx.length = bs.length := by rw [← h.ks, List.length_map]
theorem BxOk.put {bs : List Str} {bx : Bx} {x : Str} {v : Int} (h : BxOk bs bx) (hx : x ∈ bs) (hv : okW v = true) : BxOk bs (bx.put x v) := by
  have ha : (bx.any fun p => decide (p.1 = x)) = true := by
    rw [← h.ks] at hx
    obtain ⟨p, hp, rfl⟩ := List.mem_map.mp hx
    exact List.any_eq_true.mpr ⟨p, hp, by simp⟩
  unfold Bx.put
  rw [if_pos ha]
  refine ⟨?_, fun p hp => ?_⟩
  · rw [List.map_map, ← h.ks]
    refine List.map_congr_left fun p _ => ?_
    show (if p.1 = x then (p.1, v) else p).1 = p.1
    split <;> rfl
  · obtain ⟨q, hq, rfl⟩ := List.mem_map.mp hp
    split
    · exact hv
    · exact h.vs q hq
mutual
def stW (fs : List Fn) (f : Fn) : St → Prop
  | .set x e => x ∈ f.boxes ∧ exW fs f.boxes e = true
  | .say e => exW fs f.boxes e = true
  | .call ts g es => (∀ t ∈ ts, t ∈ f.boxes) ∧ (∀ e ∈ es, exW fs f.boxes e = true) ∧ es.length ≤ 1000 ∧ ∃ i g', placeOf fs g = some i ∧ fs[i]? = some g' ∧ g'.results = ts.length ∧ takes g' es.length = true
  | .at_ t e es => t ∈ f.boxes ∧ exW fs f.boxes e = true ∧ (∀ e ∈ es, exW fs f.boxes e = true) ∧ es.length ≤ 1000
  | .ret es => (∀ e ∈ es, exW fs f.boxes e = true) ∧ es.length = f.results
  | .throw e => exW fs f.boxes e = true
  | .ite c a b => exW fs f.boxes c = true ∧ bdW fs f a ∧ bdW fs f b
  | .whl c b => exW fs f.boxes c = true ∧ bdW fs f b
  | .try_ a x b => x ∈ f.boxes ∧ bdW fs f a ∧ bdW fs f b
def bdW (fs : List Fn) (f : Fn) : List St → Prop
  | [] => True
  | s :: r => stW fs f s ∧ bdW fs f r
end
structure FnW (fs : List Fn) (D : Nat) (f : Fn) : Prop where
  bd : bdW fs f f.body
  dp : bdDep f.body ≤ D
  rs : f.results ≤ 1000
  bl : f.boxes.length < lim
  pb : ∀ x ∈ f.params, x ∈ f.boxes
def fnOf (fs : List Fn) (g : Str) : Option Fn := fs.find? fun f => decide (f.name = g)
def lgOk (fs : List Fn) (w : List Str) : Lg → Option (List Str)
  | .inn g xs => match fnOf fs g with
    | some f => if takes f xs.length = true ∧ xs.all okW = true ∧ w.length < 12 ∧ xs.length ≤ 1000 then some (w ++ [g]) else none
    | none => none
  | .out g xs => match fnOf fs g with
    | some f => if w.getLast? = some g ∧ xs.length = f.results ∧ xs.all okW = true then some w.dropLast else none
    | none => none
  | .gone g => match fnOf fs g with
    | some _ => if w.getLast? = some g then some w.dropLast else none
    | none => none
def nestL (fs : List Fn) (w : List Str) : List Lg → Option (List Str)
  | [] => some w
  | l :: r => (lgOk fs w l).bind fun w' => nestL fs w' r
structure Inv (fs : List Fn) (f0 : Str) (S L : Int) (st : Rs) : Prop where
  fu : 0 ≤ st.fuel
  sa : st.said.length + st.fuel ≤ S
  lo : st.log.length + st.work.length + 2 * st.fuel ≤ L
  ne : nestL fs [] st.log = some st.work
  sd : ∀ p ∈ st.said, okW p.1 = true ∧ 1 ≤ p.2.length ∧ p.2.length ≤ 12 ∧ p.2.getLast? = some f0 ∧ ∀ x ∈ p.2, x ∈ fs.map Fn.name
  hd : st.work = [] ∨ st.work.head? = some f0
  wl : st.work.length ≤ 12
  wn : ∀ x ∈ st.work, x ∈ fs.map Fn.name
theorem Inv.le {fs : List Fn} {f0 : Str} {S L S' L' : Int} {st : Rs} (h : Inv fs f0 S L st) (h1 : S ≤ S') (h2 : L ≤ L') : Inv fs f0 S' L' st :=
  ⟨h.fu, Int.le_trans h.sa h1, Int.le_trans h.lo h2, h.ne, h.sd, h.hd, h.wl, h.wn⟩
/-- the faults -/
def FA : List Str := ["deep", "noextra", "noplace", "misfit"]
/-- a step of a run -/
structure Shp (st : Rs) (out : Out) (s2 : Rs) : Prop where
  lg : st.log <+: s2.log
  sg : st.said <+: s2.said
  wk : st.work <+: s2.work
  we : (out = .next ∨ ∃ vs, out = .ret vs) → s2.work = st.work
  fu : s2.fuel ≤ st.fuel
  dp : out = .stop (.fault "deep") → s2.work.length = 12
  th : ∀ w, out = .thrown w → okW w = true
  fa : ∀ x, out = .stop (.fault x) → x ∈ FA
theorem Shp.refl {st : Rs} {out : Out} (h1 : out ≠ .stop (.fault "deep")) (h2 : ∀ w, out ≠ .thrown w) (h3 : ∀ x, out = .stop (.fault x) → x ∈ FA := by intro x e; cases e <;> decide) : Shp st out st :=
  ⟨List.prefix_refl _, List.prefix_refl _, List.prefix_refl _, fun _ => rfl, Int.le_refl _, fun e => absurd e h1, fun w e => absurd e (h2 w), h3⟩
theorem Shp.trans {s1 s2 s3 : Rs} {o1 o2 : Out} (h : Shp s1 o1 s2) (hw : o1 = .next ∨ ∃ vs, o1 = .ret vs) (k : Shp s2 o2 s3) : Shp s1 o2 s3 :=
  ⟨h.lg.trans k.lg, h.sg.trans k.sg, h.wk.trans k.wk, fun z => (k.we z).trans (h.we hw), Int.le_trans k.fu h.fu, k.dp, k.th, k.fa⟩
section
variable (fs : List Fn) (f0 : Str) (S L : Int) (D : Nat)
def RQ (f : Fn) (st : Rs) (r : RR) : Prop := ∃ out s2 b2, r = some (out, s2, b2) ∧ Inv fs f0 S L s2 ∧ Shp st out s2 ∧ BxOk f.boxes b2 ∧ ∀ vs, out = .ret vs → vs.length = f.results ∧ ∀ v ∈ vs, okW v = true
end
section
variable {fs : List Fn} {f0 : Str} {S L : Int} {D n : Nat} {o : Ops} {f : Fn} {xs : List Int} {st : Rs} {bx : Bx} {d : Nat}
theorem RQ.of {out : Out} {s1 s2 : Rs} {r : RR} (h : RQ fs f0 S L f s2 r) (k : Shp s1 out s2) (hw : out = .next ∨ ∃ vs, out = .ret vs) : RQ fs f0 S L f s1 r := by
  obtain ⟨o2, s3, b3, e, i, s, b, q⟩ := h
  exact ⟨o2, s3, b3, e, i, k.trans hw s, b, q⟩
end
end Px
namespace Px
open PySem Vz Pl
structure Le (s s' : Rs) : Prop where
  lg : s.log <+: s'.log
  sd : s.said <+: s'.said
theorem Le.refl {s : Rs} : Le s s := ⟨List.prefix_refl _, List.prefix_refl _⟩
theorem Le.trans {a b c : Rs} (h : Le a b) (k : Le b c) : Le a c := ⟨h.lg.trans k.lg, h.sd.trans k.sd⟩
abbrev PreR (st : Rs) (r : RR) : Prop := ∀ out s2 b2, r = some (out, s2, b2) → Le st s2
structure PreO (o : Ops) : Prop where
  comeIn : ∀ f things st out s2, o.comeIn f things st = some (out, s2) → Le st s2
  doAll : ∀ xs body st bx, PreR st (o.doAll xs body st bx)
  doOne : ∀ xs s st bx, PreR st (o.doOne xs s st bx)
  doPlain : ∀ xs s st bx, PreR st (o.doPlain xs s st bx)
  doAt : ∀ xs t e es st bx, PreR st (o.doAt xs t e es st bx)
  doTry : ∀ xs a x b st bx, PreR st (o.doTry xs a x b st bx)
  doWhile : ∀ xs c b st bx, PreR st (o.doWhile xs c b st bx)
section
variable {o : Ops} {fs : List Fn} {xs : List Int} {st : Rs} {bx : Bx}
theorem pre_ask {α : Type} {r : Option (Option α)} {k : α → RR} (h : ∀ w, PreR st (k w)) : PreR st (askX r st bx k) := fun out s2 b2 e => by
  obtain ⟨i, _, ⟨_, _, rfl, _⟩ | ⟨w, _, e2⟩⟩ := ask_inv e
  · exact .refl
  · exact h w _ _ _ e2
theorem pre_call {r : Option (Out × Rs)} {k : List Int → Rs → RR} (h : ∀ out s2, r = some (out, s2) → Le st s2) (hk : ∀ rs s2, PreR s2 (k rs s2)) : PreR st (callX r bx k) := fun out s2 b2 e => by
  rcases call_inv e with ⟨rs, s1, e1, e2⟩ | ⟨o1, s1, e1, _, e2⟩
  · exact (h _ _ e1).trans (hk _ _ _ _ _ e2)
  · cases e2; exact h _ _ e1
theorem pre_all (P : PreO o) : ∀ (body : List St) (st : Rs) (bx : Bx), PreR st (runAll (o.doOne xs) body st bx)
  | [], st, bx, out, s2, b2, e => by cases e; exact .refl
  | s :: r, st, bx, out, s2, b2, e => by
    unfold runAll at e
    by_cases c : st.fuel < 1
    · rw [if_pos c] at e; cases e; exact .refl
    · rw [if_neg c] at e
      rcases q : o.doOne xs s { st with fuel := st.fuel - 1 } bx with _ | ⟨o1, s1, b1⟩
      · rw [q] at e; cases e
      · rw [q] at e
        have h1 : Le st s1 := let z := P.doOne _ _ _ _ _ _ _ q; ⟨z.lg, z.sd⟩
        cases o1 with
        | next => exact h1.trans (pre_all P r s1 b1 _ _ _ e)
        | ret vs => cases e; exact h1
        | thrown w => cases e; exact h1
        | stop w => cases e; exact h1
theorem pre_while (P : PreO o) {c : Ex} {b : List St} : ∀ (k : Nat) (st : Rs) (bx : Bx), PreR st (whileX (fun bx => evX fs bx xs c) (o.doAll xs b) k st bx)
  | 0, st, bx, out, s2, b2, e => by cases e
  | k + 1, st, bx, out, s2, b2, e => by
    refine pre_ask (st := st) (bx := bx) (r := evX fs bx xs c) (k := fun w => if w = 0 then some (.next, st, bx) else match o.doAll xs b st bx with
      | some (.next, st', bx') => if st'.fuel < 1 then some (.stop .spent, st', bx') else whileX (fun bx => evX fs bx xs c) (o.doAll xs b) k { st' with fuel := st'.fuel - 1 } bx'
      | x => x) (fun w out s2 b2 e => ?_) out s2 b2 e
    by_cases c0 : w = 0
    · rw [if_pos c0] at e; cases e; exact .refl
    · rw [if_neg c0] at e
      rcases q : o.doAll xs b st bx with _ | ⟨o1, s1, b1⟩
      · rw [q] at e; cases e
      · rw [q] at e
        have h1 := P.doAll _ _ _ _ _ _ _ q
        cases o1 with
        | next =>
          simp only at e
          by_cases cf : s1.fuel < 1
          · rw [if_pos cf] at e; cases e; exact h1
          · rw [if_neg cf] at e
            exact h1.trans (let z := pre_while P k _ _ _ _ _ e; ⟨z.lg, z.sd⟩)
        | ret vs => cases e; exact h1
        | thrown w => cases e; exact h1
        | stop w => cases e; exact h1
theorem pre_out {f : Fn} {vs : List Int} {out : Out} {s2 : Rs} (e : outF f vs st = some (out, s2)) : Le st s2 := by
  unfold outF at e
  split at e
  · cases e
  · cases e; exact ⟨List.prefix_append _ _, List.prefix_refl _⟩
theorem pre (fs : List Fn) : ∀ n, PreO (opsX fs n)
  | 0 => by
    refine ⟨?_, ?_, ?_, ?_, ?_, ?_, ?_⟩
    · intro f things st out s2 e; exact nomatch (show (none : Option (Out × Rs)) = some _ from e)
    · intro xs body st bx out s2 b2 e; exact nomatch (show (none : RR) = some _ from e)
    · intro xs body st bx out s2 b2 e; exact nomatch (show (none : RR) = some _ from e)
    · intro xs body st bx out s2 b2 e; exact nomatch (show (none : RR) = some _ from e)
    · intro xs t a es st bx out s2 b2 e; exact nomatch (show (none : RR) = some _ from e)
    · intro xs a x b st bx out s2 b2 e; exact nomatch (show (none : RR) = some _ from e)
    · intro xs c b st bx out s2 b2 e; exact nomatch (show (none : RR) = some _ from e)
  | n + 1 => by
    have P := pre fs n
    generalize hO : opsX fs n = o at P
    have e1 : opsX fs (n + 1) = stepX fs o := by rw [← hO]; rfl
    rw [e1]
    refine ⟨?_, ?_, ?_, ?_, ?_, ?_, ?_⟩
    · intro f things st out s2 e
      have e : comeInF o f things st = some (out, s2) := e
      unfold comeInF at e
      split at e
      · cases e; exact .refl
      · split at e
        · cases e
        · split at e
          · cases e
          · rename_i bx _
            rcases q : o.doAll (things.drop f.params.length) f.body { st with work := st.work ++ [f.name], log := st.log ++ [.inn f.name things] } bx with _ | ⟨o1, s1, b1⟩
            · rw [q] at e; cases e
            · rw [q] at e
              have h1 : Le st s1 := let z := P.doAll _ _ _ _ _ _ _ q; ⟨(List.prefix_append _ _).trans z.lg, z.sd⟩
              cases o1 with
              | next =>
                simp only at e
                split at e
                · exact h1.trans (pre_out e)
                · cases e
              | ret vs => exact h1.trans (pre_out e)
              | thrown w => cases e; exact h1
              | stop w => cases e; exact h1
    · intro xs body st bx
      exact pre_all P body st bx
    · intro xs s st bx
      show PreR st (doOneX fs o xs s st bx)
      cases s with
      | ite c a b => exact pre_ask fun w => P.doAll _ _ _ _
      | whl c b => exact P.doWhile _ _ _ _ _
      | try_ a x b => exact P.doTry _ _ _ _ _ _
      | ret es => exact pre_ask fun w out s2 b2 e => by cases e; exact .refl
      | throw e => exact pre_ask fun w out s2 b2 e => by cases e; exact .refl
      | set x e => exact P.doPlain _ _ _ _
      | say e => exact P.doPlain _ _ _ _
      | call ts g es => exact P.doPlain _ _ _ _
      | at_ t e es => exact P.doPlain _ _ _ _
    · intro xs s st bx
      show PreR st (doPlainX fs o xs s st bx)
      cases s with
      | set x e =>
        refine pre_ask fun w out s2 b2 e => ?_
        obtain ⟨b, _, e⟩ := Option.map_eq_some_iff.mp e
        cases e; exact .refl
      | say e =>
        refine pre_ask fun w out s2 b2 e => ?_
        split at e
        · cases e
        · cases e; exact ⟨List.prefix_refl _, List.prefix_append _ _⟩
      | call ts g es =>
        refine pre_ask fun vs => ?_
        split
        · intro out s2 b2 e; cases e
        · exact pre_call (fun out s2 e => P.comeIn _ _ _ _ _ e) fun rs s2 out s3 b3 e => by
            obtain ⟨b, _, e⟩ := Option.map_eq_some_iff.mp e
            cases e; exact .refl
      | at_ t e es => exact P.doAt _ _ _ _ _ _
      | ite c a b => intro out s2 b2 e; cases e
      | whl c b => intro out s2 b2 e; cases e
      | try_ a x b => intro out s2 b2 e; cases e
      | ret es => intro out s2 b2 e; cases e
      | throw e => intro out s2 b2 e; cases e
    · intro xs t e es st bx
      show PreR st (doAtX fs o xs t e es st bx)
      refine pre_ask fun w => pre_ask fun vs => ?_
      split
      · intro out s2 b2 e; cases e; exact .refl
      · split
        · intro out s2 b2 e; cases e
        · split
          · intro out s2 b2 e; cases e
          · split
            · intro out s2 b2 e; cases e; exact .refl
            · exact pre_call (fun out s2 e => P.comeIn _ _ _ _ _ e) fun rs s2 out s3 b3 e => by
                cases rs with
                | nil => cases e
                | cons r l =>
                  obtain ⟨b, _, e⟩ := Option.map_eq_some_iff.mp e
                  cases e; exact .refl
    · intro xs a x b st bx out s2 b2 e
      have e : doTryF o xs a x b st bx = some (out, s2, b2) := e
      unfold doTryF at e
      rcases q : o.doAll xs a st bx with _ | ⟨o1, s1, b1⟩
      · rw [q] at e; cases e
      · rw [q] at e
        have h1 := P.doAll _ _ _ _ _ _ _ q
        cases o1 with
        | next => cases e; exact h1
        | ret vs => cases e; exact h1
        | stop w => cases e; exact h1
        | thrown w =>
          simp only at e
          split at e
          · cases e
          · split at e
            · have h2 := P.doAll _ _ _ _ _ _ _ e
              exact h1.trans ((⟨List.prefix_append _ _, List.prefix_refl _⟩ : Le s1 (leaveTo st.work.length s1)).trans h2)
            · cases e
    · intro xs c b st bx
      exact pre_while P _ st bx
end
abbrev up (δ : Int) (st : Rs) : Rs := { st with fuel := st.fuel + δ }
abbrev spentO : Out := .stop .spent
def MonR (δ : Int) (r r' : RR) : Prop := ∀ out s2 b2, r = some (out, s2, b2) → (out ≠ spentO → r' = some (out, up δ s2, b2)) ∧ (out = spentO → ∀ o3 s3 b3, r' = some (o3, s3, b3) → Le s2 s3)
section
variable {o : Ops} {fs : List Fn} {xs : List Int} {st : Rs} {bx : Bx} {δ : Int}
theorem MonR.some {out : Out} {s2 : Rs} {b2 : Bx} (h : out ≠ spentO) : MonR δ (some (out, s2, b2)) (some (out, up δ s2, b2)) := fun o1 s1 b1 e => by
  cases e
  exact ⟨fun _ => rfl, fun z => absurd z h⟩
theorem MonR.none {r : RR} : MonR δ none r := fun _ _ _ e => nomatch e
end
end Px
local macro_rules
  | `(tactic| simp_arith [$xs,*]) => `(tactic| try simp only [Vz.wp_dictT, Vz.wp_dputT, Vz.wp_lr, Vz.wp_dgetT1, Vz.wp_dgetT2, Vz.wp_par3, Vz.isS_s, Vz.isL_ls, Vz.starts_SN, Vz.in_tup2, Vz.nin_tup2, Vz.tru_bl, Vz.sz0, Vz.sz1, Vz.sz2, Vz.sz3, Vz.sz4, Vz.sz5, Vz.sz6, Vz.sz7, Vz.sz8, Vz.sz9, Vz.sz10, Vz.sz11, Vz.sz12, Vz.wp_lstI, Vz.fzQ_lsN, Vz.fzQ_tupN, Vz.fzQ_ivN, Vz.fzQ_intN, Vz.fzQ_strN, Vz.fzQ_blN, Vz.fzQ_nonN, Vz.wp_addLs, Vz.wp_addIN, Vz.wp_addIs, Vz.wp_iaddIN, Vz.wp_iaddIs, Vz.ixL0, Vz.ixL1, Vz.ixL2, Vz.ixL3, Vz.list_lsN, Vz.tuple_lsN, Vz.len_lsN, Vz.wipeA, Vz.ixT0, Vz.ixT1, Vz.ixT2, Vz.ixT3, Vz.ixT4, Vz.ixT5, Vz.ixT6, Vz.isN_nN, Vz.notN_nN, Vz.isN_iN, Vz.notN_iN, Vz.gAll, Vz.mg_nmN, Vz.wp_fst, Vz.wp_make, Vz.wp_meth, Vz.wp_aug, Vz.wp_en, Vz.wp_mFn, Vz.startA, List.map_cons, List.map_nil, List.length_cons, List.length_nil, List.replicate, List.cons_append, List.nil_append, Nat.reduceAdd, Nat.reduceSub, Nat.sub_self, Nat.zero_add, Vz.wp_seq, Vz.wp_nxN, Vz.wp_brkN, Vz.wp_contN, Vz.wp_drop, Vz.wp_ret, Vz.wp_retNN, Vz.wp_if, Vz.wp_asg, Vz.wp_par, Vz.wp_dput, Vz.wp_var, Vz.wp_cN, Vz.wp_m2, Vz.wp_m1, Vz.wp_test, Vz.wp_tru, Vz.wp_and, Vz.wp_or, Vz.wp_not, Vz.wp_andV, Vz.wp_orV, Vz.wp_notV, Vz.wp_iteE, Vz.wp_chain, Vz.wp_nilN, Vz.wp_cons, Vz.wp_tup, Vz.wp_lst, Vz.wp_blt, Vz.wp_bm, Vz.wp_call, Vz.wp_sl, Vz.wp_oNN, Vz.wp_oS, Vz.wp_wk, Vz.wp_rg1, Vz.wp_rg2, Vz.wp_okN, List.getElem?_cons_zero, List.getElem?_cons_succ, List.set_cons_zero, List.set_cons_succ, Vz.wp_addN, Vz.wp_subN, Vz.wp_mulI, Vz.wp_modI, Vz.wp_divI, Vz.wp_powI, Vz.wp_ltN, Vz.wp_leN, Vz.wp_gtN, Vz.wp_geN, Vz.wp_eqN, Vz.wp_neN, Vz.wp_eqSN, Vz.wp_neSN, Vz.wp_eqBN, Vz.wp_neBN, and_self, true_and, and_true, Bool.not_true, Bool.not_false, decide_true, decide_false, Bool.false_eq_true, if_true, if_false, $xs,*])
namespace L_k13
open PySem L2 Vz
noncomputable def k_bodies_of_6 : MS := (mSeq (mIf (mTest (m2 fEq (mVar 1) (mC (.str "try")))) (mRet (mTup (mCons (m2 fIx (mVar 0) (mC (.int 1))) (mCons (m2 fIx (mVar 0) (mC (.int 3))) mNil)))) mNx) (mRet (mTup mNil)))
noncomputable def k_bodies_of_4 : MS := (mSeq (mIf (mTest (m2 fEq (mVar 1) (mC (.str "while")))) (mRet (mTup (mCons (m2 fIx (mVar 0) (mC (.int 2))) mNil))) mNx) k_bodies_of_6)
noncomputable def k_bodies_of_2 : MS := (mSeq (mIf (mTest (m2 fEq (mVar 1) (mC (.str "if")))) (mRet (mTup (mCons (m2 fIx (mVar 0) (mC (.int 2))) (mCons (m2 fIx (mVar 0) (mC (.int 3))) mNil)))) mNx) k_bodies_of_4)
noncomputable def b_bodies_of : MS := (mSeq (mAsg (m2 fIx (mVar 0) (mC (.int 0))) (gNm 1)) k_bodies_of_2)
noncomputable def f_bodies_of : List AV → Hs → R AV := mFn 2 b_bodies_of
noncomputable def l_statements_of_4 (r : Nat → List AV → Hs → R AV) : MS := (mDrop (mBm isL fExtA (mVar 1) (mCons (mCall 1 1 0 gAll (r 0) (mCons (mVar 3) mNil) mNil) mNil)))
noncomputable def k_statements_of_4 (r : Nat → List AV → Hs → R AV) : MS := (mFor (mWk (mCall 1 1 0 gAll f_bodies_of (mCons (mVar 2) mNil) mNil)) (gNm 3) (l_statements_of_4 r))
noncomputable def l_statements_of_2 (r : Nat → List AV → Hs → R AV) : MS := (mSeq (mDrop (mBm isL fApp (mVar 1) (mCons (mVar 2) mNil))) (k_statements_of_4 r))
noncomputable def k_statements_of_2 (r : Nat → List AV → Hs → R AV) : MS := (mSeq (mFor (mWk (mVar 0)) (gNm 2) (l_statements_of_2 r)) (mRet (mFz (mVar 1))))
noncomputable def b_statements_of (r : Nat → List AV → Hs → R AV) : MS := (mSeq (mAsg (mLst mNil) (gNm 1)) (k_statements_of_2 r))
noncomputable def step_statements_of (r : Nat → List AV → Hs → R AV) : Nat → List AV → Hs → R AV
  | 0 => mFn 4 (b_statements_of r)
  | _ => fun _ _ => .stuck
noncomputable def f_statements_of : List AV → Hs → R AV := ringF step_statements_of 20 0
noncomputable def b_takes : MS := (mRet (mOrV (m2 fEq (mVar 1) (mBlt fLen (mCons (m1 (fFld ["Function"] "params") (mVar 0)) mNil))) (mAndV (m1 (fFld ["Function"] "more") (mVar 0)) (m2 fGt (mVar 1) (mBlt fLen (mCons (m1 (fFld ["Function"] "params") (mVar 0)) mNil))))))
noncomputable def f_takes : List AV → Hs → R AV := mFn 2 b_takes
noncomputable def k_call_is_wrong_6 : MS := (mRet (mNotV (mCall 2 2 0 gAll f_takes (mCons (mVar 2) (mCons (mBlt fLen (mCons (m2 fIx (mVar 0) (mC (.int 3))) mNil)) mNil)) mNil)))
noncomputable def k_call_is_wrong_4 : MS := (mSeq (mIf (mOr (mTest (m2 fIsN (mVar 2) (mC .non))) (mTest (m2 fNe (m1 (fFld ["Function"] "results") (mVar 2)) (mBlt fLen (mCons (m2 fIx (mVar 0) (mC (.int 1))) mNil))))) (mRet (mC (.bl true))) mNx) k_call_is_wrong_6)
noncomputable def k_call_is_wrong_3 : MS := (mSeq (mAsg (mDget1 (mVar 1) (m2 fIx (mVar 0) (mC (.int 2)))) (gNm 2)) k_call_is_wrong_4)
noncomputable def b_call_is_wrong : MS := (mSeq (mIf (mTest (m2 fNe (m2 fIx (mVar 0) (mC (.int 0))) (mC (.str "call")))) (mRet (mC (.bl false))) mNx) k_call_is_wrong_3)
noncomputable def f_call_is_wrong : List AV → Hs → R AV := mFn 3 b_call_is_wrong
noncomputable def k_given_by_6 : MS := (mSeq (mIf (mTest (m2 fEq (mVar 1) (mC (.str "try")))) (mRet (mTup (mCons (m2 fIx (mVar 0) (mC (.int 2))) mNil))) mNx) (mRet (mTup mNil)))
noncomputable def k_given_by_4 : MS := (mSeq (mIf (mOr (mTest (m2 fEq (mVar 1) (mC (.str "set")))) (mTest (m2 fEq (mVar 1) (mC (.str "at"))))) (mRet (mTup (mCons (m2 fIx (mVar 0) (mC (.int 1))) mNil))) mNx) k_given_by_6)
noncomputable def k_given_by_2 : MS := (mSeq (mIf (mTest (m2 fEq (mVar 1) (mC (.str "call")))) (mRet (mBlt fTuple (mCons (m2 fIx (mVar 0) (mC (.int 1))) mNil))) mNx) k_given_by_4)
noncomputable def b_given_by : MS := (mSeq (mAsg (m2 fIx (mVar 0) (mC (.int 0))) (gNm 1)) k_given_by_2)
noncomputable def f_given_by : List AV → Hs → R AV := mFn 2 b_given_by
noncomputable def b_parts_of : MS := (mSeq (mIf (mOr (mTest (m2 fIn (m2 fIx (mVar 0) (mC (.int 0))) (mC (.con [.str "plus", .str "less", .str "times", .str "under", .str "same"])))) (mTest (m2 fEq (m2 fIx (mVar 0) (mC (.int 0))) (mC (.str "extra"))))) (mRet (mFz (mSl (mVar 0) (mSome (mC (.int 1))) mNone))) mNx) (mRet (mTup mNil)))
noncomputable def f_parts_of : List AV → Hs → R AV := mFn 1 b_parts_of
noncomputable def k_all_within_4 (r : Nat → List AV → Hs → R AV) : MS := (mDrop (mBm isL fExtA (mVar 1) (mCons (mCall 1 1 0 gAll (r 0) (mCons (mCall 1 1 0 gAll f_parts_of (mCons (mVar 2) mNil) mNil) mNil) mNil) mNil)))
noncomputable def l_all_within_2 (r : Nat → List AV → Hs → R AV) : MS := (mSeq (mDrop (mBm isL fApp (mVar 1) (mCons (mVar 2) mNil))) (k_all_within_4 r))
noncomputable def k_all_within_2 (r : Nat → List AV → Hs → R AV) : MS := (mSeq (mFor (mWk (mVar 0)) (gNm 2) (l_all_within_2 r)) (mRet (mFz (mVar 1))))
noncomputable def b_all_within (r : Nat → List AV → Hs → R AV) : MS := (mSeq (mAsg (mLst mNil) (gNm 1)) (k_all_within_2 r))
noncomputable def step_all_within (r : Nat → List AV → Hs → R AV) : Nat → List AV → Hs → R AV
  | 0 => mFn 3 (b_all_within r)
  | _ => fun _ _ => .stuck
noncomputable def f_all_within : List AV → Hs → R AV := ringF step_all_within 20 0
noncomputable def k_expressions_of_10 : MS := (mSeq (mIf (mTest (m2 fEq (mVar 1) (mC (.str "try")))) (mRet (mTup mNil)) mNx) (mRet (mTup (mCons (m2 fIx (mVar 0) (mC (.int 1))) mNil))))
noncomputable def k_expressions_of_8 : MS := (mSeq (mIf (mTest (m2 fEq (mVar 1) (mC (.str "return")))) (mRet (m2 fIx (mVar 0) (mC (.int 1)))) mNx) k_expressions_of_10)
noncomputable def k_expressions_of_6 : MS := (mSeq (mIf (mTest (m2 fEq (mVar 1) (mC (.str "at")))) (mRet (m2 fAddI (mTup (mCons (m2 fIx (mVar 0) (mC (.int 2))) mNil)) (mBlt fTuple (mCons (m2 fIx (mVar 0) (mC (.int 3))) mNil)))) mNx) k_expressions_of_8)
noncomputable def k_expressions_of_4 : MS := (mSeq (mIf (mTest (m2 fEq (mVar 1) (mC (.str "call")))) (mRet (m2 fIx (mVar 0) (mC (.int 3)))) mNx) k_expressions_of_6)
noncomputable def k_expressions_of_2 : MS := (mSeq (mIf (mTest (m2 fEq (mVar 1) (mC (.str "set")))) (mRet (mTup (mCons (m2 fIx (mVar 0) (mC (.int 2))) mNil))) mNx) k_expressions_of_4)
noncomputable def b_expressions_of : MS := (mSeq (mAsg (m2 fIx (mVar 0) (mC (.int 0))) (gNm 1)) k_expressions_of_2)
noncomputable def f_expressions_of : List AV → Hs → R AV := mFn 2 b_expressions_of
noncomputable def b_boxes_read : MS := (mRet (mFz (mLc (mWk (mCall 1 1 0 gAll f_all_within (mCons (mCall 1 1 0 gAll f_expressions_of (mCons (mVar 0) mNil) mNil) mNil) mNil)) (gNm 1) (mTest (m2 fEq (m2 fIx (mVar 1) (mC (.int 0))) (mC (.str "box")))) (m2 fIx (mVar 1) (mC (.int 1))) [1])))
noncomputable def f_boxes_read : List AV → Hs → R AV := mFn 2 b_boxes_read
noncomputable def k_is_name_3 : MS := (mRet (mBlt fAll (mCons (mFz (mLc (mWk (mVar 0)) (gNm 1) mYes (m2 fIn (mVar 1) (mC (.str "abcdefghijklmnopqrstuvwxyz"))) [1])) mNil)))
noncomputable def b_is_name : MS := (mSeq (mIf (mOr (mTest (m2 fLt (mBlt fLen (mCons (mVar 0) mNil)) (mC (.int 1)))) (mOr (mTest (m2 fGt (mBlt fLen (mCons (mVar 0) mNil)) (mC (.int 8)))) (mTest (m2 fIn (mVar 0) (mC (.con [.str "number", .str "plus", .str "less", .str "times", .str "under", .str "same", .str "ref", .str "many", .str "extra", .str "fn", .str "set", .str "say", .str "if", .str "else", .str "while", .str "call", .str "at", .str "return", .str "throw", .str "try", .str "catch", .str "end", .str "more"])))))) (mRet (mC (.bl false))) mNx) k_is_name_3)
noncomputable def f_is_name : List AV → Hs → R AV := mFn 2 b_is_name
noncomputable def k_wrong_in_11 : MS := (mSeq (mIf (mAnd (mNot (mTru (m1 (fFld ["Function"] "more") (mVar 0)))) (mTest (m2 fNe (mFz (mLc (mWk (mVar 3)) (gNm 6) (mTest (m2 fIn (m2 fIx (mVar 6) (mC (.int 0))) (mTup (mCons (mC (.str "many")) (mCons (mC (.str "extra")) mNil))))) (mVar 6) [6])) (mLstI mNil)))) (mRet (mC (.str "many"))) mNx) (mRet (mC .non)))
noncomputable def k_wrong_in_9 : MS := (mSeq (mIf (mAnd (mTest (m2 fEq (m2 fIx (mVar 1) (mC (.int 0))) (mC (.str "return")))) (mTest (m2 fNe (mBlt fLen (mCons (m2 fIx (mVar 1) (mC (.int 1))) mNil)) (m1 (fFld ["Function"] "results") (mVar 0))))) (mRet (mC (.str "return"))) mNx) k_wrong_in_11)
noncomputable def l_wrong_in_6 : MS := (mIf (mAnd (mTest (m2 fEq (m2 fIx (mVar 4) (mC (.int 0))) (mC (.str "ref")))) (mOr (mTest (m2 fNinK (m2 fIx (mVar 4) (mC (.int 1))) (mVar 2))) (mTest (m2 fNe (m1 (fFld ["Function"] "results") (m2 fDg (mVar 2) (m2 fIx (mVar 4) (mC (.int 1))))) (mC (.int 1)))))) (mRet (mC (.str "ref"))) mNx)
noncomputable def k_wrong_in_6 : MS := (mSeq (mFor (mWk (mVar 3)) (gNm 4) l_wrong_in_6) k_wrong_in_9)
noncomputable def k_wrong_in_4 : MS := (mSeq (mIf (mTru (mCall 2 2 0 gAll f_call_is_wrong (mCons (mVar 1) (mCons (mVar 2) mNil)) mNil)) (mRet (mC (.str "call"))) mNx) k_wrong_in_6)
noncomputable def k_wrong_in_2 : MS := (mSeq (mIf (mNot (mTru (mBlt fAll (mCons (mFz (mLc (mWk (m2 fAddI (mBlt fListI (mCons (mCall 1 1 0 gAll f_given_by (mCons (mVar 1) mNil) mNil) mNil)) (mCall 1 1 0 gAll f_boxes_read (mCons (mVar 1) mNil) mNil))) (gNm 5) mYes (mCall 1 1 0 gAll f_is_name (mCons (mVar 5) mNil) mNil) [5])) mNil)))) (mRet (mC (.str "box"))) mNx) k_wrong_in_4)
noncomputable def b_wrong_in : MS := (mSeq (mAsg (mCall 1 1 0 gAll f_all_within (mCons (mCall 1 1 0 gAll f_expressions_of (mCons (mVar 1) mNil) mNil) mNil) mNil) (gNm 3)) k_wrong_in_2)
noncomputable def f_wrong_in : List AV → Hs → R AV := mFn 7 b_wrong_in
noncomputable def k_look_at_8 : MS := (mIf (mTest (m2 fNotN (mVar 6) (mC .non))) (mRaise "NoBook" [("name", 1), ("word", 2)] 3 (mCons (m1 (fFld ["Function"] "name") (mVar 0)) (mCons (mVar 6) mNil))) mNx)
noncomputable def l_look_at_6 : MS := (mSeq (mAsg (mCall 3 3 0 gAll f_wrong_in (mCons (mVar 0) (mCons (mVar 5) (mCons (mVar 2) mNil))) mNil) (gNm 6)) k_look_at_8)
noncomputable def k_look_at_6 : MS := (mFor (mWk (mCall 1 1 0 gAll f_statements_of (mCons (m1 (fFld ["Function"] "body") (mVar 0)) mNil) mNil)) (gNm 5) l_look_at_6)
noncomputable def l_look_at_3 : MS := (mIf (mOr (mNot (mTru (mCall 1 1 0 gAll f_is_name (mCons (mVar 4) mNil) mNil))) (mTest (m2 fIn (mVar 4) (mFz (mSl (m1 (fFld ["Function"] "params") (mVar 0)) mNone (mSome (mVar 3))))))) (mRaise "NoBook" [("name", 1), ("word", 2)] 3 (mCons (m1 (fFld ["Function"] "name") (mVar 0)) (mCons (mC (.str "box")) mNil))) mNx)
noncomputable def k_look_at_3 : MS := (mSeq (mFor (mEn (m1 (fFld ["Function"] "params") (mVar 0))) (gTp 2 (gCo (gNm 3) (gCo (gNm 4) gNi))) l_look_at_3) k_look_at_6)
noncomputable def b_look_at : MS := (mSeq (mIf (mOr (mNot (mTru (mCall 1 1 0 gAll f_is_name (mCons (m1 (fFld ["Function"] "name") (mVar 0)) mNil) mNil))) (mTest (m2 fIn (m1 (fFld ["Function"] "name") (mVar 0)) (mVar 1)))) (mRaise "NoBook" [("name", 1), ("word", 2)] 3 (mCons (m1 (fFld ["Function"] "name") (mVar 0)) (mCons (mC (.str "name")) mNil))) mNx) k_look_at_3)
noncomputable def f_look_at : List AV → Hs → R AV := mFn 7 b_look_at
noncomputable def k_Book___init___7 : MS := (mIf (mTru (m1 (fFld ["Function"] "more") (m2 fIx (m1 (fFld ["Book"] "functions") (mVar 0)) (mC (.int 0))))) (mRaise "NoBook" [("name", 1), ("word", 2)] 3 (mCons (m1 (fFld ["Function"] "name") (m2 fIx (m1 (fFld ["Book"] "functions") (mVar 0)) (mC (.int 0)))) (mCons (mC (.str "first")) mNil))) mNx)
noncomputable def k_Book___init___5 : MS := (mSeq (mIf (mTest (m2 fEqE (m1 (fFld ["Book"] "functions") (mVar 0)) (mTup mNil))) (mRaise "NoBook" [("name", 1), ("word", 2)] 3 (mCons (mC (.str "")) (mCons (mC (.str "first")) mNil))) mNx) k_Book___init___7)
noncomputable def l_Book___init___3 : MS := (mDrop (mCall 3 3 0 gAll f_look_at (mCons (mVar 4) (mCons (mFz (mLc (mWk (mFz (mSl (m1 (fFld ["Book"] "functions") (mVar 0)) mNone (mSome (mVar 3))))) (gNm 5) mYes (m1 (fFld ["Function"] "name") (mVar 5)) [5])) (mCons (mVar 2) mNil))) mNil))
noncomputable def k_Book___init___3 : MS := (mSeq (mFor (mEn (m1 (fFld ["Book"] "functions") (mVar 0))) (gTp 2 (gCo (gNm 3) (gCo (gNm 4) gNi))) l_Book___init___3) k_Book___init___5)
noncomputable def k_Book___init___2 : MS := (mSeq (mFzA 2 (mAsg (mDc (mWk (mFz (m1 fRev (m1 (fFld ["Book"] "functions") (mVar 0))))) (gNm 4) mYes (m1 (fFld ["Function"] "name") (mVar 4)) (mVar 4) [4]) (gNm 2))) k_Book___init___3)
noncomputable def b_Book___init__ : MS := (mSeq (mFst ["Book"] "functions" (mVar 0) (mBlt fTuple (mCons (mVar 1) mNil))) k_Book___init___2)
noncomputable def f_Book___init__ : List AV → Hs → R AV := mFn 6 b_Book___init__
noncomputable def t_law_kind_2 : MS := (mDrop (mFz (mMake "Book" 2 1 0 gAll f_Book___init__ (mCons (mVar 0) mNil) mNil)))
noncomputable def k_law_kind_2 : MS := (mSeq (mTry [(("VowError", "VowError"), true), (("NoBook", "VowError"), true), (("NoText", "VowError"), true)] t_law_kind_2 [⟨"VowError", some 2, (mAsg (mAndV (m1 (fIsi [(.b "NoneType", false), (.b "bool", false), (.b "int", false), (.b "str", false), (.b "tuple", false), (.b "list", false), (.b "dict", false), (.c "Function", false), (.c "Book", false), (.x "VowError", false), (.x "NoBook", true), (.x "NoText", false)]) (mVar 2)) (mAndV (m1 (fIsi [(.b "NoneType", false), (.b "bool", false), (.b "int", false), (.b "str", false), (.b "tuple", false), (.b "list", false), (.b "dict", false), (.c "Function", false), (.c "Book", false), (.x "VowError", true), (.x "NoBook", true), (.x "NoText", true)]) (mVar 2)) (mNotV (m1 (fIsi [(.b "NoneType", false), (.b "bool", false), (.b "int", false), (.b "str", false), (.b "tuple", false), (.b "list", false), (.b "dict", false), (.c "Function", false), (.c "Book", false), (.x "VowError", false), (.x "NoBook", false), (.x "NoText", true)]) (mVar 2))))) (gNm 1))⟩] mNx) (mRet (mVar 1)))
noncomputable def b_law_kind : MS := (mSeq (mAsg (mC (.bl false)) (gNm 1)) k_law_kind_2)
noncomputable def f_law_kind : List AV → Hs → R AV := mFn 3 b_law_kind
noncomputable def t_law_refused_2 : MS := (mDrop (mFz (mMake "Book" 2 1 0 gAll f_Book___init__ (mCons (mVar 0) mNil) mNil)))
noncomputable def k_law_refused_2 : MS := (mSeq (mTry [(("VowError", "NoBook"), false), (("NoBook", "NoBook"), true), (("NoText", "NoBook"), false)] t_law_refused_2 [⟨"NoBook", some 2, (mAsg (mTup (mCons (m1 (fXfd ["NoBook"] "name") (mVar 2)) (mCons (m1 (fXfd ["NoBook"] "word") (mVar 2)) mNil))) (gNm 1))⟩] mNx) (mRet (mVar 1)))
noncomputable def b_law_refused : MS := (mSeq (mAsg (mC .non) (gNm 1)) k_law_refused_2)
noncomputable def f_law_refused : List AV → Hs → R AV := mFn 3 b_law_refused
noncomputable def k_Function___init___4 : MS := (mSeq (mFst ["Function"] "results" (mVar 0) (mVar 4)) (mFst ["Function"] "more" (mVar 0) (mVar 5)))
noncomputable def k_Function___init___3 : MS := (mSeq (mFst ["Function"] "body" (mVar 0) (mVar 3)) k_Function___init___4)
noncomputable def k_Function___init___2 : MS := (mSeq (mFst ["Function"] "params" (mVar 0) (mBlt fTuple (mCons (mVar 2) mNil))) k_Function___init___3)
noncomputable def b_Function___init__ : MS := (mSeq (mFst ["Function"] "name" (mVar 0) (mVar 1)) k_Function___init___2)
noncomputable def f_Function___init__ : List AV → Hs → R AV := mFn 6 b_Function___init__
noncomputable def b_law_made : MS := (mRet (mFz (mLc (mWk (mVar 0)) (gTp 5 (gCo (gNm 1) (gCo (gNm 2) (gCo (gNm 3) (gCo (gNm 4) (gCo (gNm 5) gNi)))))) mYes (mFz (mMake "Function" 6 3 2 (gP [] [.p 0, .p 1, .p 2, .p 3, .k 0, .k 1]) f_Function___init__ (mCons (mVar 1) (mCons (mVar 2) (mCons (mVar 3) mNil))) (mCons (mVar 4) (mCons (mVar 5) mNil)))) [1, 2, 3, 4, 5])))
noncomputable def f_law_made : List AV → Hs → R AV := mFn 6 b_law_made
noncomputable def l_law_statements_5 (r : Nat → List AV → Hs → R AV) : MS := (mAsg (m2 fAddW (mVar 1) (mCall 1 1 0 gAll (r 0) (mCons (mVar 4) mNil) mNil)) (gNm 1))
noncomputable def k_law_statements_4 (r : Nat → List AV → Hs → R AV) : MS := (mSeq (mAsg (mDget2 (mFz (mDict [((mC (.str "if")), (mFz (mSl (mVar 2) (mSome (mC (.int 2))) mNone))), ((mC (.str "while")), (mFz (mSl (mVar 2) (mSome (mC (.int 2))) mNone))), ((mC (.str "try")), (m2 fAddI (mFz (mSl (mVar 2) (mSome (mC (.int 1))) (mSome (mC (.int 2))))) (mFz (mSl (mVar 2) (mSome (mC (.int 3))) mNone))))])) (m2 fIx (mVar 2) (mC (.int 0))) (mTup mNil)) (gNm 3)) (mFor (mWk (mVar 3)) (gNm 4) (l_law_statements_5 r)))
noncomputable def l_law_statements_2 (r : Nat → List AV → Hs → R AV) : MS := (mSeq (mDrop (mBm isL fApp (mVar 1) (mCons (mVar 2) mNil))) (k_law_statements_4 r))
noncomputable def k_law_statements_2 (r : Nat → List AV → Hs → R AV) : MS := (mSeq (mFor (mWk (mVar 0)) (gNm 2) (l_law_statements_2 r)) (mRet (mFz (mVar 1))))
noncomputable def b_law_statements (r : Nat → List AV → Hs → R AV) : MS := (mSeq (mAsg (mLst mNil) (gNm 1)) (k_law_statements_2 r))
noncomputable def step_law_statements (r : Nat → List AV → Hs → R AV) : Nat → List AV → Hs → R AV
  | 0 => mFn 5 (b_law_statements r)
  | _ => fun _ _ => .stuck
noncomputable def f_law_statements : List AV → Hs → R AV := ringF step_law_statements 20 0
noncomputable def l_law_first_1 : MS := (mIf (mTest (m2 fEq (m2 fIx (mVar 2) (mC (.int 0))) (mVar 1))) (mRet (mVar 2)) mNx)
noncomputable def b_law_first : MS := (mSeq (mFor (mWk (mVar 0)) (gNm 2) l_law_first_1) (mRet (mC .non)))
noncomputable def f_law_first : List AV → Hs → R AV := mFn 3 b_law_first
noncomputable def k_law_wrong_call_4 : MS := (mRet (mAndV (m2 fNe (mBlt fLen (mCons (m2 fIx (mVar 0) (mC (.int 3))) mNil)) (mBlt fLen (mCons (m2 fIx (mVar 2) (mC (.int 1))) mNil))) (mNotV (mAndV (m2 fIx (mVar 2) (mC (.int 4))) (m2 fGt (mBlt fLen (mCons (m2 fIx (mVar 0) (mC (.int 3))) mNil)) (mBlt fLen (mCons (m2 fIx (mVar 2) (mC (.int 1))) mNil)))))))
noncomputable def k_law_wrong_call_2 : MS := (mSeq (mIf (mOr (mTest (m2 fIsN (mVar 2) (mC .non))) (mTest (m2 fNe (m2 fIx (mVar 2) (mC (.int 3))) (mBlt fLen (mCons (m2 fIx (mVar 0) (mC (.int 1))) mNil))))) (mRet (mC (.bl true))) mNx) k_law_wrong_call_4)
noncomputable def b_law_wrong_call : MS := (mSeq (mAsg (mCall 2 2 0 gAll f_law_first (mCons (mVar 1) (mCons (m2 fIx (mVar 0) (mC (.int 2))) mNil)) mNil) (gNm 2)) k_law_wrong_call_2)
noncomputable def f_law_wrong_call : List AV → Hs → R AV := mFn 3 b_law_wrong_call
noncomputable def k_law_reserved_2 : MS := (mRet (m2 fAddI (mVar 0) (mLstI (mCons (mC (.str "else")) (mCons (mC (.str "while")) (mCons (mC (.str "call")) (mCons (mC (.str "at")) (mCons (mC (.str "return")) (mCons (mC (.str "throw")) (mCons (mC (.str "try")) (mCons (mC (.str "catch")) (mCons (mC (.str "end")) (mCons (mC (.str "more")) mNil)))))))))))))
noncomputable def b_law_reserved : MS := (mSeq (mAsg (mLstI (mCons (mC (.str "number")) (mCons (mC (.str "plus")) (mCons (mC (.str "less")) (mCons (mC (.str "times")) (mCons (mC (.str "under")) (mCons (mC (.str "same")) (mCons (mC (.str "ref")) (mCons (mC (.str "many")) (mCons (mC (.str "extra")) (mCons (mC (.str "fn")) (mCons (mC (.str "set")) (mCons (mC (.str "say")) (mCons (mC (.str "if")) mNil)))))))))))))) (gNm 0)) k_law_reserved_2)
noncomputable def f_law_reserved : List AV → Hs → R AV := mFn 1 b_law_reserved
noncomputable def k_law_is_name_3 : MS := (mRet (m2 fEq (mFz (mLc (mWk (mVar 0)) (gNm 1) (mTest (m2 fNin (mVar 1) (mC (.str "abcdefghijklmnopqrstuvwxyz")))) (mVar 1) [1])) (mLstI mNil)))
noncomputable def b_law_is_name : MS := (mSeq (mIf (mOr (mNot (mTest (mChain fLe fLe (mC (.int 1)) (mBlt fLen (mCons (mVar 0) mNil)) (mC (.int 8))))) (mTest (m2 fIn (mVar 0) (mCall 0 0 0 gAll f_law_reserved mNil mNil)))) (mRet (mC (.bl false))) mNx) k_law_is_name_3)
noncomputable def f_law_is_name : List AV → Hs → R AV := mFn 2 b_law_is_name
noncomputable def l_law_parts_4 (r : Nat → List AV → Hs → R AV) : MS := (mAsg (m2 fAddI (mVar 1) (mCall 1 1 0 gAll (r 0) (mCons (mVar 2) mNil) mNil)) (gNm 1))
noncomputable def k_law_parts_4 (r : Nat → List AV → Hs → R AV) : MS := (mSeq (mFor (mWk (mFz (mSl (mVar 0) (mSome (mC (.int 1))) mNone))) (gNm 2) (l_law_parts_4 r)) (mRet (mVar 1)))
noncomputable def k_law_parts_3 (r : Nat → List AV → Hs → R AV) : MS := (mSeq (mAsg (mLstI (mCons (mVar 0) mNil)) (gNm 1)) (k_law_parts_4 r))
noncomputable def b_law_parts (r : Nat → List AV → Hs → R AV) : MS := (mSeq (mIf (mTest (m2 fIn (m2 fIx (mVar 0) (mC (.int 0))) (mTup (mCons (mC (.str "number")) (mCons (mC (.str "box")) (mCons (mC (.str "ref")) (mCons (mC (.str "many")) mNil))))))) (mRet (mLstI (mCons (mVar 0) mNil))) mNx) (k_law_parts_3 r))
noncomputable def step_law_parts (r : Nat → List AV → Hs → R AV) : Nat → List AV → Hs → R AV
  | 0 => mFn 3 (b_law_parts r)
  | _ => fun _ _ => .stuck
noncomputable def f_law_parts : List AV → Hs → R AV := ringF step_law_parts 20 0
noncomputable def k_law_split_11 : MS := (mRet (mTup (mCons (mLstI mNil) (mCons (mLstI (mCons (m2 fIx (mVar 0) (mC (.int 1))) mNil)) mNil))))
noncomputable def k_law_split_9 : MS := (mSeq (mIf (mTest (m2 fEq (m2 fIx (mVar 0) (mC (.int 0))) (mC (.str "try")))) (mRet (mTup (mCons (mLstI (mCons (m2 fIx (mVar 0) (mC (.int 2))) mNil)) (mCons (mLstI mNil) mNil)))) mNx) k_law_split_11)
noncomputable def k_law_split_7 : MS := (mSeq (mIf (mTest (m2 fEq (m2 fIx (mVar 0) (mC (.int 0))) (mC (.str "return")))) (mRet (mTup (mCons (mLstI mNil) (mCons (mBlt fListI (mCons (m2 fIx (mVar 0) (mC (.int 1))) mNil)) mNil)))) mNx) k_law_split_9)
noncomputable def k_law_split_5 : MS := (mSeq (mIf (mTest (m2 fEq (m2 fIx (mVar 0) (mC (.int 0))) (mC (.str "at")))) (mRet (mTup (mCons (mLstI (mCons (m2 fIx (mVar 0) (mC (.int 1))) mNil)) (mCons (m2 fAddI (mLstI (mCons (m2 fIx (mVar 0) (mC (.int 2))) mNil)) (mBlt fListI (mCons (m2 fIx (mVar 0) (mC (.int 3))) mNil))) mNil)))) mNx) k_law_split_7)
noncomputable def k_law_split_3 : MS := (mSeq (mIf (mTest (m2 fEq (m2 fIx (mVar 0) (mC (.int 0))) (mC (.str "call")))) (mRet (mTup (mCons (mBlt fListI (mCons (m2 fIx (mVar 0) (mC (.int 1))) mNil)) (mCons (mBlt fListI (mCons (m2 fIx (mVar 0) (mC (.int 3))) mNil)) mNil)))) mNx) k_law_split_5)
noncomputable def b_law_split : MS := (mSeq (mIf (mTest (m2 fEq (m2 fIx (mVar 0) (mC (.int 0))) (mC (.str "set")))) (mRet (mTup (mCons (mLstI (mCons (m2 fIx (mVar 0) (mC (.int 1))) mNil)) (mCons (mLstI (mCons (m2 fIx (mVar 0) (mC (.int 2))) mNil)) mNil)))) mNx) k_law_split_3)
noncomputable def f_law_split : List AV → Hs → R AV := mFn 1 b_law_split
noncomputable def k_law_word_17 : MS := (mSeq (mIf (mAnd (mNot (mTru (m2 fIx (mVar 1) (mC (.int 4))))) (mTest (m2 fNe (mFz (mLc (mWk (mVar 5)) (gNm 7) (mTest (m2 fIn (m2 fIx (mVar 7) (mC (.int 0))) (mTup (mCons (mC (.str "many")) (mCons (mC (.str "extra")) mNil))))) (mVar 7) [7])) (mLstI mNil)))) (mRet (mC (.str "many"))) mNx) (mRet (mC .non)))
noncomputable def k_law_word_15 : MS := (mSeq (mIf (mAnd (mTest (m2 fEq (m2 fIx (mVar 0) (mC (.int 0))) (mC (.str "return")))) (mTest (m2 fNe (mBlt fLen (mCons (m2 fIx (mVar 0) (mC (.int 1))) mNil)) (m2 fIx (mVar 1) (mC (.int 3)))))) (mRet (mC (.str "return"))) mNx) k_law_word_17)
noncomputable def k_law_word_13 : MS := (mIf (mOr (mTest (m2 fIsN (mVar 8) (mC .non))) (mTest (m2 fNe (m2 fIx (mVar 8) (mC (.int 3))) (mC (.int 1))))) (mRet (mC (.str "ref"))) mNx)
noncomputable def l_law_word_10 : MS := (mIf (mTest (m2 fEq (m2 fIx (mVar 7) (mC (.int 0))) (mC (.str "ref")))) (mSeq (mAsg (mCall 2 2 0 gAll f_law_first (mCons (mVar 2) (mCons (m2 fIx (mVar 7) (mC (.int 1))) mNil)) mNil) (gNm 8)) k_law_word_13) mNx)
noncomputable def k_law_word_10 : MS := (mSeq (mFor (mWk (mVar 5)) (gNm 7) l_law_word_10) k_law_word_15)
noncomputable def k_law_word_8 : MS := (mSeq (mIf (mAnd (mTest (m2 fEq (m2 fIx (mVar 0) (mC (.int 0))) (mC (.str "call")))) (mTru (mCall 2 2 0 gAll f_law_wrong_call (mCons (mVar 0) (mCons (mVar 2) mNil)) mNil))) (mRet (mC (.str "call"))) mNx) k_law_word_10)
noncomputable def k_law_word_6 : MS := (mSeq (mIf (mTest (m2 fNe (mFz (mLc (mWk (mVar 3)) (gNm 9) (mNot (mTru (mCall 1 1 0 gAll f_law_is_name (mCons (mVar 9) mNil) mNil))) (mVar 9) [9])) (mLstI mNil))) (mRet (mC (.str "box"))) mNx) k_law_word_8)
noncomputable def k_law_word_5 : MS := (mSeq (mAsg (m2 fAddI (mVar 3) (mFz (mLc (mWk (mVar 5)) (gNm 7) (mTest (m2 fEq (m2 fIx (mVar 7) (mC (.int 0))) (mC (.str "box")))) (m2 fIx (mVar 7) (mC (.int 1))) [7]))) (gNm 3)) k_law_word_6)
noncomputable def l_law_word_3 : MS := (mAsg (m2 fAddI (mVar 5) (mCall 1 1 0 gAll f_law_parts (mCons (mVar 6) mNil) mNil)) (gNm 5))
noncomputable def k_law_word_3 : MS := (mSeq (mFor (mWk (mVar 4)) (gNm 6) l_law_word_3) k_law_word_5)
noncomputable def k_law_word_2 : MS := (mSeq (mAsg (mLstI mNil) (gNm 5)) k_law_word_3)
noncomputable def b_law_word : MS := (mSeq (mAsg (mCall 1 1 0 gAll f_law_split (mCons (mVar 0) mNil) mNil) (gTp 2 (gCo (gNm 3) (gCo (gNm 4) gNi)))) k_law_word_2)
noncomputable def f_law_word : List AV → Hs → R AV := mFn 10 b_law_word
noncomputable def k_law_due_16 : MS := (mRet (mIte (mTru (m2 fIx (m2 fIx (mVar 0) (mC (.int 0))) (mC (.int 4)))) (mTup (mCons (m2 fIx (m2 fIx (mVar 0) (mC (.int 0))) (mC (.int 0))) (mCons (mC (.str "first")) mNil))) (mC .non)))
noncomputable def k_law_due_14 : MS := (mSeq (mIf (mTest (m2 fEq (mVar 0) (mLstI mNil))) (mRet (mTup (mCons (mC (.str "")) (mCons (mC (.str "first")) mNil)))) mNx) k_law_due_16)
noncomputable def k_law_due_11 : MS := (mIf (mTest (m2 fNotN (mVar 10) (mC .non))) (mRet (mTup (mCons (mVar 3) (mCons (mVar 10) mNil)))) mNx)
noncomputable def l_law_due_9 : MS := (mSeq (mAsg (mCall 3 3 0 gAll f_law_word (mCons (mVar 9) (mCons (mVar 2) (mCons (mVar 0) mNil))) mNil) (gNm 10)) k_law_due_11)
noncomputable def k_law_due_9 : MS := (mSeq (mFor (mWk (mCall 1 1 0 gAll f_law_statements (mCons (mVar 5) mNil) mNil)) (gNm 9) l_law_due_9) (mDrop (mBm isL fApp (mVar 1) (mCons (mVar 3) mNil))))
noncomputable def l_law_due_6 : MS := (mIf (mOr (mNot (mTru (mCall 1 1 0 gAll f_law_is_name (mCons (m2 fIx (mVar 4) (mVar 8)) mNil) mNil))) (mTest (m2 fIn (m2 fIx (mVar 4) (mVar 8)) (mFz (mSl (mVar 4) mNone (mSome (mVar 8))))))) (mRet (mTup (mCons (mVar 3) (mCons (mC (.str "box")) mNil)))) mNx)
noncomputable def k_law_due_6 : MS := (mSeq (mFor (mRg1 (mBlt fLen (mCons (mVar 4) mNil))) (gNm 8) l_law_due_6) k_law_due_9)
noncomputable def k_law_due_4 : MS := (mSeq (mIf (mOr (mNot (mTru (mCall 1 1 0 gAll f_law_is_name (mCons (mVar 3) mNil) mNil))) (mTest (m2 fIn (mVar 3) (mVar 1)))) (mRet (mTup (mCons (mVar 3) (mCons (mC (.str "name")) mNil)))) mNx) k_law_due_6)
noncomputable def l_law_due_2 : MS := (mSeq (mAsg (mVar 2) (gTp 5 (gCo (gNm 3) (gCo (gNm 4) (gCo (gNm 5) (gCo (gNm 6) (gCo (gNm 7) gNi))))))) k_law_due_4)
noncomputable def k_law_due_2 : MS := (mSeq (mFor (mWk (mVar 0)) (gNm 2) l_law_due_2) k_law_due_14)
noncomputable def b_law_due : MS := (mSeq (mAsg (mLst mNil) (gNm 1)) k_law_due_2)
noncomputable def f_law_due : List AV → Hs → R AV := mFn 11 b_law_due
noncomputable def k_law_take_12 : MS := (mSeq (mAsg (m2 fAdd (m2 fMul (m2 fMod (m2 fPow (mVar 5) (mC (.int 2))) (mC (.int 2147483629))) (mC (.int 2147483587))) (m2 fMod (m2 fPow (mVar 5) (mC (.int 3))) (mC (.int 2147483579)))) (gNm 6)) (mRet (m2 fMod (m2 fDiv (mVar 6) (mC (.int 7))) (mVar 1))))
noncomputable def k_law_take_11 : MS := (mSeq (mDput (mVar 0) (mC (.str "seed")) (mVar 5)) k_law_take_12)
noncomputable def k_law_take_10 : MS := (mSeq (mAsg (m2 fMod (m2 fAdd (m2 fAdd (m2 fMul (m2 fDg (mVar 0) (mC (.str "seed"))) (mC (.int 48271))) (m2 fMul (mVar 4) (m2 fAdd (m2 fMul (mC (.int 2)) (mVar 3)) (mC (.int 3))))) (m2 fPow (mVar 3) (mC (.int 3)))) (mC (.int 2147483647))) (gNm 5)) k_law_take_11)
noncomputable def k_law_take_9 : MS := (mSeq (mAsg (m2 fIx (m2 fDg (mVar 0) (mC (.str "cells"))) (m2 fMod (mVar 3) (mBlt fLen (mCons (m2 fDg (mVar 0) (mC (.str "cells"))) mNil)))) (gNm 4)) k_law_take_10)
noncomputable def k_law_take_8 : MS := (mSeq (mDput (mVar 0) (mC (.str "turn")) (m2 fAdd (mVar 3) (mC (.int 1)))) k_law_take_9)
noncomputable def k_law_take_7 : MS := (mSeq (mAsg (m2 fDg (mVar 0) (mC (.str "turn"))) (gNm 3)) k_law_take_8)
noncomputable def k_law_take_5 : MS := (mSeq (mDput (mVar 0) (mC (.str "rest")) (m2 fDiv (m2 fDg (mVar 0) (mC (.str "rest"))) (mVar 1))) (mRet (mVar 2)))
noncomputable def k_law_take_3 : MS := (mSeq (mIf (mTest (m2 fGt (m2 fDg (mVar 0) (mC (.str "rest"))) (mC (.int 0)))) (mSeq (mAsg (m2 fMod (m2 fDg (mVar 0) (mC (.str "rest"))) (mVar 1)) (gNm 2)) k_law_take_5) mNx) k_law_take_7)
noncomputable def b_law_take : MS := (mSeq (mIf (mAnd (mTest (m2 fEq (m2 fDg (mVar 0) (mC (.str "rest"))) (mC (.int 0)))) (mTest (m2 fNe (m2 fDg (mVar 0) (mC (.str "great"))) (mLst mNil)))) (mDput (mVar 0) (mC (.str "rest")) (mBm isL fPopAt (m2 fDg (mVar 0) (mC (.str "great"))) (mCons (mC (.int 0)) mNil))) mNx) k_law_take_3)
noncomputable def f_law_take : List AV → Hs → R AV := mFn 7 b_law_take
noncomputable def b_law_pick : MS := (mRet (m2 fIx (mVar 1) (mCall 2 2 0 gAll f_law_take (mCons (mVar 0) (mCons (mBlt fLen (mCons (mVar 1) mNil)) mNil)) mNil)))
noncomputable def f_law_pick : List AV → Hs → R AV := mFn 2 b_law_pick
noncomputable def k_law_bad_name_2 : MS := (mRet (m2 fIx (mLstI (mCons (mCall 2 2 0 gAll f_law_pick (mCons (mVar 0) (mCons (mVar 2) mNil)) mNil) (mCons (mCall 2 2 0 gAll f_law_pick (mCons (mVar 0) (mCons (mCall 0 0 0 gAll f_law_reserved mNil mNil) mNil)) mNil) mNil))) (mCall 2 2 0 gAll f_law_take (mCons (mVar 0) (mCons (mC (.int 2)) mNil)) mNil)))
noncomputable def b_law_bad_name : MS := (mSeq (mAsg (m2 fAddI (mLstI (mCons (mC (.str "")) (mCons (mC (.str "Box")) (mCons (m2 fAdd (mC (.str "nine")) (mC (.str "signs"))) (mCons (mC (.str "a1")) (mCons (mC (.str "a b")) mNil)))))) (mVar 1)) (gNm 2)) k_law_bad_name_2)
noncomputable def f_law_bad_name : List AV → Hs → R AV := mFn 3 b_law_bad_name
noncomputable def k_law_bent_21 : MS := (mRet (m2 fAddI (m2 fAddI (mFz (mSl (mVar 1) mNone (mSome (mVar 3)))) (mLstI (mCons (mTup (mCons (mVar 4) (mCons (mVar 5) (mCons (mVar 6) (mCons (mVar 7) (mCons (mVar 8) mNil)))))) mNil))) (mFz (mSl (mVar 1) (mSome (m2 fAdd (mVar 3) (mC (.int 1)))) mNone))))
noncomputable def k_law_bent_10 : MS := (mAsg (m2 fAddI (m2 fAddI (mFz (mSl (mVar 5) mNone (mSome (mVar 9)))) (mTup (mCons (mCall 2 2 0 gAll f_law_bad_name (mCons (mVar 0) (mCons (mBlt fListI (mCons (mVar 5) mNil)) mNil)) mNil) mNil))) (mFz (mSl (mVar 5) (mSome (m2 fAdd (mVar 9) (mC (.int 1)))) mNone))) (gNm 5))
noncomputable def k_law_bent_6 : MS := (mSeq (mIf (mTest (m2 fEq (mVar 2) (mC (.int 0)))) (mAsg (mCall 2 2 0 gAll f_law_bad_name (mCons (mVar 0) (mCons (mFz (mLc (mWk (mVar 1)) (gNm 10) mYes (m2 fIx (mVar 10) (mC (.int 0))) [10])) mNil)) mNil) (gNm 4)) (mIf (mAnd (mTest (m2 fEq (mVar 2) (mC (.int 1)))) (mTest (m2 fNe (mVar 5) (mTup mNil)))) (mSeq (mAsg (mCall 2 2 0 gAll f_law_take (mCons (mVar 0) (mCons (mBlt fLen (mCons (mVar 5) mNil)) mNil)) mNil) (gNm 9)) k_law_bent_10) (mIf (mTest (m2 fEq (mVar 2) (mC (.int 2)))) (mAsg (mCall 2 2 0 gAll f_law_take (mCons (mVar 0) (mCons (mC (.int 4)) mNil)) mNil) (gNm 7)) (mIf (mTest (m2 fEq (mVar 2) (mC (.int 3)))) (mAsg (mNotV (mVar 8)) (gNm 8)) (mIf (mTest (m2 fEq (mVar 2) (mC (.int 4)))) (mAsg (mFz (mSl (mVar 5) mNone (mSome (m1 fNeg (mC (.int 1)))))) (gNm 5)) (mIf (mTest (m2 fEq (mVar 2) (mC (.int 5)))) (mRet (m2 fAddI (mFz (mSl (mVar 1) mNone (mSome (mVar 3)))) (mFz (mSl (mVar 1) (mSome (m2 fAdd (mVar 3) (mC (.int 1)))) mNone)))) (mRet (m2 fAddI (mVar 1) (mLstI (mCons (m2 fIx (mVar 1) (mVar 3)) mNil)))))))))) k_law_bent_21)
noncomputable def k_law_bent_5 : MS := (mSeq (mAsg (m2 fIx (mVar 1) (mVar 3)) (gTp 5 (gCo (gNm 4) (gCo (gNm 5) (gCo (gNm 6) (gCo (gNm 7) (gCo (gNm 8) gNi))))))) k_law_bent_6)
noncomputable def k_law_bent_4 : MS := (mSeq (mAsg (mCall 2 2 0 gAll f_law_take (mCons (mVar 0) (mCons (mBlt fLen (mCons (mVar 1) mNil)) mNil)) mNil) (gNm 3)) k_law_bent_5)
noncomputable def k_law_bent_2 : MS := (mSeq (mIf (mOr (mTest (m2 fEq (mVar 1) (mLstI mNil))) (mTest (m2 fEq (mVar 2) (mC (.int 7))))) (mRet (mVar 1)) mNx) k_law_bent_4)
noncomputable def b_law_bent : MS := (mSeq (mAsg (mCall 2 2 0 gAll f_law_take (mCons (mVar 0) (mCons (mC (.int 8)) mNil)) mNil) (gNm 2)) k_law_bent_2)
noncomputable def f_law_bent : List AV → Hs → R AV := mFn 11 b_law_bent
noncomputable def b_law_odd : MS := (mRet (mAndV (m2 fGt (m2 fDg (mVar 1) (mC (.str "odd"))) (mC (.int 0))) (m2 fEq (mCall 2 2 0 gAll f_law_take (mCons (mVar 0) (mCons (m2 fDg (mVar 1) (mC (.str "odd"))) mNil)) mNil) (mC (.int 0)))))
noncomputable def f_law_odd : List AV → Hs → R AV := mFn 2 b_law_odd
noncomputable def k_law_box_3 : MS := (mRet (mCall 2 2 0 gAll f_law_pick (mCons (mVar 0) (mCons (m2 fDg (mVar 1) (mC (.str "boxes"))) mNil)) mNil))
noncomputable def b_law_box : MS := (mSeq (mIf (mTru (mCall 2 2 0 gAll f_law_odd (mCons (mVar 0) (mCons (mVar 1) mNil)) mNil)) (mRet (m2 fDg (mVar 1) (mC (.str "bad")))) mNx) k_law_box_3)
noncomputable def f_law_box : List AV → Hs → R AV := mFn 2 b_law_box
noncomputable def l_law_name_13 : MS := (mIf (mOr (mTest (m2 fIn (mVar 5) (mVar 1))) (mTest (m2 fIn (mVar 5) (mCall 0 0 0 gAll f_law_reserved mNil mNil)))) (mAsg (mVar 7) (gNm 5)) mNx)
noncomputable def k_law_name_13 : MS := (mSeq (mFor (mWk (mVar 2)) (gNm 7) l_law_name_13) (mRet (mVar 5)))
noncomputable def l_law_name_11 : MS := (mAsg (m2 fAdd (mVar 5) (m2 fIx (mVar 2) (mCall 2 2 0 gAll f_law_take (mCons (mVar 0) (mCons (mC (.int 26)) mNil)) mNil))) (gNm 5))
noncomputable def k_law_name_6 : MS := (mSeq (mIf (mTest (m2 fEq (mVar 4) (mC (.int 0)))) (mAsg (m2 fIx (mVar 3) (mCall 2 2 0 gAll f_law_take (mCons (mVar 0) (mCons (mBlt fLen (mCons (mVar 3) mNil)) mNil)) mNil)) (gNm 5)) (mIf (mAnd (mTest (m2 fEq (mVar 4) (mC (.int 1)))) (mTest (m2 fGt (mBlt fLen (mCons (mVar 1) mNil)) (mC (.int 0))))) (mAsg (mSl (m2 fAddI (m2 fIx (mVar 1) (mCall 2 2 0 gAll f_law_take (mCons (mVar 0) (mCons (mBlt fLen (mCons (mVar 1) mNil)) mNil)) mNil)) (m2 fIx (mVar 2) (mCall 2 2 0 gAll f_law_take (mCons (mVar 0) (mCons (mC (.int 26)) mNil)) mNil))) mNone (mSome (mC (.int 8)))) (gNm 5)) (mFor (mRg1 (m2 fAdd (mC (.int 1)) (mCall 2 2 0 gAll f_law_take (mCons (mVar 0) (mCons (m2 fIx (mLstI (mCons (mC (.int 2)) (mCons (mC (.int 8)) mNil))) (m2 fDiv (mVar 4) (mC (.int 3)))) mNil)) mNil))) (gNm 6) l_law_name_11))) k_law_name_13)
noncomputable def k_law_name_5 : MS := (mSeq (mAsg (mC (.str "")) (gNm 5)) k_law_name_6)
noncomputable def k_law_name_4 : MS := (mSeq (mAsg (mCall 2 2 0 gAll f_law_take (mCons (mVar 0) (mCons (mC (.int 4)) mNil)) mNil) (gNm 4)) k_law_name_5)
noncomputable def k_law_name_3 : MS := (mSeq (mAsg (m2 fAddI (mVar 3) (mLstI (mCons (mC (.str "said")) (mCons (mC (.str "frames")) (mCons (mC (.str "plain")) (mCons (mC (.str "check")) (mCons (mC (.str "text")) (mCons (mC (.str "ok")) (mCons (mC (.str "no")) (mCons (mC (.str "row")) (mCons (mC (.str "nothing")) (mCons (mC (.str "done")) (mCons (mC (.str "thrown")) mNil))))))))))))) (gNm 3)) k_law_name_4)
noncomputable def k_law_name_2 : MS := (mSeq (mAsg (mLstI (mCons (mC (.str "book")) (mCons (mC (.str "over")) (mCons (mC (.str "vow")) (mCons (mC (.str "handed")) (mCons (mC (.str "results")) (mCons (mC (.str "kept")) (mCons (mC (.str "link")) (mCons (mC (.str "count")) (mCons (mC (.str "down")) (mCons (mC (.str "called")) (mCons (mC (.str "start")) (mCons (mC (.str "steps")) mNil))))))))))))) (gNm 3)) k_law_name_3)
noncomputable def b_law_name : MS := (mSeq (mAsg (mC (.str "abcdefghijklmnopqrstuvwxyz")) (gNm 2)) k_law_name_2)
noncomputable def f_law_name : List AV → Hs → R AV := mFn 8 b_law_name
noncomputable def b_law_worth : MS := (mRet (m2 fIx (mLstI (mCons (mCall 2 2 0 gAll f_law_take (mCons (mVar 0) (mCons (mC (.int 4)) mNil)) mNil) (mCons (mCall 2 2 0 gAll f_law_take (mCons (mVar 0) (mCons (mC (.int 12)) mNil)) mNil) (mCons (mCall 2 2 0 gAll f_law_take (mCons (mVar 0) (mCons (m2 fAdd (m2 fPow (mC (.int 10)) (mC (.int 9))) (mC (.int 7))) mNil)) mNil) (mCons (m2 fAdd (m2 fPow (mC (.int 10)) (mC (.int 9))) (mC (.int 6))) mNil))))) (mCall 2 2 0 gAll f_law_take (mCons (mVar 0) (mCons (mC (.int 4)) mNil)) mNil)))
noncomputable def f_law_worth : List AV → Hs → R AV := mFn 1 b_law_worth
noncomputable def k_law_leaf_12 : MS := (mRet (mTup (mCons (mC (.str "box")) (mCons (mCall 2 2 0 gAll f_law_box (mCons (mVar 0) (mCons (mVar 1) mNil)) mNil) mNil))))
noncomputable def k_law_leaf_10 : MS := (mSeq (mIf (mAnd (mTest (m2 fEq (mVar 2) (mC (.int 7)))) (mOr (mTru (m2 fDg (mVar 1) (mC (.str "star")))) (mTru (mCall 2 2 0 gAll f_law_odd (mCons (mVar 0) (mCons (mVar 1) mNil)) mNil)))) (mRet (mTup (mCons (mC (.str "many")) mNil))) mNx) k_law_leaf_12)
noncomputable def k_law_leaf_8 : MS := (mIf (mTest (m2 fNe (mVar 3) (mLstI mNil))) (mRet (mTup (mCons (mC (.str "ref")) (mCons (mCall 2 2 0 gAll f_law_pick (mCons (mVar 0) (mCons (mVar 3) mNil)) mNil) mNil)))) mNx)
noncomputable def k_law_leaf_6 : MS := (mSeq (mIf (mTru (mCall 2 2 0 gAll f_law_odd (mCons (mVar 0) (mCons (mVar 1) mNil)) mNil)) (mAsg (m2 fAddI (mFz (mLc (mWk (m2 fDg (mVar 1) (mC (.str "heads")))) (gNm 4) mYes (m2 fIx (mVar 4) (mC (.int 0))) [4])) (mLstI (mCons (mCall 2 2 0 gAll f_law_name (mCons (mVar 0) (mCons (mLstI mNil) mNil)) mNil) mNil))) (gNm 3)) mNx) k_law_leaf_8)
noncomputable def k_law_leaf_4 : MS := (mSeq (mIf (mTest (m2 fEq (mVar 2) (mC (.int 6)))) (mSeq (mFzA 3 (mAsg (mLc (mWk (m2 fDg (mVar 1) (mC (.str "heads")))) (gNm 4) (mTest (m2 fEq (m2 fIx (mVar 4) (mC (.int 2))) (mC (.int 1)))) (m2 fIx (mVar 4) (mC (.int 0))) [4]) (gNm 3))) k_law_leaf_6) mNx) k_law_leaf_10)
noncomputable def k_law_leaf_2 : MS := (mSeq (mIf (mTest (m2 fLt (mVar 2) (mC (.int 3)))) (mRet (mTup (mCons (mC (.str "number")) (mCons (mCall 1 1 0 gAll f_law_worth (mCons (mVar 0) mNil) mNil) mNil)))) mNx) k_law_leaf_4)
noncomputable def b_law_leaf : MS := (mSeq (mAsg (mCall 2 2 0 gAll f_law_take (mCons (mVar 0) (mCons (mC (.int 8)) mNil)) mNil) (gNm 2)) k_law_leaf_2)
noncomputable def f_law_leaf : List AV → Hs → R AV := mFn 5 b_law_leaf
noncomputable def k_law_expression_8 (r : Nat → List AV → Hs → R AV) : MS := (mRet (mTup (mCons (mVar 4) (mCons (mVar 5) (mCons (mCall 3 3 0 gAll (r 0) (mCons (mVar 0) (mCons (mVar 1) (mCons (m2 fSub (mVar 2) (mC (.int 1))) mNil))) mNil) mNil)))))
noncomputable def k_law_expression_7 (r : Nat → List AV → Hs → R AV) : MS := (mSeq (mAsg (mCall 3 3 0 gAll (r 0) (mCons (mVar 0) (mCons (mVar 1) (mCons (m2 fSub (mVar 2) (mC (.int 1))) mNil))) mNil) (gNm 5)) (k_law_expression_8 r))
noncomputable def k_law_expression_6 (r : Nat → List AV → Hs → R AV) : MS := (mSeq (mAsg (mCall 2 2 0 gAll f_law_pick (mCons (mVar 0) (mCons (mLstI (mCons (mC (.str "plus")) (mCons (mC (.str "less")) (mCons (mC (.str "times")) (mCons (mC (.str "under")) (mCons (mC (.str "same")) mNil)))))) mNil)) mNil) (gNm 4)) (k_law_expression_7 r))
noncomputable def k_law_expression_4 (r : Nat → List AV → Hs → R AV) : MS := (mSeq (mIf (mAnd (mTest (m2 fEq (mVar 3) (mC (.int 5)))) (mOr (mTru (m2 fDg (mVar 1) (mC (.str "star")))) (mTru (mCall 2 2 0 gAll f_law_odd (mCons (mVar 0) (mCons (mVar 1) mNil)) mNil)))) (mRet (mTup (mCons (mC (.str "extra")) (mCons (mCall 3 3 0 gAll (r 0) (mCons (mVar 0) (mCons (mVar 1) (mCons (m2 fSub (mVar 2) (mC (.int 1))) mNil))) mNil) mNil)))) mNx) (k_law_expression_6 r))
noncomputable def k_law_expression_2 (r : Nat → List AV → Hs → R AV) : MS := (mSeq (mIf (mOr (mTest (m2 fEq (mVar 2) (mC (.int 0)))) (mTest (m2 fLt (mVar 3) (mC (.int 5))))) (mRet (mCall 2 2 0 gAll f_law_leaf (mCons (mVar 0) (mCons (mVar 1) mNil)) mNil)) mNx) (k_law_expression_4 r))
noncomputable def b_law_expression (r : Nat → List AV → Hs → R AV) : MS := (mSeq (mAsg (mCall 2 2 0 gAll f_law_take (mCons (mVar 0) (mCons (mC (.int 10)) mNil)) mNil) (gNm 3)) (k_law_expression_2 r))
noncomputable def step_law_expression (r : Nat → List AV → Hs → R AV) : Nat → List AV → Hs → R AV
  | 0 => mFn 6 (b_law_expression r)
  | _ => fun _ _ => .stuck
noncomputable def f_law_expression : List AV → Hs → R AV := ringF step_law_expression 20 0
noncomputable def k_law_things_3 : MS := (mRet (mBlt fTuple (mCons (mFz (mLc (mRg1 (mVar 2)) (gNm 3) mYes (mCall 3 3 0 gAll f_law_expression (mCons (mVar 0) (mCons (mVar 1) (mCons (mC (.int 1)) mNil))) mNil) [3])) mNil)))
noncomputable def b_law_things : MS := (mSeq (mIf (mTru (mCall 2 2 0 gAll f_law_odd (mCons (mVar 0) (mCons (mVar 1) mNil)) mNil)) (mAsg (mBlt fMax2 (mCons (mC (.int 0)) (mCons (mBlt fMin2 (mCons (mC (.int 7)) (mCons (m2 fSub (m2 fAddI (mVar 2) (mC (.int 1))) (m2 fMul (mC (.int 2)) (mCall 2 2 0 gAll f_law_take (mCons (mVar 0) (mCons (mC (.int 2)) mNil)) mNil))) mNil))) mNil))) (gNm 2)) mNx) k_law_things_3)
noncomputable def f_law_things : List AV → Hs → R AV := mFn 4 b_law_things
noncomputable def k_law_at_6 : MS := (mRet (mTup (mCons (mC (.str "at")) (mCons (mCall 2 2 0 gAll f_law_box (mCons (mVar 0) (mCons (mVar 1) mNil)) mNil) (mCons (mVar 6) (mCons (mCall 3 3 0 gAll f_law_things (mCons (mVar 0) (mCons (mVar 1) (mCons (m2 fAdd (mVar 7) (mBlt fInt (mCons (m2 fEq (mCall 2 2 0 gAll f_law_take (mCons (mVar 0) (mCons (mC (.int 9)) mNil)) mNil) (mC (.int 0))) mNil))) mNil))) mNil) mNil))))))
noncomputable def k_law_at_5 : MS := (mSeq (mAsg (m2 fAdd (mBlt fLen (mCons (mVar 3) mNil)) (m2 fMul (mBlt fInt (mCons (mVar 5) mNil)) (mCall 2 2 0 gAll f_law_take (mCons (mVar 0) (mCons (mC (.int 3)) mNil)) mNil))) (gNm 7)) k_law_at_6)
noncomputable def k_law_at_3 : MS := (mSeq (mIf (mAnd (mTest (m2 fEq (mVar 4) (mC (.int 1)))) (mTest (m2 fGt (mCall 2 2 0 gAll f_law_take (mCons (mVar 0) (mCons (mC (.int 4)) mNil)) mNil) (mC (.int 0))))) (mAsg (mTup (mCons (mC (.str "ref")) (mCons (mVar 2) mNil))) (gNm 6)) mNx) k_law_at_5)
noncomputable def k_law_at_2 : MS := (mSeq (mAsg (mTup (mCons (mC (.str "number")) (mCons (mCall 2 2 0 gAll f_law_take (mCons (mVar 0) (mCons (m2 fAdd (mBlt fLen (mCons (m2 fDg (mVar 1) (mC (.str "heads"))) mNil)) (mC (.int 2))) mNil)) mNil) mNil))) (gNm 6)) k_law_at_3)
noncomputable def b_law_at : MS := (mSeq (mAsg (mCall 2 2 0 gAll f_law_pick (mCons (mVar 0) (mCons (m2 fDg (mVar 1) (mC (.str "heads"))) mNil)) mNil) (gTp 4 (gCo (gNm 2) (gCo (gNm 3) (gCo (gNm 4) (gCo (gNm 5) gNi)))))) k_law_at_2)
noncomputable def f_law_at : List AV → Hs → R AV := mFn 8 b_law_at
noncomputable def k_law_call_10 : MS := (mRet (mTup (mCons (mC (.str "call")) (mCons (mBlt fTuple (mCons (mFz (mLc (mRg1 (mVar 5)) (gNm 8) mYes (mCall 2 2 0 gAll f_law_box (mCons (mVar 0) (mCons (mVar 1) mNil)) mNil) [8])) mNil)) (mCons (mVar 3) (mCons (mVar 7) mNil))))))
noncomputable def k_law_call_8 : MS := (mSeq (mIf (mTru (mCall 2 2 0 gAll f_law_odd (mCons (mVar 0) (mCons (mVar 1) mNil)) mNil)) (mAsg (mBlt fMax2 (mCons (mC (.int 0)) (mCons (m2 fSub (m2 fAddI (mVar 5) (mC (.int 1))) (m2 fMul (mC (.int 2)) (mCall 2 2 0 gAll f_law_take (mCons (mVar 0) (mCons (mC (.int 2)) mNil)) mNil))) mNil))) (gNm 5)) mNx) k_law_call_10)
noncomputable def k_law_call_6 : MS := (mSeq (mIf (mTru (mCall 2 2 0 gAll f_law_odd (mCons (mVar 0) (mCons (mVar 1) mNil)) mNil)) (mAsg (mCall 2 2 0 gAll f_law_name (mCons (mVar 0) (mCons (mLstI mNil) mNil)) mNil) (gNm 3)) mNx) k_law_call_8)
noncomputable def k_law_call_5 : MS := (mSeq (mAsg (mCall 3 3 0 gAll f_law_things (mCons (mVar 0) (mCons (mVar 1) (mCons (m2 fAdd (mBlt fLen (mCons (mVar 4) mNil)) (m2 fMul (mBlt fInt (mCons (mVar 6) mNil)) (mCall 2 2 0 gAll f_law_take (mCons (mVar 0) (mCons (mC (.int 4)) mNil)) mNil))) mNil))) mNil) (gNm 7)) k_law_call_6)
noncomputable def k_law_call_4 : MS := (mSeq (mAsg (mCall 2 2 0 gAll f_law_pick (mCons (mVar 0) (mCons (mVar 2) mNil)) mNil) (gTp 4 (gCo (gNm 3) (gCo (gNm 4) (gCo (gNm 5) (gCo (gNm 6) gNi)))))) k_law_call_5)
noncomputable def k_law_call_2 : MS := (mSeq (mIf (mTest (m2 fEq (mVar 2) (mLstI mNil))) (mRet (mTup (mCons (mC (.str "set")) (mCons (mCall 2 2 0 gAll f_law_box (mCons (mVar 0) (mCons (mVar 1) mNil)) mNil) (mCons (mCall 3 3 0 gAll f_law_expression (mCons (mVar 0) (mCons (mVar 1) (mCons (mC (.int 2)) mNil))) mNil) mNil))))) mNx) k_law_call_4)
noncomputable def b_law_call : MS := (mSeq (mAsg (mIte (mTest (m2 fGt (mCall 2 2 0 gAll f_law_take (mCons (mVar 0) (mCons (mC (.int 6)) mNil)) mNil) (mC (.int 0)))) (m2 fDg (mVar 1) (mC (.str "later"))) (m2 fDg (mVar 1) (mC (.str "heads")))) (gNm 2)) k_law_call_2)
noncomputable def f_law_call : List AV → Hs → R AV := mFn 9 b_law_call
noncomputable def k_law_simple_11 : MS := (mRet (mTup (mCons (mC (.str "throw")) (mCons (mCall 3 3 0 gAll f_law_expression (mCons (mVar 0) (mCons (mVar 1) (mCons (mC (.int 1)) mNil))) mNil) mNil))))
noncomputable def k_law_simple_9 : MS := (mSeq (mIf (mTest (m2 fEq (mVar 2) (mC (.int 9)))) (mRet (mTup (mCons (mC (.str "return")) (mCons (mCall 3 3 0 gAll f_law_things (mCons (mVar 0) (mCons (mVar 1) (mCons (m2 fDg (mVar 1) (mC (.str "gives"))) mNil))) mNil) mNil)))) mNx) k_law_simple_11)
noncomputable def k_law_simple_7 : MS := (mSeq (mIf (mTest (m2 fEq (mVar 2) (mC (.int 8)))) (mRet (mCall 2 2 0 gAll f_law_at (mCons (mVar 0) (mCons (mVar 1) mNil)) mNil)) mNx) k_law_simple_9)
noncomputable def k_law_simple_5 : MS := (mSeq (mIf (mTest (m2 fLt (mVar 2) (mC (.int 8)))) (mRet (mCall 2 2 0 gAll f_law_call (mCons (mVar 0) (mCons (mVar 1) mNil)) mNil)) mNx) k_law_simple_7)
noncomputable def k_law_simple_3 : MS := (mSeq (mIf (mTest (m2 fLt (mVar 2) (mC (.int 5)))) (mRet (mTup (mCons (mC (.str "say")) (mCons (mCall 3 3 0 gAll f_law_expression (mCons (mVar 0) (mCons (mVar 1) (mCons (mC (.int 2)) mNil))) mNil) mNil)))) mNx) k_law_simple_5)
noncomputable def b_law_simple : MS := (mSeq (mIf (mTest (m2 fLt (mVar 2) (mC (.int 3)))) (mRet (mTup (mCons (mC (.str "set")) (mCons (mCall 2 2 0 gAll f_law_box (mCons (mVar 0) (mCons (mVar 1) mNil)) mNil) (mCons (mCall 3 3 0 gAll f_law_expression (mCons (mVar 0) (mCons (mVar 1) (mCons (mC (.int 2)) mNil))) mNil) mNil))))) mNx) k_law_simple_3)
noncomputable def f_law_simple : List AV → Hs → R AV := mFn 3 b_law_simple
noncomputable def k_law_body_5 (r : Nat → List AV → Hs → R AV) : MS := (mDrop (mBm isL fApp (mVar 3) (mCons (mCall 3 3 0 gAll (r 1) (mCons (mVar 0) (mCons (mVar 1) (mCons (mVar 2) mNil))) mNil) mNil)))
noncomputable def l_law_body_2 (r : Nat → List AV → Hs → R AV) : MS := (mIf (mTest (m2 fGt (m2 fIx (m2 fDg (mVar 1) (mC (.str "left"))) (mC (.int 0))) (mC (.int 0)))) (mSeq (mAsg (m2 fSub (m2 fIx (m2 fDg (mVar 1) (mC (.str "left"))) (mC (.int 0))) (mC (.int 1))) (gLs (m2 fDg (mVar 1) (mC (.str "left"))) (mC (.int 0)))) (k_law_body_5 r)) mNx)
noncomputable def k_law_body_2 (r : Nat → List AV → Hs → R AV) : MS := (mSeq (mFor (mRg1 (mCall 2 2 0 gAll f_law_take (mCons (mVar 0) (mCons (m2 fAdd (mC (.int 3)) (mVar 2)) mNil)) mNil)) (gNm 4) (l_law_body_2 r)) (mRet (mBlt fTuple (mCons (mVar 3) mNil))))
noncomputable def b_law_body (r : Nat → List AV → Hs → R AV) : MS := (mSeq (mAsg (mLst mNil) (gNm 3)) (k_law_body_2 r))
noncomputable def k_law_statement_16 (r : Nat → List AV → Hs → R AV) : MS := (mRet (mTup (mCons (mC (.str "if")) (mCons (mVar 6) (mCons (mVar 7) (mCons (mCall 3 3 0 gAll (r 0) (mCons (mVar 0) (mCons (mVar 1) (mCons (m2 fSub (mVar 2) (mC (.int 1))) mNil))) mNil) mNil))))))
noncomputable def k_law_statement_15 (r : Nat → List AV → Hs → R AV) : MS := (mRet (mTup (mCons (mC (.str "while")) (mCons (mTup (mCons (mC (.str "under")) (mCons (mTup (mCons (mC (.str "box")) (mCons (mVar 8) mNil))) (mCons (mTup (mCons (mC (.str "number")) (mCons (mCall 2 2 0 gAll f_law_take (mCons (mVar 0) (mCons (mC (.int 5)) mNil)) mNil) mNil))) mNil)))) (mCons (m2 fAddI (mVar 7) (mTup (mCons (mVar 9) mNil))) mNil)))))
noncomputable def k_law_statement_14 (r : Nat → List AV → Hs → R AV) : MS := (mSeq (mAsg (mTup (mCons (mC (.str "set")) (mCons (mVar 8) (mCons (mTup (mCons (mC (.str "plus")) (mCons (mTup (mCons (mC (.str "box")) (mCons (mVar 8) mNil))) (mCons (mTup (mCons (mC (.str "number")) (mCons (mC (.int 1)) mNil))) mNil)))) mNil)))) (gNm 9)) (k_law_statement_15 r))
noncomputable def k_law_statement_12 (r : Nat → List AV → Hs → R AV) : MS := (mSeq (mIf (mTest (m2 fEq (mCall 2 2 0 gAll f_law_take (mCons (mVar 0) (mCons (mC (.int 4)) mNil)) mNil) (mC (.int 0)))) (mRet (mTup (mCons (mC (.str "while")) (mCons (mVar 6) (mCons (mVar 7) mNil))))) mNx) (k_law_statement_14 r))
noncomputable def k_law_statement_10 (r : Nat → List AV → Hs → R AV) : MS := (mSeq (mIf (mTest (m2 fEq (mVar 3) (mC (.int 12)))) (mSeq (mAsg (mCall 2 2 0 gAll f_law_pick (mCons (mVar 0) (mCons (m2 fDg (mVar 1) (mC (.str "boxes"))) mNil)) mNil) (gNm 8)) (k_law_statement_12 r)) mNx) (k_law_statement_16 r))
noncomputable def k_law_statement_9 (r : Nat → List AV → Hs → R AV) : MS := (mSeq (mAsg (mCall 3 3 0 gAll (r 0) (mCons (mVar 0) (mCons (mVar 1) (mCons (m2 fSub (mVar 2) (mC (.int 1))) mNil))) mNil) (gNm 7)) (k_law_statement_10 r))
noncomputable def k_law_statement_8 (r : Nat → List AV → Hs → R AV) : MS := (mSeq (mAsg (mCall 3 3 0 gAll f_law_expression (mCons (mVar 0) (mCons (mVar 1) (mCons (mC (.int 1)) mNil))) mNil) (gNm 6)) (k_law_statement_9 r))
noncomputable def k_law_statement_7 (r : Nat → List AV → Hs → R AV) : MS := (mRet (mTup (mCons (mC (.str "try")) (mCons (mVar 4) (mCons (mVar 5) (mCons (mCall 3 3 0 gAll (r 0) (mCons (mVar 0) (mCons (mVar 1) (mCons (m2 fSub (mVar 2) (mC (.int 1))) mNil))) mNil) mNil))))))
noncomputable def k_law_statement_6 (r : Nat → List AV → Hs → R AV) : MS := (mSeq (mAsg (mCall 2 2 0 gAll f_law_box (mCons (mVar 0) (mCons (mVar 1) mNil)) mNil) (gNm 5)) (k_law_statement_7 r))
noncomputable def k_law_statement_4 (r : Nat → List AV → Hs → R AV) : MS := (mSeq (mIf (mTest (m2 fEq (mVar 3) (mC (.int 13)))) (mSeq (mAsg (mCall 3 3 0 gAll (r 0) (mCons (mVar 0) (mCons (mVar 1) (mCons (m2 fSub (mVar 2) (mC (.int 1))) mNil))) mNil) (gNm 4)) (k_law_statement_6 r)) mNx) (k_law_statement_8 r))
noncomputable def k_law_statement_2 (r : Nat → List AV → Hs → R AV) : MS := (mSeq (mIf (mOr (mTest (m2 fEq (mVar 2) (mC (.int 0)))) (mTest (m2 fLt (mVar 3) (mC (.int 11))))) (mRet (mCall 3 3 0 gAll f_law_simple (mCons (mVar 0) (mCons (mVar 1) (mCons (m2 fMod (mVar 3) (mC (.int 11))) mNil))) mNil)) mNx) (k_law_statement_4 r))
noncomputable def b_law_statement (r : Nat → List AV → Hs → R AV) : MS := (mSeq (mAsg (mCall 2 2 0 gAll f_law_take (mCons (mVar 0) (mCons (mC (.int 16)) mNil)) mNil) (gNm 3)) (k_law_statement_2 r))
noncomputable def step_law_body (r : Nat → List AV → Hs → R AV) : Nat → List AV → Hs → R AV
  | 0 => mFn 5 (b_law_body r)
  | 1 => mFn 10 (b_law_statement r)
  | _ => fun _ _ => .stuck
noncomputable def f_law_body : List AV → Hs → R AV := ringF step_law_body 20 0
noncomputable def l_law_unlike_2 : MS := (mDrop (mBm isL fApp (mVar 2) (mCons (mCall 2 2 0 gAll f_law_name (mCons (mVar 0) (mCons (mVar 2) mNil)) mNil) mNil)))
noncomputable def k_law_unlike_2 : MS := (mSeq (mFor (mRg1 (mVar 1)) (gNm 3) l_law_unlike_2) (mRet (mVar 2)))
noncomputable def b_law_unlike : MS := (mSeq (mAsg (mLst mNil) (gNm 2)) k_law_unlike_2)
noncomputable def f_law_unlike : List AV → Hs → R AV := mFn 4 b_law_unlike
noncomputable def k_law_heads_5 : MS := (mDrop (mBm isL fApp (mVar 2) (mCons (mTup (mCons (mVar 5) (mCons (mVar 6) (mCons (m2 fIx (mLstI (mCons (mC (.int 1)) (mCons (mC (.int 1)) (mCons (mC (.int 0)) (mCons (mC (.int 2)) (mCons (mC (.int 3)) mNil)))))) (mCall 2 2 0 gAll f_law_take (mCons (mVar 0) (mCons (mC (.int 5)) mNil)) mNil)) (mCons (mAndV (m2 fGt (mVar 4) (mC (.int 0))) (m2 fEq (mCall 2 2 0 gAll f_law_take (mCons (mVar 0) (mCons (mC (.int 3)) mNil)) mNil) (mC (.int 0)))) mNil))))) mNil)))
noncomputable def l_law_heads_3 : MS := (mSeq (mAsg (mBlt fTuple (mCons (mFz (mSl (mFz (mSl (mVar 1) (mSome (mCall 2 2 0 gAll f_law_take (mCons (mVar 0) (mCons (mC (.int 3)) mNil)) mNil)) mNone)) mNone (mSome (mCall 2 2 0 gAll f_law_take (mCons (mVar 0) (mCons (mC (.int 5)) mNil)) mNil)))) mNil)) (gNm 6)) k_law_heads_5)
noncomputable def k_law_heads_3 : MS := (mSeq (mFor (mEn (mVar 3)) (gTp 2 (gCo (gNm 4) (gCo (gNm 5) gNi))) l_law_heads_3) (mRet (mVar 2)))
noncomputable def k_law_heads_2 : MS := (mSeq (mAsg (mCall 2 2 0 gAll f_law_unlike (mCons (mVar 0) (mCons (m2 fAdd (mC (.int 1)) (mCall 2 2 0 gAll f_law_take (mCons (mVar 0) (mCons (mC (.int 4)) mNil)) mNil)) mNil)) mNil) (gNm 3)) k_law_heads_3)
noncomputable def b_law_heads : MS := (mSeq (mAsg (mLst mNil) (gNm 2)) k_law_heads_2)
noncomputable def f_law_heads : List AV → Hs → R AV := mFn 7 b_law_heads
noncomputable def k_law_drawn_9 : MS := (mDrop (mBm isL fApp (mVar 5) (mCons (mTup (mCons (mVar 8) (mCons (mVar 9) (mCons (mCall 3 3 0 gAll f_law_body (mCons (mVar 0) (mCons (mVar 12) (mCons (mC (.int 2)) mNil))) mNil) (mCons (mVar 10) (mCons (mVar 11) mNil)))))) mNil)))
noncomputable def k_law_drawn_8 : MS := (mSeq (mDrop (mBm isD fDUpd (mVar 12) (mCons (mFz (mDict [((mC (.str "gives")), (mVar 10)), ((mC (.str "odd")), (mVar 1)), ((mC (.str "left")), (mVar 6)), ((mC (.str "bad")), (mVar 4))])) mNil))) k_law_drawn_9)
noncomputable def l_law_drawn_6 : MS := (mSeq (mAsg (mDict [((mC (.str "heads")), (mVar 3)), ((mC (.str "later")), (mSl (mVar 3) (mSome (m2 fAdd (mVar 7) (mC (.int 1)))) mNone)), ((mC (.str "boxes")), (mVar 2)), ((mC (.str "star")), (mVar 11))]) (gNm 12)) k_law_drawn_8)
noncomputable def k_law_drawn_6 : MS := (mSeq (mFor (mEn (mVar 3)) (gTp 2 (gCo (gNm 7) (gCo (gTp 4 (gCo (gNm 8) (gCo (gNm 9) (gCo (gNm 10) (gCo (gNm 11) gNi))))) gNi))) l_law_drawn_6) (mRet (mFz (mVar 5))))
noncomputable def k_law_drawn_5 : MS := (mSeq (mAsg (mLst (mCons (mC (.int 16)) mNil)) (gNm 6)) k_law_drawn_6)
noncomputable def k_law_drawn_4 : MS := (mSeq (mAsg (mLst mNil) (gNm 5)) k_law_drawn_5)
noncomputable def k_law_drawn_3 : MS := (mSeq (mAsg (m2 fIx (mLstI (mCons (mC (.str "")) (mCons (mC (.str "Box")) (mCons (mC (.str "end")) (mCons (mC (.str "ninesigns")) (mCons (mC (.str "a1")) (mCons (mC (.str "many")) mNil))))))) (mCall 2 2 0 gAll f_law_take (mCons (mVar 0) (mCons (mC (.int 6)) mNil)) mNil)) (gNm 4)) k_law_drawn_4)
noncomputable def k_law_drawn_2 : MS := (mSeq (mAsg (mCall 2 2 0 gAll f_law_heads (mCons (mVar 0) (mCons (mVar 2) mNil)) mNil) (gNm 3)) k_law_drawn_3)
noncomputable def b_law_drawn : MS := (mSeq (mAsg (mCall 2 2 0 gAll f_law_unlike (mCons (mVar 0) (mCons (mC (.int 5)) mNil)) mNil) (gNm 2)) k_law_drawn_2)
noncomputable def f_law_drawn : List AV → Hs → R AV := mFn 13 b_law_drawn
noncomputable def b_law_begun : MS := (mRet (mDict [((mC (.str "great")), (mLc (mWk (mVar 0)) (gNm 1) (mTest (m2 fGe (mVar 1) (m2 fPow (mC (.int 10)) (mC (.int 18))))) (mVar 1) [1])), ((mC (.str "rest")), (mC (.int 0))), ((mC (.str "turn")), (mC (.int 0))), ((mC (.str "seed")), (mC (.int 7))), ((mC (.str "cells")), (m2 fAdd (mLc (mWk (mVar 0)) (gNm 1) mYes (m2 fMod (mVar 1) (mC (.int 2147483629))) [1]) (mLst (mCons (mC (.int 77)) mNil))))]))
noncomputable def f_law_begun : List AV → Hs → R AV := mFn 2 b_law_begun
noncomputable def k_law_13 : MS := (mRet (mOrV (m2 fIsN (mVar 6) (mC .non)) (mCall 1 1 0 gAll f_law_kind (mCons (mVar 7) mNil) mNil)))
noncomputable def k_law_11 : MS := (mSeq (mIf (mTest (m2 fNe (mCall 1 1 0 gAll f_law_refused (mCons (mVar 7) mNil) mNil) (mVar 6))) (mRet (mC (.bl false))) mNx) k_law_13)
noncomputable def k_law_10 : MS := (mSeq (mAsg (mCall 1 1 0 gAll f_law_made (mCons (mVar 4) mNil) mNil) (gNm 7)) k_law_11)
noncomputable def k_law_9 : MS := (mSeq (mAsg (mCall 1 1 0 gAll f_law_due (mCons (mVar 4) mNil) mNil) (gNm 6)) k_law_10)
noncomputable def l_law_7 : MS := (mAsg (mCall 2 2 0 gAll f_law_bent (mCons (mVar 1) (mCons (mVar 4) mNil)) mNil) (gNm 4))
noncomputable def k_law_7 : MS := (mSeq (mFor (mRg1 (mVar 3)) (gNm 5) l_law_7) k_law_9)
noncomputable def k_law_5 : MS := (mSeq (mIf (mTest (m2 fEq (mCall 2 2 0 gAll f_law_take (mCons (mVar 1) (mCons (mC (.int 16)) mNil)) mNil) (mC (.int 0)))) (mAsg (mLstI mNil) (gNm 4)) mNx) k_law_7)
noncomputable def k_law_4 : MS := (mSeq (mAsg (mCall 2 2 0 gAll f_law_drawn (mCons (mVar 1) (mCons (mVar 2) mNil)) mNil) (gNm 4)) k_law_5)
noncomputable def k_law_3 : MS := (mSeq (mAsg (m2 fMul (mCall 2 2 0 gAll f_law_take (mCons (mVar 1) (mCons (mC (.int 2)) mNil)) mNil) (mCall 2 2 0 gAll f_law_take (mCons (mVar 1) (mCons (mC (.int 3)) mNil)) mNil)) (gNm 3)) k_law_4)
noncomputable def k_law_2 : MS := (mSeq (mAsg (m2 fIx (mLstI (mCons (mC (.int 0)) (mCons (mC (.int 15)) (mCons (mC (.int 60)) (mCons (mC (.int 200)) mNil))))) (mCall 2 2 0 gAll f_law_take (mCons (mVar 1) (mCons (mC (.int 4)) mNil)) mNil)) (gNm 2)) k_law_3)
noncomputable def b_law : MS := (mSeq (mAsg (mCall 1 1 0 gAll f_law_begun (mCons (mVar 0) mNil) mNil) (gNm 1)) k_law_2)
noncomputable def f_law : List AV → Hs → R AV := mFn 8 b_law
structure Ts (K : PySem.W.Frag) (mg : Str → Option Value) : Prop where
  n_range : mg "range" = none
  n_enumerate : mg "enumerate" = none
  n_len : mg "len" = none
  n_tuple : mg "tuple" = none
  n_max : mg "max" = none
  n_int : mg "int" = none
  n_min : mg "min" = none
  n_list : mg "list" = none
  a_more : (["Function"].all fun c => attrOk "more" c K) = true
  a_results : (["Function"].all fun c => attrOk "results" c K) = true
  a_body : (["Function"].all fun c => attrOk "body" c K) = true
  a_params : (["Function"].all fun c => attrOk "params" c K) = true
  a_name : (["Function"].all fun c => attrOk "name" c K) = true
  xa_word : (["NoBook"].all fun c => xfOk "word" c K) = true
  xa_name : (["NoBook"].all fun c => xfOk "name" c K) = true
  m_NoBook : mg "NoBook" = some (.ref (ga K "NoBook"))
  x_law_refused_2 : exTab [] [(("VowError", "NoBook"), false), (("NoBook", "NoBook"), true), (("NoText", "NoBook"), false)] K = true
  a_functions : (["Book"].all fun c => attrOk "functions" c K) = true
  c_LETTERS : ∃ t, mg "LETTERS" = some (.str "abcdefghijklmnopqrstuvwxyz" t)
  n_all : mg "all" = none
  m_RESERVED : mg "RESERVED" = some (.ref (ga K "RESERVED"))
  t_RESERVED : conT "RESERVED" [.str "number", .str "plus", .str "less", .str "times", .str "under", .str "same", .str "ref", .str "many", .str "extra", .str "fn", .str "set", .str "say", .str "if", .str "else", .str "while", .str "call", .str "at", .str "return", .str "throw", .str "try", .str "catch", .str "end", .str "more"] K = true
  c_LONGEST : ∃ t, mg "LONGEST" = some (.int 8 t)
  m_SUMS : mg "SUMS" = some (.ref (ga K "SUMS"))
  t_SUMS : conT "SUMS" [.str "plus", .str "less", .str "times", .str "under", .str "same"] K = true
  m_NoText : mg "NoText" = some (.ref (ga K "NoText"))
  i_NoTextx : isTabN [(.b "NoneType", false), (.b "bool", false), (.b "int", false), (.b "str", false), (.b "tuple", false), (.b "list", false), (.b "dict", false), (.c "Function", false), (.c "Book", false), (.x "VowError", false), (.x "NoBook", false), (.x "NoText", true)] "NoText" K = true
  n_isinstance : mg "isinstance" = none
  i_ValueErrorx : isTab [(.b "NoneType", false), (.b "bool", false), (.b "int", false), (.b "str", false), (.b "tuple", false), (.b "list", false), (.b "dict", false), (.c "Function", false), (.c "Book", false), (.x "VowError", true), (.x "NoBook", true), (.x "NoText", true)] (.type "ValueError") K = true
  n_ValueError : mg "ValueError" = none
  i_NoBookx : isTabN [(.b "NoneType", false), (.b "bool", false), (.b "int", false), (.b "str", false), (.b "tuple", false), (.b "list", false), (.b "dict", false), (.c "Function", false), (.c "Book", false), (.x "VowError", false), (.x "NoBook", true), (.x "NoText", false)] "NoBook" K = true
  m_VowError : mg "VowError" = some (.ref (ga K "VowError"))
  x_law_kind_2 : exTab [] [(("VowError", "VowError"), true), (("NoBook", "VowError"), true), (("NoText", "VowError"), true)] K = true
  xi_NoBook : XC K (ga K "NoBook") ∧ PySem.W.findIn K (.ref (ga K "NoBook")) "__init__" = some (some (.ref (He.ma K (ga K "NoBook") "__init__"))) ∧ PySem.W.typeIn K (.ref (He.ma K (ga K "NoBook") "__init__")) = some (.type "function")
  xn_NoBook : noAt K (ga K "NoBook") [("name", 1), ("word", 2)] = true
  m_bodies_of : mg "bodies_of" = some (.ref (ga K "bodies_of"))
  m_statements_of : mg "statements_of" = some (.ref (ga K "statements_of"))
  m_takes : mg "takes" = some (.ref (ga K "takes"))
  m_call_is_wrong : mg "call_is_wrong" = some (.ref (ga K "call_is_wrong"))
  m_given_by : mg "given_by" = some (.ref (ga K "given_by"))
  m_parts_of : mg "parts_of" = some (.ref (ga K "parts_of"))
  m_all_within : mg "all_within" = some (.ref (ga K "all_within"))
  m_expressions_of : mg "expressions_of" = some (.ref (ga K "expressions_of"))
  m_boxes_read : mg "boxes_read" = some (.ref (ga K "boxes_read"))
  m_is_name : mg "is_name" = some (.ref (ga K "is_name"))
  m_wrong_in : mg "wrong_in" = some (.ref (ga K "wrong_in"))
  m_look_at : mg "look_at" = some (.ref (ga K "look_at"))
  m_Book : mg "Book" = some (.ref (ga K "Book"))
  k_Book : Mk K (ga K "Book") (He.ma K (ga K "Book") "__init__")
  m_law_kind : mg "_law_kind" = some (.ref (ga K "_law_kind"))
  m_law_refused : mg "_law_refused" = some (.ref (ga K "_law_refused"))
  m_Function : mg "Function" = some (.ref (ga K "Function"))
  k_Function : Mk K (ga K "Function") (He.ma K (ga K "Function") "__init__")
  m_law_made : mg "_law_made" = some (.ref (ga K "_law_made"))
  m_law_statements : mg "_law_statements" = some (.ref (ga K "_law_statements"))
  m_law_first : mg "_law_first" = some (.ref (ga K "_law_first"))
  m_law_wrong_call : mg "_law_wrong_call" = some (.ref (ga K "_law_wrong_call"))
  m_law_reserved : mg "_law_reserved" = some (.ref (ga K "_law_reserved"))
  m_law_is_name : mg "_law_is_name" = some (.ref (ga K "_law_is_name"))
  m_law_parts : mg "_law_parts" = some (.ref (ga K "_law_parts"))
  m_law_split : mg "_law_split" = some (.ref (ga K "_law_split"))
  m_law_word : mg "_law_word" = some (.ref (ga K "_law_word"))
  m_law_due : mg "_law_due" = some (.ref (ga K "_law_due"))
  m_law_take : mg "_law_take" = some (.ref (ga K "_law_take"))
  m_law_pick : mg "_law_pick" = some (.ref (ga K "_law_pick"))
  m_law_bad_name : mg "_law_bad_name" = some (.ref (ga K "_law_bad_name"))
  m_law_bent : mg "_law_bent" = some (.ref (ga K "_law_bent"))
  m_law_odd : mg "_law_odd" = some (.ref (ga K "_law_odd"))
  m_law_box : mg "_law_box" = some (.ref (ga K "_law_box"))
  m_law_name : mg "_law_name" = some (.ref (ga K "_law_name"))
  m_law_worth : mg "_law_worth" = some (.ref (ga K "_law_worth"))
  m_law_leaf : mg "_law_leaf" = some (.ref (ga K "_law_leaf"))
  m_law_expression : mg "_law_expression" = some (.ref (ga K "_law_expression"))
  m_law_things : mg "_law_things" = some (.ref (ga K "_law_things"))
  m_law_at : mg "_law_at" = some (.ref (ga K "_law_at"))
  m_law_call : mg "_law_call" = some (.ref (ga K "_law_call"))
  m_law_simple : mg "_law_simple" = some (.ref (ga K "_law_simple"))
  m_law_body : mg "_law_body" = some (.ref (ga K "_law_body"))
  m_law_statement : mg "_law_statement" = some (.ref (ga K "_law_statement"))
  m_law_unlike : mg "_law_unlike" = some (.ref (ga K "_law_unlike"))
  m_law_heads : mg "_law_heads" = some (.ref (ga K "_law_heads"))
  m_law_drawn : mg "_law_drawn" = some (.ref (ga K "_law_drawn"))
  m_law_begun : mg "_law_begun" = some (.ref (ga K "_law_begun"))
  m_law : mg "law" = some (.ref (ga K "law"))
  d_bodies_of : ∃ fd, FunD K D_bodies_of.name D_bodies_of.qual D_bodies_of.params D_bodies_of.body D_bodies_of.scope (D_bodies_of.dvs K) (D_bodies_of.kws K) (He.fAd K D_bodies_of.at_) fd
  d_statements_of : ∃ fd, FunD K D_statements_of.name D_statements_of.qual D_statements_of.params D_statements_of.body D_statements_of.scope (D_statements_of.dvs K) (D_statements_of.kws K) (He.fAd K D_statements_of.at_) fd
  d_takes : ∃ fd, FunD K D_takes.name D_takes.qual D_takes.params D_takes.body D_takes.scope (D_takes.dvs K) (D_takes.kws K) (He.fAd K D_takes.at_) fd
  d_call_is_wrong : ∃ fd, FunD K D_call_is_wrong.name D_call_is_wrong.qual D_call_is_wrong.params D_call_is_wrong.body D_call_is_wrong.scope (D_call_is_wrong.dvs K) (D_call_is_wrong.kws K) (He.fAd K D_call_is_wrong.at_) fd
  d_given_by : ∃ fd, FunD K D_given_by.name D_given_by.qual D_given_by.params D_given_by.body D_given_by.scope (D_given_by.dvs K) (D_given_by.kws K) (He.fAd K D_given_by.at_) fd
  d_parts_of : ∃ fd, FunD K D_parts_of.name D_parts_of.qual D_parts_of.params D_parts_of.body D_parts_of.scope (D_parts_of.dvs K) (D_parts_of.kws K) (He.fAd K D_parts_of.at_) fd
  d_all_within : ∃ fd, FunD K D_all_within.name D_all_within.qual D_all_within.params D_all_within.body D_all_within.scope (D_all_within.dvs K) (D_all_within.kws K) (He.fAd K D_all_within.at_) fd
  d_expressions_of : ∃ fd, FunD K D_expressions_of.name D_expressions_of.qual D_expressions_of.params D_expressions_of.body D_expressions_of.scope (D_expressions_of.dvs K) (D_expressions_of.kws K) (He.fAd K D_expressions_of.at_) fd
  d_boxes_read : ∃ fd, FunD K D_boxes_read.name D_boxes_read.qual D_boxes_read.params D_boxes_read.body D_boxes_read.scope (D_boxes_read.dvs K) (D_boxes_read.kws K) (He.fAd K D_boxes_read.at_) fd
  d_is_name : ∃ fd, FunD K D_is_name.name D_is_name.qual D_is_name.params D_is_name.body D_is_name.scope (D_is_name.dvs K) (D_is_name.kws K) (He.fAd K D_is_name.at_) fd
  d_wrong_in : ∃ fd, FunD K D_wrong_in.name D_wrong_in.qual D_wrong_in.params D_wrong_in.body D_wrong_in.scope (D_wrong_in.dvs K) (D_wrong_in.kws K) (He.fAd K D_wrong_in.at_) fd
  d_look_at : ∃ fd, FunD K D_look_at.name D_look_at.qual D_look_at.params D_look_at.body D_look_at.scope (D_look_at.dvs K) (D_look_at.kws K) (He.fAd K D_look_at.at_) fd
  d_Book___init__ : ∃ fd, FunD K D_Book___init__.name D_Book___init__.qual D_Book___init__.params D_Book___init__.body D_Book___init__.scope (D_Book___init__.dvs K) (D_Book___init__.kws K) (He.fAd K D_Book___init__.at_) fd
  d_law_kind : ∃ fd, FunD K D_law_kind.name D_law_kind.qual D_law_kind.params D_law_kind.body D_law_kind.scope (D_law_kind.dvs K) (D_law_kind.kws K) (He.fAd K D_law_kind.at_) fd
  d_law_refused : ∃ fd, FunD K D_law_refused.name D_law_refused.qual D_law_refused.params D_law_refused.body D_law_refused.scope (D_law_refused.dvs K) (D_law_refused.kws K) (He.fAd K D_law_refused.at_) fd
  d_Function___init__ : ∃ fd, FunD K D_Function___init__.name D_Function___init__.qual D_Function___init__.params D_Function___init__.body D_Function___init__.scope (D_Function___init__.dvs K) (D_Function___init__.kws K) (He.fAd K D_Function___init__.at_) fd
  d_law_made : ∃ fd, FunD K D_law_made.name D_law_made.qual D_law_made.params D_law_made.body D_law_made.scope (D_law_made.dvs K) (D_law_made.kws K) (He.fAd K D_law_made.at_) fd
  d_law_statements : ∃ fd, FunD K D_law_statements.name D_law_statements.qual D_law_statements.params D_law_statements.body D_law_statements.scope (D_law_statements.dvs K) (D_law_statements.kws K) (He.fAd K D_law_statements.at_) fd
  d_law_first : ∃ fd, FunD K D_law_first.name D_law_first.qual D_law_first.params D_law_first.body D_law_first.scope (D_law_first.dvs K) (D_law_first.kws K) (He.fAd K D_law_first.at_) fd
  d_law_wrong_call : ∃ fd, FunD K D_law_wrong_call.name D_law_wrong_call.qual D_law_wrong_call.params D_law_wrong_call.body D_law_wrong_call.scope (D_law_wrong_call.dvs K) (D_law_wrong_call.kws K) (He.fAd K D_law_wrong_call.at_) fd
  d_law_reserved : ∃ fd, FunD K D_law_reserved.name D_law_reserved.qual D_law_reserved.params D_law_reserved.body D_law_reserved.scope (D_law_reserved.dvs K) (D_law_reserved.kws K) (He.fAd K D_law_reserved.at_) fd
  d_law_is_name : ∃ fd, FunD K D_law_is_name.name D_law_is_name.qual D_law_is_name.params D_law_is_name.body D_law_is_name.scope (D_law_is_name.dvs K) (D_law_is_name.kws K) (He.fAd K D_law_is_name.at_) fd
  d_law_parts : ∃ fd, FunD K D_law_parts.name D_law_parts.qual D_law_parts.params D_law_parts.body D_law_parts.scope (D_law_parts.dvs K) (D_law_parts.kws K) (He.fAd K D_law_parts.at_) fd
  d_law_split : ∃ fd, FunD K D_law_split.name D_law_split.qual D_law_split.params D_law_split.body D_law_split.scope (D_law_split.dvs K) (D_law_split.kws K) (He.fAd K D_law_split.at_) fd
  d_law_word : ∃ fd, FunD K D_law_word.name D_law_word.qual D_law_word.params D_law_word.body D_law_word.scope (D_law_word.dvs K) (D_law_word.kws K) (He.fAd K D_law_word.at_) fd
  d_law_due : ∃ fd, FunD K D_law_due.name D_law_due.qual D_law_due.params D_law_due.body D_law_due.scope (D_law_due.dvs K) (D_law_due.kws K) (He.fAd K D_law_due.at_) fd
  d_law_take : ∃ fd, FunD K D_law_take.name D_law_take.qual D_law_take.params D_law_take.body D_law_take.scope (D_law_take.dvs K) (D_law_take.kws K) (He.fAd K D_law_take.at_) fd
  d_law_pick : ∃ fd, FunD K D_law_pick.name D_law_pick.qual D_law_pick.params D_law_pick.body D_law_pick.scope (D_law_pick.dvs K) (D_law_pick.kws K) (He.fAd K D_law_pick.at_) fd
  d_law_bad_name : ∃ fd, FunD K D_law_bad_name.name D_law_bad_name.qual D_law_bad_name.params D_law_bad_name.body D_law_bad_name.scope (D_law_bad_name.dvs K) (D_law_bad_name.kws K) (He.fAd K D_law_bad_name.at_) fd
  d_law_bent : ∃ fd, FunD K D_law_bent.name D_law_bent.qual D_law_bent.params D_law_bent.body D_law_bent.scope (D_law_bent.dvs K) (D_law_bent.kws K) (He.fAd K D_law_bent.at_) fd
  d_law_odd : ∃ fd, FunD K D_law_odd.name D_law_odd.qual D_law_odd.params D_law_odd.body D_law_odd.scope (D_law_odd.dvs K) (D_law_odd.kws K) (He.fAd K D_law_odd.at_) fd
  d_law_box : ∃ fd, FunD K D_law_box.name D_law_box.qual D_law_box.params D_law_box.body D_law_box.scope (D_law_box.dvs K) (D_law_box.kws K) (He.fAd K D_law_box.at_) fd
  d_law_name : ∃ fd, FunD K D_law_name.name D_law_name.qual D_law_name.params D_law_name.body D_law_name.scope (D_law_name.dvs K) (D_law_name.kws K) (He.fAd K D_law_name.at_) fd
  d_law_worth : ∃ fd, FunD K D_law_worth.name D_law_worth.qual D_law_worth.params D_law_worth.body D_law_worth.scope (D_law_worth.dvs K) (D_law_worth.kws K) (He.fAd K D_law_worth.at_) fd
  d_law_leaf : ∃ fd, FunD K D_law_leaf.name D_law_leaf.qual D_law_leaf.params D_law_leaf.body D_law_leaf.scope (D_law_leaf.dvs K) (D_law_leaf.kws K) (He.fAd K D_law_leaf.at_) fd
  d_law_expression : ∃ fd, FunD K D_law_expression.name D_law_expression.qual D_law_expression.params D_law_expression.body D_law_expression.scope (D_law_expression.dvs K) (D_law_expression.kws K) (He.fAd K D_law_expression.at_) fd
  d_law_things : ∃ fd, FunD K D_law_things.name D_law_things.qual D_law_things.params D_law_things.body D_law_things.scope (D_law_things.dvs K) (D_law_things.kws K) (He.fAd K D_law_things.at_) fd
  d_law_at : ∃ fd, FunD K D_law_at.name D_law_at.qual D_law_at.params D_law_at.body D_law_at.scope (D_law_at.dvs K) (D_law_at.kws K) (He.fAd K D_law_at.at_) fd
  d_law_call : ∃ fd, FunD K D_law_call.name D_law_call.qual D_law_call.params D_law_call.body D_law_call.scope (D_law_call.dvs K) (D_law_call.kws K) (He.fAd K D_law_call.at_) fd
  d_law_simple : ∃ fd, FunD K D_law_simple.name D_law_simple.qual D_law_simple.params D_law_simple.body D_law_simple.scope (D_law_simple.dvs K) (D_law_simple.kws K) (He.fAd K D_law_simple.at_) fd
  d_law_body : ∃ fd, FunD K D_law_body.name D_law_body.qual D_law_body.params D_law_body.body D_law_body.scope (D_law_body.dvs K) (D_law_body.kws K) (He.fAd K D_law_body.at_) fd
  d_law_statement : ∃ fd, FunD K D_law_statement.name D_law_statement.qual D_law_statement.params D_law_statement.body D_law_statement.scope (D_law_statement.dvs K) (D_law_statement.kws K) (He.fAd K D_law_statement.at_) fd
  d_law_unlike : ∃ fd, FunD K D_law_unlike.name D_law_unlike.qual D_law_unlike.params D_law_unlike.body D_law_unlike.scope (D_law_unlike.dvs K) (D_law_unlike.kws K) (He.fAd K D_law_unlike.at_) fd
  d_law_heads : ∃ fd, FunD K D_law_heads.name D_law_heads.qual D_law_heads.params D_law_heads.body D_law_heads.scope (D_law_heads.dvs K) (D_law_heads.kws K) (He.fAd K D_law_heads.at_) fd
  d_law_drawn : ∃ fd, FunD K D_law_drawn.name D_law_drawn.qual D_law_drawn.params D_law_drawn.body D_law_drawn.scope (D_law_drawn.dvs K) (D_law_drawn.kws K) (He.fAd K D_law_drawn.at_) fd
  d_law_begun : ∃ fd, FunD K D_law_begun.name D_law_begun.qual D_law_begun.params D_law_begun.body D_law_begun.scope (D_law_begun.dvs K) (D_law_begun.kws K) (He.fAd K D_law_begun.at_) fd
  d_law : ∃ fd, FunD K D_law.name D_law.qual D_law.params D_law.body D_law.scope (D_law.dvs K) (D_law.kws K) (He.fAd K D_law.at_) fd
  d_xNoBook : ∃ fd, FunD K D_xNoBook.name D_xNoBook.qual D_xNoBook.params D_xNoBook.body D_xNoBook.scope (D_xNoBook.dvs K) (D_xNoBook.kws K) (He.fAd K D_xNoBook.at_) fd
section
variable {P : Program} {w : World} {K : PySem.W.Frag} {mg : Str → Option Value} {base : Heap}
theorem Ts.of (t : Told fx fn K) (m : Mg K mg) : Ts K mg := ⟨m.free (t.f_ 0), m.free (t.f_ 1), m.free (t.f_ 2), m.free (t.f_ 3), m.free (t.f_ 4), m.free (t.f_ 5), m.free (t.f_ 6), m.free (t.f_ 7), t.f_ 8, t.f_ 9, t.f_ 10, t.f_ 11, t.f_ 12, t.f_ 13, t.f_ 14, m.glo (t.f_ 15), t.f_ 16, t.f_ 17, m.str (t.f_ 18), m.free (t.f_ 19), m.glo (t.f_ 20), t.f_ 21, m.int (t.f_ 22), m.glo (t.f_ 23), t.f_ 24, m.glo (t.f_ 25), t.f_ 26, m.free (t.f_ 27), t.f_ 28, m.free (t.f_ 29), t.f_ 30, m.glo (t.f_ 31), t.f_ 32, xiB_ok (t.f_ 33), t.f_ 34, m.glo (t.f_ 35), m.glo (t.f_ 36), m.glo (t.f_ 37), m.glo (t.f_ 38), m.glo (t.f_ 39), m.glo (t.f_ 40), m.glo (t.f_ 41), m.glo (t.f_ 42), m.glo (t.f_ 43), m.glo (t.f_ 44), m.glo (t.f_ 45), m.glo (t.f_ 46), m.glo (t.f_ 47), He.mkr_ok (t.f_ 48), m.glo (t.f_ 49), m.glo (t.f_ 50), m.glo (t.f_ 51), He.mkr_ok (t.f_ 52), m.glo (t.f_ 53), m.glo (t.f_ 54), m.glo (t.f_ 55), m.glo (t.f_ 56), m.glo (t.f_ 57), m.glo (t.f_ 58), m.glo (t.f_ 59), m.glo (t.f_ 60), m.glo (t.f_ 61), m.glo (t.f_ 62), m.glo (t.f_ 63), m.glo (t.f_ 64), m.glo (t.f_ 65), m.glo (t.f_ 66), m.glo (t.f_ 67), m.glo (t.f_ 68), m.glo (t.f_ 69), m.glo (t.f_ 70), m.glo (t.f_ 71), m.glo (t.f_ 72), m.glo (t.f_ 73), m.glo (t.f_ 74), m.glo (t.f_ 75), m.glo (t.f_ 76), m.glo (t.f_ 77), m.glo (t.f_ 78), m.glo (t.f_ 79), m.glo (t.f_ 80), m.glo (t.f_ 81), m.glo (t.f_ 82), m.glo (t.f_ 83), t.d_ (d := D_bodies_of) 0, t.d_ (d := D_statements_of) 1, t.d_ (d := D_takes) 2, t.d_ (d := D_call_is_wrong) 3, t.d_ (d := D_given_by) 4, t.d_ (d := D_parts_of) 5, t.d_ (d := D_all_within) 6, t.d_ (d := D_expressions_of) 7, t.d_ (d := D_boxes_read) 8, t.d_ (d := D_is_name) 9, t.d_ (d := D_wrong_in) 10, t.d_ (d := D_look_at) 11, t.d_ (d := D_Book___init__) 12, t.d_ (d := D_law_kind) 13, t.d_ (d := D_law_refused) 14, t.d_ (d := D_Function___init__) 15, t.d_ (d := D_law_made) 16, t.d_ (d := D_law_statements) 17, t.d_ (d := D_law_first) 18, t.d_ (d := D_law_wrong_call) 19, t.d_ (d := D_law_reserved) 20, t.d_ (d := D_law_is_name) 21, t.d_ (d := D_law_parts) 22, t.d_ (d := D_law_split) 23, t.d_ (d := D_law_word) 24, t.d_ (d := D_law_due) 25, t.d_ (d := D_law_take) 26, t.d_ (d := D_law_pick) 27, t.d_ (d := D_law_bad_name) 28, t.d_ (d := D_law_bent) 29, t.d_ (d := D_law_odd) 30, t.d_ (d := D_law_box) 31, t.d_ (d := D_law_name) 32, t.d_ (d := D_law_worth) 33, t.d_ (d := D_law_leaf) 34, t.d_ (d := D_law_expression) 35, t.d_ (d := D_law_things) 36, t.d_ (d := D_law_at) 37, t.d_ (d := D_law_call) 38, t.d_ (d := D_law_simple) 39, t.d_ (d := D_law_body) 40, t.d_ (d := D_law_statement) 41, t.d_ (d := D_law_unlike) 42, t.d_ (d := D_law_heads) 43, t.d_ (d := D_law_drawn) 44, t.d_ (d := D_law_begun) 45, t.d_ (d := D_law) 46, t.d_ (d := D_xNoBook) 47⟩
theorem okx_NoBook (T : Ts K mg) : Xk P w K mg base 1 "NoBook" 3 [("name", 1), ("word", 2)] := by
  obtain ⟨fd, F⟩ := T.d_xNoBook
  have F : FunD K "__init__" "NoBook.__init__" (defArgs s_xNoBook) (defBody s_xNoBook) (defScope s_xNoBook) [] [] (He.ma K (ga K "NoBook") "__init__") fd := F
  exact (xk_mk (ps := ["self", "name", "word"]) T.m_NoBook T.xi_NoBook T.xn_NoBook F sc_xNoBook (by decide) (by decide) (fun cdv A outer s H E => (.cons (pv 0) (pv 1) (.cons (pv 0) (pv 2) .nil))) (fun _ _ _ _ _ _ us hl => match us, hl with | [_, _, _], _ => rfl) : Xk P w K mg base (0 + 1) "NoBook" ["self", "name", "word"].length [("name", 1), ("word", 2)])
theorem ok_bodies_of (T : Ts K mg) : Fk P w K mg base 1 "bodies_of" ["statement"] f_bodies_of [(1, [], gAll)] := by
  obtain ⟨fd, F⟩ := T.d_bodies_of
  have F : FunD K "bodies_of" "bodies_of" (defArgs s_bodies_of) (defBody s_bodies_of) (defScope s_bodies_of) [] [] (ga K "bodies_of") fd := F
  refine ⟨T.m_bodies_of, F.kp, fd, fn_body F sc_bodies_of fun cdv A outer s H E hr tk => ?_, ?_⟩
  · exact (sss_cons (ss_set (i := 1) sc_bodies_of.nd rfl (by first | exact Or.inl rfl | exact Or.inr rfl) (se_ix (se_var (pv 0)) se_int (fun _ _ => rfl)))
  (sss_cons (ss_if (st_cmp (op_eqA (Rm.uu hr 64 (by decide))) op2_eq (se_var (pv 1)) se_str rfl) (sss_one (ss_ret (se_tup (sa_cons (se_ix (se_var (pv 0)) se_int (fun _ _ => rfl)) (sa_cons (se_ix (se_var (pv 0)) se_int (fun _ _ => rfl)) sa_nil))))) sss_nil)
  (sss_cons (ss_if (st_cmp (op_eqA (Rm.uu hr 64 (by decide))) op2_eq (se_var (pv 1)) se_str rfl) (sss_one (ss_ret (se_tup (sa_cons (se_ix (se_var (pv 0)) se_int (fun _ _ => rfl)) sa_nil)))) sss_nil)
  (sss_cons (ss_if (st_cmp (op_eqA (Rm.uu hr 64 (by decide))) op2_eq (se_var (pv 1)) se_str rfl) (sss_one (ss_ret (se_tup (sa_cons (se_ix (se_var (pv 0)) se_int (fun _ _ => rfl)) (sa_cons (se_ix (se_var (pv 0)) se_int (fun _ _ => rfl)) sa_nil))))) sss_nil)
  (sss_one (ss_ret (se_tup sa_nil)))))))
  · refine shs_all ⟨?_, trivial⟩
    · exact sh_all (F.bindsN fun _ _ _ _ _ _ us hl => match us, hl with | [_], _ => rfl) rfl
theorem okp_statements_of (T : Ts K mg) {lv : Nat} {F0 : List AV → Hs → R AV} (h : ∀ fd, FunD K "statements_of" "statements_of" (defArgs s_statements_of) (defBody s_statements_of) (defScope s_statements_of) [] [] (ga K "statements_of") fd → FnG P w K mg base (CX P w) lv (ga K "statements_of") fd ["body"] (fsp K ["body"].length F0)) : Fk P w K mg base lv "statements_of" ["body"] F0 [(1, [], gAll)] := by
  obtain ⟨fd, F⟩ := T.d_statements_of
  have F : FunD K "statements_of" "statements_of" (defArgs s_statements_of) (defBody s_statements_of) (defScope s_statements_of) [] [] (ga K "statements_of") fd := F
  refine ⟨T.m_statements_of, F.kp, fd, h fd F, ?_⟩
  · refine shs_all ⟨?_, trivial⟩
    · exact sh_all (F.bindsN fun _ _ _ _ _ _ us hl => match us, hl with | [_], _ => rfl) rfl
theorem ring_statements_of (T : Ts K mg) : ∀ n : Nat, Fk P w K mg base (2 + n) "statements_of" ["body"] (ringF step_statements_of n 0) [(1, [], gAll)]
  | 0 => okp_statements_of T fun fd F => fnG_no
  | n + 1 => by
    have G_statements_of := ring_statements_of T n
    have G_bodies_of : Fk P w K mg base 1 "bodies_of" _ f_bodies_of _ := ok_bodies_of T
    refine ?_
    · refine okp_statements_of T fun fd F => fn_body (k := 2 + n) F sc_statements_of fun cdv A outer s H E hr tk => ?_
      exact (sss_cons (ss_set (i := 1) sc_statements_of.nd rfl (by first | exact Or.inl rfl | exact Or.inr rfl) (se_lst sa_nil))
  (sss_cons (ss_for (passes_of rfl) rfl (si_any (se_var (pv 0))) (sg_name (i := 2) sc_statements_of.nd rfl (by first | exact Or.inl rfl | exact Or.inr rfl)) (sss_cons (ss_expr (se_bm tyM_l opM_app PySem.F.plainAttrs_list PySem.F.slot_list_append PySem.F.type_list_append mt_append (se_var (pv 1)) (sa_cons (se_var (pv 2)) sa_nil)))
  (sss_one (ss_for (passes_of rfl) rfl (si_any (se_fk (ps := ["statement"]) G_bodies_of 0 (hr.mono (by omega)) tk (by exact rfl) (sa_cons (se_var (pv 2)) sa_nil))) (sg_name (i := 3) sc_statements_of.nd rfl (by first | exact Or.inl rfl | exact Or.inr rfl)) (sss_one (ss_expr (se_bm tyM_l opM_extA PySem.F.plainAttrs_list PySem.F.slot_list_extend PySem.F.type_list_extend mt_extend (se_var (pv 1)) (sa_cons (se_fk (ps := ["body"]) G_statements_of 0 (hr.mono (by omega)) tk (by exact rfl) (sa_cons (se_var (pv 3)) sa_nil)) sa_nil))))))))
  (sss_one (ss_ret (se_fz (se_var (pv 1)))))))
theorem ok_statements_of (T : Ts K mg) : Fk P w K mg base 22 "statements_of" ["body"] f_statements_of [(1, [], gAll)] := (ring_statements_of T 20)
theorem ok_takes (T : Ts K mg) : Fk P w K mg base 1 "takes" ["function", "many"] f_takes [(2, [], gAll)] := by
  obtain ⟨fd, F⟩ := T.d_takes
  have F : FunD K "takes" "takes" (defArgs s_takes) (defBody s_takes) (defScope s_takes) [] [] (ga K "takes") fd := F
  refine ⟨T.m_takes, F.kp, fd, fn_body F sc_takes fun cdv A outer s H E hr tk => ?_, ?_⟩
  · exact (sss_one (ss_ret (se_or (se_cmp (op_eqA (Rm.uu hr 64 (by decide))) op2_eq (se_var (pv 1)) (se_blt op_lenA opN_len (by exact rfl) T.n_len bo_len (sa_cons (se_fld ["Function"] T.a_params (se_var (pv 0)) rfl) sa_nil)) rfl) (se_one (se_and (se_fld ["Function"] T.a_more (se_var (pv 0)) rfl) (se_one (se_cmp op_gt op2_cmpI (se_var (pv 1)) (se_blt op_lenA opN_len (by exact rfl) T.n_len bo_len (sa_cons (se_fld ["Function"] T.a_params (se_var (pv 0)) rfl) sa_nil)) rfl)))))))
  · refine shs_all ⟨?_, trivial⟩
    · exact sh_all (F.bindsN fun _ _ _ _ _ _ us hl => match us, hl with | [_, _], _ => rfl) rfl
theorem ok_call_is_wrong (T : Ts K mg) : Fk P w K mg base 2 "call_is_wrong" ["statement", "known"] f_call_is_wrong [(2, [], gAll)] := by
  have G_takes : Fk P w K mg base 1 "takes" _ f_takes _ := ok_takes T
  obtain ⟨fd, F⟩ := T.d_call_is_wrong
  have F : FunD K "call_is_wrong" "call_is_wrong" (defArgs s_call_is_wrong) (defBody s_call_is_wrong) (defScope s_call_is_wrong) [] [] (ga K "call_is_wrong") fd := F
  refine ⟨T.m_call_is_wrong, F.kp, fd, fn_body F sc_call_is_wrong fun cdv A outer s H E hr tk => ?_, ?_⟩
  · exact (sss_cons (ss_if (st_cmp (op_neA (Rm.uu hr 64 (by decide))) op2_ne (se_ix (se_var (pv 0)) se_int (fun _ _ => rfl)) se_str rfl) (sss_one (ss_ret se_bl)) sss_nil)
  (sss_cons (ss_set (i := 2) sc_call_is_wrong.nd rfl (by first | exact Or.inl rfl | exact Or.inr rfl) (se_dget1 (Rm.uu hr 1 (by decide)) (se_var (pv 1)) (se_ix (se_var (pv 0)) se_int (fun _ _ => rfl))))
  (sss_cons (ss_if (sw_t (sw_or (st_cmp op_isN op2_isN (se_var (pv 2)) se_non rfl) (sw_or1 (st_cmp (op_neA (Rm.uu hr 64 (by decide))) op2_ne (se_fld ["Function"] T.a_results (se_var (pv 2)) rfl) (se_blt op_lenA opN_len (by exact rfl) T.n_len bo_len (sa_cons (se_ix (se_var (pv 0)) se_int (fun _ _ => rfl)) sa_nil)) rfl)))) (sss_one (ss_ret se_bl)) sss_nil)
  (sss_one (ss_ret (se_not (se_fk (ps := ["function", "many"]) G_takes 0 (hr.mono (by decide)) tk (by exact rfl) (sa_cons (se_var (pv 2)) (sa_cons (se_blt op_lenA opN_len (by exact rfl) T.n_len bo_len (sa_cons (se_ix (se_var (pv 0)) se_int (fun _ _ => rfl)) sa_nil)) sa_nil)))))))))
  · refine shs_all ⟨?_, trivial⟩
    · exact sh_all (F.bindsN fun _ _ _ _ _ _ us hl => match us, hl with | [_, _], _ => rfl) rfl
theorem ok_given_by (T : Ts K mg) : Fk P w K mg base 1 "given_by" ["statement"] f_given_by [(1, [], gAll)] := by
  obtain ⟨fd, F⟩ := T.d_given_by
  have F : FunD K "given_by" "given_by" (defArgs s_given_by) (defBody s_given_by) (defScope s_given_by) [] [] (ga K "given_by") fd := F
  refine ⟨T.m_given_by, F.kp, fd, fn_body F sc_given_by fun cdv A outer s H E hr tk => ?_, ?_⟩
  · exact (sss_cons (ss_set (i := 1) sc_given_by.nd rfl (by first | exact Or.inl rfl | exact Or.inr rfl) (se_ix (se_var (pv 0)) se_int (fun _ _ => rfl)))
  (sss_cons (ss_if (st_cmp (op_eqA (Rm.uu hr 64 (by decide))) op2_eq (se_var (pv 1)) se_str rfl) (sss_one (ss_ret (se_blty call_tuple_of opN_tuple (by exact rfl) T.n_tuple bo_tuple (sa_cons (se_ix (se_var (pv 0)) se_int (fun _ _ => rfl)) sa_nil)))) sss_nil)
  (sss_cons (ss_if (sw_t (sw_or (st_cmp (op_eqA (Rm.uu hr 64 (by decide))) op2_eq (se_var (pv 1)) se_str rfl) (sw_or1 (st_cmp (op_eqA (Rm.uu hr 64 (by decide))) op2_eq (se_var (pv 1)) se_str rfl)))) (sss_one (ss_ret (se_tup (sa_cons (se_ix (se_var (pv 0)) se_int (fun _ _ => rfl)) sa_nil)))) sss_nil)
  (sss_cons (ss_if (st_cmp (op_eqA (Rm.uu hr 64 (by decide))) op2_eq (se_var (pv 1)) se_str rfl) (sss_one (ss_ret (se_tup (sa_cons (se_ix (se_var (pv 0)) se_int (fun _ _ => rfl)) sa_nil)))) sss_nil)
  (sss_one (ss_ret (se_tup sa_nil)))))))
  · refine shs_all ⟨?_, trivial⟩
    · exact sh_all (F.bindsN fun _ _ _ _ _ _ us hl => match us, hl with | [_], _ => rfl) rfl
theorem ok_parts_of (T : Ts K mg) : Fk P w K mg base 1 "parts_of" ["expression"] f_parts_of [(1, [], gAll)] := by
  obtain ⟨fd, F⟩ := T.d_parts_of
  have F : FunD K "parts_of" "parts_of" (defArgs s_parts_of) (defBody s_parts_of) (defScope s_parts_of) [] [] (ga K "parts_of") fd := F
  refine ⟨T.m_parts_of, F.kp, fd, fn_body F sc_parts_of fun cdv A outer s H E hr tk => ?_, ?_⟩
  · exact (sss_cons (ss_if (sw_t (sw_or (st_cmp (op_inA (Rm.uu hr 65 (by decide))) op2_in (se_ix (se_var (pv 0)) se_int (fun _ _ => rfl)) (se_glT (by exact rfl) T.m_SUMS T.t_SUMS) rfl) (sw_or1 (st_cmp (op_eqA (Rm.uu hr 64 (by decide))) op2_eq (se_ix (se_var (pv 0)) se_int (fun _ _ => rfl)) se_str rfl)))) (sss_one (ss_ret (se_fz (se_slice (se_var (pv 0)) (so_some se_int) so_none)))) sss_nil)
  (sss_one (ss_ret (se_tup sa_nil))))
  · refine shs_all ⟨?_, trivial⟩
    · exact sh_all (F.bindsN fun _ _ _ _ _ _ us hl => match us, hl with | [_], _ => rfl) rfl
theorem okp_all_within (T : Ts K mg) {lv : Nat} {F0 : List AV → Hs → R AV} (h : ∀ fd, FunD K "all_within" "all_within" (defArgs s_all_within) (defBody s_all_within) (defScope s_all_within) [] [] (ga K "all_within") fd → FnG P w K mg base (CX P w) lv (ga K "all_within") fd ["expressions"] (fsp K ["expressions"].length F0)) : Fk P w K mg base lv "all_within" ["expressions"] F0 [(1, [], gAll)] := by
  obtain ⟨fd, F⟩ := T.d_all_within
  have F : FunD K "all_within" "all_within" (defArgs s_all_within) (defBody s_all_within) (defScope s_all_within) [] [] (ga K "all_within") fd := F
  refine ⟨T.m_all_within, F.kp, fd, h fd F, ?_⟩
  · refine shs_all ⟨?_, trivial⟩
    · exact sh_all (F.bindsN fun _ _ _ _ _ _ us hl => match us, hl with | [_], _ => rfl) rfl
theorem ring_all_within (T : Ts K mg) : ∀ n : Nat, Fk P w K mg base (2 + n) "all_within" ["expressions"] (ringF step_all_within n 0) [(1, [], gAll)]
  | 0 => okp_all_within T fun fd F => fnG_no
  | n + 1 => by
    have G_all_within := ring_all_within T n
    have G_parts_of : Fk P w K mg base 1 "parts_of" _ f_parts_of _ := ok_parts_of T
    refine ?_
    · refine okp_all_within T fun fd F => fn_body (k := 2 + n) F sc_all_within fun cdv A outer s H E hr tk => ?_
      exact (sss_cons (ss_set (i := 1) sc_all_within.nd rfl (by first | exact Or.inl rfl | exact Or.inr rfl) (se_lst sa_nil))
  (sss_cons (ss_for (passes_of rfl) rfl (si_any (se_var (pv 0))) (sg_name (i := 2) sc_all_within.nd rfl (by first | exact Or.inl rfl | exact Or.inr rfl)) (sss_cons (ss_expr (se_bm tyM_l opM_app PySem.F.plainAttrs_list PySem.F.slot_list_append PySem.F.type_list_append mt_append (se_var (pv 1)) (sa_cons (se_var (pv 2)) sa_nil)))
  (sss_one (ss_expr (se_bm tyM_l opM_extA PySem.F.plainAttrs_list PySem.F.slot_list_extend PySem.F.type_list_extend mt_extend (se_var (pv 1)) (sa_cons (se_fk (ps := ["expressions"]) G_all_within 0 (hr.mono (by omega)) tk (by exact rfl) (sa_cons (se_fk (ps := ["expression"]) G_parts_of 0 (hr.mono (by omega)) tk (by exact rfl) (sa_cons (se_var (pv 2)) sa_nil)) sa_nil)) sa_nil))))))
  (sss_one (ss_ret (se_fz (se_var (pv 1)))))))
theorem ok_all_within (T : Ts K mg) : Fk P w K mg base 22 "all_within" ["expressions"] f_all_within [(1, [], gAll)] := (ring_all_within T 20)
theorem ok_expressions_of (T : Ts K mg) : Fk P w K mg base 1 "expressions_of" ["statement"] f_expressions_of [(1, [], gAll)] := by
  obtain ⟨fd, F⟩ := T.d_expressions_of
  have F : FunD K "expressions_of" "expressions_of" (defArgs s_expressions_of) (defBody s_expressions_of) (defScope s_expressions_of) [] [] (ga K "expressions_of") fd := F
  refine ⟨T.m_expressions_of, F.kp, fd, fn_body F sc_expressions_of fun cdv A outer s H E hr tk => ?_, ?_⟩
  · exact (sss_cons (ss_set (i := 1) sc_expressions_of.nd rfl (by first | exact Or.inl rfl | exact Or.inr rfl) (se_ix (se_var (pv 0)) se_int (fun _ _ => rfl)))
  (sss_cons (ss_if (st_cmp (op_eqA (Rm.uu hr 64 (by decide))) op2_eq (se_var (pv 1)) se_str rfl) (sss_one (ss_ret (se_tup (sa_cons (se_ix (se_var (pv 0)) se_int (fun _ _ => rfl)) sa_nil)))) sss_nil)
  (sss_cons (ss_if (st_cmp (op_eqA (Rm.uu hr 64 (by decide))) op2_eq (se_var (pv 1)) se_str rfl) (sss_one (ss_ret (se_ix (se_var (pv 0)) se_int (fun _ _ => rfl)))) sss_nil)
  (sss_cons (ss_if (st_cmp (op_eqA (Rm.uu hr 64 (by decide))) op2_eq (se_var (pv 1)) se_str rfl) (sss_one (ss_ret (se_bin op_addA op2_addI (se_tup (sa_cons (se_ix (se_var (pv 0)) se_int (fun _ _ => rfl)) sa_nil)) (se_blty call_tuple_of opN_tuple (by exact rfl) T.n_tuple bo_tuple (sa_cons (se_ix (se_var (pv 0)) se_int (fun _ _ => rfl)) sa_nil))))) sss_nil)
  (sss_cons (ss_if (st_cmp (op_eqA (Rm.uu hr 64 (by decide))) op2_eq (se_var (pv 1)) se_str rfl) (sss_one (ss_ret (se_ix (se_var (pv 0)) se_int (fun _ _ => rfl)))) sss_nil)
  (sss_cons (ss_if (st_cmp (op_eqA (Rm.uu hr 64 (by decide))) op2_eq (se_var (pv 1)) se_str rfl) (sss_one (ss_ret (se_tup sa_nil))) sss_nil)
  (sss_one (ss_ret (se_tup (sa_cons (se_ix (se_var (pv 0)) se_int (fun _ _ => rfl)) sa_nil))))))))))
  · refine shs_all ⟨?_, trivial⟩
    · exact sh_all (F.bindsN fun _ _ _ _ _ _ us hl => match us, hl with | [_], _ => rfl) rfl
theorem ok_boxes_read (T : Ts K mg) : Fk P w K mg base 23 "boxes_read" ["statement"] f_boxes_read [(1, [], gAll)] := by
  have G_all_within : Fk P w K mg base 22 "all_within" _ f_all_within _ := ok_all_within T
  have G_expressions_of : Fk P w K mg base 1 "expressions_of" _ f_expressions_of _ := ok_expressions_of T
  obtain ⟨fd, F⟩ := T.d_boxes_read
  have F : FunD K "boxes_read" "boxes_read" (defArgs s_boxes_read) (defBody s_boxes_read) (defScope s_boxes_read) [] [] (ga K "boxes_read") fd := F
  refine ⟨T.m_boxes_read, F.kp, fd, fn_body F sc_boxes_read fun cdv A outer s H E hr tk => ?_, ?_⟩
  · exact (sss_one (ss_ret (se_fz (se_lc (S := [1]) (own := [("one", 1)]) rfl sc_boxes_read.nd (si_any (se_fk (ps := ["expressions"]) G_all_within 0 (hr.mono (by decide)) tk (by exact rfl) (sa_cons (se_fk (ps := ["statement"]) G_expressions_of 0 (hr.mono (by decide)) tk (by exact rfl) (sa_cons (se_var (pv 0)) sa_nil)) sa_nil))) (blk_of (N := N_boxes_read) (sc := (defScope s_boxes_read)) (by decide +kernel)) (by decide) (fun _ _ _ _ _ => by exact (sg_name (i := 1) sc_boxes_read.nd rfl (by first | exact Or.inl rfl | exact Or.inr rfl))) (fun _ _ _ _ _ => by exact (sts_one (st_cmp (op_eqA (Rm.uu hr 64 (by decide))) op2_eq (se_ix (se_var (pv 1)) se_int (fun _ _ => rfl)) se_str rfl))) (fun _ _ _ _ _ => by exact (se_ix (se_var (pv 1)) se_int (fun _ _ => rfl)))))))
  · refine shs_all ⟨?_, trivial⟩
    · exact sh_all (F.bindsN fun _ _ _ _ _ _ us hl => match us, hl with | [_], _ => rfl) rfl
theorem ok_is_name (T : Ts K mg) : Fk P w K mg base 1 "is_name" ["text"] f_is_name [(1, [], gAll)] := by
  obtain ⟨fd, F⟩ := T.d_is_name
  have F : FunD K "is_name" "is_name" (defArgs s_is_name) (defBody s_is_name) (defScope s_is_name) [] [] (ga K "is_name") fd := F
  refine ⟨T.m_is_name, F.kp, fd, fn_body F sc_is_name fun cdv A outer s H E hr tk => ?_, ?_⟩
  · exact (sss_cons (ss_if (sw_t (sw_or (st_cmp op_lt op2_cmpI (se_blt op_lenA opN_len (by exact rfl) T.n_len bo_len (sa_cons (se_var (pv 0)) sa_nil)) se_int rfl) (sw_or (st_cmp op_gt op2_cmpI (se_blt op_lenA opN_len (by exact rfl) T.n_len bo_len (sa_cons (se_var (pv 0)) sa_nil)) (se_glI (by exact rfl) T.c_LONGEST) rfl) (sw_or1 (st_cmp (op_inA (Rm.uu hr 65 (by decide))) op2_in (se_var (pv 0)) (se_glT (by exact rfl) T.m_RESERVED T.t_RESERVED) rfl))))) (sss_one (ss_ret se_bl)) sss_nil)
  (sss_one (ss_ret (se_blt (cr_all rfl) opN_all (by exact rfl) T.n_all bo_all (sa_cons (se_fz (se_lc (S := [1]) (own := [("sign", 1)]) rfl sc_is_name.nd (si_any (se_var (pv 0))) (blk_of (N := N_is_name) (sc := (defScope s_is_name)) (by decide +kernel)) (by decide) (fun _ _ _ _ _ => by exact (sg_name (i := 1) sc_is_name.nd rfl (by first | exact Or.inl rfl | exact Or.inr rfl))) (fun _ _ _ _ _ => by exact sts_nil) (fun _ _ _ _ _ => by exact (se_cmp (op_inA (Rm.uu hr 65 (by decide))) op2_in (se_var (pv 1)) (se_glS (by exact rfl) T.c_LETTERS) rfl)))) sa_nil)))))
  · refine shs_all ⟨?_, trivial⟩
    · exact sh_all (F.bindsN fun _ _ _ _ _ _ us hl => match us, hl with | [_], _ => rfl) rfl
theorem ok_wrong_in (T : Ts K mg) : Fk P w K mg base 24 "wrong_in" ["function", "statement", "known"] f_wrong_in [(3, [], gAll)] := by
  have G_call_is_wrong : Fk P w K mg base 2 "call_is_wrong" _ f_call_is_wrong _ := ok_call_is_wrong T
  have G_given_by : Fk P w K mg base 1 "given_by" _ f_given_by _ := ok_given_by T
  have G_boxes_read : Fk P w K mg base 23 "boxes_read" _ f_boxes_read _ := ok_boxes_read T
  have G_is_name : Fk P w K mg base 1 "is_name" _ f_is_name _ := ok_is_name T
  have G_all_within : Fk P w K mg base 22 "all_within" _ f_all_within _ := ok_all_within T
  have G_expressions_of : Fk P w K mg base 1 "expressions_of" _ f_expressions_of _ := ok_expressions_of T
  obtain ⟨fd, F⟩ := T.d_wrong_in
  have F : FunD K "wrong_in" "wrong_in" (defArgs s_wrong_in) (defBody s_wrong_in) (defScope s_wrong_in) [] [] (ga K "wrong_in") fd := F
  refine ⟨T.m_wrong_in, F.kp, fd, fn_body F sc_wrong_in fun cdv A outer s H E hr tk => ?_, ?_⟩
  · exact (sss_cons (ss_set (i := 3) sc_wrong_in.nd rfl (by first | exact Or.inl rfl | exact Or.inr rfl) (se_fk (ps := ["expressions"]) G_all_within 0 (hr.mono (by decide)) tk (by exact rfl) (sa_cons (se_fk (ps := ["statement"]) G_expressions_of 0 (hr.mono (by decide)) tk (by exact rfl) (sa_cons (se_var (pv 1)) sa_nil)) sa_nil)))
  (sss_cons (ss_if (st_not (st_tru (se_blt (cr_all rfl) opN_all (by exact rfl) T.n_all bo_all (sa_cons (se_fz (se_lc (S := [5]) (own := [("name", 5)]) rfl sc_wrong_in.nd (si_any (se_bin op_addA op2_addI (se_blty call_list_of opN_listI (by exact rfl) T.n_list bo_list (sa_cons (se_fk (ps := ["statement"]) G_given_by 0 (hr.mono (by decide)) tk (by exact rfl) (sa_cons (se_var (pv 1)) sa_nil)) sa_nil)) (se_fk (ps := ["statement"]) G_boxes_read 0 (hr.mono (by decide)) tk (by exact rfl) (sa_cons (se_var (pv 1)) sa_nil)))) (blk_of (N := N_wrong_in) (sc := (defScope s_wrong_in)) (by decide +kernel)) (by decide) (fun _ _ _ _ _ => by exact (sg_name (i := 5) sc_wrong_in.nd rfl (by first | exact Or.inl rfl | exact Or.inr rfl))) (fun _ _ _ _ _ => by exact sts_nil) (fun _ _ _ _ _ => by exact (se_fk (ps := ["text"]) G_is_name 0 (hr.mono (by decide)) takesN (by exact rfl) (sa_cons (se_var (pv 5)) sa_nil))))) sa_nil)) (fun _ => rfl))) (sss_one (ss_ret se_str)) sss_nil)
  (sss_cons (ss_if (st_tru (se_fk (ps := ["statement", "known"]) G_call_is_wrong 0 (hr.mono (by decide)) tk (by exact rfl) (sa_cons (se_var (pv 1)) (sa_cons (se_var (pv 2)) sa_nil))) (fun _ => rfl)) (sss_one (ss_ret se_str)) sss_nil)
  (sss_cons (ss_for (passes_of rfl) rfl (si_any (se_var (pv 3))) (sg_name (i := 4) sc_wrong_in.nd rfl (by first | exact Or.inl rfl | exact Or.inr rfl)) (sss_one (ss_if (sw_t (sw_and (st_cmp (op_eqA (Rm.uu hr 64 (by decide))) op2_eq (se_ix (se_var (pv 4)) se_int (fun _ _ => rfl)) se_str rfl) (sw_and1 (sw_t (sw_or (st_cmp (op_ninK (Rm.uu hr 1 (by decide))) op2_ninK (se_ix (se_var (pv 4)) se_int (fun _ _ => rfl)) (se_var (pv 2)) rfl) (sw_or1 (st_cmp (op_neA (Rm.uu hr 64 (by decide))) op2_ne (se_fld ["Function"] T.a_results (se_dget (Rm.uu hr 1 (by decide)) (se_var (pv 2)) (se_ix (se_var (pv 4)) se_int (fun _ _ => rfl)) (fun _ _ => rfl)) rfl) se_int rfl))))))) (sss_one (ss_ret se_str)) sss_nil)))
  (sss_cons (ss_if (sw_t (sw_and (st_cmp (op_eqA (Rm.uu hr 64 (by decide))) op2_eq (se_ix (se_var (pv 1)) se_int (fun _ _ => rfl)) se_str rfl) (sw_and1 (st_cmp (op_neA (Rm.uu hr 64 (by decide))) op2_ne (se_blt op_lenA opN_len (by exact rfl) T.n_len bo_len (sa_cons (se_ix (se_var (pv 1)) se_int (fun _ _ => rfl)) sa_nil)) (se_fld ["Function"] T.a_results (se_var (pv 0)) rfl) rfl)))) (sss_one (ss_ret se_str)) sss_nil)
  (sss_cons (ss_if (sw_t (sw_and (st_not (st_tru (se_fld ["Function"] T.a_more (se_var (pv 0)) rfl) (fun _ => rfl))) (sw_and1 (st_cmp (op_neA (Rm.uu hr 64 (by decide))) op2_ne (se_fz (se_lc (S := [6]) (own := [("one", 6)]) rfl sc_wrong_in.nd (si_any (se_var (pv 3))) (blk_of (N := N_wrong_in) (sc := (defScope s_wrong_in)) (by decide +kernel)) (by decide) (fun _ _ _ _ _ => by exact (sg_name (i := 6) sc_wrong_in.nd rfl (by first | exact Or.inl rfl | exact Or.inr rfl))) (fun _ _ _ _ _ => by exact (sts_one (st_cmp (op_inA (Rm.uu hr 65 (by decide))) op2_in (se_ix (se_var (pv 6)) se_int (fun _ _ => rfl)) (se_tup (sa_cons se_str (sa_cons se_str sa_nil))) rfl))) (fun _ _ _ _ _ => by exact (se_var (pv 6))))) (se_lstI sa_nil) rfl)))) (sss_one (ss_ret se_str)) sss_nil)
  (sss_one (ss_ret se_non))))))))
  · refine shs_all ⟨?_, trivial⟩
    · exact sh_all (F.bindsN fun _ _ _ _ _ _ us hl => match us, hl with | [_, _, _], _ => rfl) rfl
theorem ok_look_at (T : Ts K mg) : Fk P w K mg base 25 "look_at" ["function", "ahead", "known"] f_look_at [(3, [], gAll)] := by
  have G_statements_of : Fk P w K mg base 22 "statements_of" _ f_statements_of _ := ok_statements_of T
  have X_NoBook : Xk P w K mg base 1 "NoBook" 3 [("name", 1), ("word", 2)] := okx_NoBook T
  have G_wrong_in : Fk P w K mg base 24 "wrong_in" _ f_wrong_in _ := ok_wrong_in T
  have G_is_name : Fk P w K mg base 1 "is_name" _ f_is_name _ := ok_is_name T
  obtain ⟨fd, F⟩ := T.d_look_at
  have F : FunD K "look_at" "look_at" (defArgs s_look_at) (defBody s_look_at) (defScope s_look_at) [] [] (ga K "look_at") fd := F
  refine ⟨T.m_look_at, F.kp, fd, fn_body F sc_look_at fun cdv A outer s H E hr tk => ?_, ?_⟩
  · exact (sss_cons (ss_if (sw_t (sw_or (st_not (st_tru (se_fk (ps := ["text"]) G_is_name 0 (hr.mono (by decide)) tk (by exact rfl) (sa_cons (se_fld ["Function"] T.a_name (se_var (pv 0)) rfl) sa_nil)) (fun _ => rfl))) (sw_or1 (st_cmp (op_inA (Rm.uu hr 65 (by decide))) op2_in (se_fld ["Function"] T.a_name (se_var (pv 0)) rfl) (se_var (pv 1)) rfl)))) (sss_one (ss_raise X_NoBook (hr.mono (by decide)) rfl tk (by exact rfl) (sa_cons (se_fld ["Function"] T.a_name (se_var (pv 0)) rfl) (sa_cons se_str sa_nil)))) sss_nil)
  (sss_cons (ss_for (passes_of rfl) rfl (si_enum (by exact rfl) T.n_enumerate (se_fld ["Function"] T.a_params (se_var (pv 0)) rfl)) (sg_tup rfl (sgs_cons (sg_name (i := 3) sc_look_at.nd rfl (by first | exact Or.inl rfl | exact Or.inr rfl)) (sgs_cons (sg_name (i := 4) sc_look_at.nd rfl (by first | exact Or.inl rfl | exact Or.inr rfl)) sgs_nil))) (sss_one (ss_if (sw_t (sw_or (st_not (st_tru (se_fk (ps := ["text"]) G_is_name 0 (hr.mono (by decide)) tk (by exact rfl) (sa_cons (se_var (pv 4)) sa_nil)) (fun _ => rfl))) (sw_or1 (st_cmp (op_inA (Rm.uu hr 65 (by decide))) op2_in (se_var (pv 4)) (se_fz (se_slice (se_fld ["Function"] T.a_params (se_var (pv 0)) rfl) so_none (so_some (se_var (pv 3))))) rfl)))) (sss_one (ss_raise X_NoBook (hr.mono (by decide)) rfl tk (by exact rfl) (sa_cons (se_fld ["Function"] T.a_name (se_var (pv 0)) rfl) (sa_cons se_str sa_nil)))) sss_nil)))
  (sss_one (ss_for (passes_of rfl) rfl (si_any (se_fk (ps := ["body"]) G_statements_of 0 (hr.mono (by decide)) tk (by exact rfl) (sa_cons (se_fld ["Function"] T.a_body (se_var (pv 0)) rfl) sa_nil))) (sg_name (i := 5) sc_look_at.nd rfl (by first | exact Or.inl rfl | exact Or.inr rfl)) (sss_cons (ss_set (i := 6) sc_look_at.nd rfl (by first | exact Or.inl rfl | exact Or.inr rfl) (se_fk (ps := ["function", "statement", "known"]) G_wrong_in 0 (hr.mono (by decide)) tk (by exact rfl) (sa_cons (se_var (pv 0)) (sa_cons (se_var (pv 5)) (sa_cons (se_var (pv 2)) sa_nil)))))
  (sss_one (ss_if (st_cmp op_notN op2_notN (se_var (pv 6)) se_non rfl) (sss_one (ss_raise X_NoBook (hr.mono (by decide)) rfl tk (by exact rfl) (sa_cons (se_fld ["Function"] T.a_name (se_var (pv 0)) rfl) (sa_cons (se_var (pv 6)) sa_nil)))) sss_nil)))))))
  · refine shs_all ⟨?_, trivial⟩
    · exact sh_all (F.bindsN fun _ _ _ _ _ _ us hl => match us, hl with | [_, _, _], _ => rfl) rfl
theorem ok_Book___init__ (T : Ts K mg) : Ck P w K mg base 26 "Book" ["self", "functions"] f_Book___init__ [(1, [], gAll)] := by
  have X_NoBook : Xk P w K mg base 1 "NoBook" 3 [("name", 1), ("word", 2)] := okx_NoBook T
  have G_look_at : Fk P w K mg base 25 "look_at" _ f_look_at _ := ok_look_at T
  obtain ⟨fd, F⟩ := T.d_Book___init__
  have F : FunD K "__init__" "Book.__init__" (defArgs s_Book___init__) (defBody s_Book___init__) (defScope s_Book___init__) [] [] (He.ma K (ga K "Book") "__init__") fd := F
  refine ⟨T.m_Book, T.k_Book, fd, fn_body F sc_Book___init__ fun cdv A outer s H E hr tk => ?_, ?_⟩
  · exact (sss_cons (ss_fld ["Book"] T.a_functions (se_var (pv 0)) (se_blty call_tuple_of opN_tuple (by exact rfl) T.n_tuple bo_tuple (sa_cons (se_var (pv 1)) sa_nil)) rfl)
  (sss_cons (ss_fzA (ss_setDc (i := 2) (S := [4]) (own := [("function", 4)]) rfl sc_Book___init__.nd rfl rfl (by exact sw_trueD rfl rfl rfl rfl) (si_any (se_fz (se_rev (se_fld ["Book"] T.a_functions (se_var (pv 0)) rfl)))) (blk_of (N := N_Book___init__) (sc := (defScope s_Book___init__)) (by decide +kernel)) (by decide) (fun _ _ _ _ _ => by exact (sg_name (i := 4) sc_Book___init__.nd rfl (by first | exact Or.inl rfl | exact Or.inr rfl))) (fun _ _ _ _ _ => by exact sts_nil) (fun _ _ _ _ _ => by exact (se_fld ["Function"] T.a_name (se_var (pv 4)) rfl)) (fun _ _ _ _ _ => by exact (se_var (pv 4)))))
  (sss_cons (ss_for (passes_of rfl) rfl (si_enum (by exact rfl) T.n_enumerate (se_fld ["Book"] T.a_functions (se_var (pv 0)) rfl)) (sg_tup rfl (sgs_cons (sg_name (i := 3) sc_Book___init__.nd rfl (by first | exact Or.inl rfl | exact Or.inr rfl)) (sgs_cons (sg_name (i := 4) sc_Book___init__.nd rfl (by first | exact Or.inl rfl | exact Or.inr rfl)) sgs_nil))) (sss_one (ss_expr (se_fk (ps := ["function", "ahead", "known"]) G_look_at 0 (hr.mono (by decide)) tk (by exact rfl) (sa_cons (se_var (pv 4)) (sa_cons (se_fz (se_lc (S := [5]) (own := [("other", 5)]) rfl sc_Book___init__.nd (si_any (se_fz (se_slice (se_fld ["Book"] T.a_functions (se_var (pv 0)) rfl) so_none (so_some (se_var (pv 3)))))) (blk_of (N := N_Book___init__) (sc := (defScope s_Book___init__)) (by decide +kernel)) (by decide) (fun _ _ _ _ _ => by exact (sg_name (i := 5) sc_Book___init__.nd rfl (by first | exact Or.inl rfl | exact Or.inr rfl))) (fun _ _ _ _ _ => by exact sts_nil) (fun _ _ _ _ _ => by exact (se_fld ["Function"] T.a_name (se_var (pv 5)) rfl)))) (sa_cons (se_var (pv 2)) sa_nil)))))))
  (sss_cons (ss_if (st_cmp (op_eqE (Rm.uu hr 64 (by decide))) op2_eqE (se_fld ["Book"] T.a_functions (se_var (pv 0)) rfl) (se_tup sa_nil) rfl) (sss_one (ss_raise X_NoBook (hr.mono (by decide)) rfl tk (by exact rfl) (sa_cons se_str (sa_cons se_str sa_nil)))) sss_nil)
  (sss_one (ss_if (st_tru (se_fld ["Function"] T.a_more (se_ix (se_fld ["Book"] T.a_functions (se_var (pv 0)) rfl) se_int (fun _ _ => rfl)) rfl) (fun _ => rfl)) (sss_one (ss_raise X_NoBook (hr.mono (by decide)) rfl tk (by exact rfl) (sa_cons (se_fld ["Function"] T.a_name (se_ix (se_fld ["Book"] T.a_functions (se_var (pv 0)) rfl) se_int (fun _ _ => rfl)) rfl) (sa_cons se_str sa_nil)))) sss_nil))))))
  · refine shs_all1 ⟨?_, trivial⟩
    · exact sh_all (F.bindsN fun _ _ _ _ _ _ us hl => match us, hl with | [_, _], _ => rfl) rfl
theorem ok_law_kind (T : Ts K mg) : Fk P w K mg base 28 "_law_kind" ["_law_given"] f_law_kind [(1, [], gAll)] := by
  have C_Book : Ck P w K mg base 26 "Book" _ f_Book___init__ _ := ok_Book___init__ T
  obtain ⟨fd, F⟩ := T.d_law_kind
  have F : FunD K "_law_kind" "_law_kind" (defArgs s_law_kind) (defBody s_law_kind) (defScope s_law_kind) [] [] (ga K "_law_kind") fd := F
  refine ⟨T.m_law_kind, F.kp, fd, fn_body F sc_law_kind fun cdv A outer s H E hr tk => ?_, ?_⟩
  · exact (sss_cons (ss_set (i := 1) sc_law_kind.nd rfl (by first | exact Or.inl rfl | exact Or.inr rfl) se_bl)
  (sss_cons (ss_try T.x_law_kind_2 rfl rfl sc_law_kind.nd tk (fun _ _ _ tk => (sss_one (ss_expr (se_fz (se_mk (ps := ["self", "functions"]) C_Book 0 (hr.mono (by decide)) tk (by exact rfl) (sa_cons (se_var (pv 0)) sa_nil)))))) (.as (i := 2) (names_own (by exact rfl) T.m_VowError (by decide) (by decide)) rfl rfl (fun _ _ => (sss_one (ss_set (i := 1) sc_law_kind.nd rfl (by first | exact Or.inl rfl | exact Or.inr rfl) (se_and (se_isi (cv := .ref (ga _ "NoBook")) T.i_NoBookx (.own _) (by exact rfl) T.n_isinstance (se_var (pv 2)) (pe_own (by exact rfl) T.m_NoBook)) (se_and (se_isi (cv := .ty "ValueError") T.i_ValueErrorx (.ty _) (by exact rfl) T.n_isinstance (se_var (pv 2)) (pe_ty (by exact rfl) T.n_ValueError (by decide +kernel))) (se_one (se_not (se_isi (cv := .ref (ga _ "NoText")) T.i_NoTextx (.own _) (by exact rfl) T.n_isinstance (se_var (pv 2)) (pe_own (by exact rfl) T.m_NoText))))))))) SHds.nil) sss_nil)
  (sss_one (ss_ret (se_var (pv 1))))))
  · refine shs_all ⟨?_, trivial⟩
    · exact sh_all (F.bindsN fun _ _ _ _ _ _ us hl => match us, hl with | [_], _ => rfl) rfl
theorem ok_law_refused (T : Ts K mg) : Fk P w K mg base 28 "_law_refused" ["_law_given"] f_law_refused [(1, [], gAll)] := by
  have C_Book : Ck P w K mg base 26 "Book" _ f_Book___init__ _ := ok_Book___init__ T
  obtain ⟨fd, F⟩ := T.d_law_refused
  have F : FunD K "_law_refused" "_law_refused" (defArgs s_law_refused) (defBody s_law_refused) (defScope s_law_refused) [] [] (ga K "_law_refused") fd := F
  refine ⟨T.m_law_refused, F.kp, fd, fn_body F sc_law_refused fun cdv A outer s H E hr tk => ?_, ?_⟩
  · exact (sss_cons (ss_set (i := 1) sc_law_refused.nd rfl (by first | exact Or.inl rfl | exact Or.inr rfl) se_non)
  (sss_cons (ss_try T.x_law_refused_2 rfl rfl sc_law_refused.nd tk (fun _ _ _ tk => (sss_one (ss_expr (se_fz (se_mk (ps := ["self", "functions"]) C_Book 0 (hr.mono (by decide)) tk (by exact rfl) (sa_cons (se_var (pv 0)) sa_nil)))))) (.as (i := 2) (names_own (by exact rfl) T.m_NoBook (by decide) (by decide)) rfl rfl (fun _ _ => (sss_one (ss_set (i := 1) sc_law_refused.nd rfl (by first | exact Or.inl rfl | exact Or.inr rfl) (se_tup (sa_cons (se_xfd ["NoBook"] T.xa_name (se_var (pv 2)) rfl) (sa_cons (se_xfd ["NoBook"] T.xa_word (se_var (pv 2)) rfl) sa_nil)))))) SHds.nil) sss_nil)
  (sss_one (ss_ret (se_var (pv 1))))))
  · refine shs_all ⟨?_, trivial⟩
    · exact sh_all (F.bindsN fun _ _ _ _ _ _ us hl => match us, hl with | [_], _ => rfl) rfl
theorem ok_Function___init__ (T : Ts K mg) : Ck P w K mg base 1 "Function" ["self", "name", "params", "body", "results", "more"] f_Function___init__ [(3, ["results", "more"], (gP [] [.p 0, .p 1, .p 2, .p 3, .k 0, .k 1]))] := by
  obtain ⟨fd, F⟩ := T.d_Function___init__
  have F : FunD K "__init__" "Function.__init__" (defArgs s_Function___init__) (defBody s_Function___init__) (defScope s_Function___init__) [] [("results", .int 0), ("more", .bl false)] (He.ma K (ga K "Function") "__init__") fd := F
  refine ⟨T.m_Function, T.k_Function, fd, fn_body F sc_Function___init__ fun cdv A outer s H E hr tk => ?_, ?_⟩
  · exact (sss_cons (ss_fld ["Function"] T.a_name (se_var (pv 0)) (se_var (pv 1)) rfl)
  (sss_cons (ss_fld ["Function"] T.a_params (se_var (pv 0)) (se_blty call_tuple_of opN_tuple (by exact rfl) T.n_tuple bo_tuple (sa_cons (se_var (pv 2)) sa_nil)) rfl)
  (sss_cons (ss_fld ["Function"] T.a_body (se_var (pv 0)) (se_var (pv 3)) rfl)
  (sss_cons (ss_fld ["Function"] T.a_results (se_var (pv 0)) (se_var (pv 4)) rfl)
  (sss_one (ss_fld ["Function"] T.a_more (se_var (pv 0)) (se_var (pv 5)) rfl))))))
  · refine shs_all1 ⟨?_, trivial⟩
    · exact sh_n F 4 ["results", "more"] _ fun _ _ _ _ _ _ us ws h1 h2 => match us, ws, h1, h2 with | [_, _, _, _], [_, _], _, _ => rfl
theorem ok_law_made (T : Ts K mg) : Fk P w K mg base 3 "_law_made" ["_law_drawn_here"] f_law_made [(1, [], gAll)] := by
  have C_Function : Ck P w K mg base 1 "Function" _ f_Function___init__ _ := ok_Function___init__ T
  obtain ⟨fd, F⟩ := T.d_law_made
  have F : FunD K "_law_made" "_law_made" (defArgs s_law_made) (defBody s_law_made) (defScope s_law_made) [] [] (ga K "_law_made") fd := F
  refine ⟨T.m_law_made, F.kp, fd, fn_body F sc_law_made fun cdv A outer s H E hr tk => ?_, ?_⟩
  · exact (sss_one (ss_ret (se_fz (se_lc (S := [1, 2, 3, 4, 5]) (own := [("_law_who", 1), ("_law_gets", 2), ("_law_inside", 3), ("_law_gives", 4), ("_law_star", 5)]) rfl sc_law_made.nd (si_any (se_var (pv 0))) (blk_of (N := N_law_made) (sc := (defScope s_law_made)) (by decide +kernel)) (by decide) (fun _ _ _ _ _ => by exact (sg_tup rfl (sgs_cons (sg_name (i := 1) sc_law_made.nd rfl (by first | exact Or.inl rfl | exact Or.inr rfl)) (sgs_cons (sg_name (i := 2) sc_law_made.nd rfl (by first | exact Or.inl rfl | exact Or.inr rfl)) (sgs_cons (sg_name (i := 3) sc_law_made.nd rfl (by first | exact Or.inl rfl | exact Or.inr rfl)) (sgs_cons (sg_name (i := 4) sc_law_made.nd rfl (by first | exact Or.inl rfl | exact Or.inr rfl)) (sgs_cons (sg_name (i := 5) sc_law_made.nd rfl (by first | exact Or.inl rfl | exact Or.inr rfl)) sgs_nil))))))) (fun _ _ _ _ _ => by exact sts_nil) (fun _ _ _ _ _ => by exact (se_fz (se_mkk (ks := ["results", "more"]) (ps := ["self", "name", "params", "body", "results", "more"]) C_Function 0 (hr.mono (by decide)) takesN (by exact rfl) (sa_cons (se_var (pv 1)) (sa_cons (se_var (pv 2)) (sa_cons (se_var (pv 3)) sa_nil))) (sk_cons (se_var (pv 4)) (sk_cons (se_var (pv 5)) sk_nil)))))))))
  · refine shs_all ⟨?_, trivial⟩
    · exact sh_all (F.bindsN fun _ _ _ _ _ _ us hl => match us, hl with | [_], _ => rfl) rfl
theorem okp_law_statements (T : Ts K mg) {lv : Nat} {F0 : List AV → Hs → R AV} (h : ∀ fd, FunD K "_law_statements" "_law_statements" (defArgs s_law_statements) (defBody s_law_statements) (defScope s_law_statements) [] [] (ga K "_law_statements") fd → FnG P w K mg base (CX P w) lv (ga K "_law_statements") fd ["_law_inside"] (fsp K ["_law_inside"].length F0)) : Fk P w K mg base lv "_law_statements" ["_law_inside"] F0 [(1, [], gAll)] := by
  obtain ⟨fd, F⟩ := T.d_law_statements
  have F : FunD K "_law_statements" "_law_statements" (defArgs s_law_statements) (defBody s_law_statements) (defScope s_law_statements) [] [] (ga K "_law_statements") fd := F
  refine ⟨T.m_law_statements, F.kp, fd, h fd F, ?_⟩
  · refine shs_all ⟨?_, trivial⟩
    · exact sh_all (F.bindsN fun _ _ _ _ _ _ us hl => match us, hl with | [_], _ => rfl) rfl
theorem ring_law_statements (T : Ts K mg) : ∀ n : Nat, Fk P w K mg base (1 + n) "_law_statements" ["_law_inside"] (ringF step_law_statements n 0) [(1, [], gAll)]
  | 0 => okp_law_statements T fun fd F => fnG_no
  | n + 1 => by
    have G_law_statements := ring_law_statements T n
    refine ?_
    · refine okp_law_statements T fun fd F => fn_body (k := 1 + n) F sc_law_statements fun cdv A outer s H E hr tk => ?_
      exact (sss_cons (ss_set (i := 1) sc_law_statements.nd rfl (by first | exact Or.inl rfl | exact Or.inr rfl) (se_lst sa_nil))
  (sss_cons (ss_for (passes_of rfl) rfl (si_any (se_var (pv 0))) (sg_name (i := 2) sc_law_statements.nd rfl (by first | exact Or.inl rfl | exact Or.inr rfl)) (sss_cons (ss_expr (se_bm tyM_l opM_app PySem.F.plainAttrs_list PySem.F.slot_list_append PySem.F.type_list_append mt_append (se_var (pv 1)) (sa_cons (se_var (pv 2)) sa_nil)))
  (sss_cons (ss_set (i := 3) sc_law_statements.nd rfl (by first | exact Or.inl rfl | exact Or.inr rfl) (se_dget2 (Rm.uu hr 1 (by decide)) (se_fz (se_dict (SPs.cons se_str (se_fz (se_slice (se_var (pv 2)) (so_some se_int) so_none)) (SPs.cons se_str (se_fz (se_slice (se_var (pv 2)) (so_some se_int) so_none)) (SPs.cons se_str (se_bin op_addA op2_addI (se_fz (se_slice (se_var (pv 2)) (so_some se_int) (so_some se_int))) (se_fz (se_slice (se_var (pv 2)) (so_some se_int) so_none))) SPs.nil))) rfl rfl (by decide) (by decide))) (se_ix (se_var (pv 2)) se_int (fun _ _ => rfl)) (se_tup sa_nil)))
  (sss_one (ss_for (passes_of rfl) rfl (si_any (se_var (pv 3))) (sg_name (i := 4) sc_law_statements.nd rfl (by first | exact Or.inl rfl | exact Or.inr rfl)) (sss_one (ss_set (i := 1) sc_law_statements.nd rfl (by first | exact Or.inl rfl | exact Or.inr rfl) (se_bin op_addA op2_addW (se_var (pv 1)) (se_fk (ps := ["_law_inside"]) G_law_statements 0 (hr.mono (by omega)) tk (by exact rfl) (sa_cons (se_var (pv 4)) sa_nil))))))))))
  (sss_one (ss_ret (se_fz (se_var (pv 1)))))))
theorem ok_law_statements (T : Ts K mg) : Fk P w K mg base 21 "_law_statements" ["_law_inside"] f_law_statements [(1, [], gAll)] := (ring_law_statements T 20)
theorem ok_law_first (T : Ts K mg) : Fk P w K mg base 1 "_law_first" ["_law_drawn_here", "_law_who"] f_law_first [(2, [], gAll)] := by
  obtain ⟨fd, F⟩ := T.d_law_first
  have F : FunD K "_law_first" "_law_first" (defArgs s_law_first) (defBody s_law_first) (defScope s_law_first) [] [] (ga K "_law_first") fd := F
  refine ⟨T.m_law_first, F.kp, fd, fn_body F sc_law_first fun cdv A outer s H E hr tk => ?_, ?_⟩
  · exact (sss_cons (ss_for (passes_of rfl) rfl (si_any (se_var (pv 0))) (sg_name (i := 2) sc_law_first.nd rfl (by first | exact Or.inl rfl | exact Or.inr rfl)) (sss_one (ss_if (st_cmp (op_eqA (Rm.uu hr 64 (by decide))) op2_eq (se_ix (se_var (pv 2)) se_int (fun _ _ => rfl)) (se_var (pv 1)) rfl) (sss_one (ss_ret (se_var (pv 2)))) sss_nil)))
  (sss_one (ss_ret se_non)))
  · refine shs_all ⟨?_, trivial⟩
    · exact sh_all (F.bindsN fun _ _ _ _ _ _ us hl => match us, hl with | [_, _], _ => rfl) rfl
theorem ok_law_wrong_call (T : Ts K mg) : Fk P w K mg base 2 "_law_wrong_call" ["_law_one", "_law_drawn_here"] f_law_wrong_call [(2, [], gAll)] := by
  have G_law_first : Fk P w K mg base 1 "_law_first" _ f_law_first _ := ok_law_first T
  obtain ⟨fd, F⟩ := T.d_law_wrong_call
  have F : FunD K "_law_wrong_call" "_law_wrong_call" (defArgs s_law_wrong_call) (defBody s_law_wrong_call) (defScope s_law_wrong_call) [] [] (ga K "_law_wrong_call") fd := F
  refine ⟨T.m_law_wrong_call, F.kp, fd, fn_body F sc_law_wrong_call fun cdv A outer s H E hr tk => ?_, ?_⟩
  · exact (sss_cons (ss_set (i := 2) sc_law_wrong_call.nd rfl (by first | exact Or.inl rfl | exact Or.inr rfl) (se_fk (ps := ["_law_drawn_here", "_law_who"]) G_law_first 0 (hr.mono (by decide)) tk (by exact rfl) (sa_cons (se_var (pv 1)) (sa_cons (se_ix (se_var (pv 0)) se_int (fun _ _ => rfl)) sa_nil))))
  (sss_cons (ss_if (sw_t (sw_or (st_cmp op_isN op2_isN (se_var (pv 2)) se_non rfl) (sw_or1 (st_cmp (op_neA (Rm.uu hr 64 (by decide))) op2_ne (se_ix (se_var (pv 2)) se_int (fun _ _ => rfl)) (se_blt op_lenA opN_len (by exact rfl) T.n_len bo_len (sa_cons (se_ix (se_var (pv 0)) se_int (fun _ _ => rfl)) sa_nil)) rfl)))) (sss_one (ss_ret se_bl)) sss_nil)
  (sss_one (ss_ret (se_and (se_cmp (op_neA (Rm.uu hr 64 (by decide))) op2_ne (se_blt op_lenA opN_len (by exact rfl) T.n_len bo_len (sa_cons (se_ix (se_var (pv 0)) se_int (fun _ _ => rfl)) sa_nil)) (se_blt op_lenA opN_len (by exact rfl) T.n_len bo_len (sa_cons (se_ix (se_var (pv 2)) se_int (fun _ _ => rfl)) sa_nil)) rfl) (se_one (se_not (se_and (se_ix (se_var (pv 2)) se_int (fun _ _ => rfl)) (se_one (se_cmp op_gt op2_cmpI (se_blt op_lenA opN_len (by exact rfl) T.n_len bo_len (sa_cons (se_ix (se_var (pv 0)) se_int (fun _ _ => rfl)) sa_nil)) (se_blt op_lenA opN_len (by exact rfl) T.n_len bo_len (sa_cons (se_ix (se_var (pv 2)) se_int (fun _ _ => rfl)) sa_nil)) rfl))))))))))
  · refine shs_all ⟨?_, trivial⟩
    · exact sh_all (F.bindsN fun _ _ _ _ _ _ us hl => match us, hl with | [_, _], _ => rfl) rfl
theorem ok_law_reserved (T : Ts K mg) : Fk P w K mg base 1 "_law_reserved" [] f_law_reserved [(0, [], gAll)] := by
  obtain ⟨fd, F⟩ := T.d_law_reserved
  have F : FunD K "_law_reserved" "_law_reserved" (defArgs s_law_reserved) (defBody s_law_reserved) (defScope s_law_reserved) [] [] (ga K "_law_reserved") fd := F
  refine ⟨T.m_law_reserved, F.kp, fd, fn_body F sc_law_reserved fun cdv A outer s H E hr tk => ?_, ?_⟩
  · exact (sss_cons (ss_set (i := 0) sc_law_reserved.nd rfl (by first | exact Or.inl rfl | exact Or.inr rfl) (se_lstI (sa_cons se_str (sa_cons se_str (sa_cons se_str (sa_cons se_str (sa_cons se_str (sa_cons se_str (sa_cons se_str (sa_cons se_str (sa_cons se_str (sa_cons se_str (sa_cons se_str (sa_cons se_str (sa_cons se_str sa_nil)))))))))))))))
  (sss_one (ss_ret (se_bin op_addA op2_addI (se_var (pv 0)) (se_lstI (sa_cons se_str (sa_cons se_str (sa_cons se_str (sa_cons se_str (sa_cons se_str (sa_cons se_str (sa_cons se_str (sa_cons se_str (sa_cons se_str (sa_cons se_str sa_nil)))))))))))))))
  · refine shs_all ⟨?_, trivial⟩
    · exact sh_all (F.bindsN fun _ _ _ _ _ _ us hl => match us, hl with | [], _ => rfl) rfl
theorem ok_law_is_name (T : Ts K mg) : Fk P w K mg base 2 "_law_is_name" ["_law_text"] f_law_is_name [(1, [], gAll)] := by
  have G_law_reserved : Fk P w K mg base 1 "_law_reserved" _ f_law_reserved _ := ok_law_reserved T
  obtain ⟨fd, F⟩ := T.d_law_is_name
  have F : FunD K "_law_is_name" "_law_is_name" (defArgs s_law_is_name) (defBody s_law_is_name) (defScope s_law_is_name) [] [] (ga K "_law_is_name") fd := F
  refine ⟨T.m_law_is_name, F.kp, fd, fn_body F sc_law_is_name fun cdv A outer s H E hr tk => ?_, ?_⟩
  · exact (sss_cons (ss_if (sw_t (sw_or (st_not (st_chain op_le op_le op2_cmpI op2_cmpI se_int (se_blt op_lenA opN_len (by exact rfl) T.n_len bo_len (sa_cons (se_var (pv 0)) sa_nil)) se_int rfl)) (sw_or1 (st_cmp (op_inA (Rm.uu hr 65 (by decide))) op2_in (se_var (pv 0)) (se_fk0 (ps := []) G_law_reserved 0 (hr.mono (by decide)) tk (by exact rfl)) rfl)))) (sss_one (ss_ret se_bl)) sss_nil)
  (sss_one (ss_ret (se_cmp (op_eqA (Rm.uu hr 64 (by decide))) op2_eq (se_fz (se_lc (S := [1]) (own := [("_law_sign", 1)]) rfl sc_law_is_name.nd (si_any (se_var (pv 0))) (blk_of (N := N_law_is_name) (sc := (defScope s_law_is_name)) (by decide +kernel)) (by decide) (fun _ _ _ _ _ => by exact (sg_name (i := 1) sc_law_is_name.nd rfl (by first | exact Or.inl rfl | exact Or.inr rfl))) (fun _ _ _ _ _ => by exact (sts_one (st_cmp (op_ninA (Rm.uu hr 65 (by decide))) op2_nin (se_var (pv 1)) se_str rfl))) (fun _ _ _ _ _ => by exact (se_var (pv 1))))) (se_lstI sa_nil) rfl))))
  · refine shs_all ⟨?_, trivial⟩
    · exact sh_all (F.bindsN fun _ _ _ _ _ _ us hl => match us, hl with | [_], _ => rfl) rfl
theorem okp_law_parts (T : Ts K mg) {lv : Nat} {F0 : List AV → Hs → R AV} (h : ∀ fd, FunD K "_law_parts" "_law_parts" (defArgs s_law_parts) (defBody s_law_parts) (defScope s_law_parts) [] [] (ga K "_law_parts") fd → FnG P w K mg base (CX P w) lv (ga K "_law_parts") fd ["_law_thing"] (fsp K ["_law_thing"].length F0)) : Fk P w K mg base lv "_law_parts" ["_law_thing"] F0 [(1, [], gAll)] := by
  obtain ⟨fd, F⟩ := T.d_law_parts
  have F : FunD K "_law_parts" "_law_parts" (defArgs s_law_parts) (defBody s_law_parts) (defScope s_law_parts) [] [] (ga K "_law_parts") fd := F
  refine ⟨T.m_law_parts, F.kp, fd, h fd F, ?_⟩
  · refine shs_all ⟨?_, trivial⟩
    · exact sh_all (F.bindsN fun _ _ _ _ _ _ us hl => match us, hl with | [_], _ => rfl) rfl
theorem ring_law_parts (T : Ts K mg) : ∀ n : Nat, Fk P w K mg base (1 + n) "_law_parts" ["_law_thing"] (ringF step_law_parts n 0) [(1, [], gAll)]
  | 0 => okp_law_parts T fun fd F => fnG_no
  | n + 1 => by
    have G_law_parts := ring_law_parts T n
    refine ?_
    · refine okp_law_parts T fun fd F => fn_body (k := 1 + n) F sc_law_parts fun cdv A outer s H E hr tk => ?_
      exact (sss_cons (ss_if (st_cmp (op_inA (Rm.uu hr 65 (by decide))) op2_in (se_ix (se_var (pv 0)) se_int (fun _ _ => rfl)) (se_tup (sa_cons se_str (sa_cons se_str (sa_cons se_str (sa_cons se_str sa_nil))))) rfl) (sss_one (ss_ret (se_lstI (sa_cons (se_var (pv 0)) sa_nil)))) sss_nil)
  (sss_cons (ss_set (i := 1) sc_law_parts.nd rfl (by first | exact Or.inl rfl | exact Or.inr rfl) (se_lstI (sa_cons (se_var (pv 0)) sa_nil)))
  (sss_cons (ss_for (passes_of rfl) rfl (si_any (se_fz (se_slice (se_var (pv 0)) (so_some se_int) so_none))) (sg_name (i := 2) sc_law_parts.nd rfl (by first | exact Or.inl rfl | exact Or.inr rfl)) (sss_one (ss_set (i := 1) sc_law_parts.nd rfl (by first | exact Or.inl rfl | exact Or.inr rfl) (se_bin op_addA op2_addI (se_var (pv 1)) (se_fk (ps := ["_law_thing"]) G_law_parts 0 (hr.mono (by omega)) tk (by exact rfl) (sa_cons (se_var (pv 2)) sa_nil))))))
  (sss_one (ss_ret (se_var (pv 1)))))))
theorem ok_law_parts (T : Ts K mg) : Fk P w K mg base 21 "_law_parts" ["_law_thing"] f_law_parts [(1, [], gAll)] := (ring_law_parts T 20)
theorem ok_law_split (T : Ts K mg) : Fk P w K mg base 1 "_law_split" ["_law_one"] f_law_split [(1, [], gAll)] := by
  obtain ⟨fd, F⟩ := T.d_law_split
  have F : FunD K "_law_split" "_law_split" (defArgs s_law_split) (defBody s_law_split) (defScope s_law_split) [] [] (ga K "_law_split") fd := F
  refine ⟨T.m_law_split, F.kp, fd, fn_body F sc_law_split fun cdv A outer s H E hr tk => ?_, ?_⟩
  · exact (sss_cons (ss_if (st_cmp (op_eqA (Rm.uu hr 64 (by decide))) op2_eq (se_ix (se_var (pv 0)) se_int (fun _ _ => rfl)) se_str rfl) (sss_one (ss_ret (se_tup (sa_cons (se_lstI (sa_cons (se_ix (se_var (pv 0)) se_int (fun _ _ => rfl)) sa_nil)) (sa_cons (se_lstI (sa_cons (se_ix (se_var (pv 0)) se_int (fun _ _ => rfl)) sa_nil)) sa_nil))))) sss_nil)
  (sss_cons (ss_if (st_cmp (op_eqA (Rm.uu hr 64 (by decide))) op2_eq (se_ix (se_var (pv 0)) se_int (fun _ _ => rfl)) se_str rfl) (sss_one (ss_ret (se_tup (sa_cons (se_blty call_list_of opN_listI (by exact rfl) T.n_list bo_list (sa_cons (se_ix (se_var (pv 0)) se_int (fun _ _ => rfl)) sa_nil)) (sa_cons (se_blty call_list_of opN_listI (by exact rfl) T.n_list bo_list (sa_cons (se_ix (se_var (pv 0)) se_int (fun _ _ => rfl)) sa_nil)) sa_nil))))) sss_nil)
  (sss_cons (ss_if (st_cmp (op_eqA (Rm.uu hr 64 (by decide))) op2_eq (se_ix (se_var (pv 0)) se_int (fun _ _ => rfl)) se_str rfl) (sss_one (ss_ret (se_tup (sa_cons (se_lstI (sa_cons (se_ix (se_var (pv 0)) se_int (fun _ _ => rfl)) sa_nil)) (sa_cons (se_bin op_addA op2_addI (se_lstI (sa_cons (se_ix (se_var (pv 0)) se_int (fun _ _ => rfl)) sa_nil)) (se_blty call_list_of opN_listI (by exact rfl) T.n_list bo_list (sa_cons (se_ix (se_var (pv 0)) se_int (fun _ _ => rfl)) sa_nil))) sa_nil))))) sss_nil)
  (sss_cons (ss_if (st_cmp (op_eqA (Rm.uu hr 64 (by decide))) op2_eq (se_ix (se_var (pv 0)) se_int (fun _ _ => rfl)) se_str rfl) (sss_one (ss_ret (se_tup (sa_cons (se_lstI sa_nil) (sa_cons (se_blty call_list_of opN_listI (by exact rfl) T.n_list bo_list (sa_cons (se_ix (se_var (pv 0)) se_int (fun _ _ => rfl)) sa_nil)) sa_nil))))) sss_nil)
  (sss_cons (ss_if (st_cmp (op_eqA (Rm.uu hr 64 (by decide))) op2_eq (se_ix (se_var (pv 0)) se_int (fun _ _ => rfl)) se_str rfl) (sss_one (ss_ret (se_tup (sa_cons (se_lstI (sa_cons (se_ix (se_var (pv 0)) se_int (fun _ _ => rfl)) sa_nil)) (sa_cons (se_lstI sa_nil) sa_nil))))) sss_nil)
  (sss_one (ss_ret (se_tup (sa_cons (se_lstI sa_nil) (sa_cons (se_lstI (sa_cons (se_ix (se_var (pv 0)) se_int (fun _ _ => rfl)) sa_nil)) sa_nil))))))))))
  · refine shs_all ⟨?_, trivial⟩
    · exact sh_all (F.bindsN fun _ _ _ _ _ _ us hl => match us, hl with | [_], _ => rfl) rfl
theorem ok_law_word (T : Ts K mg) : Fk P w K mg base 22 "_law_word" ["_law_one", "_law_function", "_law_drawn_here"] f_law_word [(3, [], gAll)] := by
  have G_law_first : Fk P w K mg base 1 "_law_first" _ f_law_first _ := ok_law_first T
  have G_law_wrong_call : Fk P w K mg base 2 "_law_wrong_call" _ f_law_wrong_call _ := ok_law_wrong_call T
  have G_law_is_name : Fk P w K mg base 2 "_law_is_name" _ f_law_is_name _ := ok_law_is_name T
  have G_law_parts : Fk P w K mg base 21 "_law_parts" _ f_law_parts _ := ok_law_parts T
  have G_law_split : Fk P w K mg base 1 "_law_split" _ f_law_split _ := ok_law_split T
  obtain ⟨fd, F⟩ := T.d_law_word
  have F : FunD K "_law_word" "_law_word" (defArgs s_law_word) (defBody s_law_word) (defScope s_law_word) [] [] (ga K "_law_word") fd := F
  refine ⟨T.m_law_word, F.kp, fd, fn_body F sc_law_word fun cdv A outer s H E hr tk => ?_, ?_⟩
  · exact (sss_cons (ss_asg (se_fk (ps := ["_law_one"]) G_law_split 0 (hr.mono (by decide)) tk (by exact rfl) (sa_cons (se_var (pv 0)) sa_nil)) (sg_tup rfl (sgs_cons (sg_name (i := 3) sc_law_word.nd rfl (by first | exact Or.inl rfl | exact Or.inr rfl)) (sgs_cons (sg_name (i := 4) sc_law_word.nd rfl (by first | exact Or.inl rfl | exact Or.inr rfl)) sgs_nil))))
  (sss_cons (ss_set (i := 5) sc_law_word.nd rfl (by first | exact Or.inl rfl | exact Or.inr rfl) (se_lstI sa_nil))
  (sss_cons (ss_for (passes_of rfl) rfl (si_any (se_var (pv 4))) (sg_name (i := 6) sc_law_word.nd rfl (by first | exact Or.inl rfl | exact Or.inr rfl)) (sss_one (ss_set (i := 5) sc_law_word.nd rfl (by first | exact Or.inl rfl | exact Or.inr rfl) (se_bin op_addA op2_addI (se_var (pv 5)) (se_fk (ps := ["_law_thing"]) G_law_parts 0 (hr.mono (by decide)) tk (by exact rfl) (sa_cons (se_var (pv 6)) sa_nil))))))
  (sss_cons (ss_set (i := 3) sc_law_word.nd rfl (by first | exact Or.inl rfl | exact Or.inr rfl) (se_bin op_addA op2_addI (se_var (pv 3)) (se_fz (se_lc (S := [7]) (own := [("_law_part", 7)]) rfl sc_law_word.nd (si_any (se_var (pv 5))) (blk_of (N := N_law_word) (sc := (defScope s_law_word)) (by decide +kernel)) (by decide) (fun _ _ _ _ _ => by exact (sg_name (i := 7) sc_law_word.nd rfl (by first | exact Or.inl rfl | exact Or.inr rfl))) (fun _ _ _ _ _ => by exact (sts_one (st_cmp (op_eqA (Rm.uu hr 64 (by decide))) op2_eq (se_ix (se_var (pv 7)) se_int (fun _ _ => rfl)) se_str rfl))) (fun _ _ _ _ _ => by exact (se_ix (se_var (pv 7)) se_int (fun _ _ => rfl)))))))
  (sss_cons (ss_if (st_cmp (op_neA (Rm.uu hr 64 (by decide))) op2_ne (se_fz (se_lc (S := [9]) (own := [("_law_who", 9)]) rfl sc_law_word.nd (si_any (se_var (pv 3))) (blk_of (N := N_law_word) (sc := (defScope s_law_word)) (by decide +kernel)) (by decide) (fun _ _ _ _ _ => by exact (sg_name (i := 9) sc_law_word.nd rfl (by first | exact Or.inl rfl | exact Or.inr rfl))) (fun _ _ _ _ _ => by exact (sts_one (st_not (st_tru (se_fk (ps := ["_law_text"]) G_law_is_name 0 (hr.mono (by decide)) takesN (by exact rfl) (sa_cons (se_var (pv 9)) sa_nil)) (fun _ => rfl))))) (fun _ _ _ _ _ => by exact (se_var (pv 9))))) (se_lstI sa_nil) rfl) (sss_one (ss_ret se_str)) sss_nil)
  (sss_cons (ss_if (sw_t (sw_and (st_cmp (op_eqA (Rm.uu hr 64 (by decide))) op2_eq (se_ix (se_var (pv 0)) se_int (fun _ _ => rfl)) se_str rfl) (sw_and1 (st_tru (se_fk (ps := ["_law_one", "_law_drawn_here"]) G_law_wrong_call 0 (hr.mono (by decide)) tk (by exact rfl) (sa_cons (se_var (pv 0)) (sa_cons (se_var (pv 2)) sa_nil))) (fun _ => rfl))))) (sss_one (ss_ret se_str)) sss_nil)
  (sss_cons (ss_for (passes_of rfl) rfl (si_any (se_var (pv 5))) (sg_name (i := 7) sc_law_word.nd rfl (by first | exact Or.inl rfl | exact Or.inr rfl)) (sss_one (ss_if (st_cmp (op_eqA (Rm.uu hr 64 (by decide))) op2_eq (se_ix (se_var (pv 7)) se_int (fun _ _ => rfl)) se_str rfl) (sss_cons (ss_set (i := 8) sc_law_word.nd rfl (by first | exact Or.inl rfl | exact Or.inr rfl) (se_fk (ps := ["_law_drawn_here", "_law_who"]) G_law_first 0 (hr.mono (by decide)) tk (by exact rfl) (sa_cons (se_var (pv 2)) (sa_cons (se_ix (se_var (pv 7)) se_int (fun _ _ => rfl)) sa_nil))))
  (sss_one (ss_if (sw_t (sw_or (st_cmp op_isN op2_isN (se_var (pv 8)) se_non rfl) (sw_or1 (st_cmp (op_neA (Rm.uu hr 64 (by decide))) op2_ne (se_ix (se_var (pv 8)) se_int (fun _ _ => rfl)) se_int rfl)))) (sss_one (ss_ret se_str)) sss_nil))) sss_nil)))
  (sss_cons (ss_if (sw_t (sw_and (st_cmp (op_eqA (Rm.uu hr 64 (by decide))) op2_eq (se_ix (se_var (pv 0)) se_int (fun _ _ => rfl)) se_str rfl) (sw_and1 (st_cmp (op_neA (Rm.uu hr 64 (by decide))) op2_ne (se_blt op_lenA opN_len (by exact rfl) T.n_len bo_len (sa_cons (se_ix (se_var (pv 0)) se_int (fun _ _ => rfl)) sa_nil)) (se_ix (se_var (pv 1)) se_int (fun _ _ => rfl)) rfl)))) (sss_one (ss_ret se_str)) sss_nil)
  (sss_cons (ss_if (sw_t (sw_and (st_not (st_tru (se_ix (se_var (pv 1)) se_int (fun _ _ => rfl)) (fun _ => rfl))) (sw_and1 (st_cmp (op_neA (Rm.uu hr 64 (by decide))) op2_ne (se_fz (se_lc (S := [7]) (own := [("_law_part", 7)]) rfl sc_law_word.nd (si_any (se_var (pv 5))) (blk_of (N := N_law_word) (sc := (defScope s_law_word)) (by decide +kernel)) (by decide) (fun _ _ _ _ _ => by exact (sg_name (i := 7) sc_law_word.nd rfl (by first | exact Or.inl rfl | exact Or.inr rfl))) (fun _ _ _ _ _ => by exact (sts_one (st_cmp (op_inA (Rm.uu hr 65 (by decide))) op2_in (se_ix (se_var (pv 7)) se_int (fun _ _ => rfl)) (se_tup (sa_cons se_str (sa_cons se_str sa_nil))) rfl))) (fun _ _ _ _ _ => by exact (se_var (pv 7))))) (se_lstI sa_nil) rfl)))) (sss_one (ss_ret se_str)) sss_nil)
  (sss_one (ss_ret se_non)))))))))))
  · refine shs_all ⟨?_, trivial⟩
    · exact sh_all (F.bindsN fun _ _ _ _ _ _ us hl => match us, hl with | [_, _, _], _ => rfl) rfl
theorem ok_law_due (T : Ts K mg) : Fk P w K mg base 23 "_law_due" ["_law_drawn_here"] f_law_due [(1, [], gAll)] := by
  have G_law_statements : Fk P w K mg base 21 "_law_statements" _ f_law_statements _ := ok_law_statements T
  have G_law_word : Fk P w K mg base 22 "_law_word" _ f_law_word _ := ok_law_word T
  have G_law_is_name : Fk P w K mg base 2 "_law_is_name" _ f_law_is_name _ := ok_law_is_name T
  obtain ⟨fd, F⟩ := T.d_law_due
  have F : FunD K "_law_due" "_law_due" (defArgs s_law_due) (defBody s_law_due) (defScope s_law_due) [] [] (ga K "_law_due") fd := F
  refine ⟨T.m_law_due, F.kp, fd, fn_body F sc_law_due fun cdv A outer s H E hr tk => ?_, ?_⟩
  · exact (sss_cons (ss_set (i := 1) sc_law_due.nd rfl (by first | exact Or.inl rfl | exact Or.inr rfl) (se_lst sa_nil))
  (sss_cons (ss_for (passes_of rfl) rfl (si_any (se_var (pv 0))) (sg_name (i := 2) sc_law_due.nd rfl (by first | exact Or.inl rfl | exact Or.inr rfl)) (sss_cons (ss_asg (se_var (pv 2)) (sg_tup rfl (sgs_cons (sg_name (i := 3) sc_law_due.nd rfl (by first | exact Or.inl rfl | exact Or.inr rfl)) (sgs_cons (sg_name (i := 4) sc_law_due.nd rfl (by first | exact Or.inl rfl | exact Or.inr rfl)) (sgs_cons (sg_name (i := 5) sc_law_due.nd rfl (by first | exact Or.inl rfl | exact Or.inr rfl)) (sgs_cons (sg_name (i := 6) sc_law_due.nd rfl (by first | exact Or.inl rfl | exact Or.inr rfl)) (sgs_cons (sg_name (i := 7) sc_law_due.nd rfl (by first | exact Or.inl rfl | exact Or.inr rfl)) sgs_nil)))))))
  (sss_cons (ss_if (sw_t (sw_or (st_not (st_tru (se_fk (ps := ["_law_text"]) G_law_is_name 0 (hr.mono (by decide)) tk (by exact rfl) (sa_cons (se_var (pv 3)) sa_nil)) (fun _ => rfl))) (sw_or1 (st_cmp (op_inA (Rm.uu hr 65 (by decide))) op2_in (se_var (pv 3)) (se_var (pv 1)) rfl)))) (sss_one (ss_ret (se_tup (sa_cons (se_var (pv 3)) (sa_cons se_str sa_nil))))) sss_nil)
  (sss_cons (ss_for (passes_of rfl) rfl (si_range1 (by exact rfl) T.n_range (se_blt op_lenA opN_len (by exact rfl) T.n_len bo_len (sa_cons (se_var (pv 4)) sa_nil))) (sg_name (i := 8) sc_law_due.nd rfl (by first | exact Or.inl rfl | exact Or.inr rfl)) (sss_one (ss_if (sw_t (sw_or (st_not (st_tru (se_fk (ps := ["_law_text"]) G_law_is_name 0 (hr.mono (by decide)) tk (by exact rfl) (sa_cons (se_ix (se_var (pv 4)) (se_var (pv 8)) (fun _ _ => rfl)) sa_nil)) (fun _ => rfl))) (sw_or1 (st_cmp (op_inA (Rm.uu hr 65 (by decide))) op2_in (se_ix (se_var (pv 4)) (se_var (pv 8)) (fun _ _ => rfl)) (se_fz (se_slice (se_var (pv 4)) so_none (so_some (se_var (pv 8))))) rfl)))) (sss_one (ss_ret (se_tup (sa_cons (se_var (pv 3)) (sa_cons se_str sa_nil))))) sss_nil)))
  (sss_cons (ss_for (passes_of rfl) rfl (si_any (se_fk (ps := ["_law_inside"]) G_law_statements 0 (hr.mono (by decide)) tk (by exact rfl) (sa_cons (se_var (pv 5)) sa_nil))) (sg_name (i := 9) sc_law_due.nd rfl (by first | exact Or.inl rfl | exact Or.inr rfl)) (sss_cons (ss_set (i := 10) sc_law_due.nd rfl (by first | exact Or.inl rfl | exact Or.inr rfl) (se_fk (ps := ["_law_one", "_law_function", "_law_drawn_here"]) G_law_word 0 (hr.mono (by decide)) tk (by exact rfl) (sa_cons (se_var (pv 9)) (sa_cons (se_var (pv 2)) (sa_cons (se_var (pv 0)) sa_nil)))))
  (sss_one (ss_if (st_cmp op_notN op2_notN (se_var (pv 10)) se_non rfl) (sss_one (ss_ret (se_tup (sa_cons (se_var (pv 3)) (sa_cons (se_var (pv 10)) sa_nil))))) sss_nil))))
  (sss_one (ss_expr (se_bm tyM_l opM_app PySem.F.plainAttrs_list PySem.F.slot_list_append PySem.F.type_list_append mt_append (se_var (pv 1)) (sa_cons (se_var (pv 3)) sa_nil)))))))))
  (sss_cons (ss_if (st_cmp (op_eqA (Rm.uu hr 64 (by decide))) op2_eq (se_var (pv 0)) (se_lstI sa_nil) rfl) (sss_one (ss_ret (se_tup (sa_cons se_str (sa_cons se_str sa_nil))))) sss_nil)
  (sss_one (ss_ret (se_ite (st_tru (se_ix (se_ix (se_var (pv 0)) se_int (fun _ _ => rfl)) se_int (fun _ _ => rfl)) (fun _ => rfl)) (se_tup (sa_cons (se_ix (se_ix (se_var (pv 0)) se_int (fun _ _ => rfl)) se_int (fun _ _ => rfl)) (sa_cons se_str sa_nil))) se_non))))))
  · refine shs_all ⟨?_, trivial⟩
    · exact sh_all (F.bindsN fun _ _ _ _ _ _ us hl => match us, hl with | [_], _ => rfl) rfl
theorem ok_law_take (T : Ts K mg) : Fk P w K mg base 1 "_law_take" ["_law_state", "_law_many"] f_law_take [(2, [], gAll)] := by
  obtain ⟨fd, F⟩ := T.d_law_take
  have F : FunD K "_law_take" "_law_take" (defArgs s_law_take) (defBody s_law_take) (defScope s_law_take) [] [] (ga K "_law_take") fd := F
  refine ⟨T.m_law_take, F.kp, fd, fn_body F sc_law_take fun cdv A outer s H E hr tk => ?_, ?_⟩
  · exact (sss_cons (ss_if (sw_t (sw_and (st_cmp (op_eqA (Rm.uu hr 64 (by decide))) op2_eq (se_dget (Rm.uu hr 1 (by decide)) (se_var (pv 0)) se_str (fun _ _ => rfl)) se_int rfl) (sw_and1 (st_cmp (op_neA (Rm.uu hr 64 (by decide))) op2_ne (se_dget (Rm.uu hr 1 (by decide)) (se_var (pv 0)) se_str (fun _ _ => rfl)) (se_lst sa_nil) rfl)))) (sss_one (ss_dput (Rm.uu hr 1 (by decide)) (se_var (pv 0)) se_str (se_bm tyM_l opM_popAt PySem.F.plainAttrs_list PySem.F.slot_list_pop PySem.F.type_list_pop mt_popAt (se_dget (Rm.uu hr 1 (by decide)) (se_var (pv 0)) se_str (fun _ _ => rfl)) (sa_cons se_int sa_nil)) rfl)) sss_nil)
  (sss_cons (ss_if (st_cmp op_gt op2_cmpI (se_dget (Rm.uu hr 1 (by decide)) (se_var (pv 0)) se_str (fun _ _ => rfl)) se_int rfl) (sss_cons (ss_set (i := 2) sc_law_take.nd rfl (by first | exact Or.inl rfl | exact Or.inr rfl) (se_bin op_mod op2_mod (se_dget (Rm.uu hr 1 (by decide)) (se_var (pv 0)) se_str (fun _ _ => rfl)) (se_var (pv 1))))
  (sss_cons (ss_dput (Rm.uu hr 1 (by decide)) (se_var (pv 0)) se_str (se_bin op_fdivW op2_div (se_dget (Rm.uu hr 1 (by decide)) (se_var (pv 0)) se_str (fun _ _ => rfl)) (se_var (pv 1))) rfl)
  (sss_one (ss_ret (se_var (pv 2)))))) sss_nil)
  (sss_cons (ss_set (i := 3) sc_law_take.nd rfl (by first | exact Or.inl rfl | exact Or.inr rfl) (se_dget (Rm.uu hr 1 (by decide)) (se_var (pv 0)) se_str (fun _ _ => rfl)))
  (sss_cons (ss_dput (Rm.uu hr 1 (by decide)) (se_var (pv 0)) se_str (se_bin op_addA op2_add (se_var (pv 3)) se_int) rfl)
  (sss_cons (ss_set (i := 4) sc_law_take.nd rfl (by first | exact Or.inl rfl | exact Or.inr rfl) (se_ix (se_dget (Rm.uu hr 1 (by decide)) (se_var (pv 0)) se_str (fun _ _ => rfl)) (se_bin op_mod op2_mod (se_var (pv 3)) (se_blt op_lenA opN_len (by exact rfl) T.n_len bo_len (sa_cons (se_dget (Rm.uu hr 1 (by decide)) (se_var (pv 0)) se_str (fun _ _ => rfl)) sa_nil))) (fun _ _ => rfl)))
  (sss_cons (ss_set (i := 5) sc_law_take.nd rfl (by first | exact Or.inl rfl | exact Or.inr rfl) (se_bin op_mod op2_mod (se_bin op_addA op2_add (se_bin op_addA op2_add (se_bin op_mulA op2_mul (se_dget (Rm.uu hr 1 (by decide)) (se_var (pv 0)) se_str (fun _ _ => rfl)) se_int) (se_bin op_mulA op2_mul (se_var (pv 4)) (se_bin op_addA op2_add (se_bin op_mulA op2_mul se_int (se_var (pv 3))) se_int))) (se_bin op_pow op2_pow (se_var (pv 3)) se_int)) se_int))
  (sss_cons (ss_dput (Rm.uu hr 1 (by decide)) (se_var (pv 0)) se_str (se_var (pv 5)) rfl)
  (sss_cons (ss_set (i := 6) sc_law_take.nd rfl (by first | exact Or.inl rfl | exact Or.inr rfl) (se_bin op_addA op2_add (se_bin op_mulA op2_mul (se_bin op_mod op2_mod (se_bin op_pow op2_pow (se_var (pv 5)) se_int) se_int) se_int) (se_bin op_mod op2_mod (se_bin op_pow op2_pow (se_var (pv 5)) se_int) se_int)))
  (sss_one (ss_ret (se_bin op_mod op2_mod (se_bin op_fdivW op2_div (se_var (pv 6)) se_int) (se_var (pv 1)))))))))))))
  · refine shs_all ⟨?_, trivial⟩
    · exact sh_all (F.bindsN fun _ _ _ _ _ _ us hl => match us, hl with | [_, _], _ => rfl) rfl
theorem ok_law_pick (T : Ts K mg) : Fk P w K mg base 2 "_law_pick" ["_law_state", "_law_some"] f_law_pick [(2, [], gAll)] := by
  have G_law_take : Fk P w K mg base 1 "_law_take" _ f_law_take _ := ok_law_take T
  obtain ⟨fd, F⟩ := T.d_law_pick
  have F : FunD K "_law_pick" "_law_pick" (defArgs s_law_pick) (defBody s_law_pick) (defScope s_law_pick) [] [] (ga K "_law_pick") fd := F
  refine ⟨T.m_law_pick, F.kp, fd, fn_body F sc_law_pick fun cdv A outer s H E hr tk => ?_, ?_⟩
  · exact (sss_one (ss_ret (se_ix (se_var (pv 1)) (se_fk (ps := ["_law_state", "_law_many"]) G_law_take 0 (hr.mono (by decide)) tk (by exact rfl) (sa_cons (se_var (pv 0)) (sa_cons (se_blt op_lenA opN_len (by exact rfl) T.n_len bo_len (sa_cons (se_var (pv 1)) sa_nil)) sa_nil))) (fun _ _ => rfl))))
  · refine shs_all ⟨?_, trivial⟩
    · exact sh_all (F.bindsN fun _ _ _ _ _ _ us hl => match us, hl with | [_, _], _ => rfl) rfl
theorem ok_law_bad_name (T : Ts K mg) : Fk P w K mg base 3 "_law_bad_name" ["_law_state", "_law_names"] f_law_bad_name [(2, [], gAll)] := by
  have G_law_pick : Fk P w K mg base 2 "_law_pick" _ f_law_pick _ := ok_law_pick T
  have G_law_reserved : Fk P w K mg base 1 "_law_reserved" _ f_law_reserved _ := ok_law_reserved T
  have G_law_take : Fk P w K mg base 1 "_law_take" _ f_law_take _ := ok_law_take T
  obtain ⟨fd, F⟩ := T.d_law_bad_name
  have F : FunD K "_law_bad_name" "_law_bad_name" (defArgs s_law_bad_name) (defBody s_law_bad_name) (defScope s_law_bad_name) [] [] (ga K "_law_bad_name") fd := F
  refine ⟨T.m_law_bad_name, F.kp, fd, fn_body F sc_law_bad_name fun cdv A outer s H E hr tk => ?_, ?_⟩
  · exact (sss_cons (ss_set (i := 2) sc_law_bad_name.nd rfl (by first | exact Or.inl rfl | exact Or.inr rfl) (se_bin op_addA op2_addI (se_lstI (sa_cons se_str (sa_cons se_str (sa_cons (se_bin op_addA op2_add se_str se_str) (sa_cons se_str (sa_cons se_str sa_nil)))))) (se_var (pv 1))))
  (sss_one (ss_ret (se_ix (se_lstI (sa_cons (se_fk (ps := ["_law_state", "_law_some"]) G_law_pick 0 (hr.mono (by decide)) tk (by exact rfl) (sa_cons (se_var (pv 0)) (sa_cons (se_var (pv 2)) sa_nil))) (sa_cons (se_fk (ps := ["_law_state", "_law_some"]) G_law_pick 0 (hr.mono (by decide)) tk (by exact rfl) (sa_cons (se_var (pv 0)) (sa_cons (se_fk0 (ps := []) G_law_reserved 0 (hr.mono (by decide)) tk (by exact rfl)) sa_nil))) sa_nil))) (se_fk (ps := ["_law_state", "_law_many"]) G_law_take 0 (hr.mono (by decide)) tk (by exact rfl) (sa_cons (se_var (pv 0)) (sa_cons se_int sa_nil))) (fun _ _ => rfl)))))
  · refine shs_all ⟨?_, trivial⟩
    · exact sh_all (F.bindsN fun _ _ _ _ _ _ us hl => match us, hl with | [_, _], _ => rfl) rfl
theorem ok_law_bent (T : Ts K mg) : Fk P w K mg base 4 "_law_bent" ["_law_state", "_law_drawn_here"] f_law_bent [(2, [], gAll)] := by
  have G_law_bad_name : Fk P w K mg base 3 "_law_bad_name" _ f_law_bad_name _ := ok_law_bad_name T
  have G_law_take : Fk P w K mg base 1 "_law_take" _ f_law_take _ := ok_law_take T
  obtain ⟨fd, F⟩ := T.d_law_bent
  have F : FunD K "_law_bent" "_law_bent" (defArgs s_law_bent) (defBody s_law_bent) (defScope s_law_bent) [] [] (ga K "_law_bent") fd := F
  refine ⟨T.m_law_bent, F.kp, fd, fn_body F sc_law_bent fun cdv A outer s H E hr tk => ?_, ?_⟩
  · exact (sss_cons (ss_set (i := 2) sc_law_bent.nd rfl (by first | exact Or.inl rfl | exact Or.inr rfl) (se_fk (ps := ["_law_state", "_law_many"]) G_law_take 0 (hr.mono (by decide)) tk (by exact rfl) (sa_cons (se_var (pv 0)) (sa_cons se_int sa_nil))))
  (sss_cons (ss_if (sw_t (sw_or (st_cmp (op_eqA (Rm.uu hr 64 (by decide))) op2_eq (se_var (pv 1)) (se_lstI sa_nil) rfl) (sw_or1 (st_cmp (op_eqA (Rm.uu hr 64 (by decide))) op2_eq (se_var (pv 2)) se_int rfl)))) (sss_one (ss_ret (se_var (pv 1)))) sss_nil)
  (sss_cons (ss_set (i := 3) sc_law_bent.nd rfl (by first | exact Or.inl rfl | exact Or.inr rfl) (se_fk (ps := ["_law_state", "_law_many"]) G_law_take 0 (hr.mono (by decide)) tk (by exact rfl) (sa_cons (se_var (pv 0)) (sa_cons (se_blt op_lenA opN_len (by exact rfl) T.n_len bo_len (sa_cons (se_var (pv 1)) sa_nil)) sa_nil))))
  (sss_cons (ss_asg (se_ix (se_var (pv 1)) (se_var (pv 3)) (fun _ _ => rfl)) (sg_tup rfl (sgs_cons (sg_name (i := 4) sc_law_bent.nd rfl (by first | exact Or.inl rfl | exact Or.inr rfl)) (sgs_cons (sg_name (i := 5) sc_law_bent.nd rfl (by first | exact Or.inl rfl | exact Or.inr rfl)) (sgs_cons (sg_name (i := 6) sc_law_bent.nd rfl (by first | exact Or.inl rfl | exact Or.inr rfl)) (sgs_cons (sg_name (i := 7) sc_law_bent.nd rfl (by first | exact Or.inl rfl | exact Or.inr rfl)) (sgs_cons (sg_name (i := 8) sc_law_bent.nd rfl (by first | exact Or.inl rfl | exact Or.inr rfl)) sgs_nil)))))))
  (sss_cons (ss_if (st_cmp (op_eqA (Rm.uu hr 64 (by decide))) op2_eq (se_var (pv 2)) se_int rfl) (sss_one (ss_set (i := 4) sc_law_bent.nd rfl (by first | exact Or.inl rfl | exact Or.inr rfl) (se_fk (ps := ["_law_state", "_law_names"]) G_law_bad_name 0 (hr.mono (by decide)) tk (by exact rfl) (sa_cons (se_var (pv 0)) (sa_cons (se_fz (se_lc (S := [10]) (own := [("_law_one", 10)]) rfl sc_law_bent.nd (si_any (se_var (pv 1))) (blk_of (N := N_law_bent) (sc := (defScope s_law_bent)) (by decide +kernel)) (by decide) (fun _ _ _ _ _ => by exact (sg_name (i := 10) sc_law_bent.nd rfl (by first | exact Or.inl rfl | exact Or.inr rfl))) (fun _ _ _ _ _ => by exact sts_nil) (fun _ _ _ _ _ => by exact (se_ix (se_var (pv 10)) se_int (fun _ _ => rfl))))) sa_nil))))) (sss_one (ss_if (sw_t (sw_and (st_cmp (op_eqA (Rm.uu hr 64 (by decide))) op2_eq (se_var (pv 2)) se_int rfl) (sw_and1 (st_cmp (op_neA (Rm.uu hr 64 (by decide))) op2_ne (se_var (pv 5)) (se_tup sa_nil) rfl)))) (sss_cons (ss_set (i := 9) sc_law_bent.nd rfl (by first | exact Or.inl rfl | exact Or.inr rfl) (se_fk (ps := ["_law_state", "_law_many"]) G_law_take 0 (hr.mono (by decide)) tk (by exact rfl) (sa_cons (se_var (pv 0)) (sa_cons (se_blt op_lenA opN_len (by exact rfl) T.n_len bo_len (sa_cons (se_var (pv 5)) sa_nil)) sa_nil))))
  (sss_one (ss_set (i := 5) sc_law_bent.nd rfl (by first | exact Or.inl rfl | exact Or.inr rfl) (se_bin op_addA op2_addI (se_bin op_addA op2_addI (se_fz (se_slice (se_var (pv 5)) so_none (so_some (se_var (pv 9))))) (se_tup (sa_cons (se_fk (ps := ["_law_state", "_law_names"]) G_law_bad_name 0 (hr.mono (by decide)) tk (by exact rfl) (sa_cons (se_var (pv 0)) (sa_cons (se_blty call_list_of opN_listI (by exact rfl) T.n_list bo_list (sa_cons (se_var (pv 5)) sa_nil)) sa_nil))) sa_nil))) (se_fz (se_slice (se_var (pv 5)) (so_some (se_bin op_addA op2_add (se_var (pv 9)) se_int)) so_none)))))) (sss_one (ss_if (st_cmp (op_eqA (Rm.uu hr 64 (by decide))) op2_eq (se_var (pv 2)) se_int rfl) (sss_one (ss_set (i := 7) sc_law_bent.nd rfl (by first | exact Or.inl rfl | exact Or.inr rfl) (se_fk (ps := ["_law_state", "_law_many"]) G_law_take 0 (hr.mono (by decide)) tk (by exact rfl) (sa_cons (se_var (pv 0)) (sa_cons se_int sa_nil))))) (sss_one (ss_if (st_cmp (op_eqA (Rm.uu hr 64 (by decide))) op2_eq (se_var (pv 2)) se_int rfl) (sss_one (ss_set (i := 8) sc_law_bent.nd rfl (by first | exact Or.inl rfl | exact Or.inr rfl) (se_not (se_var (pv 8))))) (sss_one (ss_if (st_cmp (op_eqA (Rm.uu hr 64 (by decide))) op2_eq (se_var (pv 2)) se_int rfl) (sss_one (ss_set (i := 5) sc_law_bent.nd rfl (by first | exact Or.inl rfl | exact Or.inr rfl) (se_fz (se_slice (se_var (pv 5)) so_none (so_some (se_neg se_int)))))) (sss_one (ss_if (st_cmp (op_eqA (Rm.uu hr 64 (by decide))) op2_eq (se_var (pv 2)) se_int rfl) (sss_one (ss_ret (se_bin op_addA op2_addI (se_fz (se_slice (se_var (pv 1)) so_none (so_some (se_var (pv 3))))) (se_fz (se_slice (se_var (pv 1)) (so_some (se_bin op_addA op2_add (se_var (pv 3)) se_int)) so_none))))) (sss_one (ss_ret (se_bin op_addA op2_addI (se_var (pv 1)) (se_lstI (sa_cons (se_ix (se_var (pv 1)) (se_var (pv 3)) (fun _ _ => rfl)) sa_nil))))))))))))))))
  (sss_one (ss_ret (se_bin op_addA op2_addI (se_bin op_addA op2_addI (se_fz (se_slice (se_var (pv 1)) so_none (so_some (se_var (pv 3))))) (se_lstI (sa_cons (se_tup (sa_cons (se_var (pv 4)) (sa_cons (se_var (pv 5)) (sa_cons (se_var (pv 6)) (sa_cons (se_var (pv 7)) (sa_cons (se_var (pv 8)) sa_nil)))))) sa_nil))) (se_fz (se_slice (se_var (pv 1)) (so_some (se_bin op_addA op2_add (se_var (pv 3)) se_int)) so_none))))))))))
  · refine shs_all ⟨?_, trivial⟩
    · exact sh_all (F.bindsN fun _ _ _ _ _ _ us hl => match us, hl with | [_, _], _ => rfl) rfl
theorem ok_law_odd (T : Ts K mg) : Fk P w K mg base 2 "_law_odd" ["_law_state", "_law_kit"] f_law_odd [(2, [], gAll)] := by
  have G_law_take : Fk P w K mg base 1 "_law_take" _ f_law_take _ := ok_law_take T
  obtain ⟨fd, F⟩ := T.d_law_odd
  have F : FunD K "_law_odd" "_law_odd" (defArgs s_law_odd) (defBody s_law_odd) (defScope s_law_odd) [] [] (ga K "_law_odd") fd := F
  refine ⟨T.m_law_odd, F.kp, fd, fn_body F sc_law_odd fun cdv A outer s H E hr tk => ?_, ?_⟩
  · exact (sss_one (ss_ret (se_and (se_cmp op_gt op2_cmpI (se_dget (Rm.uu hr 1 (by decide)) (se_var (pv 1)) se_str (fun _ _ => rfl)) se_int rfl) (se_one (se_cmp (op_eqA (Rm.uu hr 64 (by decide))) op2_eq (se_fk (ps := ["_law_state", "_law_many"]) G_law_take 0 (hr.mono (by decide)) tk (by exact rfl) (sa_cons (se_var (pv 0)) (sa_cons (se_dget (Rm.uu hr 1 (by decide)) (se_var (pv 1)) se_str (fun _ _ => rfl)) sa_nil))) se_int rfl)))))
  · refine shs_all ⟨?_, trivial⟩
    · exact sh_all (F.bindsN fun _ _ _ _ _ _ us hl => match us, hl with | [_, _], _ => rfl) rfl
theorem ok_law_box (T : Ts K mg) : Fk P w K mg base 3 "_law_box" ["_law_state", "_law_kit"] f_law_box [(2, [], gAll)] := by
  have G_law_pick : Fk P w K mg base 2 "_law_pick" _ f_law_pick _ := ok_law_pick T
  have G_law_odd : Fk P w K mg base 2 "_law_odd" _ f_law_odd _ := ok_law_odd T
  obtain ⟨fd, F⟩ := T.d_law_box
  have F : FunD K "_law_box" "_law_box" (defArgs s_law_box) (defBody s_law_box) (defScope s_law_box) [] [] (ga K "_law_box") fd := F
  refine ⟨T.m_law_box, F.kp, fd, fn_body F sc_law_box fun cdv A outer s H E hr tk => ?_, ?_⟩
  · exact (sss_cons (ss_if (st_tru (se_fk (ps := ["_law_state", "_law_kit"]) G_law_odd 0 (hr.mono (by decide)) tk (by exact rfl) (sa_cons (se_var (pv 0)) (sa_cons (se_var (pv 1)) sa_nil))) (fun _ => rfl)) (sss_one (ss_ret (se_dget (Rm.uu hr 1 (by decide)) (se_var (pv 1)) se_str (fun _ _ => rfl)))) sss_nil)
  (sss_one (ss_ret (se_fk (ps := ["_law_state", "_law_some"]) G_law_pick 0 (hr.mono (by decide)) tk (by exact rfl) (sa_cons (se_var (pv 0)) (sa_cons (se_dget (Rm.uu hr 1 (by decide)) (se_var (pv 1)) se_str (fun _ _ => rfl)) sa_nil))))))
  · refine shs_all ⟨?_, trivial⟩
    · exact sh_all (F.bindsN fun _ _ _ _ _ _ us hl => match us, hl with | [_, _], _ => rfl) rfl
theorem ok_law_name (T : Ts K mg) : Fk P w K mg base 2 "_law_name" ["_law_state", "_law_had"] f_law_name [(2, [], gAll)] := by
  have G_law_reserved : Fk P w K mg base 1 "_law_reserved" _ f_law_reserved _ := ok_law_reserved T
  have G_law_take : Fk P w K mg base 1 "_law_take" _ f_law_take _ := ok_law_take T
  obtain ⟨fd, F⟩ := T.d_law_name
  have F : FunD K "_law_name" "_law_name" (defArgs s_law_name) (defBody s_law_name) (defScope s_law_name) [] [] (ga K "_law_name") fd := F
  refine ⟨T.m_law_name, F.kp, fd, fn_body F sc_law_name fun cdv A outer s H E hr tk => ?_, ?_⟩
  · exact (sss_cons (ss_set (i := 2) sc_law_name.nd rfl (by first | exact Or.inl rfl | exact Or.inr rfl) se_str)
  (sss_cons (ss_set (i := 3) sc_law_name.nd rfl (by first | exact Or.inl rfl | exact Or.inr rfl) (se_lstI (sa_cons se_str (sa_cons se_str (sa_cons se_str (sa_cons se_str (sa_cons se_str (sa_cons se_str (sa_cons se_str (sa_cons se_str (sa_cons se_str (sa_cons se_str (sa_cons se_str (sa_cons se_str sa_nil))))))))))))))
  (sss_cons (ss_set (i := 3) sc_law_name.nd rfl (by first | exact Or.inl rfl | exact Or.inr rfl) (se_bin op_addA op2_addI (se_var (pv 3)) (se_lstI (sa_cons se_str (sa_cons se_str (sa_cons se_str (sa_cons se_str (sa_cons se_str (sa_cons se_str (sa_cons se_str (sa_cons se_str (sa_cons se_str (sa_cons se_str (sa_cons se_str sa_nil))))))))))))))
  (sss_cons (ss_set (i := 4) sc_law_name.nd rfl (by first | exact Or.inl rfl | exact Or.inr rfl) (se_fk (ps := ["_law_state", "_law_many"]) G_law_take 0 (hr.mono (by decide)) tk (by exact rfl) (sa_cons (se_var (pv 0)) (sa_cons se_int sa_nil))))
  (sss_cons (ss_set (i := 5) sc_law_name.nd rfl (by first | exact Or.inl rfl | exact Or.inr rfl) se_str)
  (sss_cons (ss_if (st_cmp (op_eqA (Rm.uu hr 64 (by decide))) op2_eq (se_var (pv 4)) se_int rfl) (sss_one (ss_set (i := 5) sc_law_name.nd rfl (by first | exact Or.inl rfl | exact Or.inr rfl) (se_ix (se_var (pv 3)) (se_fk (ps := ["_law_state", "_law_many"]) G_law_take 0 (hr.mono (by decide)) tk (by exact rfl) (sa_cons (se_var (pv 0)) (sa_cons (se_blt op_lenA opN_len (by exact rfl) T.n_len bo_len (sa_cons (se_var (pv 3)) sa_nil)) sa_nil))) (fun _ _ => rfl)))) (sss_one (ss_if (sw_t (sw_and (st_cmp (op_eqA (Rm.uu hr 64 (by decide))) op2_eq (se_var (pv 4)) se_int rfl) (sw_and1 (st_cmp op_gt op2_cmpI (se_blt op_lenA opN_len (by exact rfl) T.n_len bo_len (sa_cons (se_var (pv 1)) sa_nil)) se_int rfl)))) (sss_one (ss_set (i := 5) sc_law_name.nd rfl (by first | exact Or.inl rfl | exact Or.inr rfl) (se_slice (se_bin op_addA op2_addI (se_ix (se_var (pv 1)) (se_fk (ps := ["_law_state", "_law_many"]) G_law_take 0 (hr.mono (by decide)) tk (by exact rfl) (sa_cons (se_var (pv 0)) (sa_cons (se_blt op_lenA opN_len (by exact rfl) T.n_len bo_len (sa_cons (se_var (pv 1)) sa_nil)) sa_nil))) (fun _ _ => rfl)) (se_ix (se_var (pv 2)) (se_fk (ps := ["_law_state", "_law_many"]) G_law_take 0 (hr.mono (by decide)) tk (by exact rfl) (sa_cons (se_var (pv 0)) (sa_cons se_int sa_nil))) (fun _ _ => rfl))) so_none (so_some se_int)))) (sss_one (ss_for (passes_of rfl) rfl (si_range1 (by exact rfl) T.n_range (se_bin op_addA op2_add se_int (se_fk (ps := ["_law_state", "_law_many"]) G_law_take 0 (hr.mono (by decide)) tk (by exact rfl) (sa_cons (se_var (pv 0)) (sa_cons (se_ix (se_lstI (sa_cons se_int (sa_cons se_int sa_nil))) (se_bin op_fdivW op2_div (se_var (pv 4)) se_int) (fun _ _ => rfl)) sa_nil))))) (sg_name (i := 6) sc_law_name.nd rfl (by first | exact Or.inl rfl | exact Or.inr rfl)) (sss_one (ss_set (i := 5) sc_law_name.nd rfl (by first | exact Or.inl rfl | exact Or.inr rfl) (se_bin op_addA op2_add (se_var (pv 5)) (se_ix (se_var (pv 2)) (se_fk (ps := ["_law_state", "_law_many"]) G_law_take 0 (hr.mono (by decide)) tk (by exact rfl) (sa_cons (se_var (pv 0)) (sa_cons se_int sa_nil))) (fun _ _ => rfl))))))))))
  (sss_cons (ss_for (passes_of rfl) rfl (si_any (se_var (pv 2))) (sg_name (i := 7) sc_law_name.nd rfl (by first | exact Or.inl rfl | exact Or.inr rfl)) (sss_one (ss_if (sw_t (sw_or (st_cmp (op_inA (Rm.uu hr 65 (by decide))) op2_in (se_var (pv 5)) (se_var (pv 1)) rfl) (sw_or1 (st_cmp (op_inA (Rm.uu hr 65 (by decide))) op2_in (se_var (pv 5)) (se_fk0 (ps := []) G_law_reserved 0 (hr.mono (by decide)) tk (by exact rfl)) rfl)))) (sss_one (ss_set (i := 5) sc_law_name.nd rfl (by first | exact Or.inl rfl | exact Or.inr rfl) (se_var (pv 7)))) sss_nil)))
  (sss_one (ss_ret (se_var (pv 5)))))))))))
  · refine shs_all ⟨?_, trivial⟩
    · exact sh_all (F.bindsN fun _ _ _ _ _ _ us hl => match us, hl with | [_, _], _ => rfl) rfl
theorem ok_law_worth (T : Ts K mg) : Fk P w K mg base 2 "_law_worth" ["_law_state"] f_law_worth [(1, [], gAll)] := by
  have G_law_take : Fk P w K mg base 1 "_law_take" _ f_law_take _ := ok_law_take T
  obtain ⟨fd, F⟩ := T.d_law_worth
  have F : FunD K "_law_worth" "_law_worth" (defArgs s_law_worth) (defBody s_law_worth) (defScope s_law_worth) [] [] (ga K "_law_worth") fd := F
  refine ⟨T.m_law_worth, F.kp, fd, fn_body F sc_law_worth fun cdv A outer s H E hr tk => ?_, ?_⟩
  · exact (sss_one (ss_ret (se_ix (se_lstI (sa_cons (se_fk (ps := ["_law_state", "_law_many"]) G_law_take 0 (hr.mono (by decide)) tk (by exact rfl) (sa_cons (se_var (pv 0)) (sa_cons se_int sa_nil))) (sa_cons (se_fk (ps := ["_law_state", "_law_many"]) G_law_take 0 (hr.mono (by decide)) tk (by exact rfl) (sa_cons (se_var (pv 0)) (sa_cons se_int sa_nil))) (sa_cons (se_fk (ps := ["_law_state", "_law_many"]) G_law_take 0 (hr.mono (by decide)) tk (by exact rfl) (sa_cons (se_var (pv 0)) (sa_cons (se_bin op_addA op2_add (se_bin op_pow op2_pow se_int se_int) se_int) sa_nil))) (sa_cons (se_bin op_addA op2_add (se_bin op_pow op2_pow se_int se_int) se_int) sa_nil))))) (se_fk (ps := ["_law_state", "_law_many"]) G_law_take 0 (hr.mono (by decide)) tk (by exact rfl) (sa_cons (se_var (pv 0)) (sa_cons se_int sa_nil))) (fun _ _ => rfl))))
  · refine shs_all ⟨?_, trivial⟩
    · exact sh_all (F.bindsN fun _ _ _ _ _ _ us hl => match us, hl with | [_], _ => rfl) rfl
theorem ok_law_leaf (T : Ts K mg) : Fk P w K mg base 4 "_law_leaf" ["_law_state", "_law_kit"] f_law_leaf [(2, [], gAll)] := by
  have G_law_box : Fk P w K mg base 3 "_law_box" _ f_law_box _ := ok_law_box T
  have G_law_odd : Fk P w K mg base 2 "_law_odd" _ f_law_odd _ := ok_law_odd T
  have G_law_pick : Fk P w K mg base 2 "_law_pick" _ f_law_pick _ := ok_law_pick T
  have G_law_name : Fk P w K mg base 2 "_law_name" _ f_law_name _ := ok_law_name T
  have G_law_worth : Fk P w K mg base 2 "_law_worth" _ f_law_worth _ := ok_law_worth T
  have G_law_take : Fk P w K mg base 1 "_law_take" _ f_law_take _ := ok_law_take T
  obtain ⟨fd, F⟩ := T.d_law_leaf
  have F : FunD K "_law_leaf" "_law_leaf" (defArgs s_law_leaf) (defBody s_law_leaf) (defScope s_law_leaf) [] [] (ga K "_law_leaf") fd := F
  refine ⟨T.m_law_leaf, F.kp, fd, fn_body F sc_law_leaf fun cdv A outer s H E hr tk => ?_, ?_⟩
  · exact (sss_cons (ss_set (i := 2) sc_law_leaf.nd rfl (by first | exact Or.inl rfl | exact Or.inr rfl) (se_fk (ps := ["_law_state", "_law_many"]) G_law_take 0 (hr.mono (by decide)) tk (by exact rfl) (sa_cons (se_var (pv 0)) (sa_cons se_int sa_nil))))
  (sss_cons (ss_if (st_cmp op_lt op2_cmpI (se_var (pv 2)) se_int rfl) (sss_one (ss_ret (se_tup (sa_cons se_str (sa_cons (se_fk (ps := ["_law_state"]) G_law_worth 0 (hr.mono (by decide)) tk (by exact rfl) (sa_cons (se_var (pv 0)) sa_nil)) sa_nil))))) sss_nil)
  (sss_cons (ss_if (st_cmp (op_eqA (Rm.uu hr 64 (by decide))) op2_eq (se_var (pv 2)) se_int rfl) (sss_cons (ss_fzA (ss_setLc (i := 3) (S := [4]) (own := [("_law_head", 4)]) rfl sc_law_leaf.nd rfl rfl (by exact sw_true rfl rfl rfl rfl) (si_any (se_dget (Rm.uu hr 1 (by decide)) (se_var (pv 1)) se_str (fun _ _ => rfl))) (blk_of (N := N_law_leaf) (sc := (defScope s_law_leaf)) (by decide +kernel)) (by decide) (fun _ _ _ _ _ => by exact (sg_name (i := 4) sc_law_leaf.nd rfl (by first | exact Or.inl rfl | exact Or.inr rfl))) (fun _ _ _ _ _ => by exact (sts_one (st_cmp (op_eqA (Rm.uu hr 64 (by decide))) op2_eq (se_ix (se_var (pv 4)) se_int (fun _ _ => rfl)) se_int rfl))) (fun _ _ _ _ _ => by exact (se_ix (se_var (pv 4)) se_int (fun _ _ => rfl)))))
  (sss_cons (ss_if (st_tru (se_fk (ps := ["_law_state", "_law_kit"]) G_law_odd 0 (hr.mono (by decide)) tk (by exact rfl) (sa_cons (se_var (pv 0)) (sa_cons (se_var (pv 1)) sa_nil))) (fun _ => rfl)) (sss_one (ss_set (i := 3) sc_law_leaf.nd rfl (by first | exact Or.inl rfl | exact Or.inr rfl) (se_bin op_addA op2_addI (se_fz (se_lc (S := [4]) (own := [("_law_head", 4)]) rfl sc_law_leaf.nd (si_any (se_dget (Rm.uu hr 1 (by decide)) (se_var (pv 1)) se_str (fun _ _ => rfl))) (blk_of (N := N_law_leaf) (sc := (defScope s_law_leaf)) (by decide +kernel)) (by decide) (fun _ _ _ _ _ => by exact (sg_name (i := 4) sc_law_leaf.nd rfl (by first | exact Or.inl rfl | exact Or.inr rfl))) (fun _ _ _ _ _ => by exact sts_nil) (fun _ _ _ _ _ => by exact (se_ix (se_var (pv 4)) se_int (fun _ _ => rfl))))) (se_lstI (sa_cons (se_fk (ps := ["_law_state", "_law_had"]) G_law_name 0 (hr.mono (by decide)) tk (by exact rfl) (sa_cons (se_var (pv 0)) (sa_cons (se_lstI sa_nil) sa_nil))) sa_nil))))) sss_nil)
  (sss_one (ss_if (st_cmp (op_neA (Rm.uu hr 64 (by decide))) op2_ne (se_var (pv 3)) (se_lstI sa_nil) rfl) (sss_one (ss_ret (se_tup (sa_cons se_str (sa_cons (se_fk (ps := ["_law_state", "_law_some"]) G_law_pick 0 (hr.mono (by decide)) tk (by exact rfl) (sa_cons (se_var (pv 0)) (sa_cons (se_var (pv 3)) sa_nil))) sa_nil))))) sss_nil)))) sss_nil)
  (sss_cons (ss_if (sw_t (sw_and (st_cmp (op_eqA (Rm.uu hr 64 (by decide))) op2_eq (se_var (pv 2)) se_int rfl) (sw_and1 (sw_t (sw_or (st_tru (se_dget (Rm.uu hr 1 (by decide)) (se_var (pv 1)) se_str (fun _ _ => rfl)) (fun _ => rfl)) (sw_or1 (st_tru (se_fk (ps := ["_law_state", "_law_kit"]) G_law_odd 0 (hr.mono (by decide)) tk (by exact rfl) (sa_cons (se_var (pv 0)) (sa_cons (se_var (pv 1)) sa_nil))) (fun _ => rfl)))))))) (sss_one (ss_ret (se_tup (sa_cons se_str sa_nil)))) sss_nil)
  (sss_one (ss_ret (se_tup (sa_cons se_str (sa_cons (se_fk (ps := ["_law_state", "_law_kit"]) G_law_box 0 (hr.mono (by decide)) tk (by exact rfl) (sa_cons (se_var (pv 0)) (sa_cons (se_var (pv 1)) sa_nil))) sa_nil)))))))))
  · refine shs_all ⟨?_, trivial⟩
    · exact sh_all (F.bindsN fun _ _ _ _ _ _ us hl => match us, hl with | [_, _], _ => rfl) rfl
theorem okp_law_expression (T : Ts K mg) {lv : Nat} {F0 : List AV → Hs → R AV} (h : ∀ fd, FunD K "_law_expression" "_law_expression" (defArgs s_law_expression) (defBody s_law_expression) (defScope s_law_expression) [] [] (ga K "_law_expression") fd → FnG P w K mg base (CX P w) lv (ga K "_law_expression") fd ["_law_state", "_law_kit", "_law_deep"] (fsp K ["_law_state", "_law_kit", "_law_deep"].length F0)) : Fk P w K mg base lv "_law_expression" ["_law_state", "_law_kit", "_law_deep"] F0 [(3, [], gAll)] := by
  obtain ⟨fd, F⟩ := T.d_law_expression
  have F : FunD K "_law_expression" "_law_expression" (defArgs s_law_expression) (defBody s_law_expression) (defScope s_law_expression) [] [] (ga K "_law_expression") fd := F
  refine ⟨T.m_law_expression, F.kp, fd, h fd F, ?_⟩
  · refine shs_all ⟨?_, trivial⟩
    · exact sh_all (F.bindsN fun _ _ _ _ _ _ us hl => match us, hl with | [_, _, _], _ => rfl) rfl
theorem ring_law_expression (T : Ts K mg) : ∀ n : Nat, Fk P w K mg base (5 + n) "_law_expression" ["_law_state", "_law_kit", "_law_deep"] (ringF step_law_expression n 0) [(3, [], gAll)]
  | 0 => okp_law_expression T fun fd F => fnG_no
  | n + 1 => by
    have G_law_expression := ring_law_expression T n
    have G_law_pick : Fk P w K mg base 2 "_law_pick" _ f_law_pick _ := ok_law_pick T
    have G_law_odd : Fk P w K mg base 2 "_law_odd" _ f_law_odd _ := ok_law_odd T
    have G_law_leaf : Fk P w K mg base 4 "_law_leaf" _ f_law_leaf _ := ok_law_leaf T
    have G_law_take : Fk P w K mg base 1 "_law_take" _ f_law_take _ := ok_law_take T
    refine ?_
    · refine okp_law_expression T fun fd F => fn_body (k := 5 + n) F sc_law_expression fun cdv A outer s H E hr tk => ?_
      exact (sss_cons (ss_set (i := 3) sc_law_expression.nd rfl (by first | exact Or.inl rfl | exact Or.inr rfl) (se_fk (ps := ["_law_state", "_law_many"]) G_law_take 0 (hr.mono (by omega)) tk (by exact rfl) (sa_cons (se_var (pv 0)) (sa_cons se_int sa_nil))))
  (sss_cons (ss_if (sw_t (sw_or (st_cmp (op_eqA (Rm.uu hr 64 (by decide))) op2_eq (se_var (pv 2)) se_int rfl) (sw_or1 (st_cmp op_lt op2_cmpI (se_var (pv 3)) se_int rfl)))) (sss_one (ss_ret (se_fk (ps := ["_law_state", "_law_kit"]) G_law_leaf 0 (hr.mono (by omega)) tk (by exact rfl) (sa_cons (se_var (pv 0)) (sa_cons (se_var (pv 1)) sa_nil))))) sss_nil)
  (sss_cons (ss_if (sw_t (sw_and (st_cmp (op_eqA (Rm.uu hr 64 (by decide))) op2_eq (se_var (pv 3)) se_int rfl) (sw_and1 (sw_t (sw_or (st_tru (se_dget (Rm.uu hr 1 (by decide)) (se_var (pv 1)) se_str (fun _ _ => rfl)) (fun _ => rfl)) (sw_or1 (st_tru (se_fk (ps := ["_law_state", "_law_kit"]) G_law_odd 0 (hr.mono (by omega)) tk (by exact rfl) (sa_cons (se_var (pv 0)) (sa_cons (se_var (pv 1)) sa_nil))) (fun _ => rfl)))))))) (sss_one (ss_ret (se_tup (sa_cons se_str (sa_cons (se_fk (ps := ["_law_state", "_law_kit", "_law_deep"]) G_law_expression 0 (hr.mono (by omega)) tk (by exact rfl) (sa_cons (se_var (pv 0)) (sa_cons (se_var (pv 1)) (sa_cons (se_bin op_sub op2_sub (se_var (pv 2)) se_int) sa_nil)))) sa_nil))))) sss_nil)
  (sss_cons (ss_set (i := 4) sc_law_expression.nd rfl (by first | exact Or.inl rfl | exact Or.inr rfl) (se_fk (ps := ["_law_state", "_law_some"]) G_law_pick 0 (hr.mono (by omega)) tk (by exact rfl) (sa_cons (se_var (pv 0)) (sa_cons (se_lstI (sa_cons se_str (sa_cons se_str (sa_cons se_str (sa_cons se_str (sa_cons se_str sa_nil)))))) sa_nil))))
  (sss_cons (ss_set (i := 5) sc_law_expression.nd rfl (by first | exact Or.inl rfl | exact Or.inr rfl) (se_fk (ps := ["_law_state", "_law_kit", "_law_deep"]) G_law_expression 0 (hr.mono (by omega)) tk (by exact rfl) (sa_cons (se_var (pv 0)) (sa_cons (se_var (pv 1)) (sa_cons (se_bin op_sub op2_sub (se_var (pv 2)) se_int) sa_nil)))))
  (sss_one (ss_ret (se_tup (sa_cons (se_var (pv 4)) (sa_cons (se_var (pv 5)) (sa_cons (se_fk (ps := ["_law_state", "_law_kit", "_law_deep"]) G_law_expression 0 (hr.mono (by omega)) tk (by exact rfl) (sa_cons (se_var (pv 0)) (sa_cons (se_var (pv 1)) (sa_cons (se_bin op_sub op2_sub (se_var (pv 2)) se_int) sa_nil)))) sa_nil)))))))))))
theorem ok_law_expression (T : Ts K mg) : Fk P w K mg base 25 "_law_expression" ["_law_state", "_law_kit", "_law_deep"] f_law_expression [(3, [], gAll)] := (ring_law_expression T 20)
theorem ok_law_things (T : Ts K mg) : Fk P w K mg base 26 "_law_things" ["_law_state", "_law_kit", "_law_many"] f_law_things [(3, [], gAll)] := by
  have G_law_expression : Fk P w K mg base 25 "_law_expression" _ f_law_expression _ := ok_law_expression T
  have G_law_odd : Fk P w K mg base 2 "_law_odd" _ f_law_odd _ := ok_law_odd T
  have G_law_take : Fk P w K mg base 1 "_law_take" _ f_law_take _ := ok_law_take T
  obtain ⟨fd, F⟩ := T.d_law_things
  have F : FunD K "_law_things" "_law_things" (defArgs s_law_things) (defBody s_law_things) (defScope s_law_things) [] [] (ga K "_law_things") fd := F
  refine ⟨T.m_law_things, F.kp, fd, fn_body F sc_law_things fun cdv A outer s H E hr tk => ?_, ?_⟩
  · exact (sss_cons (ss_if (st_tru (se_fk (ps := ["_law_state", "_law_kit"]) G_law_odd 0 (hr.mono (by decide)) tk (by exact rfl) (sa_cons (se_var (pv 0)) (sa_cons (se_var (pv 1)) sa_nil))) (fun _ => rfl)) (sss_one (ss_set (i := 2) sc_law_things.nd rfl (by first | exact Or.inl rfl | exact Or.inr rfl) (se_blt (call_max2 rfl) opN_max2 (by exact rfl) T.n_max bo_max (sa_cons se_int (sa_cons (se_blt (call_min2 rfl) opN_min2 (by exact rfl) T.n_min bo_min (sa_cons se_int (sa_cons (se_bin op_sub op2_sub (se_bin op_addA op2_addI (se_var (pv 2)) se_int) (se_bin op_mulA op2_mul se_int (se_fk (ps := ["_law_state", "_law_many"]) G_law_take 0 (hr.mono (by decide)) tk (by exact rfl) (sa_cons (se_var (pv 0)) (sa_cons se_int sa_nil))))) sa_nil))) sa_nil))))) sss_nil)
  (sss_one (ss_ret (se_blty call_tuple_of opN_tuple (by exact rfl) T.n_tuple bo_tuple (sa_cons (se_fz (se_lc (S := [3]) (own := [("_law_k", 3)]) rfl sc_law_things.nd (si_range1 (by exact rfl) T.n_range (se_var (pv 2))) (blk_of (N := N_law_things) (sc := (defScope s_law_things)) (by decide +kernel)) (by decide) (fun _ _ _ _ _ => by exact (sg_name (i := 3) sc_law_things.nd rfl (by first | exact Or.inl rfl | exact Or.inr rfl))) (fun _ _ _ _ _ => by exact sts_nil) (fun _ _ _ _ _ => by exact (se_fk (ps := ["_law_state", "_law_kit", "_law_deep"]) G_law_expression 0 (hr.mono (by decide)) takesN (by exact rfl) (sa_cons (se_var (pv 0)) (sa_cons (se_var (pv 1)) (sa_cons se_int sa_nil))))))) sa_nil)))))
  · refine shs_all ⟨?_, trivial⟩
    · exact sh_all (F.bindsN fun _ _ _ _ _ _ us hl => match us, hl with | [_, _, _], _ => rfl) rfl
theorem ok_law_at (T : Ts K mg) : Fk P w K mg base 27 "_law_at" ["_law_state", "_law_kit"] f_law_at [(2, [], gAll)] := by
  have G_law_things : Fk P w K mg base 26 "_law_things" _ f_law_things _ := ok_law_things T
  have G_law_take : Fk P w K mg base 1 "_law_take" _ f_law_take _ := ok_law_take T
  have G_law_box : Fk P w K mg base 3 "_law_box" _ f_law_box _ := ok_law_box T
  have G_law_pick : Fk P w K mg base 2 "_law_pick" _ f_law_pick _ := ok_law_pick T
  obtain ⟨fd, F⟩ := T.d_law_at
  have F : FunD K "_law_at" "_law_at" (defArgs s_law_at) (defBody s_law_at) (defScope s_law_at) [] [] (ga K "_law_at") fd := F
  refine ⟨T.m_law_at, F.kp, fd, fn_body F sc_law_at fun cdv A outer s H E hr tk => ?_, ?_⟩
  · exact (sss_cons (ss_asg (se_fk (ps := ["_law_state", "_law_some"]) G_law_pick 0 (hr.mono (by decide)) tk (by exact rfl) (sa_cons (se_var (pv 0)) (sa_cons (se_dget (Rm.uu hr 1 (by decide)) (se_var (pv 1)) se_str (fun _ _ => rfl)) sa_nil))) (sg_tup rfl (sgs_cons (sg_name (i := 2) sc_law_at.nd rfl (by first | exact Or.inl rfl | exact Or.inr rfl)) (sgs_cons (sg_name (i := 3) sc_law_at.nd rfl (by first | exact Or.inl rfl | exact Or.inr rfl)) (sgs_cons (sg_name (i := 4) sc_law_at.nd rfl (by first | exact Or.inl rfl | exact Or.inr rfl)) (sgs_cons (sg_name (i := 5) sc_law_at.nd rfl (by first | exact Or.inl rfl | exact Or.inr rfl)) sgs_nil))))))
  (sss_cons (ss_set (i := 6) sc_law_at.nd rfl (by first | exact Or.inl rfl | exact Or.inr rfl) (se_tup (sa_cons se_str (sa_cons (se_fk (ps := ["_law_state", "_law_many"]) G_law_take 0 (hr.mono (by decide)) tk (by exact rfl) (sa_cons (se_var (pv 0)) (sa_cons (se_bin op_addA op2_add (se_blt op_lenA opN_len (by exact rfl) T.n_len bo_len (sa_cons (se_dget (Rm.uu hr 1 (by decide)) (se_var (pv 1)) se_str (fun _ _ => rfl)) sa_nil)) se_int) sa_nil))) sa_nil))))
  (sss_cons (ss_if (sw_t (sw_and (st_cmp (op_eqA (Rm.uu hr 64 (by decide))) op2_eq (se_var (pv 4)) se_int rfl) (sw_and1 (st_cmp op_gt op2_cmpI (se_fk (ps := ["_law_state", "_law_many"]) G_law_take 0 (hr.mono (by decide)) tk (by exact rfl) (sa_cons (se_var (pv 0)) (sa_cons se_int sa_nil))) se_int rfl)))) (sss_one (ss_set (i := 6) sc_law_at.nd rfl (by first | exact Or.inl rfl | exact Or.inr rfl) (se_tup (sa_cons se_str (sa_cons (se_var (pv 2)) sa_nil))))) sss_nil)
  (sss_cons (ss_set (i := 7) sc_law_at.nd rfl (by first | exact Or.inl rfl | exact Or.inr rfl) (se_bin op_addA op2_add (se_blt op_lenA opN_len (by exact rfl) T.n_len bo_len (sa_cons (se_var (pv 3)) sa_nil)) (se_bin op_mulA op2_mul (se_blty call_int1 opN_int (by exact rfl) T.n_int bo_int (sa_cons (se_var (pv 5)) sa_nil)) (se_fk (ps := ["_law_state", "_law_many"]) G_law_take 0 (hr.mono (by decide)) tk (by exact rfl) (sa_cons (se_var (pv 0)) (sa_cons se_int sa_nil))))))
  (sss_one (ss_ret (se_tup (sa_cons se_str (sa_cons (se_fk (ps := ["_law_state", "_law_kit"]) G_law_box 0 (hr.mono (by decide)) tk (by exact rfl) (sa_cons (se_var (pv 0)) (sa_cons (se_var (pv 1)) sa_nil))) (sa_cons (se_var (pv 6)) (sa_cons (se_fk (ps := ["_law_state", "_law_kit", "_law_many"]) G_law_things 0 (hr.mono (by decide)) tk (by exact rfl) (sa_cons (se_var (pv 0)) (sa_cons (se_var (pv 1)) (sa_cons (se_bin op_addA op2_add (se_var (pv 7)) (se_blty call_int1 opN_int (by exact rfl) T.n_int bo_int (sa_cons (se_cmp (op_eqA (Rm.uu hr 64 (by decide))) op2_eq (se_fk (ps := ["_law_state", "_law_many"]) G_law_take 0 (hr.mono (by decide)) tk (by exact rfl) (sa_cons (se_var (pv 0)) (sa_cons se_int sa_nil))) se_int rfl) sa_nil))) sa_nil)))) sa_nil)))))))))))
  · refine shs_all ⟨?_, trivial⟩
    · exact sh_all (F.bindsN fun _ _ _ _ _ _ us hl => match us, hl with | [_, _], _ => rfl) rfl
theorem ok_law_call (T : Ts K mg) : Fk P w K mg base 27 "_law_call" ["_law_state", "_law_kit"] f_law_call [(2, [], gAll)] := by
  have G_law_box : Fk P w K mg base 3 "_law_box" _ f_law_box _ := ok_law_box T
  have G_law_odd : Fk P w K mg base 2 "_law_odd" _ f_law_odd _ := ok_law_odd T
  have G_law_take : Fk P w K mg base 1 "_law_take" _ f_law_take _ := ok_law_take T
  have G_law_name : Fk P w K mg base 2 "_law_name" _ f_law_name _ := ok_law_name T
  have G_law_things : Fk P w K mg base 26 "_law_things" _ f_law_things _ := ok_law_things T
  have G_law_pick : Fk P w K mg base 2 "_law_pick" _ f_law_pick _ := ok_law_pick T
  have G_law_expression : Fk P w K mg base 25 "_law_expression" _ f_law_expression _ := ok_law_expression T
  obtain ⟨fd, F⟩ := T.d_law_call
  have F : FunD K "_law_call" "_law_call" (defArgs s_law_call) (defBody s_law_call) (defScope s_law_call) [] [] (ga K "_law_call") fd := F
  refine ⟨T.m_law_call, F.kp, fd, fn_body F sc_law_call fun cdv A outer s H E hr tk => ?_, ?_⟩
  · exact (sss_cons (ss_set (i := 2) sc_law_call.nd rfl (by first | exact Or.inl rfl | exact Or.inr rfl) (se_ite (st_cmp op_gt op2_cmpI (se_fk (ps := ["_law_state", "_law_many"]) G_law_take 0 (hr.mono (by decide)) tk (by exact rfl) (sa_cons (se_var (pv 0)) (sa_cons se_int sa_nil))) se_int rfl) (se_dget (Rm.uu hr 1 (by decide)) (se_var (pv 1)) se_str (fun _ _ => rfl)) (se_dget (Rm.uu hr 1 (by decide)) (se_var (pv 1)) se_str (fun _ _ => rfl))))
  (sss_cons (ss_if (st_cmp (op_eqA (Rm.uu hr 64 (by decide))) op2_eq (se_var (pv 2)) (se_lstI sa_nil) rfl) (sss_one (ss_ret (se_tup (sa_cons se_str (sa_cons (se_fk (ps := ["_law_state", "_law_kit"]) G_law_box 0 (hr.mono (by decide)) tk (by exact rfl) (sa_cons (se_var (pv 0)) (sa_cons (se_var (pv 1)) sa_nil))) (sa_cons (se_fk (ps := ["_law_state", "_law_kit", "_law_deep"]) G_law_expression 0 (hr.mono (by decide)) tk (by exact rfl) (sa_cons (se_var (pv 0)) (sa_cons (se_var (pv 1)) (sa_cons se_int sa_nil)))) sa_nil)))))) sss_nil)
  (sss_cons (ss_asg (se_fk (ps := ["_law_state", "_law_some"]) G_law_pick 0 (hr.mono (by decide)) tk (by exact rfl) (sa_cons (se_var (pv 0)) (sa_cons (se_var (pv 2)) sa_nil))) (sg_tup rfl (sgs_cons (sg_name (i := 3) sc_law_call.nd rfl (by first | exact Or.inl rfl | exact Or.inr rfl)) (sgs_cons (sg_name (i := 4) sc_law_call.nd rfl (by first | exact Or.inl rfl | exact Or.inr rfl)) (sgs_cons (sg_name (i := 5) sc_law_call.nd rfl (by first | exact Or.inl rfl | exact Or.inr rfl)) (sgs_cons (sg_name (i := 6) sc_law_call.nd rfl (by first | exact Or.inl rfl | exact Or.inr rfl)) sgs_nil))))))
  (sss_cons (ss_set (i := 7) sc_law_call.nd rfl (by first | exact Or.inl rfl | exact Or.inr rfl) (se_fk (ps := ["_law_state", "_law_kit", "_law_many"]) G_law_things 0 (hr.mono (by decide)) tk (by exact rfl) (sa_cons (se_var (pv 0)) (sa_cons (se_var (pv 1)) (sa_cons (se_bin op_addA op2_add (se_blt op_lenA opN_len (by exact rfl) T.n_len bo_len (sa_cons (se_var (pv 4)) sa_nil)) (se_bin op_mulA op2_mul (se_blty call_int1 opN_int (by exact rfl) T.n_int bo_int (sa_cons (se_var (pv 6)) sa_nil)) (se_fk (ps := ["_law_state", "_law_many"]) G_law_take 0 (hr.mono (by decide)) tk (by exact rfl) (sa_cons (se_var (pv 0)) (sa_cons se_int sa_nil))))) sa_nil)))))
  (sss_cons (ss_if (st_tru (se_fk (ps := ["_law_state", "_law_kit"]) G_law_odd 0 (hr.mono (by decide)) tk (by exact rfl) (sa_cons (se_var (pv 0)) (sa_cons (se_var (pv 1)) sa_nil))) (fun _ => rfl)) (sss_one (ss_set (i := 3) sc_law_call.nd rfl (by first | exact Or.inl rfl | exact Or.inr rfl) (se_fk (ps := ["_law_state", "_law_had"]) G_law_name 0 (hr.mono (by decide)) tk (by exact rfl) (sa_cons (se_var (pv 0)) (sa_cons (se_lstI sa_nil) sa_nil))))) sss_nil)
  (sss_cons (ss_if (st_tru (se_fk (ps := ["_law_state", "_law_kit"]) G_law_odd 0 (hr.mono (by decide)) tk (by exact rfl) (sa_cons (se_var (pv 0)) (sa_cons (se_var (pv 1)) sa_nil))) (fun _ => rfl)) (sss_one (ss_set (i := 5) sc_law_call.nd rfl (by first | exact Or.inl rfl | exact Or.inr rfl) (se_blt (call_max2 rfl) opN_max2 (by exact rfl) T.n_max bo_max (sa_cons se_int (sa_cons (se_bin op_sub op2_sub (se_bin op_addA op2_addI (se_var (pv 5)) se_int) (se_bin op_mulA op2_mul se_int (se_fk (ps := ["_law_state", "_law_many"]) G_law_take 0 (hr.mono (by decide)) tk (by exact rfl) (sa_cons (se_var (pv 0)) (sa_cons se_int sa_nil))))) sa_nil))))) sss_nil)
  (sss_one (ss_ret (se_tup (sa_cons se_str (sa_cons (se_blty call_tuple_of opN_tuple (by exact rfl) T.n_tuple bo_tuple (sa_cons (se_fz (se_lc (S := [8]) (own := [("_law_k", 8)]) rfl sc_law_call.nd (si_range1 (by exact rfl) T.n_range (se_var (pv 5))) (blk_of (N := N_law_call) (sc := (defScope s_law_call)) (by decide +kernel)) (by decide) (fun _ _ _ _ _ => by exact (sg_name (i := 8) sc_law_call.nd rfl (by first | exact Or.inl rfl | exact Or.inr rfl))) (fun _ _ _ _ _ => by exact sts_nil) (fun _ _ _ _ _ => by exact (se_fk (ps := ["_law_state", "_law_kit"]) G_law_box 0 (hr.mono (by decide)) takesN (by exact rfl) (sa_cons (se_var (pv 0)) (sa_cons (se_var (pv 1)) sa_nil)))))) sa_nil)) (sa_cons (se_var (pv 3)) (sa_cons (se_var (pv 7)) sa_nil)))))))))))))
  · refine shs_all ⟨?_, trivial⟩
    · exact sh_all (F.bindsN fun _ _ _ _ _ _ us hl => match us, hl with | [_, _], _ => rfl) rfl
theorem ok_law_simple (T : Ts K mg) : Fk P w K mg base 28 "_law_simple" ["_law_state", "_law_kit", "_law_kind_here"] f_law_simple [(3, [], gAll)] := by
  have G_law_expression : Fk P w K mg base 25 "_law_expression" _ f_law_expression _ := ok_law_expression T
  have G_law_things : Fk P w K mg base 26 "_law_things" _ f_law_things _ := ok_law_things T
  have G_law_at : Fk P w K mg base 27 "_law_at" _ f_law_at _ := ok_law_at T
  have G_law_call : Fk P w K mg base 27 "_law_call" _ f_law_call _ := ok_law_call T
  have G_law_box : Fk P w K mg base 3 "_law_box" _ f_law_box _ := ok_law_box T
  obtain ⟨fd, F⟩ := T.d_law_simple
  have F : FunD K "_law_simple" "_law_simple" (defArgs s_law_simple) (defBody s_law_simple) (defScope s_law_simple) [] [] (ga K "_law_simple") fd := F
  refine ⟨T.m_law_simple, F.kp, fd, fn_body F sc_law_simple fun cdv A outer s H E hr tk => ?_, ?_⟩
  · exact (sss_cons (ss_if (st_cmp op_lt op2_cmpI (se_var (pv 2)) se_int rfl) (sss_one (ss_ret (se_tup (sa_cons se_str (sa_cons (se_fk (ps := ["_law_state", "_law_kit"]) G_law_box 0 (hr.mono (by decide)) tk (by exact rfl) (sa_cons (se_var (pv 0)) (sa_cons (se_var (pv 1)) sa_nil))) (sa_cons (se_fk (ps := ["_law_state", "_law_kit", "_law_deep"]) G_law_expression 0 (hr.mono (by decide)) tk (by exact rfl) (sa_cons (se_var (pv 0)) (sa_cons (se_var (pv 1)) (sa_cons se_int sa_nil)))) sa_nil)))))) sss_nil)
  (sss_cons (ss_if (st_cmp op_lt op2_cmpI (se_var (pv 2)) se_int rfl) (sss_one (ss_ret (se_tup (sa_cons se_str (sa_cons (se_fk (ps := ["_law_state", "_law_kit", "_law_deep"]) G_law_expression 0 (hr.mono (by decide)) tk (by exact rfl) (sa_cons (se_var (pv 0)) (sa_cons (se_var (pv 1)) (sa_cons se_int sa_nil)))) sa_nil))))) sss_nil)
  (sss_cons (ss_if (st_cmp op_lt op2_cmpI (se_var (pv 2)) se_int rfl) (sss_one (ss_ret (se_fk (ps := ["_law_state", "_law_kit"]) G_law_call 0 (hr.mono (by decide)) tk (by exact rfl) (sa_cons (se_var (pv 0)) (sa_cons (se_var (pv 1)) sa_nil))))) sss_nil)
  (sss_cons (ss_if (st_cmp (op_eqA (Rm.uu hr 64 (by decide))) op2_eq (se_var (pv 2)) se_int rfl) (sss_one (ss_ret (se_fk (ps := ["_law_state", "_law_kit"]) G_law_at 0 (hr.mono (by decide)) tk (by exact rfl) (sa_cons (se_var (pv 0)) (sa_cons (se_var (pv 1)) sa_nil))))) sss_nil)
  (sss_cons (ss_if (st_cmp (op_eqA (Rm.uu hr 64 (by decide))) op2_eq (se_var (pv 2)) se_int rfl) (sss_one (ss_ret (se_tup (sa_cons se_str (sa_cons (se_fk (ps := ["_law_state", "_law_kit", "_law_many"]) G_law_things 0 (hr.mono (by decide)) tk (by exact rfl) (sa_cons (se_var (pv 0)) (sa_cons (se_var (pv 1)) (sa_cons (se_dget (Rm.uu hr 1 (by decide)) (se_var (pv 1)) se_str (fun _ _ => rfl)) sa_nil)))) sa_nil))))) sss_nil)
  (sss_one (ss_ret (se_tup (sa_cons se_str (sa_cons (se_fk (ps := ["_law_state", "_law_kit", "_law_deep"]) G_law_expression 0 (hr.mono (by decide)) tk (by exact rfl) (sa_cons (se_var (pv 0)) (sa_cons (se_var (pv 1)) (sa_cons se_int sa_nil)))) sa_nil))))))))))
  · refine shs_all ⟨?_, trivial⟩
    · exact sh_all (F.bindsN fun _ _ _ _ _ _ us hl => match us, hl with | [_, _, _], _ => rfl) rfl
theorem okp_law_body (T : Ts K mg) {lv : Nat} {F0 : List AV → Hs → R AV} (h : ∀ fd, FunD K "_law_body" "_law_body" (defArgs s_law_body) (defBody s_law_body) (defScope s_law_body) [] [] (ga K "_law_body") fd → FnG P w K mg base (CX P w) lv (ga K "_law_body") fd ["_law_state", "_law_kit", "_law_deep"] (fsp K ["_law_state", "_law_kit", "_law_deep"].length F0)) : Fk P w K mg base lv "_law_body" ["_law_state", "_law_kit", "_law_deep"] F0 [(3, [], gAll)] := by
  obtain ⟨fd, F⟩ := T.d_law_body
  have F : FunD K "_law_body" "_law_body" (defArgs s_law_body) (defBody s_law_body) (defScope s_law_body) [] [] (ga K "_law_body") fd := F
  refine ⟨T.m_law_body, F.kp, fd, h fd F, ?_⟩
  · refine shs_all ⟨?_, trivial⟩
    · exact sh_all (F.bindsN fun _ _ _ _ _ _ us hl => match us, hl with | [_, _, _], _ => rfl) rfl
theorem okp_law_statement (T : Ts K mg) {lv : Nat} {F0 : List AV → Hs → R AV} (h : ∀ fd, FunD K "_law_statement" "_law_statement" (defArgs s_law_statement) (defBody s_law_statement) (defScope s_law_statement) [] [] (ga K "_law_statement") fd → FnG P w K mg base (CX P w) lv (ga K "_law_statement") fd ["_law_state", "_law_kit", "_law_deep"] (fsp K ["_law_state", "_law_kit", "_law_deep"].length F0)) : Fk P w K mg base lv "_law_statement" ["_law_state", "_law_kit", "_law_deep"] F0 [(3, [], gAll)] := by
  obtain ⟨fd, F⟩ := T.d_law_statement
  have F : FunD K "_law_statement" "_law_statement" (defArgs s_law_statement) (defBody s_law_statement) (defScope s_law_statement) [] [] (ga K "_law_statement") fd := F
  refine ⟨T.m_law_statement, F.kp, fd, h fd F, ?_⟩
  · refine shs_all ⟨?_, trivial⟩
    · exact sh_all (F.bindsN fun _ _ _ _ _ _ us hl => match us, hl with | [_, _, _], _ => rfl) rfl
theorem ring_law_body (T : Ts K mg) : ∀ n : Nat, Fk P w K mg base (29 + n) "_law_body" ["_law_state", "_law_kit", "_law_deep"] (ringF step_law_body n 0) [(3, [], gAll)] ∧ Fk P w K mg base (29 + n) "_law_statement" ["_law_state", "_law_kit", "_law_deep"] (ringF step_law_body n 1) [(3, [], gAll)]
  | 0 => ⟨okp_law_body T fun fd F => fnG_no, okp_law_statement T fun fd F => fnG_no⟩
  | n + 1 => by
    obtain ⟨G_law_body, G_law_statement⟩ := ring_law_body T n
    have G_law_take : Fk P w K mg base 1 "_law_take" _ f_law_take _ := ok_law_take T
    have G_law_pick : Fk P w K mg base 2 "_law_pick" _ f_law_pick _ := ok_law_pick T
    have G_law_expression : Fk P w K mg base 25 "_law_expression" _ f_law_expression _ := ok_law_expression T
    have G_law_box : Fk P w K mg base 3 "_law_box" _ f_law_box _ := ok_law_box T
    have G_law_simple : Fk P w K mg base 28 "_law_simple" _ f_law_simple _ := ok_law_simple T
    refine ⟨?_, ?_⟩
    · refine okp_law_body T fun fd F => fn_body (k := 29 + n) F sc_law_body fun cdv A outer s H E hr tk => ?_
      exact (sss_cons (ss_set (i := 3) sc_law_body.nd rfl (by first | exact Or.inl rfl | exact Or.inr rfl) (se_lst sa_nil))
  (sss_cons (ss_for (passes_of rfl) rfl (si_range1 (by exact rfl) T.n_range (se_fk (ps := ["_law_state", "_law_many"]) G_law_take 0 (hr.mono (by omega)) tk (by exact rfl) (sa_cons (se_var (pv 0)) (sa_cons (se_bin op_addA op2_add se_int (se_var (pv 2))) sa_nil)))) (sg_name (i := 4) sc_law_body.nd rfl (by first | exact Or.inl rfl | exact Or.inr rfl)) (sss_one (ss_if (st_cmp op_gt op2_cmpI (se_ix (se_dget (Rm.uu hr 1 (by decide)) (se_var (pv 1)) se_str (fun _ _ => rfl)) se_int (fun _ _ => rfl)) se_int rfl) (sss_cons (ss_asg (S := []) (se_bin op_sub op2_sub (se_ix (se_dget (Rm.uu hr 1 (by decide)) (se_var (pv 1)) se_str (fun _ _ => rfl)) se_int (fun _ _ => rfl)) se_int) (sg_ls (se_dget (Rm.uu hr 1 (by decide)) (se_var (pv 1)) se_str (fun _ _ => rfl)) se_int))
  (sss_one (ss_expr (se_bm tyM_l opM_app PySem.F.plainAttrs_list PySem.F.slot_list_append PySem.F.type_list_append mt_append (se_var (pv 3)) (sa_cons (se_fk (ps := ["_law_state", "_law_kit", "_law_deep"]) G_law_statement 0 (hr.mono (by omega)) tk (by exact rfl) (sa_cons (se_var (pv 0)) (sa_cons (se_var (pv 1)) (sa_cons (se_var (pv 2)) sa_nil)))) sa_nil))))) sss_nil)))
  (sss_one (ss_ret (se_blty call_tuple_of opN_tuple (by exact rfl) T.n_tuple bo_tuple (sa_cons (se_var (pv 3)) sa_nil))))))
    · refine okp_law_statement T fun fd F => fn_body (k := 29 + n) F sc_law_statement fun cdv A outer s H E hr tk => ?_
      exact (sss_cons (ss_set (i := 3) sc_law_statement.nd rfl (by first | exact Or.inl rfl | exact Or.inr rfl) (se_fk (ps := ["_law_state", "_law_many"]) G_law_take 0 (hr.mono (by omega)) tk (by exact rfl) (sa_cons (se_var (pv 0)) (sa_cons se_int sa_nil))))
  (sss_cons (ss_if (sw_t (sw_or (st_cmp (op_eqA (Rm.uu hr 64 (by decide))) op2_eq (se_var (pv 2)) se_int rfl) (sw_or1 (st_cmp op_lt op2_cmpI (se_var (pv 3)) se_int rfl)))) (sss_one (ss_ret (se_fk (ps := ["_law_state", "_law_kit", "_law_kind_here"]) G_law_simple 0 (hr.mono (by omega)) tk (by exact rfl) (sa_cons (se_var (pv 0)) (sa_cons (se_var (pv 1)) (sa_cons (se_bin op_mod op2_mod (se_var (pv 3)) se_int) sa_nil)))))) sss_nil)
  (sss_cons (ss_if (st_cmp (op_eqA (Rm.uu hr 64 (by decide))) op2_eq (se_var (pv 3)) se_int rfl) (sss_cons (ss_set (i := 4) sc_law_statement.nd rfl (by first | exact Or.inl rfl | exact Or.inr rfl) (se_fk (ps := ["_law_state", "_law_kit", "_law_deep"]) G_law_body 0 (hr.mono (by omega)) tk (by exact rfl) (sa_cons (se_var (pv 0)) (sa_cons (se_var (pv 1)) (sa_cons (se_bin op_sub op2_sub (se_var (pv 2)) se_int) sa_nil)))))
  (sss_cons (ss_set (i := 5) sc_law_statement.nd rfl (by first | exact Or.inl rfl | exact Or.inr rfl) (se_fk (ps := ["_law_state", "_law_kit"]) G_law_box 0 (hr.mono (by omega)) tk (by exact rfl) (sa_cons (se_var (pv 0)) (sa_cons (se_var (pv 1)) sa_nil))))
  (sss_one (ss_ret (se_tup (sa_cons se_str (sa_cons (se_var (pv 4)) (sa_cons (se_var (pv 5)) (sa_cons (se_fk (ps := ["_law_state", "_law_kit", "_law_deep"]) G_law_body 0 (hr.mono (by omega)) tk (by exact rfl) (sa_cons (se_var (pv 0)) (sa_cons (se_var (pv 1)) (sa_cons (se_bin op_sub op2_sub (se_var (pv 2)) se_int) sa_nil)))) sa_nil))))))))) sss_nil)
  (sss_cons (ss_set (i := 6) sc_law_statement.nd rfl (by first | exact Or.inl rfl | exact Or.inr rfl) (se_fk (ps := ["_law_state", "_law_kit", "_law_deep"]) G_law_expression 0 (hr.mono (by omega)) tk (by exact rfl) (sa_cons (se_var (pv 0)) (sa_cons (se_var (pv 1)) (sa_cons se_int sa_nil)))))
  (sss_cons (ss_set (i := 7) sc_law_statement.nd rfl (by first | exact Or.inl rfl | exact Or.inr rfl) (se_fk (ps := ["_law_state", "_law_kit", "_law_deep"]) G_law_body 0 (hr.mono (by omega)) tk (by exact rfl) (sa_cons (se_var (pv 0)) (sa_cons (se_var (pv 1)) (sa_cons (se_bin op_sub op2_sub (se_var (pv 2)) se_int) sa_nil)))))
  (sss_cons (ss_if (st_cmp (op_eqA (Rm.uu hr 64 (by decide))) op2_eq (se_var (pv 3)) se_int rfl) (sss_cons (ss_set (i := 8) sc_law_statement.nd rfl (by first | exact Or.inl rfl | exact Or.inr rfl) (se_fk (ps := ["_law_state", "_law_some"]) G_law_pick 0 (hr.mono (by omega)) tk (by exact rfl) (sa_cons (se_var (pv 0)) (sa_cons (se_dget (Rm.uu hr 1 (by decide)) (se_var (pv 1)) se_str (fun _ _ => rfl)) sa_nil))))
  (sss_cons (ss_if (st_cmp (op_eqA (Rm.uu hr 64 (by decide))) op2_eq (se_fk (ps := ["_law_state", "_law_many"]) G_law_take 0 (hr.mono (by omega)) tk (by exact rfl) (sa_cons (se_var (pv 0)) (sa_cons se_int sa_nil))) se_int rfl) (sss_one (ss_ret (se_tup (sa_cons se_str (sa_cons (se_var (pv 6)) (sa_cons (se_var (pv 7)) sa_nil)))))) sss_nil)
  (sss_cons (ss_set (i := 9) sc_law_statement.nd rfl (by first | exact Or.inl rfl | exact Or.inr rfl) (se_tup (sa_cons se_str (sa_cons (se_var (pv 8)) (sa_cons (se_tup (sa_cons se_str (sa_cons (se_tup (sa_cons se_str (sa_cons (se_var (pv 8)) sa_nil))) (sa_cons (se_tup (sa_cons se_str (sa_cons se_int sa_nil))) sa_nil)))) sa_nil)))))
  (sss_one (ss_ret (se_tup (sa_cons se_str (sa_cons (se_tup (sa_cons se_str (sa_cons (se_tup (sa_cons se_str (sa_cons (se_var (pv 8)) sa_nil))) (sa_cons (se_tup (sa_cons se_str (sa_cons (se_fk (ps := ["_law_state", "_law_many"]) G_law_take 0 (hr.mono (by omega)) tk (by exact rfl) (sa_cons (se_var (pv 0)) (sa_cons se_int sa_nil))) sa_nil))) sa_nil)))) (sa_cons (se_bin op_addA op2_addI (se_var (pv 7)) (se_tup (sa_cons (se_var (pv 9)) sa_nil))) sa_nil))))))))) sss_nil)
  (sss_one (ss_ret (se_tup (sa_cons se_str (sa_cons (se_var (pv 6)) (sa_cons (se_var (pv 7)) (sa_cons (se_fk (ps := ["_law_state", "_law_kit", "_law_deep"]) G_law_body 0 (hr.mono (by omega)) tk (by exact rfl) (sa_cons (se_var (pv 0)) (sa_cons (se_var (pv 1)) (sa_cons (se_bin op_sub op2_sub (se_var (pv 2)) se_int) sa_nil)))) sa_nil)))))))))))))
theorem ok_law_body (T : Ts K mg) : Fk P w K mg base 49 "_law_body" ["_law_state", "_law_kit", "_law_deep"] f_law_body [(3, [], gAll)] := (ring_law_body T 20).1
theorem ok_law_unlike (T : Ts K mg) : Fk P w K mg base 3 "_law_unlike" ["_law_state", "_law_many"] f_law_unlike [(2, [], gAll)] := by
  have G_law_name : Fk P w K mg base 2 "_law_name" _ f_law_name _ := ok_law_name T
  obtain ⟨fd, F⟩ := T.d_law_unlike
  have F : FunD K "_law_unlike" "_law_unlike" (defArgs s_law_unlike) (defBody s_law_unlike) (defScope s_law_unlike) [] [] (ga K "_law_unlike") fd := F
  refine ⟨T.m_law_unlike, F.kp, fd, fn_body F sc_law_unlike fun cdv A outer s H E hr tk => ?_, ?_⟩
  · exact (sss_cons (ss_set (i := 2) sc_law_unlike.nd rfl (by first | exact Or.inl rfl | exact Or.inr rfl) (se_lst sa_nil))
  (sss_cons (ss_for (passes_of rfl) rfl (si_range1 (by exact rfl) T.n_range (se_var (pv 1))) (sg_name (i := 3) sc_law_unlike.nd rfl (by first | exact Or.inl rfl | exact Or.inr rfl)) (sss_one (ss_expr (se_bm tyM_l opM_app PySem.F.plainAttrs_list PySem.F.slot_list_append PySem.F.type_list_append mt_append (se_var (pv 2)) (sa_cons (se_fk (ps := ["_law_state", "_law_had"]) G_law_name 0 (hr.mono (by decide)) tk (by exact rfl) (sa_cons (se_var (pv 0)) (sa_cons (se_var (pv 2)) sa_nil))) sa_nil)))))
  (sss_one (ss_ret (se_var (pv 2))))))
  · refine shs_all ⟨?_, trivial⟩
    · exact sh_all (F.bindsN fun _ _ _ _ _ _ us hl => match us, hl with | [_, _], _ => rfl) rfl
theorem ok_law_heads (T : Ts K mg) : Fk P w K mg base 4 "_law_heads" ["_law_state", "_law_boxes"] f_law_heads [(2, [], gAll)] := by
  have G_law_take : Fk P w K mg base 1 "_law_take" _ f_law_take _ := ok_law_take T
  have G_law_unlike : Fk P w K mg base 3 "_law_unlike" _ f_law_unlike _ := ok_law_unlike T
  obtain ⟨fd, F⟩ := T.d_law_heads
  have F : FunD K "_law_heads" "_law_heads" (defArgs s_law_heads) (defBody s_law_heads) (defScope s_law_heads) [] [] (ga K "_law_heads") fd := F
  refine ⟨T.m_law_heads, F.kp, fd, fn_body F sc_law_heads fun cdv A outer s H E hr tk => ?_, ?_⟩
  · exact (sss_cons (ss_set (i := 2) sc_law_heads.nd rfl (by first | exact Or.inl rfl | exact Or.inr rfl) (se_lst sa_nil))
  (sss_cons (ss_set (i := 3) sc_law_heads.nd rfl (by first | exact Or.inl rfl | exact Or.inr rfl) (se_fk (ps := ["_law_state", "_law_many"]) G_law_unlike 0 (hr.mono (by decide)) tk (by exact rfl) (sa_cons (se_var (pv 0)) (sa_cons (se_bin op_addA op2_add se_int (se_fk (ps := ["_law_state", "_law_many"]) G_law_take 0 (hr.mono (by decide)) tk (by exact rfl) (sa_cons (se_var (pv 0)) (sa_cons se_int sa_nil)))) sa_nil))))
  (sss_cons (ss_for (passes_of rfl) rfl (si_enum (by exact rfl) T.n_enumerate (se_var (pv 3))) (sg_tup rfl (sgs_cons (sg_name (i := 4) sc_law_heads.nd rfl (by first | exact Or.inl rfl | exact Or.inr rfl)) (sgs_cons (sg_name (i := 5) sc_law_heads.nd rfl (by first | exact Or.inl rfl | exact Or.inr rfl)) sgs_nil))) (sss_cons (ss_set (i := 6) sc_law_heads.nd rfl (by first | exact Or.inl rfl | exact Or.inr rfl) (se_blty call_tuple_of opN_tuple (by exact rfl) T.n_tuple bo_tuple (sa_cons (se_fz (se_slice (se_fz (se_slice (se_var (pv 1)) (so_some (se_fk (ps := ["_law_state", "_law_many"]) G_law_take 0 (hr.mono (by decide)) tk (by exact rfl) (sa_cons (se_var (pv 0)) (sa_cons se_int sa_nil)))) so_none)) so_none (so_some (se_fk (ps := ["_law_state", "_law_many"]) G_law_take 0 (hr.mono (by decide)) tk (by exact rfl) (sa_cons (se_var (pv 0)) (sa_cons se_int sa_nil)))))) sa_nil)))
  (sss_one (ss_expr (se_bm tyM_l opM_app PySem.F.plainAttrs_list PySem.F.slot_list_append PySem.F.type_list_append mt_append (se_var (pv 2)) (sa_cons (se_tup (sa_cons (se_var (pv 5)) (sa_cons (se_var (pv 6)) (sa_cons (se_ix (se_lstI (sa_cons se_int (sa_cons se_int (sa_cons se_int (sa_cons se_int (sa_cons se_int sa_nil)))))) (se_fk (ps := ["_law_state", "_law_many"]) G_law_take 0 (hr.mono (by decide)) tk (by exact rfl) (sa_cons (se_var (pv 0)) (sa_cons se_int sa_nil))) (fun _ _ => rfl)) (sa_cons (se_and (se_cmp op_gt op2_cmpI (se_var (pv 4)) se_int rfl) (se_one (se_cmp (op_eqA (Rm.uu hr 64 (by decide))) op2_eq (se_fk (ps := ["_law_state", "_law_many"]) G_law_take 0 (hr.mono (by decide)) tk (by exact rfl) (sa_cons (se_var (pv 0)) (sa_cons se_int sa_nil))) se_int rfl))) sa_nil))))) sa_nil))))))
  (sss_one (ss_ret (se_var (pv 2)))))))
  · refine shs_all ⟨?_, trivial⟩
    · exact sh_all (F.bindsN fun _ _ _ _ _ _ us hl => match us, hl with | [_, _], _ => rfl) rfl
theorem ok_law_drawn (T : Ts K mg) : Fk P w K mg base 50 "_law_drawn" ["_law_state", "_law_odd_here"] f_law_drawn [(2, [], gAll)] := by
  have G_law_body : Fk P w K mg base 49 "_law_body" _ f_law_body _ := ok_law_body T
  have G_law_take : Fk P w K mg base 1 "_law_take" _ f_law_take _ := ok_law_take T
  have G_law_heads : Fk P w K mg base 4 "_law_heads" _ f_law_heads _ := ok_law_heads T
  have G_law_unlike : Fk P w K mg base 3 "_law_unlike" _ f_law_unlike _ := ok_law_unlike T
  obtain ⟨fd, F⟩ := T.d_law_drawn
  have F : FunD K "_law_drawn" "_law_drawn" (defArgs s_law_drawn) (defBody s_law_drawn) (defScope s_law_drawn) [] [] (ga K "_law_drawn") fd := F
  refine ⟨T.m_law_drawn, F.kp, fd, fn_body F sc_law_drawn fun cdv A outer s H E hr tk => ?_, ?_⟩
  · exact (sss_cons (ss_set (i := 2) sc_law_drawn.nd rfl (by first | exact Or.inl rfl | exact Or.inr rfl) (se_fk (ps := ["_law_state", "_law_many"]) G_law_unlike 0 (hr.mono (by decide)) tk (by exact rfl) (sa_cons (se_var (pv 0)) (sa_cons se_int sa_nil))))
  (sss_cons (ss_set (i := 3) sc_law_drawn.nd rfl (by first | exact Or.inl rfl | exact Or.inr rfl) (se_fk (ps := ["_law_state", "_law_boxes"]) G_law_heads 0 (hr.mono (by decide)) tk (by exact rfl) (sa_cons (se_var (pv 0)) (sa_cons (se_var (pv 2)) sa_nil))))
  (sss_cons (ss_set (i := 4) sc_law_drawn.nd rfl (by first | exact Or.inl rfl | exact Or.inr rfl) (se_ix (se_lstI (sa_cons se_str (sa_cons se_str (sa_cons se_str (sa_cons se_str (sa_cons se_str (sa_cons se_str sa_nil))))))) (se_fk (ps := ["_law_state", "_law_many"]) G_law_take 0 (hr.mono (by decide)) tk (by exact rfl) (sa_cons (se_var (pv 0)) (sa_cons se_int sa_nil))) (fun _ _ => rfl)))
  (sss_cons (ss_set (i := 5) sc_law_drawn.nd rfl (by first | exact Or.inl rfl | exact Or.inr rfl) (se_lst sa_nil))
  (sss_cons (ss_set (i := 6) sc_law_drawn.nd rfl (by first | exact Or.inl rfl | exact Or.inr rfl) (se_lst (sa_cons se_int sa_nil)))
  (sss_cons (ss_for (passes_of rfl) rfl (si_enum (by exact rfl) T.n_enumerate (se_var (pv 3))) (sg_tup rfl (sgs_cons (sg_name (i := 7) sc_law_drawn.nd rfl (by first | exact Or.inl rfl | exact Or.inr rfl)) (sgs_cons (sg_tup rfl (sgs_cons (sg_name (i := 8) sc_law_drawn.nd rfl (by first | exact Or.inl rfl | exact Or.inr rfl)) (sgs_cons (sg_name (i := 9) sc_law_drawn.nd rfl (by first | exact Or.inl rfl | exact Or.inr rfl)) (sgs_cons (sg_name (i := 10) sc_law_drawn.nd rfl (by first | exact Or.inl rfl | exact Or.inr rfl)) (sgs_cons (sg_name (i := 11) sc_law_drawn.nd rfl (by first | exact Or.inl rfl | exact Or.inr rfl)) sgs_nil))))) sgs_nil))) (sss_cons (ss_set (i := 12) sc_law_drawn.nd rfl (by first | exact Or.inl rfl | exact Or.inr rfl) (se_dict (SPs.cons se_str (se_var (pv 3)) (SPs.cons se_str (se_slice (se_var (pv 3)) (so_some (se_bin op_addA op2_add (se_var (pv 7)) se_int)) so_none) (SPs.cons se_str (se_var (pv 2)) (SPs.cons se_str (se_var (pv 11)) SPs.nil)))) rfl rfl (by decide) (by decide)))
  (sss_cons (ss_expr (se_bm tyM_d opM_dupd PySem.F.plainAttrs_dict PySem.F.slot_dict_update PySem.F.type_dict_update mt_dupd (se_var (pv 12)) (sa_cons (se_fz (se_dict (SPs.cons se_str (se_var (pv 10)) (SPs.cons se_str (se_var (pv 1)) (SPs.cons se_str (se_var (pv 6)) (SPs.cons se_str (se_var (pv 4)) SPs.nil)))) rfl rfl (by decide) (by decide))) sa_nil)))
  (sss_one (ss_expr (se_bm tyM_l opM_app PySem.F.plainAttrs_list PySem.F.slot_list_append PySem.F.type_list_append mt_append (se_var (pv 5)) (sa_cons (se_tup (sa_cons (se_var (pv 8)) (sa_cons (se_var (pv 9)) (sa_cons (se_fk (ps := ["_law_state", "_law_kit", "_law_deep"]) G_law_body 0 (hr.mono (by decide)) tk (by exact rfl) (sa_cons (se_var (pv 0)) (sa_cons (se_var (pv 12)) (sa_cons se_int sa_nil)))) (sa_cons (se_var (pv 10)) (sa_cons (se_var (pv 11)) sa_nil)))))) sa_nil)))))))
  (sss_one (ss_ret (se_fz (se_var (pv 5)))))))))))
  · refine shs_all ⟨?_, trivial⟩
    · exact sh_all (F.bindsN fun _ _ _ _ _ _ us hl => match us, hl with | [_, _], _ => rfl) rfl
theorem ok_law_begun (T : Ts K mg) : Fk P w K mg base 1 "_law_begun" ["_law_script"] f_law_begun [(1, [], gAll)] := by
  obtain ⟨fd, F⟩ := T.d_law_begun
  have F : FunD K "_law_begun" "_law_begun" (defArgs s_law_begun) (defBody s_law_begun) (defScope s_law_begun) [] [] (ga K "_law_begun") fd := F
  refine ⟨T.m_law_begun, F.kp, fd, fn_body F sc_law_begun fun cdv A outer s H E hr tk => ?_, ?_⟩
  · exact (sss_one (ss_ret (se_dict (SPs.cons se_str (se_lc (S := [1]) (own := [("_law_cell", 1)]) rfl sc_law_begun.nd (si_any (se_var (pv 0))) (blk_of (N := N_law_begun) (sc := (defScope s_law_begun)) (by decide +kernel)) (by decide) (fun _ _ _ _ _ => by exact (sg_name (i := 1) sc_law_begun.nd rfl (by first | exact Or.inl rfl | exact Or.inr rfl))) (fun _ _ _ _ _ => by exact (sts_one (st_cmp op_ge op2_cmpI (se_var (pv 1)) (se_bin op_pow op2_pow se_int se_int) rfl))) (fun _ _ _ _ _ => by exact (se_var (pv 1)))) (SPs.cons se_str se_int (SPs.cons se_str se_int (SPs.cons se_str se_int (SPs.cons se_str (se_bin op_addA op2_add (se_lc (S := [1]) (own := [("_law_cell", 1)]) rfl sc_law_begun.nd (si_any (se_var (pv 0))) (blk_of (N := N_law_begun) (sc := (defScope s_law_begun)) (by decide +kernel)) (by decide) (fun _ _ _ _ _ => by exact (sg_name (i := 1) sc_law_begun.nd rfl (by first | exact Or.inl rfl | exact Or.inr rfl))) (fun _ _ _ _ _ => by exact sts_nil) (fun _ _ _ _ _ => by exact (se_bin op_mod op2_mod (se_var (pv 1)) se_int))) (se_lst (sa_cons se_int sa_nil))) SPs.nil))))) rfl rfl (by decide) (by decide))))
  · refine shs_all ⟨?_, trivial⟩
    · exact sh_all (F.bindsN fun _ _ _ _ _ _ us hl => match us, hl with | [_], _ => rfl) rfl
theorem ok_law (T : Ts K mg) {fd : FuncData} (F : FunD K "law" "law" (defArgs s_law) (defBody s_law) (defScope s_law) [] [] (ga K "law") fd) : FnG P w K mg base (CX P w) 51 (ga K "law") fd ["_law_script"] (fsp K 1 f_law) := by
  have G_law_kind : Fk P w K mg base 28 "_law_kind" _ f_law_kind _ := ok_law_kind T
  have G_law_refused : Fk P w K mg base 28 "_law_refused" _ f_law_refused _ := ok_law_refused T
  have G_law_made : Fk P w K mg base 3 "_law_made" _ f_law_made _ := ok_law_made T
  have G_law_due : Fk P w K mg base 23 "_law_due" _ f_law_due _ := ok_law_due T
  have G_law_bent : Fk P w K mg base 4 "_law_bent" _ f_law_bent _ := ok_law_bent T
  have G_law_take : Fk P w K mg base 1 "_law_take" _ f_law_take _ := ok_law_take T
  have G_law_drawn : Fk P w K mg base 50 "_law_drawn" _ f_law_drawn _ := ok_law_drawn T
  have G_law_begun : Fk P w K mg base 1 "_law_begun" _ f_law_begun _ := ok_law_begun T
  refine (fn_body F sc_law fun cdv A outer s H E hr tk => ?_ : FnG P w K mg base (CX P w) 51 (ga K "law") fd ["_law_script"] (fsp K ["_law_script"].length f_law))
  exact (sss_cons (ss_set (i := 1) sc_law.nd rfl (by first | exact Or.inl rfl | exact Or.inr rfl) (se_fk (ps := ["_law_script"]) G_law_begun 0 (hr.mono (by decide)) tk (by exact rfl) (sa_cons (se_var (pv 0)) sa_nil)))
  (sss_cons (ss_set (i := 2) sc_law.nd rfl (by first | exact Or.inl rfl | exact Or.inr rfl) (se_ix (se_lstI (sa_cons se_int (sa_cons se_int (sa_cons se_int (sa_cons se_int sa_nil))))) (se_fk (ps := ["_law_state", "_law_many"]) G_law_take 0 (hr.mono (by decide)) tk (by exact rfl) (sa_cons (se_var (pv 1)) (sa_cons se_int sa_nil))) (fun _ _ => rfl)))
  (sss_cons (ss_set (i := 3) sc_law.nd rfl (by first | exact Or.inl rfl | exact Or.inr rfl) (se_bin op_mulA op2_mul (se_fk (ps := ["_law_state", "_law_many"]) G_law_take 0 (hr.mono (by decide)) tk (by exact rfl) (sa_cons (se_var (pv 1)) (sa_cons se_int sa_nil))) (se_fk (ps := ["_law_state", "_law_many"]) G_law_take 0 (hr.mono (by decide)) tk (by exact rfl) (sa_cons (se_var (pv 1)) (sa_cons se_int sa_nil)))))
  (sss_cons (ss_set (i := 4) sc_law.nd rfl (by first | exact Or.inl rfl | exact Or.inr rfl) (se_fk (ps := ["_law_state", "_law_odd_here"]) G_law_drawn 0 (hr.mono (by decide)) tk (by exact rfl) (sa_cons (se_var (pv 1)) (sa_cons (se_var (pv 2)) sa_nil))))
  (sss_cons (ss_if (st_cmp (op_eqA (Rm.uu hr 64 (by decide))) op2_eq (se_fk (ps := ["_law_state", "_law_many"]) G_law_take 0 (hr.mono (by decide)) tk (by exact rfl) (sa_cons (se_var (pv 1)) (sa_cons se_int sa_nil))) se_int rfl) (sss_one (ss_set (i := 4) sc_law.nd rfl (by first | exact Or.inl rfl | exact Or.inr rfl) (se_lstI sa_nil))) sss_nil)
  (sss_cons (ss_for (passes_of rfl) rfl (si_range1 (by exact rfl) T.n_range (se_var (pv 3))) (sg_name (i := 5) sc_law.nd rfl (by first | exact Or.inl rfl | exact Or.inr rfl)) (sss_one (ss_set (i := 4) sc_law.nd rfl (by first | exact Or.inl rfl | exact Or.inr rfl) (se_fk (ps := ["_law_state", "_law_drawn_here"]) G_law_bent 0 (hr.mono (by decide)) tk (by exact rfl) (sa_cons (se_var (pv 1)) (sa_cons (se_var (pv 4)) sa_nil))))))
  (sss_cons (ss_set (i := 6) sc_law.nd rfl (by first | exact Or.inl rfl | exact Or.inr rfl) (se_fk (ps := ["_law_drawn_here"]) G_law_due 0 (hr.mono (by decide)) tk (by exact rfl) (sa_cons (se_var (pv 4)) sa_nil)))
  (sss_cons (ss_set (i := 7) sc_law.nd rfl (by first | exact Or.inl rfl | exact Or.inr rfl) (se_fk (ps := ["_law_drawn_here"]) G_law_made 0 (hr.mono (by decide)) tk (by exact rfl) (sa_cons (se_var (pv 4)) sa_nil)))
  (sss_cons (ss_if (st_cmp (op_neA (Rm.uu hr 64 (by decide))) op2_ne (se_fk (ps := ["_law_given"]) G_law_refused 0 (hr.mono (by decide)) tk (by exact rfl) (sa_cons (se_var (pv 7)) sa_nil)) (se_var (pv 6)) rfl) (sss_one (ss_ret se_bl)) sss_nil)
  (sss_one (ss_ret (se_or (se_cmp op_isN op2_isN (se_var (pv 6)) se_non rfl) (se_one (se_fk (ps := ["_law_given"]) G_law_kind 0 (hr.mono (by decide)) tk (by exact rfl) (sa_cons (se_var (pv 7)) sa_nil)))))))))))))))
end
end L_k13
namespace L_k13
open PySem L2 Vz
section
variable {QV : AV → Hs → Prop} {QB : Bool → Hs → Prop} {E : XQ} {G : Hs} {ρ : En} {D : SP} {A : Pl.Ad} {fs : List Pl.Fn} {st : Pl.Rs} {d : Nat} {bx : Pl.Bx} {xs : List Int}
theorem in1 (c : Str) : c ∈ [c] := List.mem_singleton.mpr rfl
theorem beqS {a c : String} : ((Str.ofString a : Str) == Str.ofString c) = decide (a = c) := by
  rw [Bool.eq_iff_iff]
  simp [ofS_inj]
theorem fn_name {f : Pl.Fn} {cs : List Str} (h : ("Function" : Str) ∈ cs) : (fFld cs "name" f.av G).wp QV E = QV (.str f.name) G := fld_iv h (by simp [Pl.fnN, List.lookup, beqS])
theorem ringS {stp : (Nat → List AV → Hs → R AV) → Nat → List AV → Hs → R AV} {n j : Nat} : ringF stp (n + 1) j = stp (ringF stp n) j := rfl
end
end L_k13
namespace L_k13
open PySem L2 Vz
section
variable {QV : AV → Hs → Prop} {QB : Bool → Hs → Prop} {E : XQ} {G : Hs} {ρ : En} {D : SP} {A : Pl.Ad} {fs : List Pl.Fn} {st : Pl.Rs} {d : Nat} {bx : Pl.Bx} {xs : List Int}
theorem subs_app : ∀ a c : List Pl.Ex, Pl.subsOf (a ++ c) = Pl.subsOf a ++ Pl.subsOf c
  | [], c => rfl
  | e :: a, c => by simp [Pl.subsOf, subs_app a c]
theorem sl_tup {ys : List AV} {lo hi : Option Int} : (fSl (.tup ys) lo hi G).wp QV E = QV (.tup (cutA ys lo hi)) G := by
  show (if HT.sIx ys.length 0 lo = 0 ∧ HT.sIx ys.length ys.length hi = ys.length then R.ok (.tup ys) G else R.ok (.tup (cutA ys lo hi)) G).wp QV E = _
  by_cases c : HT.sIx ys.length 0 lo = 0 ∧ HT.sIx ys.length ys.length hi = ys.length
  · have e : cutA ys lo hi = ys := by unfold cutA; rw [c.1, c.2, List.drop_zero, Nat.sub_zero, List.take_length]
    rw [if_pos c, e]; rfl
  · rw [if_neg c]; rfl
theorem cut_fromN {ys : List AV} {k : Nat} (h : k ≤ ys.length) : cutA ys (some (k : Int)) none = ys.drop k := by
  have e : HT.sIx ys.length 0 (some (k : Int)) = k := by rw [HT.sIx_nat]; exact Nat.min_eq_left h
  have e2 : HT.sIx ys.length ys.length none = ys.length := rfl
  unfold cutA
  rw [e, e2]
  exact List.take_of_length_le (by rw [List.length_drop]; omega)
theorem parts_wp {e : Pl.Ex} (hq : ∀ G', Kp 0 G G' → QV (.tup (e.parts.map Pl.Ex.av)) G') : (f_parts_of [e.av] G).wp QV E := by
  have esz := szl_eq
  have inq : ∀ (w : Str) (G : Hs) (Q : AV → Hs → Prop) (E : XQ), (fIn (.str w) (.con [.str "plus", .str "less", .str "times", .str "under", .str "same"]) G).wp Q E = Q (.bl (([("plus" : Str), "less", "times", "under", "same"]).any fun y => y == w)) G := fun w G Q E => in_conS (xs := ["plus", "less", "times", "under", "same"])
  unfold f_parts_of b_parts_of
  have cut1 : ∀ (v : AV) (r : List AV), cutA (v :: r) (some 1) none = r := fun v r => by
    have := cut_fromN (ys := v :: r) (k := 1) (by simp)
    simpa using this
  cases e with
  | sum k a b =>
    have hk : (([("plus" : Str), "less", "times", "under", "same"]).any fun y => y == k.word) = true := by cases k <;> decide +kernel
    unfold Pl.Ex.av
    simp_arith [inq, hk, wp_fz]
    rw [sl_tup]
    simp_arith [cut1]
    exact hq _ (Kp.refl _ _)
  | extra e =>
    have hk : (([("plus" : Str), "less", "times", "under", "same"]).any fun y => y == ("extra" : Str)) = false := by decide +kernel
    unfold Pl.Ex.av
    simp_arith [inq, hk, wp_fz]
    rw [sl_tup]
    simp_arith [cut1]
    exact hq _ (Kp.refl _ _)
  | num n =>
    have hk : (([("plus" : Str), "less", "times", "under", "same"]).any fun y => y == ("number" : Str)) = false := by decide +kernel
    unfold Pl.Ex.av
    simp_arith [inq, hk, ofS_inj, String.reduceEq]
    exact hq _ (Kp.refl _ _)
  | box n =>
    have hk : (([("plus" : Str), "less", "times", "under", "same"]).any fun y => y == ("box" : Str)) = false := by decide +kernel
    unfold Pl.Ex.av
    simp_arith [inq, hk, ofS_inj, String.reduceEq]
    exact hq _ (Kp.refl _ _)
  | ref n =>
    have hk : (([("plus" : Str), "less", "times", "under", "same"]).any fun y => y == ("ref" : Str)) = false := by decide +kernel
    unfold Pl.Ex.av
    simp_arith [inq, hk, ofS_inj, String.reduceEq]
    exact hq _ (Kp.refl _ _)
  | many =>
    have hk : (([("plus" : Str), "less", "times", "under", "same"]).any fun y => y == ("many" : Str)) = false := by decide +kernel
    unfold Pl.Ex.av
    simp_arith [inq, hk, ofS_inj, String.reduceEq]
    exact hq _ (Kp.refl _ _)
theorem within_wp : ∀ (n : Nat) (es : List Pl.Ex) (G : Hs) (QV : AV → Hs → Prop) (E : XQ), Pl.exsDep es < n → Pl.exsDep es ≤ 12 → es.length ≤ 1000 → (∀ G', Kp 0 G G' → QV (.ls ((Pl.subsOf es).map Pl.Ex.av)) G') →
    (ringF step_all_within n 0 [.tup (es.map Pl.Ex.av)] G).wp QV E
  | 0, es, G, QV, E, h, _, _, _ => absurd h (Nat.not_lt_zero _)
  | n + 1, es, G, QV, E, h, h12, hl, hq => by
    have esz := szl_eq
    have ih := within_wp n
    rw [ringS]
    show (mFn 3 (b_all_within (ringF step_all_within n)) _ G).wp QV E
    unfold b_all_within
    generalize hR : ringF step_all_within n 0 = F at ih
    generalize ringF step_all_within n = rr at hR
    simp_arith []
    unfold k_all_within_2
    rw [wp_seq]
    have bnd : ∀ l : List Pl.Ex, Pl.exsDep l ≤ 12 → l.length ≤ 1000 → (Pl.subsOf l).length ≤ 4096000 := fun l h1 h2 => by
      have := Pl.subsOf_len (n := 12) l h1
      omega
    have hdt : ∀ j, Pl.exsDep (es.take j) ≤ 12 := fun j => by
      refine Nat.le_trans ?_ h12
      generalize hm : es.take j = t
      have hs : ∀ x ∈ t, x ∈ es := fun x hx => List.mem_of_mem_take (hm ▸ hx)
      clear hm hq
      induction t with
      | nil => exact Nat.zero_le _
      | cons x t iht =>
        simp only [Pl.exsDep]
        have h1 := Pl.exsDep_mem (hs x (List.mem_cons_self ..))
        have h2 := iht fun y hy => hs y (List.mem_cons_of_mem _ hy)
        omega
    refine wp_forK (k := (es.map Pl.Ex.av, none)) (G0 := G ++ [.lst []]) (wk_ok rfl rfl) (fun j ρ G' => ∃ a2, ρ = [some (.tup (es.map Pl.Ex.av)), some (.ref G.length), a2] ∧ G'[G.length]? = some (.lst ((Pl.subsOf (es.take j)).map Pl.Ex.av)) ∧ Kp 0 G G')
      ⟨_, rfl, by simp [Pl.subsOf], Kp.app _ _ _⟩ (fun _ _ _ _ _ => True.intro) (fun j v ρ G' hv ⟨a2, er, hn, k⟩ => ?_) fun ρ G' ⟨a2, er, hn, k⟩ => ?_
    · subst er
      have hv : (es.map Pl.Ex.av)[j]? = some v := hv
      rw [List.getElem?_map] at hv
      obtain ⟨e, he, rfl⟩ := Option.map_eq_some_iff.mp hv
      have hj := (List.getElem?_eq_some_iff.mp he).1
      have hem := List.mem_of_getElem? he
      have hed := Pl.exsDep_mem hem
      have et : es.take (j + 1) = es.take j ++ [e] := by rw [List.take_succ, he]; rfl
      have b1 := bnd _ (hdt j) (by rw [List.length_take]; omega)
      have b2 := bnd _ (hdt (j + 1)) (by rw [List.length_take]; omega)
      unfold l_all_within_2
      simp_arith [isL_L hn, wp_appL hn]
      refine ⟨by rw [List.length_map]; omega, ?_⟩
      have hn2 : (G'.set G.length (.lst ((Pl.subsOf (es.take j)).map Pl.Ex.av ++ [e.av])))[G.length]? = some (.lst ((Pl.subsOf (es.take j)).map Pl.Ex.av ++ [e.av])) := List.getElem?_set_self (List.getElem?_eq_some_iff.mp hn).1
      have k2 : Kp 0 G (G'.set G.length (.lst ((Pl.subsOf (es.take j)).map Pl.Ex.av ++ [e.av]))) := k.setN (Nat.le_refl _)
      generalize G'.set G.length (.lst ((Pl.subsOf (es.take j)).map Pl.Ex.av ++ [e.av])) = G2 at hn2 k2
      unfold k_all_within_4
      simp_arith [isL_L hn2]
      refine parts_wp fun G3 k3 => ?_
      simp_arith []
      rw [hR]
      have hp := Pl.parts_dep e
      have hp1 := Pl.dep_pos e
      have hp0 : e.parts = [] → Pl.exsDep e.parts = 0 := fun q => by rw [q]; rfl
      refine ih e.parts _ _ _ (by rcases hp with q | q; omega; rw [hp0 q]; omega) (by rcases hp with q | q; omega; rw [hp0 q]; omega) (by cases e <;> simp [Pl.Ex.parts]) fun G4 k4 => ?_
      have hn4 := k4.get0 (k3.get0 hn2)
      simp_arith [isL_L hn4, wp_extA hn4]
      have es2 : (Pl.subsOf (es.take (j + 1))).map Pl.Ex.av = ((Pl.subsOf (es.take j)).map Pl.Ex.av ++ [e.av]) ++ (Pl.subsOf e.parts).map Pl.Ex.av := by
        rw [et, subs_app]
        simp [Pl.subsOf, Pl.subs_parts e]
      refine ⟨?_, _, rfl, ?_, ((k2.trans k3).trans k4).setN (Nat.le_refl _)⟩
      · rw [← List.length_append, ← es2, List.length_map]; omega
      · rw [List.getElem?_set_self (List.getElem?_eq_some_iff.mp hn4).1, es2]
    · subst er
      have hn : G'[G.length]? = some (.lst ((Pl.subsOf (es.take (es.map Pl.Ex.av).length)).map Pl.Ex.av)) := hn
      rw [List.length_map, List.take_length] at hn
      simp_arith [wp_fz]
      rw [fzQ_lst hn]
      exact hq _ (k.setN (Nat.le_refl _))
theorem add_tt {v : AV} {ys : List AV} (h : ys.length + 1 ≤ szl) : (fAddI (.tup [v]) (.tup ys) G).wp QV E = QV (.tup (v :: ys)) G := by
  show (fAdd (.tup [v]) (.tup ys) G).wp QV E = _
  simp only [fAdd, tupOf]
  rw [if_pos (by simp only [List.length_cons, List.length_nil]; omega)]
  cases ys <;> rfl
theorem exps_wp {s : Pl.St} (hs : s.isTry = false) (hl : s.exs.length ≤ 1000) (hq : QV (.tup (s.exs.map Pl.Ex.av)) G) : (f_expressions_of [s.av] G).wp QV E := by
  unfold f_expressions_of b_expressions_of
  unfold k_expressions_of_2 k_expressions_of_4 k_expressions_of_6 k_expressions_of_8 k_expressions_of_10
  cases s with
  | try_ a x b => cases hs
  | at_ t e es =>
    unfold Pl.St.av
    simp_arith [ofS_inj, String.reduceEq, tuple_T]
    rw [add_tt (by rw [List.length_map]; have esz := szl_eq; simp [Pl.St.exs] at hl; omega)]
    exact hq
  | _ =>
    unfold Pl.St.av
    simp_arith [ofS_inj, String.reduceEq]
    exact hq
theorem given_wp {s : Pl.St} (hs : s.isTry = false) (hq : QV (.tup (Pl.strA s.given)) G) : (f_given_by [s.av] G).wp QV E := by
  unfold f_given_by b_given_by
  unfold k_given_by_2 k_given_by_4 k_given_by_6
  cases s with
  | try_ a x b => cases hs
  | _ =>
    unfold Pl.St.av
    simp_arith [ofS_inj, String.reduceEq, tuple_T]
    exact hq
theorem bodies_wp {s : Pl.St} (hs : s.isTry = false) (hq : QV (.tup (s.bodies.map fun b => .tup (Pl.bdA b))) G) : (f_bodies_of [s.av] G).wp QV E := by
  unfold f_bodies_of b_bodies_of
  unfold k_bodies_of_2 k_bodies_of_4 k_bodies_of_6
  cases s with
  | try_ a x b => cases hs
  | _ =>
    unfold Pl.St.av
    simp_arith [ofS_inj, String.reduceEq]
    exact hq
theorem exA_box {e : Pl.Ex} {s : Str} (h : Pl.isBox e = some s) : e.av = .tup [.str "box", .str s] := by
  cases e <;> first | (cases h; rfl) | cases h
theorem read_wp {s : Pl.St} (hs : s.isTry = false) (hf : Pl.stFit s = true) (hq : ∀ G', Kp 0 G G' → QV (.ls (Pl.strA (Pl.esBoxes s.exs))) G') : (f_boxes_read [s.av] G).wp QV E := by
  have esz := szl_eq
  obtain ⟨f1, f2⟩ := Bool.and_eq_true_iff.mp hf
  have f1 := of_decide_eq_true f1
  have f2 := of_decide_eq_true f2
  have bnd := Pl.subsOf_len (n := 12) s.exs f1
  unfold f_boxes_read b_boxes_read
  simp_arith []
  obtain ⟨v0, G0, e0, q0, k0⟩ := (show ((mCall 1 1 0 gAll f_all_within (mCons (mCall 1 1 0 gAll f_expressions_of (mCons (mVar 0) mNil) mNil) mNil) mNil) (startA 2 [s.av]) G).wp (fun v G0 => v = .ls ((Pl.subsOf s.exs).map Pl.Ex.av) ∧ Kp 0 G G0) noX from by
    simp_arith []
    refine exps_wp hs f2 ?_
    simp_arith []
    exact within_wp 20 _ _ _ _ (by omega) f1 f2 fun G' k => ⟨rfl, k⟩).ex
  subst q0
  refine wp_lcG (vs := (Pl.subsOf s.exs).map Pl.Ex.av) (G0 := G0) (wk_ok e0 rfl) k0 (fun v => match v with
    | .tup (.str w :: _) => decide (w = "box")
    | _ => false) (fun v => match v with
    | .tup [_, w] => w
    | _ => .non) (by rw [List.length_map]; omega) (fun v hv G1 k1 => ?_) fun G1 k1 => ?_
  · obtain ⟨e, _, rfl⟩ := List.mem_map.mp hv
    refine ⟨_, rfl, ?_⟩
    cases e with
    | box x =>
      unfold Pl.Ex.av
      simp_arith []
      exact ⟨Kp.refl _ _, fun _ => Kp.refl _ _⟩
    | sum k a b =>
      have hk : ¬ k.word = ("box" : Str) := by cases k <;> simp [Pl.Sk.word, ofS_inj]
      unfold Pl.Ex.av
      simp_arith []
      exact ⟨Kp.refl _ _, fun z => absurd (of_decide_eq_true z) hk⟩
    | _ =>
      unfold Pl.Ex.av
      simp_arith [ofS_inj, String.reduceEq]
      exact ⟨Kp.refl _ _, fun z => z.elim⟩
  · refine Eq.mp ?_ (hq G1 k1)
    congr 1
    rw [Pl.esBoxes_subs]
    unfold Pl.strA
    clear bnd e0 k0 k1 f1
    generalize Pl.subsOf s.exs = l
    congr 1
    induction l with
    | nil => rfl
    | cons e l ih =>
      cases h : Pl.isBox e with
      | some x =>
        rw [List.filterMap_cons_some h, List.map_cons, List.map_cons, exA_box h, List.filter_cons_of_pos (by simp), List.map_cons, ih]
      | none =>
        rw [List.filterMap_cons_none h, List.map_cons, List.filter_cons_of_neg, ih]
        cases e with
        | box x => cases h
        | sum k a b => cases k <;> simp [Pl.Ex.av, Pl.Sk.word, ofS_inj]
        | _ => simp [Pl.Ex.av, ofS_inj]
end
end L_k13
namespace L_k13
open PySem L2 Vz
section
variable {QV : AV → Hs → Prop} {QB : Bool → Hs → Prop} {E : XQ} {G : Hs} {ρ : En} {D : SP} {A : Pl.Ad} {fs : List Pl.Fn} {st s2 : Pl.Rs} {d : Nat} {bx b2 : Pl.Bx} {xs : List Int} {o : Pl.Ops} {F : Nat → List AV → Hs → R AV} {out : Pl.Out}
theorem bdA_map : ∀ l : List Pl.St, Pl.bdA l = l.map Pl.St.av
  | [] => by simp [Pl.bdA]
  | s :: r => by simp [Pl.bdA, bdA_map r]
theorem mem_dep {s : Pl.St} : ∀ {l : List Pl.St}, s ∈ l → s.dep ≤ Pl.bdDep l
  | [], h => nomatch h
  | x :: r, h => by
    simp only [Pl.bdDep]
    rcases List.mem_cons.mp h with q | q
    · subst q; omega
    · have := mem_dep q; omega
theorem strA_app (a c : List Str) : Pl.strA (a ++ c) = Pl.strA a ++ Pl.strA c := by simp [Pl.strA]
theorem strA_len (a : List Str) : (Pl.strA a).length = a.length := List.length_map ..
theorem list_tup {ys : List AV} : (fListI [.tup ys] G).wp QV E = QV (.ls ys) G := rfl
theorem fn_params {f : Pl.Fn} {cs : List Str} (h : ("Function" : Str) ∈ cs) : (fFld cs "params" f.av G).wp QV E = QV (.tup (Pl.strA f.params)) G := fld_iv h (by simp [Pl.fnN, List.lookup, beqS])
theorem fn_bodyF {f : Pl.Fn} {cs : List Str} (h : ("Function" : Str) ∈ cs) : (fFld cs "body" f.av G).wp QV E = QV (.tup (Pl.bdA f.body)) G := fld_iv h (by simp [Pl.fnN, List.lookup, beqS])
theorem fn_results {f : Pl.Fn} {cs : List Str} (h : ("Function" : Str) ∈ cs) : (fFld cs "results" f.av G).wp QV E = QV (.int f.results) G := fld_iv h (by simp [Pl.fnN, List.lookup, beqS])
theorem fn_more {f : Pl.Fn} {cs : List Str} (h : ("Function" : Str) ∈ cs) : (fFld cs "more" f.av G).wp QV E = QV (.bl f.more) G := fld_iv h (by simp [Pl.fnN, List.lookup, beqS])
theorem fn_fit {f : Pl.Fn} (h : f.fit = true) : Pl.bdAll Pl.stFit f.body = true ∧ Pl.bdDep f.body ≤ 12 ∧ f.params.length ≤ 1000 ∧ (f.params ++ Pl.bdBoxes f.body).length ≤ 100000 := by
  unfold Pl.Fn.fit at h
  simp only [Bool.and_eq_true, decide_eq_true_eq] at h
  exact ⟨h.1.1.1, h.1.1.2, h.1.2, h.2⟩
theorem takes_wp {f : Pl.Fn} {n : Nat} (hq : QV (.bl (Pl.takes f n)) G) : (f_takes [f.av, .int n] G).wp QV E := by
  unfold f_takes b_takes
  simp_arith []
  rw [fn_params (in1 _)]
  simp_arith []
  rw [len_T, strA_len]
  simp_arith []
  unfold Pl.takes at hq
  by_cases c : n = f.params.length
  · rw [decide_eq_true (by omega)]
    rw [decide_eq_true c] at hq
    simp_arith []
    exact hq
  · rw [decide_eq_false (by omega)]
    rw [decide_eq_false c] at hq
    simp_arith []
    rw [fn_more (in1 _)]
    cases hm : f.more with
    | false =>
      rw [hm] at hq
      simp_arith []
      exact hq
    | true =>
      rw [hm] at hq
      simp_arith []
      rw [fn_params (in1 _)]
      simp_arith []
      rw [len_T, strA_len]
      simp_arith []
      have e : decide ((f.params.length : Int) < (n : Int)) = decide (f.params.length < n) := by
        by_cases c2 : f.params.length < n
        · rw [decide_eq_true c2, decide_eq_true (by omega)]
        · rw [decide_eq_false c2, decide_eq_false (by omega)]
      rw [e]
      exact hq
end
end L_k13
namespace L_k13
open PySem L2 Vz
mutual
def stSts : Pl.St → List Pl.St
  | .ite c a b => .ite c a b :: (bdSts a ++ bdSts b)
  | .whl c b => .whl c b :: bdSts b
  | .try_ a x b => .try_ a x b :: (bdSts a ++ bdSts b)
  | s => [s]
/-- all statements of a body, each ahead of those in its bodies -/
def bdSts : List Pl.St → List Pl.St
  | [] => []
  | s :: r => stSts s ++ bdSts r
end
def givenB : Pl.St → List Str
  | .try_ _ x _ => [x]
  | s => s.given
def bodiesB : Pl.St → List (List Pl.St)
  | .try_ a _ b => [a, b]
  | s => s.bodies
def bdsSts : List (List Pl.St) → List Pl.St
  | [] => []
  | b :: r => bdSts b ++ bdsSts r
theorem stSts_eq (s : Pl.St) : stSts s = s :: bdsSts (bodiesB s) := by
  cases s <;> simp [stSts, bodiesB, bdsSts, Pl.St.bodies]
theorem bdS_app : ∀ a c : List Pl.St, bdSts (a ++ c) = bdSts a ++ bdSts c
  | [], c => by simp [bdSts]
  | s :: a, c => by simp [bdSts, bdS_app a c]
theorem bdsS_app : ∀ a c : List (List Pl.St), bdsSts (a ++ c) = bdsSts a ++ bdsSts c
  | [], c => rfl
  | s :: a, c => by simp [bdsSts, bdsS_app a c]
def RES : List Str := ["number", "plus", "less", "times", "under", "same", "ref", "many", "extra", "fn", "set", "say", "if", "else", "while", "call", "at", "return", "throw", "try", "catch", "end", "more"]
def LET : Str := "abcdefghijklmnopqrstuvwxyz"
def inL (c : Nat) : Bool := decide (c ∈ LET.cps.toList)
/-- what is_name answers -/
def isN (w : Str) : Bool := if w.length < 1 ∨ 8 < w.length ∨ (RES.any fun y => y == w) = true then false else w.cps.toList.all inL
section
variable {QV : AV → Hs → Prop} {QB : Bool → Hs → Prop} {E : XQ} {G : Hs} {ρ : En} {D : SP} {A : Pl.Ad} {fs : List Pl.Fn} {st s2 : Pl.Rs} {d : Nat} {bx b2 : Pl.Bx} {xs : List Int} {out : Pl.Out}
theorem try_av {a b : List Pl.St} {x : Str} : Pl.St.av (.try_ a x b) = .tup [.str "try", .tup (Pl.bdA a), .str x, .tup (Pl.bdA b)] := by simp only [Pl.St.av]
theorem given2_wp {s : Pl.St} (hq : QV (.tup (Pl.strA (givenB s))) G) : (f_given_by [s.av] G).wp QV E := by
  cases s with
  | try_ a x b =>
    rw [try_av]
    unfold f_given_by b_given_by
    unfold k_given_by_2 k_given_by_4 k_given_by_6
    simp_arith [ofS_inj, String.reduceEq]
    exact hq
  | _ => exact given_wp rfl hq
theorem bodies2_wp {s : Pl.St} (hq : QV (.tup ((bodiesB s).map fun b => .tup (Pl.bdA b))) G) : (f_bodies_of [s.av] G).wp QV E := by
  cases s with
  | try_ a x b =>
    rw [try_av]
    unfold f_bodies_of b_bodies_of
    unfold k_bodies_of_2 k_bodies_of_4 k_bodies_of_6
    simp_arith [ofS_inj, String.reduceEq]
    exact hq
  | _ => exact bodies_wp rfl hq
theorem exps2_wp {s : Pl.St} (hl : s.exs.length ≤ 1000) (hq : QV (.tup (s.exs.map Pl.Ex.av)) G) : (f_expressions_of [s.av] G).wp QV E := by
  cases s with
  | try_ a x b =>
    rw [try_av]
    unfold f_expressions_of b_expressions_of
    unfold k_expressions_of_2 k_expressions_of_4 k_expressions_of_6 k_expressions_of_8 k_expressions_of_10
    simp_arith [ofS_inj, String.reduceEq]
    exact hq
  | _ => exact exps_wp rfl hl hq
theorem read2_wp {s : Pl.St} (hf : Pl.stFit s = true) (hq : ∀ G', Kp 0 G G' → QV (.ls (Pl.strA (Pl.esBoxes s.exs))) G') : (f_boxes_read [s.av] G).wp QV E := by
  cases s with
  | try_ a x b =>
    unfold f_boxes_read b_boxes_read
    simp_arith []
    obtain ⟨v0, G0, e0, q0, k0⟩ := (show ((mCall 1 1 0 gAll f_all_within (mCons (mCall 1 1 0 gAll f_expressions_of (mCons (mVar 0) mNil) mNil) mNil) mNil) (startA 2 [Pl.St.av (.try_ a x b)]) G).wp (fun v G0 => v = .ls ((Pl.subsOf []).map Pl.Ex.av) ∧ Kp 0 G G0) noX from by
      simp_arith []
      refine exps2_wp (by simp [Pl.St.exs]) ?_
      simp_arith []
      exact within_wp 20 [] _ _ _ (by simp [Pl.exsDep]) (by simp [Pl.exsDep]) (by simp) fun G' k => ⟨rfl, k⟩).ex
    subst q0
    refine wp_lcG (vs := []) (G0 := G0) (wk_ok e0 rfl) k0 (fun v => false) (fun v => v) (by simp) (fun v hv G1 k1 => ?_) fun G1 k1 => ?_
    · cases hv
    · exact hq G1 k1
  | _ => exact read_wp rfl hf hq
theorem bodB_fit {s : Pl.St} {b : List Pl.St} (hb : b ∈ bodiesB s) : Pl.bdDep b + 1 ≤ s.dep := by
  cases s <;> simp only [bodiesB, Pl.St.bodies, List.mem_cons, List.not_mem_nil, or_false] at hb <;> simp only [Pl.St.dep]
  · rcases hb with q | q <;> subst q <;> omega
  · subst hb; omega
  · rcases hb with q | q <;> subst q <;> omega
theorem sts_wp : ∀ (n : Nat) (body : List Pl.St) (G : Hs) (QV : AV → Hs → Prop) (E : XQ), Pl.bdDep body < n → (bdSts body).length ≤ 100000 → (∀ G', Kp 0 G G' → QV (.ls ((bdSts body).map Pl.St.av)) G') →
    (ringF step_statements_of n 0 [.tup (Pl.bdA body)] G).wp QV E
  | 0, body, G, QV, E, h, _, _ => absurd h (Nat.not_lt_zero _)
  | n + 1, body, G, QV, E, h, hl, hq => by
    have esz := szl_eq
    have ih := sts_wp n
    rw [ringS, bdA_map]
    show (mFn 4 (b_statements_of (ringF step_statements_of n)) _ G).wp QV E
    unfold b_statements_of
    generalize hR : ringF step_statements_of n 0 = F at ih
    generalize ringF step_statements_of n = rr at hR
    simp_arith []
    unfold k_statements_of_2
    rw [wp_seq]
    have pre : ∀ j, (bdSts (body.take j)).length ≤ 100000 := fun j => by
      have := bdS_app (body.take j) (body.drop j)
      rw [List.take_append_drop] at this
      have := congrArg List.length this
      rw [List.length_append] at this
      omega
    refine wp_forK (k := (body.map Pl.St.av, none)) (G0 := G ++ [.lst []]) (wk_ok rfl rfl) (fun j ρ G' => ∃ a2 a3, ρ = [some (.tup (body.map Pl.St.av)), some (.ref G.length), a2, a3] ∧ G'[G.length]? = some (.lst ((bdSts (body.take j)).map Pl.St.av)) ∧ Kp 0 G G')
      ⟨_, _, rfl, by simp [bdSts], Kp.app _ _ _⟩ (fun _ _ _ _ _ => True.intro) (fun j v ρ G' hv ⟨a2, a3, er, hn, k⟩ => ?_) fun ρ G' ⟨a2, a3, er, hn, k⟩ => ?_
    · subst er
      have hv : (body.map Pl.St.av)[j]? = some v := hv
      rw [List.getElem?_map] at hv
      obtain ⟨s, hs, rfl⟩ := Option.map_eq_some_iff.mp hv
      have hsd := mem_dep (List.mem_of_getElem? hs)
      have et : body.take (j + 1) = body.take j ++ [s] := by rw [List.take_succ, hs]; rfl
      have b1 := pre j
      have b2 := pre (j + 1)
      have eb : bdSts (body.take (j + 1)) = bdSts (body.take j) ++ (s :: bdsSts (bodiesB s)) := by
        rw [et, bdS_app, ← stSts_eq]; simp [bdSts]
      have b3 := b2
      rw [eb, List.length_append, List.length_cons] at b3
      unfold l_statements_of_2
      simp_arith [isL_L hn, wp_appL hn]
      refine ⟨by rw [List.length_map]; omega, ?_⟩
      have k2 : Kp 0 G (G'.set G.length (.lst ((bdSts (body.take j)).map Pl.St.av ++ [s.av]))) := k.setN (Nat.le_refl _)
      have hn2 : (G'.set G.length (.lst ((bdSts (body.take j)).map Pl.St.av ++ [s.av])))[G.length]? = some (.lst ((bdSts (body.take j) ++ [s]).map Pl.St.av)) := by
        rw [Pl.set_self hn, List.map_append]; rfl
      generalize G'.set G.length (.lst ((bdSts (body.take j)).map Pl.St.av ++ [s.av])) = G2 at k2 hn2
      unfold k_statements_of_4
      obtain ⟨v0, G0, e0, q0, k0⟩ := (show ((mCall 1 1 0 gAll f_bodies_of (mCons (mVar 2) mNil) mNil) [some (.tup (body.map Pl.St.av)), some (.ref G.length), some s.av, a3] G2).wp (fun v G0 => v = .tup ((bodiesB s).map fun b => .tup (Pl.bdA b)) ∧ G0 = G2) noX from by
        simp_arith []
        refine bodies2_wp ?_
        exact ⟨rfl, rfl⟩).ex
      subst q0 k0
      refine wp_forK (k := ((bodiesB s).map fun b => AV.tup (Pl.bdA b), none)) (wk_ok e0 rfl) (fun i ρ G' => ∃ a3, ρ = [some (.tup (body.map Pl.St.av)), some (.ref G.length), some s.av, a3] ∧ G'[G.length]? = some (.lst ((bdSts (body.take j) ++ [s] ++ bdsSts ((bodiesB s).take i)).map Pl.St.av)) ∧ Kp 0 G G')
        ⟨_, rfl, by rw [hn2]; simp [bdsSts], k2⟩ (fun _ _ _ _ _ => True.intro) (fun i v ρ G3 hv ⟨a3, er, hn3, k3⟩ => ?_) fun ρ G3 ⟨a3, er, hn3, k3⟩ => ?_
      · subst er
        have hv : ((bodiesB s).map fun b => AV.tup (Pl.bdA b))[i]? = some v := hv
        rw [List.getElem?_map] at hv
        obtain ⟨b, hb, rfl⟩ := Option.map_eq_some_iff.mp hv
        have bd := bodB_fit (List.mem_of_getElem? hb)
        have et2 : (bodiesB s).take (i + 1) = (bodiesB s).take i ++ [b] := by rw [List.take_succ, hb]; rfl
        have e5 : bdsSts ((bodiesB s).take (i + 1)) = bdsSts ((bodiesB s).take i) ++ bdSts b := by rw [et2, bdsS_app]; simp [bdsSts]
        have b6 : (bdsSts ((bodiesB s).take (i + 1))).length ≤ (bdsSts (bodiesB s)).length := by
          have := bdsS_app ((bodiesB s).take (i + 1)) ((bodiesB s).drop (i + 1))
          rw [List.take_append_drop] at this
          have := congrArg List.length this
          rw [List.length_append] at this
          omega
        rw [e5, List.length_append] at b6
        unfold l_statements_of_4
        simp_arith [isL_L hn3]
        rw [hR]
        refine ih b _ _ _ (by omega) (by omega) fun G4 k4 => ?_
        have hn4 := k4.get0 hn3
        simp_arith [wp_extA hn4]
        refine ⟨by rw [List.length_map, List.length_map, List.length_append, List.length_append]; simp only [List.length_cons, List.length_nil]; omega, _, rfl, ?_, (k3.trans k4).setN (Nat.le_refl _)⟩
        rw [Pl.set_self hn4, ← List.map_append, e5, List.append_assoc _ (bdsSts _)]
      · subst er
        have hn3 : G3[G.length]? = some (.lst ((bdSts (body.take j) ++ [s] ++ bdsSts ((bodiesB s).take ((bodiesB s).map fun b => AV.tup (Pl.bdA b)).length)).map Pl.St.av)) := hn3
        rw [List.length_map, List.take_length] at hn3
        refine ⟨_, _, rfl, ?_, k3⟩
        rw [hn3, eb, List.append_assoc]
        rfl
    · subst er
      have hn : G'[G.length]? = some (.lst ((bdSts (body.take (body.map Pl.St.av).length)).map Pl.St.av)) := hn
      rw [List.length_map, List.take_length] at hn
      simp_arith [wp_fz]
      rw [fzQ_lst hn]
      exact hq _ (k.setN (Nat.le_refl _))
theorem name_wp {w : Str} (hz : w.length ≤ szl) (hq : ∀ G', Kp 0 G G' → QV (.bl (isN w)) G') : (f_is_name [.str w] G).wp QV E := by
  unfold f_is_name b_is_name
  have hR : (AV.con [.str "number", .str "plus", .str "less", .str "times", .str "under", .str "same", .str "ref", .str "many", .str "extra", .str "fn", .str "set", .str "say", .str "if", .str "else", .str "while", .str "call", .str "at", .str "return", .str "throw", .str "try", .str "catch", .str "end", .str "more"]) = .con (RES.map .str) := rfl
  rw [hR]
  simp_arith [len_S, in_conS]
  have fin : ∀ bb : Bool, isN w = bb → QV (.bl bb) G := fun bb e => by rw [← e]; exact hq _ (Kp.refl _ _)
  refine ⟨hz, ?_⟩
  by_cases h1 : (w.length : Int) < 1
  · rw [show decide ((w.length : Int) < 1) = true from decide_eq_true h1]
    simp_arith []
    exact fin _ (by unfold isN; rw [if_pos (.inl (by omega))])
  rw [show decide ((w.length : Int) < 1) = false from decide_eq_false h1]
  simp_arith [len_S]
  refine ⟨hz, ?_⟩
  by_cases h2 : (8 : Int) < w.length
  · rw [show decide ((8 : Int) < w.length) = true from decide_eq_true h2]
    simp_arith []
    exact fin _ (by unfold isN; rw [if_pos (.inr (.inl (by omega)))])
  rw [show decide ((8 : Int) < w.length) = false from decide_eq_false h2]
  simp_arith [in_conS]
  cases h3 : RES.any fun y => y == w with
  | true =>
    simp_arith []
    exact fin _ (by unfold isN; rw [if_pos (.inr (.inr h3))])
  | false =>
    simp_arith []
    unfold k_is_name_3
    simp_arith []
    rw [wp_fz]
    refine wp_lcP (fun _ => true) (fun v => .bl (match v with
      | .str s => inL (s.cps.toList.headD 0)
      | _ => false)) ?_
    simp_arith [wkOf]
    have hl : w.cps.toList.length = w.length := by simp [Str.length]
    refine ⟨by rw [List.length_map, hl]; exact hz, True.intro, fun v hv acc => ?_, ?_⟩
    · obtain ⟨c, _, rfl⟩ := List.mem_map.mp hv
      exact ⟨_, rfl, fun _ => rfl⟩
    · have hf : ∀ l : List AV, l.filter (fun _ => true) = l := fun l => List.filter_eq_self.mpr fun _ _ => rfl
      rw [hf, List.map_map]
      have hm : (w.cps.toList.map (((fun v => AV.bl (match v with
        | .str s => inL (s.cps.toList.headD 0)
        | _ => false))) ∘ fun c => AV.str ⟨#[c]⟩)) = (w.cps.toList.map inL).map AV.bl := by
        rw [List.map_map]
        rfl
      rw [hm, fzQ_lst (xs := (w.cps.toList.map inL).map AV.bl) (by simp)]
      simp_arith []
      rw [all_ls (bs := w.cps.toList.map inL)]
      have e : isN w = (w.cps.toList.map inL).all id := by
        unfold isN
        rw [if_neg (by rw [h3]; simp; omega), List.all_map]
        rfl
      rw [← e]
      exact hq _ ((Kp.app 0 G _).setN (Nat.le_refl _))
end
end L_k13
namespace L_k13
open PySem L2 Vz
/-- the function of a name -/
def fnOf (fs : List Pl.Fn) (g : Str) : Option Pl.Fn := fs.find? fun f => decide (f.name = g)
def callOk (fs : List Pl.Fn) : Pl.St → Bool
  | .call ts g es => match fnOf fs g with
    | some f => decide (f.results = ts.length) && Pl.takes f es.length
    | none => false
  | _ => true
def refOk (fs : List Pl.Fn) : Pl.Ex → Bool
  | .ref g => match fnOf fs g with
    | some f => decide (f.results = 1)
    | none => false
  | _ => true
def retOk (f : Pl.Fn) : Pl.St → Bool
  | .ret es => decide (es.length = f.results)
  | _ => true
def fewOk : Pl.Ex → Bool
  | .many => false
  | .extra _ => false
  | _ => true
abbrev nmOk (w : Str) : Bool := isN w
/-- what is known of a book's functions, by their names -/
def Kn (fs : List Pl.Fn) (v : AV) : Prop := ∃ ks vs, v = .id ks vs ∧ ∀ g : Str, getA (ks.zip vs) (.inr g) = (fnOf fs g).map Pl.Fn.av
section
variable {QV : AV → Hs → Prop} {QB : Bool → Hs → Prop} {E : XQ} {G : Hs} {ρ : En} {D : SP} {A : Pl.Ad} {fs : List Pl.Fn} {st s2 : Pl.Rs} {d : Nat} {bx b2 : Pl.Bx} {xs : List Int} {out : Pl.Out} {kn : AV} {f : Pl.Fn}
theorem kn_get {g : Str} (hk : Kn fs kn) : (fDgo kn (.str g) .non G).wp QV E = QV (match fnOf fs g with
    | some f => f.av
    | none => .non) G := by
  obtain ⟨ks, vs, rfl, h⟩ := hk
  unfold fDgo
  simp only [dkR, kOf, h g]
  cases fnOf fs g <;> rfl
theorem kn_dg {g : Str} (hk : Kn fs kn) (hf : fnOf fs g = some f) : (fDg kn (.str g) G).wp QV E = QV f.av G := by
  obtain ⟨ks, vs, rfl, h⟩ := hk
  unfold fDg
  simp only [dkR, kOf, h g, hf, Option.map_some]
  rfl
theorem kn_nin {g : Str} (hk : Kn fs kn) : (fNinK (.str g) kn G).wp QV E = QV (.bl (!(fnOf fs g).isSome)) G := by
  obtain ⟨ks, vs, rfl, h⟩ := hk
  unfold fNinK
  simp only [dkR, kOf, h g, Option.isSome_map]
  rfl
theorem kn_dk (hk : Kn fs kn) : (dkR G kn).isSome = true := by
  obtain ⟨ks, vs, rfl, h⟩ := hk
  rfl
theorem isN_iv {c : Str} {ns : List Str} {xs : List AV} : (fIsN (.iv c ns xs) .non G).wp QV E = QV (.bl false) G := rfl
end
end L_k13
namespace L_k13
open PySem L2 Vz
section
variable {QV : AV → Hs → Prop} {QB : Bool → Hs → Prop} {E : XQ} {G : Hs} {ρ : En} {D : SP} {A : Pl.Ad} {fs : List Pl.Fn} {st s2 : Pl.Rs} {d : Nat} {bx b2 : Pl.Bx} {xs : List Int} {out : Pl.Out} {kn : AV} {f : Pl.Fn}
theorem in_lsS {w : Str} {xs : List Str} : (fIn (.str w) (.ls (xs.map .str)) G).wp QV E = QV (.bl (xs.any fun y => y == w)) G := by
  unfold fIn
  rw [show inB G (.str w) (.ls (xs.map .str)) = some (xs.any fun y => y == w) from inB_seq rfl fun z => by simp]
  rfl
theorem cut_takeN {ys : List AV} {k : Nat} (h : k ≤ ys.length) : cutA ys none (some (k : Int)) = ys.take k := by
  have e : HT.sIx ys.length ys.length (some (k : Int)) = k := by rw [HT.sIx_nat]; exact Nat.min_eq_left h
  have e2 : HT.sIx ys.length 0 none = 0 := rfl
  unfold cutA
  rw [e, e2, List.drop_zero, Nat.sub_zero]
theorem any_mem {w : Str} {l : List Str} (h : w ∉ l) : (l.any fun y => y == w) = false := by
  rw [List.any_eq_false]
  intro y hy e
  have : y = w := by simpa using e
  subst this
  exact h hy
theorem zip_self {α β : Type} : ∀ l : List (α × β), (l.map (·.1)).zip (l.map (·.2)) = l
  | [] => rfl
  | x :: l => by rw [List.map_cons, List.map_cons, List.zip_cons_cons, zip_self l]
end
end L_k13
namespace L_k13
open PySem L2 Vz
theorem take_eq : f_law_take = f_take := rfl
theorem begun_eq : f_law_begun = f_begun 7 := rfl
def lowS (w : Str) : Prop := 1 ≤ w.length ∧ w.length ≤ 8 ∧ w.cps.toList.all inL = true
theorem lowS_of {w : Str} (h : isN w = true) : lowS w ∧ w ∉ RES := by
  unfold isN at h
  split at h
  · cases h
  · rename_i c
    refine ⟨⟨by omega, by omega, h⟩, fun hm => c (.inr (.inr ?_))⟩
    rw [List.any_eq_true]
    exact ⟨w, hm, by simp⟩
theorem isN_of {w : Str} (h : lowS w) (hr : w ∉ RES) : isN w = true := by
  unfold isN
  rw [if_neg]
  · exact h.2.2
  · rintro (c | c | c)
    · have := h.1; omega
    · have := h.2.1; omega
    · rw [any_mem hr] at c; cases c
def chr (c : Nat) : Str := ⟨#[c]⟩
theorem len_app (a b : Str) : (a ++ b).length = a.length + b.length := Str.length_append ..
theorem lst_app (a b : Str) : (a ++ b).cps.toList = a.cps.toList ++ b.cps.toList := Array.toList_append
theorem low_app {a : Str} {c : Nat} (h : a.cps.toList.all inL = true) (hc : c ∈ LET.cps.toList) : (a ++ chr c).cps.toList.all inL = true := by
  rw [lst_app, List.all_append, h]
  simp [chr, inL, hc]
theorem low_cut {a : Str} {c : Nat} (h : lowS a) (hc : c ∈ LET.cps.toList) : lowS (cutS (a ++ chr c) none (some 8)) := by
  have hl : (a ++ chr c).length = a.length + 1 := len_app _ _
  have e1 : HT.sIx (a ++ chr c).length 0 none = 0 := rfl
  have e2 : HT.sIx (a ++ chr c).length (a ++ chr c).length (some 8) = min 8 (a ++ chr c).length := by rw [show (8 : Int) = ((8 : Nat) : Int) from rfl, HT.sIx_nat]
  have e3 : (cutS (a ++ chr c) none (some 8)).cps.toList = (a ++ chr c).cps.toList.take (min 8 (a ++ chr c).length) := by
    unfold cutS
    rw [e1, e2]
    simp
  have e4 : (cutS (a ++ chr c) none (some 8)).length = min 8 (a ++ chr c).length := by
    show (cutS (a ++ chr c) none (some 8)).cps.size = _
    rw [← Array.length_toList, e3, List.length_take]
    have : (a ++ chr c).cps.toList.length = (a ++ chr c).length := Array.length_toList
    omega
  obtain ⟨h1, h2, h3⟩ := h
  refine ⟨by omega, by omega, ?_⟩
  rw [e3, List.all_eq_true]
  intro x hx
  exact List.all_eq_true.mp (low_app h3 hc) x (List.mem_of_mem_take hx)
theorem nodup_le : ∀ (l m : List Str), l.Nodup → (∀ x ∈ l, x ∈ m) → l.length ≤ m.length
  | [], _, _, _ => Nat.zero_le _
  | x :: l, m, nd, h => by
    have hx := h x (List.mem_cons_self ..)
    rw [List.nodup_cons] at nd
    have ih := nodup_le l (m.erase x) nd.2 fun y hy => (List.mem_erase_of_ne fun e => nd.1 (by rw [← e]; exact hy)).mpr (h y (List.mem_cons_of_mem _ hy))
    rw [List.length_erase_of_mem hx] at ih
    have := List.length_pos_of_mem hx
    simp only [List.length_cons]
    omega
def LTS : List Str := LET.cps.toList.map chr
theorem lts_len : LTS.length = 26 := by decide +kernel
theorem lts_nd : LTS.Nodup := by decide +kernel
theorem lts_ok : ∀ x ∈ LTS, isN x = true := by decide +kernel
def OWN : List Str := ["book", "over", "vow", "handed", "results", "kept", "link", "count", "down", "called", "start", "steps", "said", "frames", "plain", "check", "text", "ok", "no", "row", "nothing", "done", "thrown"]
theorem own_ok : ∀ x ∈ OWN, isN x = true := by decide +kernel
theorem len_let : LET.length = 26 := by decide +kernel
section
variable {QV : AV → Hs → Prop} {QB : Bool → Hs → Prop} {E : XQ} {G : Hs} {ρ : En} {D : SP} {b t s n : Nat} {had : List Str} {z : AV}
theorem any_in {w : Str} {l : List Str} (h : w ∈ l) : (l.any fun y => y == w) = true := by
  rw [List.any_eq_true]
  exact ⟨w, h, by simp⟩
theorem reserved_wp (hq : QV (.ls (RES.map .str)) G) : (f_law_reserved [] G).wp QV E := by
  unfold f_law_reserved b_law_reserved
  simp_arith []
  unfold k_law_reserved_2
  simp_arith []
  exact ⟨by decide, by decide, hq⟩
theorem name13 {w0 : Str} {own kd o6 o7 : Option AV} (hn : G[n]? = some (.lst (had.map .str))) (hl : had.length ≤ 20) (h0 : lowS w0) (hq : ∀ w, isN w = true → w ∉ had → D.rt (.str w) G) :
    (k_law_name_13 [some z, some (.ref n), some (.str LET), own, kd, some (.str w0), o6, o7] G).wp D := by
  unfold k_law_name_13
  simp_arith []
  have hwk : (mWk (mVar 2)) [some z, some (.ref n), some (.str LET), own, kd, some (.str w0), o6, o7] G = .ok (LTS.map .str, none) G := wk_ok (v := .str LET) (var_ok rfl) (by
    show some (LET.cps.toList.map (fun c => AV.str ⟨#[c]⟩), none) = some (LTS.map AV.str, none)
    unfold LTS
    rw [List.map_map]
    rfl)
  refine wp_forK hwk (fun j ρ' G' => G' = G ∧ ∃ w o7, ρ' = [some z, some (.ref n), some (.str LET), own, kd, some (.str w), o6, o7] ∧ lowS w ∧ ((w ∉ had ∧ w ∉ RES) ∨ j = 0 ∨ ((∀ m, m + 1 < j → ∃ x, LTS[m]? = some x ∧ x ∈ had) ∧ LTS[j - 1]? = some w)))
    ⟨rfl, w0, o7, rfl, h0, .inr (.inl rfl)⟩ (fun _ _ _ _ _ => True.intro) (fun j v ρ' G' hv ⟨eG, w, o7, eρ, hlw, hw⟩ => ?_) fun ρ' G' ⟨eG, w, o7, eρ, hlw, hw⟩ => ?_
  · subst eG eρ
    have hv : (LTS.map AV.str)[j]? = some v := hv
    rw [List.getElem?_map] at hv
    obtain ⟨L, hL, rfl⟩ := Option.map_eq_some_iff.mp hv
    have hLm := List.mem_of_getElem? hL
    have hLl := (lowS_of (lts_ok L hLm)).1
    simp_arith []
    unfold l_law_name_13
    simp_arith []
    rw [in_lstS hn]
    simp_arith []
    have bad : w ∈ had ∨ w ∈ RES → lowS L ∧ ((L ∉ had ∧ L ∉ RES) ∨ j + 1 = 0 ∨ ((∀ m, m + 1 < j + 1 → ∃ x, LTS[m]? = some x ∧ x ∈ had) ∧ LTS[j + 1 - 1]? = some L)) := fun hb => by
      refine ⟨hLl, .inr (.inr ⟨fun m hm => ?_, hL⟩)⟩
      rcases hw with q | q | q
      · exact (hb.elim q.1 q.2).elim
      · omega
      · by_cases c : m + 1 < j
        · exact q.1 m c
        · have e : m = j - 1 := by omega
          subst e
          refine ⟨w, q.2, ?_⟩
          rcases hb with hb | hb
          · exact hb
          · exact absurd hb (lowS_of (lts_ok w (List.mem_of_getElem? q.2))).2
    by_cases c : w ∈ had
    · rw [any_in c]
      simp_arith []
      exact ⟨_, _, rfl, bad (.inl c)⟩
    · rw [any_mem c]
      simp_arith []
      refine reserved_wp ?_
      rw [in_lsS]
      simp_arith []
      by_cases c2 : w ∈ RES
      · rw [any_in c2]
        simp_arith []
        exact ⟨_, _, rfl, bad (.inr c2)⟩
      · rw [any_mem c2]
        simp_arith []
        exact ⟨_, _, rfl, hlw, .inl ⟨c, c2⟩⟩
  · subst eG eρ
    simp_arith []
    have hlen : (LTS.map AV.str).length = 26 := by rw [List.length_map, lts_len]
    rcases hw with q | q | q
    · exact hq w (isN_of hlw q.2) q.1
    · simp only [hlen] at q; omega
    · exfalso
      have hw := q.1
      simp only [hlen] at hw
      have := nodup_le (LTS.take 25) had (lts_nd.sublist (List.take_sublist _ _)) fun x hx => by
        obtain ⟨m, hm, e⟩ := List.mem_iff_getElem.mp hx
        rw [List.length_take, lts_len] at hm
        obtain ⟨y, hy, hyh⟩ := hw m (by omega)
        rw [List.getElem_take] at e
        rw [List.getElem?_eq_getElem (by rw [lts_len]; omega)] at hy
        cases hy
        rw [e] at hyh
        exact hyh
      rw [List.length_take, lts_len] at this
      omega
theorem low_ne {w : Str} {j : Nat} (h : w.length = j) (h1 : 1 ≤ j) (h8 : j ≤ 8) (ha : w.cps.toList.all inL = true) : lowS w := ⟨by omega, by omega, ha⟩
theorem name_for {own kd o6 o7 : Option AV} {r : Int} (h0 : 0 ≤ r) (h8 : r < 8) (h : Dr b t s G) (ht : t + 9 < 2 ^ 60) (hq : ∀ w o6 G', lowS w → Dr b (t + 9) s G' → Kp b G G' → D.nx [some (.ref s), some (.ref n), some (.str LET), own, kd, some (.str w), o6, o7] G') :
    ∃ m : Int, (AV.int (1 + r)) = .int m ∧ (-(2 ^ 62) ≤ m ∧ m < 2 ^ 62) ∧ ∃ I : Nat → En → Hs → Prop, I 0 [some (.ref s), some (.ref n), some (.str LET), own, kd, some (.str ""), o6, o7] G ∧
      (∀ (j : Nat) ρ' G', (j : Int) < m → I j ρ' G' → (l_law_name_11 (ρ'.set 6 (some (.int (j : Nat)))) G').wp { nx := I (j + 1), rt := D.rt, bk := D.nx, ct := I (j + 1), ex := D.ex }) ∧ ∀ ρ' G', I m.toNat ρ' G' → D.nx ρ' G' := by
  have esz := szl_eq
  refine ⟨1 + r, rfl, ⟨by omega, by omega⟩, fun j ρ' G' => ∃ w o6, ρ' = [some (.ref s), some (.ref n), some (.str LET), own, kd, some (.str w), o6, o7] ∧ w.length = j ∧ w.cps.toList.all inL = true ∧ Dr b (t + j) s G' ∧ Kp b G G', ⟨"", o6, rfl, rfl, rfl, h, Kp.refl _ _⟩, fun j ρ' G' hj ⟨w, o6, eρ, hw, ha, hd, hk⟩ => ?_, fun ρ' G' ⟨w, o6, eρ, hw, ha, hd, hk⟩ => ?_⟩
  · subst eρ
    simp only [List.set_cons_succ, List.set_cons_zero]
    unfold l_law_name_11
    simp_arith [take_eq]
    refine take_wp hd (by decide) (by decide) (by omega) fun r1 G1 a1 b1 h1 k1 => ?_
    refine wp_ixS (by rw [len_let]; decide) a1 (by rw [len_let]; exact b1) fun c hc => ?_
    simp_arith [wp_addS]
    refine ⟨by rw [hw]; show j + 1 ≤ szl; omega, w ++ chr c, _, rfl, by rw [len_app, hw]; rfl, low_app ha hc, ?_, hk.trans k1⟩
    exact h1
  · subst eρ
    exact hq w o6 G' (low_ne hw (by omega) (by omega) ha) (hd.mono (by omega)) hk
theorem name130 {w0 : Str} {own kd o6 o7 : Option AV} (h0 : lowS w0) (hq : ∀ w, isN w = true → D.rt (.str w) G) :
    (k_law_name_13 [some z, some (.ls []), some (.str LET), own, kd, some (.str w0), o6, o7] G).wp D := by
  unfold k_law_name_13
  simp_arith []
  have hwk : (mWk (mVar 2)) [some z, some (.ls []), some (.str LET), own, kd, some (.str w0), o6, o7] G = .ok (LTS.map .str, none) G := wk_ok (v := .str LET) (var_ok rfl) (by
    show some (LET.cps.toList.map (fun c => AV.str ⟨#[c]⟩), none) = some (LTS.map AV.str, none)
    unfold LTS
    rw [List.map_map]
    rfl)
  refine wp_forK hwk (fun j ρ' G' => G' = G ∧ ∃ w o7, ρ' = [some z, some (.ls []), some (.str LET), own, kd, some (.str w), o6, o7] ∧ lowS w ∧ (w ∉ RES ∨ j = 0))
    ⟨rfl, w0, o7, rfl, h0, .inr rfl⟩ (fun _ _ _ _ _ => True.intro) (fun j v ρ' G' hv ⟨eG, w, o7, eρ, hlw, hw⟩ => ?_) fun ρ' G' ⟨eG, w, o7, eρ, hlw, hw⟩ => ?_
  · subst eG eρ
    have hv : (LTS.map AV.str)[j]? = some v := hv
    rw [List.getElem?_map] at hv
    obtain ⟨L, hL, rfl⟩ := Option.map_eq_some_iff.mp hv
    have hLm := List.mem_of_getElem? hL
    have hLl := (lowS_of (lts_ok L hLm)).1
    simp_arith []
    unfold l_law_name_13
    simp_arith []
    show ((fIn (.str w) (.ls (([] : List Str).map .str)) G').wp _ _ : Prop)
    rw [in_lsS]
    simp_arith [List.any_nil]
    refine reserved_wp ?_
    rw [in_lsS]
    simp_arith []
    by_cases c2 : w ∈ RES
    · rw [any_in c2]
      simp_arith []
      exact ⟨_, _, rfl, hLl, .inl (lowS_of (lts_ok L hLm)).2⟩
    · rw [any_mem c2]
      simp_arith []
      exact ⟨_, _, rfl, hlw, .inl c2⟩
  · subst eG eρ
    simp_arith []
    have hlen : (LTS.map AV.str).length = 26 := by rw [List.length_map, lts_len]
    rcases hw with q | q
    · exact hq w (isN_of hlw q)
    · simp only [hlen] at q; omega
theorem name_for0 {own kd o6 o7 : Option AV} {r : Int} (h0 : 0 ≤ r) (h8 : r < 8) (h : Dr b t s G) (ht : t + 9 < 2 ^ 60) (hq : ∀ w o6 G', lowS w → Dr b (t + 9) s G' → Kp b G G' → D.nx [some (.ref s), some (.ls []), some (.str LET), own, kd, some (.str w), o6, o7] G') :
    ∃ m : Int, (AV.int (1 + r)) = .int m ∧ (-(2 ^ 62) ≤ m ∧ m < 2 ^ 62) ∧ ∃ I : Nat → En → Hs → Prop, I 0 [some (.ref s), some (.ls []), some (.str LET), own, kd, some (.str ""), o6, o7] G ∧
      (∀ (j : Nat) ρ' G', (j : Int) < m → I j ρ' G' → (l_law_name_11 (ρ'.set 6 (some (.int (j : Nat)))) G').wp { nx := I (j + 1), rt := D.rt, bk := D.nx, ct := I (j + 1), ex := D.ex }) ∧ ∀ ρ' G', I m.toNat ρ' G' → D.nx ρ' G' := by
  have esz := szl_eq
  refine ⟨1 + r, rfl, ⟨by omega, by omega⟩, fun j ρ' G' => ∃ w o6, ρ' = [some (.ref s), some (.ls []), some (.str LET), own, kd, some (.str w), o6, o7] ∧ w.length = j ∧ w.cps.toList.all inL = true ∧ Dr b (t + j) s G' ∧ Kp b G G', ⟨"", o6, rfl, rfl, rfl, h, Kp.refl _ _⟩, fun j ρ' G' hj ⟨w, o6, eρ, hw, ha, hd, hk⟩ => ?_, fun ρ' G' ⟨w, o6, eρ, hw, ha, hd, hk⟩ => ?_⟩
  · subst eρ
    simp only [List.set_cons_succ, List.set_cons_zero]
    unfold l_law_name_11
    simp_arith [take_eq]
    refine take_wp hd (by decide) (by decide) (by omega) fun r1 G1 a1 b1 h1 k1 => ?_
    refine wp_ixS (by rw [len_let]; decide) a1 (by rw [len_let]; exact b1) fun c hc => ?_
    simp_arith [wp_addS]
    refine ⟨by rw [hw]; show j + 1 ≤ szl; omega, w ++ chr c, _, rfl, by rw [len_app, hw]; rfl, low_app ha hc, ?_, hk.trans k1⟩
    exact h1
  · subst eρ
    exact hq w o6 G' (low_ne hw (by omega) (by omega) ha) (hd.mono (by omega)) hk
theorem lname0_wp (h : Dr b t s G) (ht : t + 20 < 2 ^ 60) (hq : ∀ w G', isN w = true → Dr b (t + 20) s G' → Kp b G G' → QV (.str w) G') :
    (f_law_name [.ref s, .ls []] G).wp QV E := by
  have esz := szl_eq
  unfold f_law_name b_law_name
  simp_arith []
  unfold k_law_name_2
  simp_arith []
  unfold k_law_name_3
  simp_arith []
  refine ⟨by decide, ?_⟩
  unfold k_law_name_4
  simp_arith [take_eq]
  refine take_wp h (by decide) (by decide) (by omega) fun r1 G1 a1 b1 h1 k1 => ?_
  unfold k_law_name_5
  simp_arith []
  unfold k_law_name_6
  simp_arith []
  have fin : ∀ {w0 : Str} {G' : Hs} {t' : Nat} {D' : SP} {own kd o6 o7 : Option AV}, t' ≤ t + 20 → Dr b t' s G' → Kp b G G' → lowS w0 → (∀ v G, D'.rt v G = QV v G) → (k_law_name_13 [some (.ref s), some (.ls []), some (.str LET), own, kd, some (.str w0), o6, o7] G').wp D' := fun ht' hd hk hw hD => name130 hw fun w hw => by
    rw [hD]
    exact hq w _ hw (hd.mono ht') hk
  by_cases c0 : r1 = 0
  · subst c0
    simp_arith [take_eq]
    refine take_wp h1 (by decide) (by decide) (by omega) fun r2 G2 a2 b2 h2 k2 => ?_
    obtain ⟨i, rfl⟩ := Int.eq_ofNat_of_zero_le a2
    have hi : i < OWN.length := by have : OWN.length = 23 := rfl; omega
    have e : ((OWN.map AV.str)[((i : Nat) : Int).toNat]?) = some (.str OWN[i]) := by
      rw [List.getElem?_map, Int.toNat_natCast, List.getElem?_eq_getElem hi]; rfl
    show ((fIx (.ls (OWN.map AV.str)) (.int (i : Nat)) G2).wp _ _ : Prop)
    rw [ix_ls (v := .str OWN[i]) (by omega) (by rw [List.length_map]; omega) e]
    exact fin (by omega) h2 (k1.trans k2) (lowS_of (own_ok _ (List.getElem_mem hi))).1 fun _ _ => rfl
  · rw [decide_eq_false c0]
    simp_arith []
    have loop : ∀ (r : Int) (G' : Hs) (k : AV), 0 ≤ r → r < 8 → Dr b (t + 2) s G' → Kp b G G' → ∃ m : Int, (AV.int (1 + r)) = .int m ∧ (-(2 ^ 62) ≤ m ∧ m < 2 ^ 62) ∧ ∃ I : Nat → En → Hs → Prop, I 0 [some (.ref s), some (.ls []), some (.str LET), some (.ls (OWN.map .str)), some k, some (.str ""), none, none] G' ∧
      (∀ (j : Nat) ρ' G', (j : Int) < m → I j ρ' G' → (l_law_name_11 (ρ'.set 6 (some (.int (j : Nat)))) G').wp { nx := I (j + 1), rt := QV, bk := fun ρ G => (k_law_name_13 ρ G).wp { nx := fun _ G => QV .non G, rt := QV, bk := fun _ _ => False, ct := fun _ _ => False, ex := E }, ct := I (j + 1), ex := E }) ∧ ∀ ρ' G', I m.toNat ρ' G' → (k_law_name_13 ρ' G').wp { nx := fun _ G => QV .non G, rt := QV, bk := fun _ _ => False, ct := fun _ _ => False, ex := E } := fun r G' k h0 h8 hd hk =>
      name_for0 (D := { nx := fun ρ G => (k_law_name_13 ρ G).wp { nx := fun _ G => QV .non G, rt := QV, bk := fun _ _ => False, ct := fun _ _ => False, ex := E }, rt := QV, bk := fun _ _ => False, ct := fun _ _ => False, ex := E }) h0 h8 hd (by omega) fun w o6 G2 hw h2 k2 => fin (by omega) h2 (hk.trans k2) hw fun _ _ => rfl
    by_cases c1 : r1 = 1
    · subst c1
      simp_arith []
      refine wp_forRX ?_
      simp_arith [take_eq]
      refine ⟨by decide, ?_⟩
      rw [show (1 : Int) / 3 = 0 by decide]
      simp_arith [take_eq]
      refine take_wp h1 (by decide) (by decide) (by omega) fun r2 G2 a2 b2 h2 k2 => ?_
      simp_arith []
      exact loop r2 G2 _ a2 (by omega) h2 (k1.trans k2)
    · rw [decide_eq_false c1]
      simp_arith []
      refine wp_forRX ?_
      simp_arith [take_eq]
      refine ⟨by decide, ?_⟩
      rcases (show r1 = 2 ∨ r1 = 3 by omega) with e | e <;> subst e
      · rw [show (2 : Int) / 3 = 0 by decide]
        simp_arith [take_eq]
        refine take_wp h1 (by decide) (by decide) (by omega) fun r2 G2 a2 b2 h2 k2 => ?_
        simp_arith []
        exact loop r2 G2 _ a2 (by omega) h2 (k1.trans k2)
      · rw [show (3 : Int) / 3 = 1 by decide]
        simp_arith [take_eq]
        refine take_wp h1 (by decide) (by decide) (by omega) fun r2 G2 a2 b2 h2 k2 => ?_
        simp_arith []
        exact loop r2 G2 _ a2 (by omega) h2 (k1.trans k2)
theorem lname_wp (h : Dr b t s G) (ht : t + 20 < 2 ^ 60) (hn : G[n]? = some (.lst (had.map .str))) (hb : b ≤ n) (hl : had.length ≤ 20) (hh : ∀ x ∈ had, isN x = true) (hq : ∀ w G', isN w = true → w ∉ had → Dr b (t + 20) s G' → Kp b G G' → QV (.str w) G') :
    (f_law_name [.ref s, .ref n] G).wp QV E := by
  have esz := szl_eq
  unfold f_law_name b_law_name
  simp_arith []
  unfold k_law_name_2
  simp_arith []
  unfold k_law_name_3
  simp_arith []
  refine ⟨by decide, ?_⟩
  unfold k_law_name_4
  simp_arith [take_eq]
  refine take_wp h (by decide) (by decide) (by omega) fun r1 G1 a1 b1 h1 k1 => ?_
  unfold k_law_name_5
  simp_arith []
  unfold k_law_name_6
  simp_arith []
  have hn1 := k1.get hb hn
  have fin : ∀ {w0 : Str} {G' : Hs} {t' : Nat} {D' : SP} {own kd o6 o7 : Option AV}, t' ≤ t + 20 → Dr b t' s G' → Kp b G G' → lowS w0 → (∀ v G, D'.rt v G = QV v G) → (k_law_name_13 [some (.ref s), some (.ref n), some (.str LET), own, kd, some (.str w0), o6, o7] G').wp D' := fun ht' hd hk hw hD => name13 (hk.get hb hn) hl hw fun w hw hwh => by
    rw [hD]
    exact hq w _ hw hwh (hd.mono ht') hk
  by_cases c0 : r1 = 0
  · subst c0
    simp_arith [take_eq]
    refine take_wp h1 (by decide) (by decide) (by omega) fun r2 G2 a2 b2 h2 k2 => ?_
    obtain ⟨i, rfl⟩ := Int.eq_ofNat_of_zero_le a2
    have hi : i < OWN.length := by have : OWN.length = 23 := rfl; omega
    have e : ((OWN.map AV.str)[((i : Nat) : Int).toNat]?) = some (.str OWN[i]) := by
      rw [List.getElem?_map, Int.toNat_natCast, List.getElem?_eq_getElem hi]; rfl
    show ((fIx (.ls (OWN.map AV.str)) (.int (i : Nat)) G2).wp _ _ : Prop)
    rw [ix_ls (v := .str OWN[i]) (by omega) (by rw [List.length_map]; omega) e]
    exact fin (by omega) h2 (k1.trans k2) (lowS_of (own_ok _ (List.getElem_mem hi))).1 fun _ _ => rfl
  · rw [decide_eq_false c0]
    simp_arith []
    have loop : ∀ (r : Int) (G' : Hs) (k : AV), 0 ≤ r → r < 8 → Dr b (t + 2) s G' → Kp b G G' → ∃ m : Int, (AV.int (1 + r)) = .int m ∧ (-(2 ^ 62) ≤ m ∧ m < 2 ^ 62) ∧ ∃ I : Nat → En → Hs → Prop, I 0 [some (.ref s), some (.ref n), some (.str LET), some (.ls (OWN.map .str)), some k, some (.str ""), none, none] G' ∧
      (∀ (j : Nat) ρ' G', (j : Int) < m → I j ρ' G' → (l_law_name_11 (ρ'.set 6 (some (.int (j : Nat)))) G').wp { nx := I (j + 1), rt := QV, bk := fun ρ G => (k_law_name_13 ρ G).wp { nx := fun _ G => QV .non G, rt := QV, bk := fun _ _ => False, ct := fun _ _ => False, ex := E }, ct := I (j + 1), ex := E }) ∧ ∀ ρ' G', I m.toNat ρ' G' → (k_law_name_13 ρ' G').wp { nx := fun _ G => QV .non G, rt := QV, bk := fun _ _ => False, ct := fun _ _ => False, ex := E } := fun r G' k h0 h8 hd hk =>
      name_for (D := { nx := fun ρ G => (k_law_name_13 ρ G).wp { nx := fun _ G => QV .non G, rt := QV, bk := fun _ _ => False, ct := fun _ _ => False, ex := E }, rt := QV, bk := fun _ _ => False, ct := fun _ _ => False, ex := E }) h0 h8 hd (by omega) fun w o6 G2 hw h2 k2 => fin (by omega) h2 (hk.trans k2) hw fun _ _ => rfl
    by_cases c1 : r1 = 1
    · subst c1
      simp_arith []
      rw [len_L hn1]
      simp_arith []
      rw [List.length_map]
      by_cases c2 : (had.length : Int) > 0
      · rw [decide_eq_true c2]
        simp_arith [take_eq]
        rw [len_L hn1]
        simp_arith [take_eq]
        rw [List.length_map]
        refine take_wp h1 (by omega) (by omega) (by omega) fun r2 G2 a2 b2 h2 k2 => ?_
        obtain ⟨i, rfl⟩ := Int.eq_ofNat_of_zero_le a2
        have hi : i < had.length := by omega
        have hn2 := k2.get hb hn1
        rw [wp_ixL hn2 (by omega) (by rw [List.length_map]; omega) (w := .str had[i]) (by rw [List.getElem?_map, Int.toNat_natCast, List.getElem?_eq_getElem hi]; rfl)]
        have hlw := (lowS_of (hh _ (List.getElem_mem hi))).1
        simp_arith [take_eq]
        refine take_wp h2 (by decide) (by decide) (by omega) fun r3 G3 a3 b3 h3 k3 => ?_
        refine wp_ixS (by show LET.length ≤ szl; rw [len_let]; decide) a3 (by show r3 < ((LET.length : Nat) : Int); rw [len_let]; exact b3) fun c hc => ?_
        have e9 : had[i].length ≤ 8 := hlw.2.1
        simp_arith [wp_addIs, wp_slS]
        refine ⟨by show _ + 1 ≤ szl; omega, ?_⟩
        refine ⟨by rw [len_app]; show _ + 1 ≤ szl; omega, ?_⟩
        exact fin (by omega) h3 ((k1.trans k2).trans k3) (low_cut hlw hc) fun _ _ => rfl
      · rw [decide_eq_false c2]
        simp_arith []
        refine wp_forRX ?_
        simp_arith [take_eq]
        refine ⟨by decide, ?_⟩
        rw [show (1 : Int) / 3 = 0 by decide]
        simp_arith [take_eq]
        refine take_wp h1 (by decide) (by decide) (by omega) fun r2 G2 a2 b2 h2 k2 => ?_
        simp_arith []
        exact loop r2 G2 _ a2 (by omega) h2 (k1.trans k2)
    · rw [decide_eq_false c1]
      simp_arith []
      refine wp_forRX ?_
      simp_arith [take_eq]
      refine ⟨by decide, ?_⟩
      rcases (show r1 = 2 ∨ r1 = 3 by omega) with e | e <;> subst e
      · rw [show (2 : Int) / 3 = 0 by decide]
        simp_arith [take_eq]
        refine take_wp h1 (by decide) (by decide) (by omega) fun r2 G2 a2 b2 h2 k2 => ?_
        simp_arith []
        exact loop r2 G2 _ a2 (by omega) h2 (k1.trans k2)
      · rw [show (3 : Int) / 3 = 1 by decide]
        simp_arith [take_eq]
        refine take_wp h1 (by decide) (by decide) (by omega) fun r2 G2 a2 b2 h2 k2 => ?_
        simp_arith []
        exact loop r2 G2 _ a2 (by omega) h2 (k1.trans k2)
theorem unlike_wp {m : Nat} (h : Dr b t s G) (hm : m ≤ 6) (ht : t + 200 < 2 ^ 60) (hq : ∀ (n : Nat) (l : List Str) G', l.length = m → l.Nodup → (∀ x ∈ l, isN x = true) → b ≤ n → G'[n]? = some (.lst (l.map .str)) → Dr b (t + 20 * m) s G' → Kp b G G' → QV (.ref n) G') :
    (f_law_unlike [.ref s, .int m] G).wp QV E := by
  have esz := szl_eq
  have hbl := h.bl
  unfold f_law_unlike b_law_unlike
  simp_arith []
  unfold k_law_unlike_2
  simp_arith []
  have hw : mRg1 (mVar 1) [some (.ref s), some (.int m), some (.ref G.length), none] (G ++ [AO.lst []]) = .ok (rgA 0 (m : Int), none) (G ++ [AO.lst []]) := rg1_ok (var_ok rfl) (by omega) (by omega)
  refine wp_forR0 (n := m) hw (fun j ρ' G' => ∃ (l : List Str) (o3 : Option AV), ρ' = [some (.ref s), some (.int m), some (.ref G.length), o3] ∧ l.length = j ∧ l.Nodup ∧ (∀ x ∈ l, isN x = true) ∧ G'[G.length]? = some (.lst (l.map .str)) ∧ Dr b (t + 20 * j) s G' ∧ Kp b G G')
    (by exact ⟨[], _, rfl, rfl, List.nodup_nil, (fun _ h => nomatch h), by simp, h.app, Kp.app _ _ _⟩) (fun j ρ' G' hj ⟨l, o3, eρ, hl, hnd, hN, hg, hd, hk⟩ => ?_) fun ρ' G' ⟨l, o3, eρ, hl, hnd, hN, hg, hd, hk⟩ => ?_
  · subst eρ
    simp only [List.set_cons_succ, List.set_cons_zero]
    unfold l_law_unlike_2
    simp_arith [isL_L hg]
    refine lname_wp hd (by omega) hg hbl (by omega) hN fun w G2 hw hwl h2 k2 => ?_
    have hg2 := k2.get hbl hg
    simp_arith [isL_L hg2]
    rw [wp_appL hg2]
    refine ⟨by rw [List.length_map]; omega, l ++ [w], _, rfl, by rw [List.length_append, hl]; rfl, ?_, ?_, ?_, (h2.setN hbl).mono (by omega), ?_⟩
    · rw [List.nodup_append]
      refine ⟨hnd, by simp, fun x hx y hy e => ?_⟩
      rw [List.mem_singleton.mp hy] at e
      exact hwl (e ▸ hx)
    · intro x hx
      rcases List.mem_append.mp hx with hx | hx
      · exact hN x hx
      · rw [List.mem_singleton.mp hx]; exact hw
    · rw [Pl.set_self hg2, List.map_append]; rfl
    · exact (hk.trans k2).setN (by have := hk.le; omega) |> fun q => q
  · subst eρ
    simp_arith []
    exact hq _ l G' hl hnd hN hbl hg hd hk
end
end L_k13
namespace L_k13
open PySem L2 Vz
structure Hd where
  who : Str
  gets : List Str
  gives : Nat
  star : Bool
def Hd.av (h : Hd) : AV := .tup [.str h.who, .tup (Pl.strA h.gets), .int h.gives, .bl h.star]
structure Kit where
  heads : List Hd
  later : List Hd
  boxes : List Str
  star : Bool
  gives : Nat
/-- a name of any kind, short -/
def nmS (w : Str) : Prop := (PyData.str w).canLay0 = true ∧ w.length ≤ 9
structure KA where
  κ : Nat
  h : Nat
  l : Nat
  b : Nat
  f : Nat
  bad : AV
  odd : Nat
def kitK (A : KA) (K : Kit) : List (L2.Key × AV) := [(.inr "heads", .ref A.h), (.inr "later", .ref A.l), (.inr "boxes", .ref A.b), (.inr "star", .bl K.star), (.inr "gives", .int K.gives), (.inr "odd", .int A.odd), (.inr "left", .ref A.f), (.inr "bad", A.bad)]
/-- the kit, as it stands -/
structure KitH (b : Nat) (A : KA) (K : Kit) (G : Hs) : Prop where
  k : G[A.κ]? = some (.dk (kitK A K))
  h : G[A.h]? = some (.lst (K.heads.map Hd.av))
  l : G[A.l]? = some (.lst (K.later.map Hd.av))
  x : G[A.b]? = some (.lst (K.boxes.map .str))
  f : ∃ i : Int, G[A.f]? = some (.lst [.int i])
  lk : b ≤ A.κ
  lh : b ≤ A.h
  ll : b ≤ A.l
  lx : b ≤ A.b
  lf : b ≤ A.f
  nh : A.f ≠ A.h
  nl : A.f ≠ A.l
  nx : A.f ≠ A.b
  od : A.odd ≤ 200
  bd : ∃ w, A.bad = .str w ∧ nmS w
/-- what a kit holds -/
structure KitOk (K : Kit) : Prop where
  b0 : 0 < K.boxes.length
  b1 : K.boxes.length ≤ 10
  bn : ∀ x ∈ K.boxes, isN x = true
  h0 : 0 < K.heads.length
  h1 : K.heads.length ≤ 10
  hn : ∀ h ∈ K.heads, isN h.who = true ∧ (∀ x ∈ h.gets, isN x = true) ∧ h.gets.length ≤ 4 ∧ h.gives ≤ 3
  l1 : K.later.length ≤ 10
  ls : ∀ h ∈ K.later, h ∈ K.heads
  g : K.gives ≤ 3
def exOk (_K : Kit) : Pl.Ex → Prop
  | .num n => 0 ≤ n ∧ n < 1000000007
  | .box x => nmS x
  | .ref g => nmS g
  | .many => True
  | .extra e => exOk _K e
  | .sum _ a b => exOk _K a ∧ exOk _K b
def esOk (K : Kit) (es : List Pl.Ex) : Prop := es.length ≤ 7 ∧ ∀ e ∈ es, exOk K e ∧ e.dep ≤ 2
theorem let_can : ∀ c ∈ LET.cps.toList, c < 0x110000 := by decide +kernel
theorem can_low {w : Str} (h : lowS w) : (PyData.str w).canLay0 = true := by
  show PyData.strOk w = true
  unfold PyData.strOk
  rw [Array.all_eq_true_iff_forall_mem]
  intro c hc
  have := List.all_eq_true.mp h.2.2 c (by simpa using hc)
  exact decide_eq_true (let_can c (of_decide_eq_true this))
theorem can_N {w : Str} (h : isN w = true) : (PyData.str w).canLay0 = true := can_low (lowS_of h).1
theorem nmS_N {w : Str} (h : isN w = true) : nmS w := ⟨can_N h, by have := (lowS_of h).1.2.1; omega⟩
theorem dS {k : Nat} {w : Str} (h : (PyData.str w).canLay0 = true) (l : 1 ≤ k) : Da k (.str w) := (da_str h).mono l
theorem dI {k : Nat} {i : Int} (l : 1 ≤ k) : Da k (.int i) := (da_int i).mono l
section
variable {QV : AV → Hs → Prop} {QB : Bool → Hs → Prop} {E : XQ} {G G' : Hs} {ρ : En} {D : SP} {b t s n : Nat} {z : AV} {A : KA} {K : Kit}
theorem KitH.kp (h : KitH b A K G) (k : Kp b G G') : KitH b A K G' :=
  ⟨k.get h.lk h.k, k.get h.lh h.h, k.get h.ll h.l, k.get h.lx h.x, let ⟨i, e⟩ := h.f; ⟨i, k.get h.lf e⟩, h.lk, h.lh, h.ll, h.lx, h.lf, h.nh, h.nl, h.nx, h.od, h.bd⟩
theorem kg_heads : getA (kitK A K) (.inr "heads") = some (.ref A.h) := by simp [getA, kitK, ofS_inj]
theorem kg_later : getA (kitK A K) (.inr "later") = some (.ref A.l) := by simp [getA, kitK, ofS_inj]
theorem kg_boxes : getA (kitK A K) (.inr "boxes") = some (.ref A.b) := by simp [getA, kitK, ofS_inj]
theorem kg_star : getA (kitK A K) (.inr "star") = some (.bl K.star) := by simp [getA, kitK, ofS_inj]
theorem kg_gives : getA (kitK A K) (.inr "gives") = some (.int K.gives) := by simp [getA, kitK, ofS_inj]
theorem kg_odd : getA (kitK A K) (.inr "odd") = some (.int A.odd) := by simp [getA, kitK, ofS_inj]
theorem kg_bad : getA (kitK A K) (.inr "bad") = some A.bad := by simp [getA, kitK, ofS_inj]
theorem kg_left : getA (kitK A K) (.inr "left") = some (.ref A.f) := by simp [getA, kitK, ofS_inj]
theorem odd_wp (h : KitH b A K G) (hd : Dr b t s G) (ht : t < 2 ^ 60) (hq : ∀ c G', Dr b (t + 1) s G' → Kp b G G' → QV (.bl c) G') : (f_law_odd [.ref s, .ref A.κ] G).wp QV E := by
  have ho := h.od
  unfold f_law_odd b_law_odd
  simp_arith []
  rw [wp_dgS h.k kg_odd]
  simp_arith []
  by_cases c : (A.odd : Int) > 0
  · rw [decide_eq_true c]
    simp_arith [take_eq]
    rw [wp_dgS h.k kg_odd]
    simp_arith [take_eq]
    refine take_wp hd (by omega) (by omega) ht fun r G' r0 r1 h' k => ?_
    simp_arith []
    exact hq _ G' h' k
  · rw [decide_eq_false c]
    simp_arith []
    exact hq _ G (hd.mono (by omega)) (Kp.refl _ _)
theorem pick_wp {n : Nat} {xs : List AV} (h : Dr b t s G) (ht : t < 2 ^ 60) (hn : G[n]? = some (.lst xs)) (hb : b ≤ n) (h0 : 0 < xs.length) (h1 : xs.length < 1000)
    (hq : ∀ x G', x ∈ xs → Dr b (t + 1) s G' → Kp b G G' → QV x G') : (f_law_pick [.ref s, .ref n] G).wp QV E := by
  unfold f_law_pick b_law_pick
  simp_arith [len_L hn, take_eq]
  refine take_wp h (by omega) (by omega) ht fun r G' r0 r1 h' k => ?_
  have hi : r.toNat < xs.length := by omega
  rw [wp_ixL (k.get hb hn) r0 r1 (List.getElem?_eq_getElem hi)]
  exact hq _ _ (List.getElem_mem hi) h' k
theorem pickI_wp {xs : List AV} (h : Dr b t s G) (ht : t < 2 ^ 60) (h0 : 0 < xs.length) (h1 : xs.length < 1000)
    (hq : ∀ x G', x ∈ xs → Dr b (t + 1) s G' → Kp b G G' → QV x G') : (f_law_pick [.ref s, .ls xs] G).wp QV E := by
  unfold f_law_pick b_law_pick
  simp_arith [take_eq]
  refine take_wp h (by omega) (by omega) ht fun r G' r0 r1 h' k => ?_
  have hi : r.toNat < xs.length := by omega
  rw [ix_ls r0 r1 (List.getElem?_eq_getElem hi)]
  exact hq _ _ (List.getElem_mem hi) h' k
theorem box_wp (ok : KitOk K) (h : KitH b A K G) (hd : Dr b t s G) (ht : t + 1 < 2 ^ 60) (hq : ∀ x G', nmS x → Dr b (t + 2) s G' → Kp b G G' → QV (.str x) G') : (f_law_box [.ref s, .ref A.κ] G).wp QV E := by
  unfold f_law_box b_law_box
  simp_arith []
  refine odd_wp h hd (by omega) fun c G1 d1 k1 => ?_
  have hK := h.kp k1
  cases c with
  | true =>
    simp_arith []
    rw [wp_dgS hK.k kg_bad]
    obtain ⟨w, e, hw⟩ := h.bd
    rw [e]
    exact hq w G1 hw (d1.mono (by omega)) k1
  | false =>
    simp_arith []
    unfold k_law_box_3
    simp_arith []
    rw [wp_dgS hK.k kg_boxes]
    refine pick_wp d1 (by omega) hK.x h.lx (by rw [List.length_map]; exact ok.b0) (by rw [List.length_map]; have := ok.b1; omega) fun v G' hv h' k => ?_
    obtain ⟨x, hx, rfl⟩ := List.mem_map.mp hv
    exact hq x G' (nmS_N (ok.bn x hx)) h' (k1.trans k)
theorem worthD_wp (hd : Dr b t s G) (ht : t + 4 < 2 ^ 60) (hq : ∀ i G', 0 ≤ i → i < 1000000007 → Dr b (t + 4) s G' → Kp b G G' → QV (.int i) G') : (f_law_worth [.ref s] G).wp QV E := by
  have p9 : (10 : Int) ^ (9 : Int).toNat = 1000000000 := by decide
  unfold f_law_worth b_law_worth
  simp_arith [take_eq]
  refine take_wp hd (by decide) (by decide) (by omega) fun r1 G1 a1 b1 h1 k1 => ?_
  simp_arith [take_eq]
  refine take_wp h1 (by decide) (by decide) (by omega) fun r2 G2 a2 b2 h2 k2 => ?_
  simp_arith [take_eq]
  rw [p9]
  refine ⟨by decide, ?_⟩
  refine take_wp h2 (by decide) (by decide) (by omega) fun r3 G3 a3 b3 h3 k3 => ?_
  simp_arith [take_eq]
  refine ⟨by decide, ?_⟩
  refine take_wp h3 (by decide) (by decide) (by omega) fun r4 G4 a4 b4 h4 k4 => ?_
  have k := ((k1.trans k2).trans k3).trans k4
  rcases (show r4 = 0 ∨ r4 = 1 ∨ r4 = 2 ∨ r4 = 3 by omega) with q | q | q | q <;> subst q
  · simp_arith []
    exact hq _ _ a1 (by omega) h4 k
  · simp_arith []
    exact hq _ _ a2 (by omega) h4 k
  · simp_arith []
    exact hq _ _ a3 (by omega) h4 k
  · simp_arith []
    exact hq _ _ (by omega) (by omega) h4 k
theorem eqF_nil {k : Nat} {v : AV} {xs : List AV} (h : ∀ v ∈ xs, Da k v) (l : k ≤ 10) (he : dat 12 G v = dat 12 G (.ls xs)) : eqF G v (.ls []) = some xs.isEmpty := by
  obtain ⟨ds, hd⟩ := das_of h
  have e1 : eqF G v (.ls []) = eqF G (.ls xs) (.ls []) := by
    unfold eqF
    rw [he]
  rw [e1, eqF_da (daD_ls hd) (daD_ls (k := k) .nil) (by omega) (by omega)]
  cases hd <;> rfl
theorem strs_nil {xs : List Str} (h : ∀ x ∈ xs, (PyData.str x).canLay0 = true) : (fNe (.ls (xs.map .str)) (.ls []) G).wp QV E = QV (.bl (!xs.isEmpty)) G := by
  have e : eqB G (.ls (xs.map .str)) (.ls []) = some xs.isEmpty := by
    show eqF G (.ls (xs.map .str)) (.ls []) = _
    rw [eqF_nil (k := 1) (fun v hv => by obtain ⟨x, hx, rfl⟩ := List.mem_map.mp hv; exact da_str (h x hx)) (by decide) rfl]
    cases xs <;> rfl
  unfold fNe
  rw [e]
  rfl
theorem hd_da {h : Hd} (h1 : isN h.who = true) (h2 : ∀ x ∈ h.gets, isN x = true) : Da 3 h.av := da_tup (k := 2) (by
  intro v hv
  simp only [List.mem_cons, List.not_mem_nil, or_false] at hv
  rcases hv with rfl | rfl | rfl | rfl
  · exact dS (can_N h1) (by decide)
  · exact da_tup (k := 1) fun v hv => by obtain ⟨x, hx, rfl⟩ := List.mem_map.mp hv; exact da_str (can_N (h2 x hx))
  · exact dI (by decide)
  · exact (da_bl _).mono (by decide))
theorem heads_nil {n : Nat} {hs : List Hd} (hn : G[n]? = some (.lst (hs.map Hd.av))) (h : ∀ h ∈ hs, isN h.who = true ∧ ∀ x ∈ h.gets, isN x = true) : (fEq (.ref n) (.ls []) G).wp QV E = QV (.bl hs.isEmpty) G := by
  have e : eqB G (.ref n) (.ls []) = some hs.isEmpty := by
    show eqF G (.ref n) (.ls []) = _
    rw [eqF_nil (k := 3) (fun v hv => by obtain ⟨x, hx, rfl⟩ := List.mem_map.mp hv; exact hd_da (h x hx).1 (h x hx).2) (by decide) (by simp only [dat, hn])]
    cases hs <;> rfl
  unfold fEq
  rw [e]
  rfl
def isOne : AV → Bool
  | .tup [_, _, .int g, _] => decide (g = 1)
  | _ => false
def whoA : AV → AV
  | .tup (w :: _) => w
  | v => v
theorem ones_map : ∀ hs : List Hd, ((hs.map Hd.av).filter isOne).map whoA = ((hs.filter fun h => decide (h.gives = 1)).map Hd.who).map .str
  | [] => rfl
  | h :: hs => by
    have e : isOne h.av = decide (h.gives = 1) := by
      show decide ((h.gives : Int) = 1) = decide (h.gives = 1)
      by_cases c : h.gives = 1
      · rw [c]; rfl
      · rw [decide_eq_false c, decide_eq_false (by omega)]
    rw [List.map_cons, List.filter_cons, List.filter_cons, e]
    by_cases c : h.gives = 1
    · rw [decide_eq_true c, if_pos rfl, if_pos rfl, List.map_cons, List.map_cons, List.map_cons, ones_map hs]; rfl
    · rw [decide_eq_false c, if_neg (by decide), if_neg (by decide), ones_map hs]
theorem leaf_wp (ok : KitOk K) (h : KitH b A K G) (hd : Dr b t s G) (ht : t + 30 < 2 ^ 60) (hq : ∀ e G', exOk K e → e.dep ≤ 1 → Dr b (t + 30) s G' → Kp b G G' → QV e.av G') : (f_law_leaf [.ref s, .ref A.κ] G).wp QV E := by
  have esz := szl_eq
  have h1 := ok.h1
  unfold f_law_leaf b_law_leaf
  simp_arith [take_eq]
  refine take_wp hd (by decide) (by decide) (by omega) fun r G1 a1 b1 d1 k1 => ?_
  have hK := h.kp k1
  unfold k_law_leaf_2
  simp_arith []
  by_cases c : r < 3
  · rw [decide_eq_true c]
    simp_arith []
    refine worthD_wp d1 (by omega) fun i G2 i0 i1 d2 k2 => ?_
    simp_arith []
    exact hq (.num i) G2 ⟨i0, i1⟩ (Nat.le_refl _) (d2.mono (by omega)) (k1.trans k2)
  rw [decide_eq_false c]
  simp_arith []
  unfold k_law_leaf_4
  simp_arith []
  have last : ∀ (G2 : Hs) (o3 o4 : Option AV) (D' : SP), (∀ v G, D'.rt v G = QV v G) → Dr b (t + 23) s G2 → Kp b G G2 → (k_law_leaf_10 [some (.ref s), some (.ref A.κ), some (.int r), o3, o4] G2).wp D' := fun G2 o3 o4 D' hD d2 k2 => by
    have hK2 := h.kp k2
    have fin : ∀ (D' : SP) (G3 : Hs), (∀ v G, D'.rt v G = QV v G) → Dr b (t + 24) s G3 → Kp b G G3 → (k_law_leaf_12 [some (.ref s), some (.ref A.κ), some (.int r), o3, o4] G3).wp D' := fun D' G3 hD d3 k3 => by
      unfold k_law_leaf_12
      simp_arith []
      refine box_wp ok (h.kp k3) d3 (by omega) fun x G4 hx d4 k4 => ?_
      simp_arith []
      rw [hD]
      exact hq (.box x) G4 hx (Nat.le_refl _) (d4.mono (by omega)) (k3.trans k4)
    unfold k_law_leaf_10
    simp_arith []
    by_cases c7 : r = 7
    · rw [decide_eq_true c7]
      simp_arith []
      rw [wp_dgS hK2.k kg_star]
      simp_arith []
      cases hst : K.star with
      | true =>
        simp_arith []
        rw [hD]
        exact hq .many G2 trivial (Nat.le_refl _) (d2.mono (by omega)) k2
      | false =>
        simp_arith []
        refine odd_wp hK2 d2 (by omega) fun c G3 d3 k3 => ?_
        cases c with
        | true =>
          simp_arith []
          rw [hD]
          exact hq .many G3 trivial (Nat.le_refl _) (d3.mono (by omega)) (k2.trans k3)
        | false =>
          simp_arith []
          exact fin _ G3 hD (d3.mono (by omega)) (k2.trans k3)
    · rw [decide_eq_false c7]
      simp_arith []
      exact fin _ G2 hD (d2.mono (by omega)) k2
  by_cases c6 : r = 6
  · rw [decide_eq_true c6]
    simp_arith []
    rw [wp_fzSet (by simp), wp_fz]
    have hmi : (mWk (m2 fDg (mVar 1) (mC (.str "heads")))) [some (.ref s), some (.ref A.κ), some (.int r), none, none] G1 = .ok (K.heads.map Hd.av, some (A.h, K.heads.map Hd.av)) G1 := wk_ok (v := .ref A.h) (eq_of_wp (by
      simp_arith []
      rw [wp_dgS hK.k kg_heads]
      exact ⟨rfl, rfl⟩)) (wk_L hK.h)
    refine wp_lcPK hmi isOne whoA (by rw [List.length_map]; omega) hK.h (fun v hv acc => ?_) ?_
    · obtain ⟨x, _, rfl⟩ := List.mem_map.mp hv
      refine ⟨_, rfl, eq_of_wp ?_, fun _ => eq_of_wp ?_⟩
      · simp_arith []
        exact ⟨rfl, rfl⟩
      · simp_arith []
        exact ⟨rfl, rfl⟩
    · show fzQ _ (.ref G1.length) (G1 ++ [.lst (((K.heads.map Hd.av).filter isOne).map whoA)])
      rw [ones_map, fzQ_lst List.getElem?_concat_length]
      have k2 : Kp b G1 ((G1 ++ [AO.lst (((K.heads.filter fun h => decide (h.gives = 1)).map Hd.who).map .str)]).set G1.length .gone) := (Kp.app b G1 _).setN (Nat.le_refl _)
      have d2 := (d1.app (o := [AO.lst (((K.heads.filter fun h => decide (h.gives = 1)).map Hd.who).map .str)])).setN (o := .gone) (n := G1.length) d1.bl
      generalize (G1 ++ [AO.lst (((K.heads.filter fun h => decide (h.gives = 1)).map Hd.who).map .str)]).set G1.length .gone = G2 at k2 d2
      have hN : ∀ x ∈ (K.heads.filter fun h => decide (h.gives = 1)).map Hd.who, nmS x := fun x hx => by
        obtain ⟨y, hy, rfl⟩ := List.mem_map.mp hx
        exact nmS_N (ok.hn y (List.mem_filter.mp hy).1).1
      have hlen : ((K.heads.filter fun h => decide (h.gives = 1)).map Hd.who).length ≤ 10 := by
        rw [List.length_map]
        exact Nat.le_trans (List.length_filter_le _ _) h1
      generalize (K.heads.filter fun h => decide (h.gives = 1)).map Hd.who = ns at hN hlen
      simp_arith []
      have last2 : ∀ (ns : List Str) (G3 : Hs) (o4 : Option AV) (D' : SP), (∀ v G, D'.rt v G = QV v G) → (∀ ρ G, D'.nx ρ G = (k_law_leaf_10 ρ G).wp { nx := fun _ G => QV .non G, rt := QV, bk := fun _ _ => False, ct := fun _ _ => False, ex := E }) → (∀ x ∈ ns, nmS x) → ns.length ≤ 20 → Dr b (t + 23) s G3 → Kp b G G3 → (k_law_leaf_8 [some (.ref s), some (.ref A.κ), some (.int r), some (.ls (ns.map .str)), o4] G3).wp D' := fun ns G3 o4 D' hD hD2 hN hlen d3 k3 => by
        unfold k_law_leaf_8
        simp_arith []
        rw [strs_nil fun x hx => (hN x hx).1]
        simp_arith []
        cases ns with
        | nil =>
          simp_arith [List.isEmpty_nil]
          rw [hD2]
          exact last G3 _ _ _ (fun _ _ => rfl) d3 k3
        | cons x ns =>
          simp_arith [List.isEmpty_cons]
          refine pickI_wp d3 (by omega) (by simp) (by simp at hlen ⊢; omega) fun v G4 hv d4 k4 => ?_
          obtain ⟨y, hy, rfl⟩ := List.mem_map.mp (show v ∈ (x :: ns).map AV.str from hv)
          simp_arith []
          rw [hD]
          exact hq (.ref y) G4 (hN y hy) (Nat.le_refl _) (d4.mono (by omega)) (k3.trans k4)
      unfold k_law_leaf_6
      simp_arith []
      refine odd_wp (h.kp (k1.trans k2)) d2 (by omega) fun c G3 d3 k3 => ?_
      cases c with
      | false =>
        simp_arith []
        exact last2 ns G3 _ _ (fun _ _ => rfl) (fun _ _ => rfl) hN (by omega) (d3.mono (by omega)) ((k1.trans k2).trans k3)
      | true =>
        have hK3 := h.kp ((k1.trans k2).trans k3)
        simp_arith []
        rw [wp_fz]
        have hmi : (mWk (m2 fDg (mVar 1) (mC (.str "heads")))) [some (.ref s), some (.ref A.κ), some (.int r), some (.ls (ns.map .str)), none] G3 = .ok (K.heads.map Hd.av, some (A.h, K.heads.map Hd.av)) G3 := wk_ok (v := .ref A.h) (eq_of_wp (by
          simp_arith []
          rw [wp_dgS hK3.k kg_heads]
          exact ⟨rfl, rfl⟩)) (wk_L hK3.h)
        refine wp_lcPK hmi (fun _ => true) whoA (by rw [List.length_map]; omega) hK3.h (fun v hv acc => ?_) ?_
        · obtain ⟨x, _, rfl⟩ := List.mem_map.mp hv
          refine ⟨_, rfl, rfl, fun _ => eq_of_wp ?_⟩
          simp_arith []
          exact ⟨rfl, rfl⟩
        · show fzQ _ (.ref G3.length) (G3 ++ [.lst (((K.heads.map Hd.av).filter fun _ => true).map whoA)])
          have eW : ((K.heads.map Hd.av).filter fun _ => true).map whoA = (K.heads.map Hd.who).map .str := by
            rw [List.filter_eq_self.mpr fun _ _ => rfl, List.map_map, List.map_map]
            rfl
          rw [eW, fzQ_lst List.getElem?_concat_length]
          have k4 : Kp b G3 ((G3 ++ [AO.lst ((K.heads.map Hd.who).map .str)]).set G3.length .gone) := (Kp.app b G3 _).setN (Nat.le_refl _)
          have d4 := (d3.app (o := [AO.lst ((K.heads.map Hd.who).map .str)])).setN (o := .gone) (n := G3.length) d3.bl
          generalize (G3 ++ [AO.lst ((K.heads.map Hd.who).map .str)]).set G3.length .gone = G4 at k4 d4
          simp_arith []
          refine lname0_wp d4 (by omega) fun w G5 hw d5 k5 => ?_
          simp_arith []
          refine ⟨by rw [List.length_map, List.length_map]; show K.heads.length + 1 ≤ szl; omega, ?_⟩
          have eL : (K.heads.map Hd.who).map AV.str ++ [AV.str w] = (K.heads.map Hd.who ++ [w]).map .str := by rw [List.map_append]; rfl
          rw [eL]
          refine last2 _ G5 _ _ (fun _ _ => rfl) (fun _ _ => rfl) (fun x hx => ?_) (by rw [List.length_append, List.length_map]; show _ + 1 ≤ 20; omega) (d5.mono (by omega)) ((((k1.trans k2).trans k3).trans k4).trans k5)
          rcases List.mem_append.mp hx with hx | hx
          · obtain ⟨y, hy, rfl⟩ := List.mem_map.mp hx
            exact nmS_N (ok.hn y hy).1
          · rw [List.mem_singleton.mp hx]; exact nmS_N hw
  · rw [decide_eq_false c6]
    simp_arith []
    exact last G1 _ _ _ (fun _ _ => rfl) (d1.mono (by omega)) k1
end
end L_k13
namespace L_k13
open PySem L2 Vz
/-- a simple statement -/
def smOk (K : Kit) : Pl.St → Prop
  | .set x e => nmS x ∧ exOk K e ∧ e.dep ≤ 3
  | .say e => exOk K e ∧ e.dep ≤ 3
  | .call ts g es => ts.length ≤ 4 ∧ nmS g ∧ (∀ x ∈ ts, nmS x) ∧ esOk K es
  | .at_ t e es => nmS t ∧ exOk K e ∧ e.dep ≤ 1 ∧ esOk K es
  | .ret es => esOk K es
  | .throw e => exOk K e ∧ e.dep ≤ 2
  | _ => False
section
variable {QV : AV → Hs → Prop} {QB : Bool → Hs → Prop} {E : XQ} {G G' : Hs} {ρ : En} {D : SP} {b t s n : Nat} {z : AV} {A : KA} {K : Kit}
def cE : Nat → Nat
  | 0 => 32
  | d + 1 => 3 * cE d
theorem cE_pos : ∀ d, 32 ≤ cE d
  | 0 => Nat.le_refl _
  | d + 1 => by have := cE_pos d; simp only [cE]; omega
theorem expr_wp (ok : KitOk K) : ∀ (d n t : Nat) (G : Hs) (QV : AV → Hs → Prop) (E : XQ), d < n → KitH b A K G → Dr b t s G → t + cE d < 2 ^ 60 → (∀ e G', exOk K e → e.dep ≤ d + 1 → Dr b (t + cE d) s G' → Kp b G G' → QV e.av G') →
    (ringF step_law_expression n 0 [.ref s, .ref A.κ, .int (d : Nat)] G).wp QV E
  | d, 0, t, G, QV, E, hn, _, _, _, _ => by omega
  | d, n + 1, t, G, QV, E, hn, h, hd, ht, hq => by
    have hc := cE_pos d
    rw [ringS]
    show ((mFn 6 (b_law_expression (ringF step_law_expression n))) [.ref s, .ref A.κ, .int (d : Nat)] G).wp QV E
    unfold b_law_expression
    simp_arith [take_eq]
    refine take_wp hd (by decide) (by decide) (by omega) fun r G1 a1 b1 d1 k1 => ?_
    have hK := h.kp k1
    have leaf : ∀ D' : SP, (∀ v G, D'.rt v G = QV v G) → (mRet (mCall 2 2 0 gAll f_law_leaf (mCons (mVar 0) (mCons (mVar 1) mNil)) mNil) [some (.ref s), some (.ref A.κ), some (.int (d : Nat)), some (.int r), none, none] G1).wp D' := fun D' hD => by
      simp_arith []
      refine leaf_wp ok hK d1 (by omega) fun e G2 he hde d2 k2 => ?_
      rw [hD]
      exact hq e G2 he (by omega) (d2.mono (by omega)) (k1.trans k2)
    unfold k_law_expression_2
    rw [wp_seq, wp_if, wp_or, wp_test]
    simp_arith []
    cases d with
    | zero =>
      rw [decide_eq_true (show ((0 : Nat) : Int) = 0 from rfl)]
      simp_arith []
      refine leaf_wp ok hK d1 (by omega) fun e G2 he hde d2 k2 => ?_
      exact hq e G2 he (by omega) (d2.mono (by omega)) (k1.trans k2)
    | succ d =>
      have hcd : cE (d + 1) = 3 * cE d := rfl
      have hc0 := cE_pos d
      have es : ((d + 1 : Nat) : Int) - 1 = (d : Nat) := by omega
      rw [decide_eq_false (show ¬ ((d + 1 : Nat) : Int) = 0 by omega)]
      simp_arith []
      by_cases c5 : r < 5
      · rw [decide_eq_true c5]
        simp_arith []
        refine leaf_wp ok hK d1 (by omega) fun e G2 he hde d2 k2 => ?_
        exact hq e G2 he (by omega) (d2.mono (by omega)) (k1.trans k2)
      rw [decide_eq_false c5]
      simp_arith []
      have sum : ∀ (D' : SP) (G2 : Hs), (∀ v G, D'.rt v G = QV v G) → Dr b (t + 2) s G2 → Kp b G G2 → (k_law_expression_6 (ringF step_law_expression n) [some (.ref s), some (.ref A.κ), some (.int ((d + 1 : Nat) : Int)), some (.int r), none, none] G2).wp D' := fun D' G2 hD d2 k2 => by
        have hK2 := h.kp k2
        unfold k_law_expression_6
        simp_arith []
        refine pickI_wp d2 (by omega) (by simp) (by simp) fun v G3 hv d3 k3 => ?_
        obtain ⟨kk, hkk⟩ : ∃ kk : Pl.Sk, v = .str kk.word := by
          simp only [List.mem_cons, List.not_mem_nil, or_false] at hv
          rcases hv with e | e | e | e | e
          · exact ⟨.plus, e⟩
          · exact ⟨.less, e⟩
          · exact ⟨.times, e⟩
          · exact ⟨.under, e⟩
          · exact ⟨.same, e⟩
        subst hkk
        unfold k_law_expression_7
        simp_arith []
        rw [es]
        refine expr_wp ok d n _ G3 _ _ (by omega) (hK2.kp k3) d3 (by omega) fun e1 G4 he1 hd1 d4 k4 => ?_
        unfold k_law_expression_8
        simp_arith []
        rw [es]
        refine expr_wp ok d n _ G4 _ _ (by omega) ((hK2.kp k3).kp k4) d4 (by omega) fun e2 G5 he2 hd2 d5 k5 => ?_
        simp_arith []
        rw [hD]
        exact hq (.sum kk e1 e2) G5 ⟨he1, he2⟩ (by simp only [Pl.Ex.dep]; omega) (d5.mono (by omega)) (((k2.trans k3).trans k4).trans k5)
      unfold k_law_expression_4
      simp_arith []
      by_cases c6 : r = 5
      · rw [decide_eq_true c6]
        simp_arith []
        rw [wp_dgS hK.k kg_star]
        simp_arith []
        cases hst : K.star with
        | true =>
          simp_arith []
          rw [es]
          refine expr_wp ok d n _ G1 _ _ (by omega) hK d1 (by omega) fun e1 G3 he1 hd1 d3 k3 => ?_
          simp_arith []
          exact hq (.extra e1) G3 he1 (by simp only [Pl.Ex.dep]; omega) (d3.mono (by omega)) (k1.trans k3)
        | false =>
          simp_arith []
          refine odd_wp hK d1 (by omega) fun c G2 d2 k2 => ?_
          cases c with
          | true =>
            simp_arith []
            rw [es]
            refine expr_wp ok d n _ G2 _ _ (by omega) (hK.kp k2) d2 (by omega) fun e1 G3 he1 hd1 d3 k3 => ?_
            simp_arith []
            exact hq (.extra e1) G3 he1 (by simp only [Pl.Ex.dep]; omega) (d3.mono (by omega)) ((k1.trans k2).trans k3)
          | false =>
            simp_arith []
            exact sum _ G2 (fun _ _ => rfl) d2 (k1.trans k2)
      · rw [decide_eq_false c6]
        simp_arith []
        exact sum _ G1 (fun _ _ => rfl) (d1.mono (by omega)) k1
theorem expr0 (ok : KitOk K) {d : Nat} (hd3 : d ≤ 2) (h : KitH b A K G) (hd : Dr b t s G) (ht : t + 300 < 2 ^ 60) (hq : ∀ e G', exOk K e → e.dep ≤ d + 1 → Dr b (t + 300) s G' → Kp b G G' → QV e.av G') : (f_law_expression [.ref s, .ref A.κ, .int (d : Nat)] G).wp QV E := by
  have hc : cE d ≤ 300 := by
    match d, hd3 with
    | 0, _ => decide
    | 1, _ => decide
    | 2, _ => decide
    | d + 3, h => omega
  exact expr_wp ok d 20 t G QV E (by omega) h hd (by omega) fun e G' he hde d' k' => hq e G' he hde (d'.mono (by omega)) k'
theorem all_av {P : Pl.Ex → Prop} : ∀ {xs : List AV}, (∀ r ∈ xs, ∃ e : Pl.Ex, r = e.av ∧ P e) → ∃ es : List Pl.Ex, xs = es.map Pl.Ex.av ∧ ∀ e ∈ es, P e
  | [], _ => ⟨[], rfl, fun _ h => nomatch h⟩
  | x :: xs, h => by
    obtain ⟨e, rfl, he⟩ := h x (List.mem_cons_self ..)
    obtain ⟨es, rfl, hes⟩ := all_av fun r hr => h r (List.mem_cons_of_mem _ hr)
    exact ⟨e :: es, rfl, fun y hy => by rcases List.mem_cons.mp hy with rfl | hy; exact he; exact hes y hy⟩
theorem all_str {P : Str → Prop} : ∀ {xs : List AV}, (∀ r ∈ xs, ∃ e : Str, r = .str e ∧ P e) → ∃ es : List Str, xs = es.map .str ∧ ∀ e ∈ es, P e
  | [], _ => ⟨[], rfl, fun _ h => nomatch h⟩
  | x :: xs, h => by
    obtain ⟨e, rfl, he⟩ := h x (List.mem_cons_self ..)
    obtain ⟨es, rfl, hes⟩ := all_str fun r hr => h r (List.mem_cons_of_mem _ hr)
    exact ⟨e :: es, rfl, fun y hy => by rcases List.mem_cons.mp hy with rfl | hy; exact he; exact hes y hy⟩
theorem max_wp {i j : Int} : (fMax2 [.int i, .int j] G).wp QV E = QV (.int (if j > i then j else i)) G := propext Iff.rfl
theorem min_wp {i j : Int} : (fMin2 [.int i, .int j] G).wp QV E = QV (.int (if j < i then j else i)) G := propext Iff.rfl
theorem things_wp (ok : KitOk K) {m : Nat} (hm : m ≤ 7) (h : KitH b A K G) (hd : Dr b t s G) (ht : t + 2200 < 2 ^ 60) (hq : ∀ es G', esOk K es → Dr b (t + 2200) s G' → Kp b G G' → QV (.tup (es.map Pl.Ex.av)) G') : (f_law_things [.ref s, .ref A.κ, .int (m : Nat)] G).wp QV E := by
  have esz := szl_eq
  have go : ∀ (m : Nat) (G0 : Hs) (D' : SP), (∀ v G, D'.rt v G = QV v G) → m ≤ 7 → Dr b (t + 2) s G0 → Kp b G G0 → (k_law_things_3 [some (.ref s), some (.ref A.κ), some (.int (m : Nat)), none] G0).wp D' := fun m G0 D' hD hm d0 k0 => by
    unfold k_law_things_3
    simp_arith []
    have hk : (mRg1 (mVar 2)) [some (.ref s), some (.ref A.κ), some (.int (m : Nat)), none] G0 = .ok (rgA 0 (m : Nat), none) G0 := rg1_ok (var_ok rfl) (by omega) (by omega)
    have hlen : (rgA 0 ((m : Nat) : Int)).length = m := by rw [rgA_len]; omega
    refine wp_lcD hk (Kp.refl _ _) d0 300 (fun _ r => ∃ e : Pl.Ex, r = e.av ∧ (exOk K e ∧ e.dep ≤ 2)) (by rw [hlen]; omega) (fun j v G1 hv d1 k1 => ⟨_, rfl, ?_⟩) fun xs G1 hl hT d1 k1 => ?_
    · have hj : j < m := by rw [← hlen]; exact (List.getElem?_eq_some_iff.mp hv).1
      simp_arith []
      exact expr0 ok (d := 1) (by decide) ((h.kp k0).kp k1) d1 (by omega) fun e G2 he hde d2 k2 => ⟨⟨e, rfl, he, hde⟩, d2, k2⟩
    · rw [hlen] at d1 hl
      obtain ⟨es, rfl, hes⟩ := all_av (all_of (T := fun r => ∃ e : Pl.Ex, r = e.av ∧ (exOk K e ∧ e.dep ≤ 2)) (vs := rgA 0 ((m : Nat) : Int)) (by rw [hlen]; exact hl) fun j v r hv hr => hT j v r hv hr)
      rw [List.length_map] at hl
      rw [tuple_ls, hD]
      exact hq es G1 ⟨by omega, hes⟩ (d1.mono (by omega)) (k0.trans k1)
  unfold f_law_things b_law_things
  simp_arith []
  refine odd_wp h hd (by omega) fun c G1 d1 k1 => ?_
  cases c with
  | false =>
    simp_arith []
    exact go m G1 _ (fun _ _ => rfl) hm (d1.mono (by omega)) k1
  | true =>
    simp_arith [take_eq]
    refine take_wp d1 (by decide) (by decide) (by omega) fun r G2 r0 r1 d2 k2 => ?_
    simp_arith [max_wp, min_wp]
    refine ⟨mul_room (by omega) (by omega), ?_⟩
    simp_arith [max_wp, min_wp]
    obtain ⟨m', hm7, hme⟩ : ∃ m' : Nat, m' ≤ 7 ∧ (if (if ((m : Nat) : Int) + 1 - 2 * r < 7 then ((m : Nat) : Int) + 1 - 2 * r else 7) > 0 then (if ((m : Nat) : Int) + 1 - 2 * r < 7 then ((m : Nat) : Int) + 1 - 2 * r else 7) else 0) = (m' : Nat) := by
      refine ⟨(if (if ((m : Nat) : Int) + 1 - 2 * r < 7 then ((m : Nat) : Int) + 1 - 2 * r else 7) > 0 then (if ((m : Nat) : Int) + 1 - 2 * r < 7 then ((m : Nat) : Int) + 1 - 2 * r else 7) else 0).toNat, ?_, ?_⟩
      · split <;> split <;> omega
      · split <;> split <;> omega
    rw [hme]
    simp_arith []
    exact go m' G2 _ (fun _ _ => rfl) hm7 d2 (k1.trans k2)
theorem wp_gT4D {i j k l : Nat} {v w u y : AV} : MG.wp (gTp 4 (gCo (gNm i) (gCo (gNm j) (gCo (gNm k) (gCo (gNm l) gNi)))) (.tup [v, w, u, y]) ρ G) D = D.nx ((((ρ.set i (some v)).set j (some w)).set k (some u)).set l (some y)) G := rfl
theorem int_bl {c : Bool} : (fInt [.bl c] G).wp QV E = QV (.int (if c then 1 else 0)) G := rfl
theorem boxes_comp (ok : KitOk K) {m i : Nat} {mm : ME} {ρ : En} {own : List Nat} (hm : m ≤ 4) (hmm : mm ρ G = .ok (.int (m : Nat)) G) (h : KitH b A K G) (hd : Dr b t s G) (ht : t + 10 < 2 ^ 60)
    (h0 : ∀ j : Nat, ((wipeA ρ own).set i (some (.int (j : Nat))))[0]? = some (some (.ref s))) (h1 : ∀ j : Nat, ((wipeA ρ own).set i (some (.int (j : Nat))))[1]? = some (some (.ref A.κ)))
    (hq : ∀ (ts : List Str) G', ts.length = m → (∀ x ∈ ts, nmS x) → Dr b (t + 10) s G' → Kp b G G' → QV (.ls (ts.map .str)) G') :
    (mFz (mLc (mRg1 mm) (gNm i) mYes (mCall 2 2 0 gAll f_law_box (mCons (mVar 0) (mCons (mVar 1) mNil)) mNil) own) ρ G).wp QV E := by
  have esz := szl_eq
  have hk : (mRg1 mm) ρ G = .ok (rgA 0 (m : Nat), none) G := rg1_ok hmm (by omega) (by omega)
  have hlen : (rgA 0 ((m : Nat) : Int)).length = m := by rw [rgA_len]; omega
  refine wp_lcD hk (Kp.refl _ _) hd 2 (fun _ r => ∃ x : Str, r = .str x ∧ nmS x) (by rw [hlen]; omega) (fun j v G1 hv d1 k1 => ⟨_, rfl, ?_⟩) fun xs G1 hl hT d1 k1 => ?_
  · have hj : j < m := by rw [← hlen]; exact (List.getElem?_eq_some_iff.mp hv).1
    obtain ⟨rfl, _⟩ := rgA_get hv
    have e0 := h0 j
    have e1 := h1 j
    rw [show (0 : Int) + (j : Nat) = (j : Nat) by omega]
    simp_arith [e0, e1]
    exact box_wp ok (h.kp k1) d1 (by omega) fun x G2 hx d2 k2 => ⟨⟨x, rfl, hx⟩, d2.mono (by omega), k2⟩
  · rw [hlen] at d1 hl
    obtain ⟨es, rfl, hes⟩ := all_str (all_of (T := fun r => ∃ x : Str, r = .str x ∧ nmS x) (vs := rgA 0 ((m : Nat) : Int)) (by rw [hlen]; exact hl) fun j v r hv hr => hT j v r hv hr)
    rw [List.length_map] at hl
    exact hq es G1 hl hes (d1.mono (by omega)) k1
theorem call_wpD (ok : KitOk K) (h : KitH b A K G) (hd : Dr b t s G) (ht : t + 3000 < 2 ^ 60) (hq : ∀ st G', smOk K st → Dr b (t + 3000) s G' → Kp b G G' → QV st.av G') : (f_law_call [.ref s, .ref A.κ] G).wp QV E := by
  unfold f_law_call b_law_call
  simp_arith [take_eq]
  refine take_wp hd (by decide) (by decide) (by omega) fun r G1 a1 b1 d1 k1 => ?_
  have hK := h.kp k1
  have go10 : ∀ (g : Str) (gets : List Str) (gv : Nat) (st : Bool) (z2 : AV) (es : List Pl.Ex) (G4 : Hs) (D' : SP), (∀ v G, D'.rt v G = QV v G) → nmS g → gv ≤ 4 → esOk K es → Dr b (t + 2300) s G4 → Kp b G G4 → (k_law_call_10 [some (.ref s), some (.ref A.κ), some z2, some (.str g), some (.tup (Pl.strA gets)), some (.int gv), some (.bl st), some (.tup (es.map Pl.Ex.av)), none] G4).wp D' := fun g gets gv st z2 es G4 D' hD hg hgv hes d4 k4 => by
    unfold k_law_call_10
    simp_arith []
    refine boxes_comp ok hgv (var_ok rfl) (h.kp k4) d4 (by omega) (fun _ => rfl) (fun _ => rfl) fun ts G5 hl5 hts d5 k5 => ?_
    simp_arith []
    rw [hD]
    exact hq (.call ts g es) G5 ⟨by omega, hg, hts, hes⟩ (d5.mono (by omega)) (k4.trans k5)
  have go8 : ∀ (g : Str) (gets : List Str) (gv : Nat) (st : Bool) (z2 : AV) (es : List Pl.Ex) (G4 : Hs) (D' : SP), (∀ v G, D'.rt v G = QV v G) → nmS g → gv ≤ 3 → esOk K es → Dr b (t + 2250) s G4 → Kp b G G4 → (k_law_call_8 [some (.ref s), some (.ref A.κ), some z2, some (.str g), some (.tup (Pl.strA gets)), some (.int gv), some (.bl st), some (.tup (es.map Pl.Ex.av)), none] G4).wp D' := fun g gets gv st z2 es G4 D' hD hg hgv hes d4 k4 => by
    unfold k_law_call_8
    simp_arith []
    refine odd_wp (h.kp k4) d4 (by omega) fun c G5 d5 k5 => ?_
    cases c with
    | false =>
      simp_arith []
      exact go10 g gets gv st z2 es G5 _ hD hg (by omega) hes (d5.mono (by omega)) (k4.trans k5)
    | true =>
      simp_arith [take_eq]
      refine take_wp d5 (by decide) (by decide) (by omega) fun r6 G6 a6 b6 d6 k6 => ?_
      simp_arith [max_wp]
      refine ⟨mul_room (by omega) (by omega), ?_⟩
      simp_arith [max_wp]
      obtain ⟨m', hm4, hme⟩ : ∃ m' : Nat, m' ≤ 4 ∧ (if ((gv : Nat) : Int) + 1 - 2 * r6 > 0 then ((gv : Nat) : Int) + 1 - 2 * r6 else 0) = (m' : Nat) := by
        refine ⟨(if ((gv : Nat) : Int) + 1 - 2 * r6 > 0 then ((gv : Nat) : Int) + 1 - 2 * r6 else 0).toNat, ?_, ?_⟩
        · split <;> omega
        · split <;> omega
      rw [hme]
      simp_arith []
      exact go10 g gets m' st z2 es G6 _ hD hg hm4 hes (d6.mono (by omega)) ((k4.trans k5).trans k6)
  have go : ∀ (n : Nat) (hs : List Hd) (D' : SP), (∀ v G, D'.rt v G = QV v G) → b ≤ n → G1[n]? = some (.lst (hs.map Hd.av)) → hs.length ≤ 10 → (∀ x ∈ hs, x ∈ K.heads) → (k_law_call_2 [some (.ref s), some (.ref A.κ), some (.ref n), none, none, none, none, none, none] G1).wp D' := fun n hs D' hD hbn hn hl hsub => by
    unfold k_law_call_2
    simp_arith []
    rw [heads_nil hn fun x hx => ⟨(ok.hn x (hsub x hx)).1, (ok.hn x (hsub x hx)).2.1⟩]
    simp_arith []
    cases hs with
    | nil =>
      simp_arith [List.isEmpty_nil]
      refine box_wp ok hK d1 (by omega) fun x G2 hx d2 k2 => ?_
      simp_arith []
      refine expr0 ok (d := 2) (by decide) (hK.kp k2) d2 (by omega) fun e G3 he hde d3 k3 => ?_
      simp_arith []
      rw [hD]
      exact hq (.set x e) G3 ⟨hx, he, hde⟩ (d3.mono (by omega)) ((k1.trans k2).trans k3)
    | cons h0 hs =>
      simp_arith [List.isEmpty_cons]
      unfold k_law_call_4
      simp_arith [wp_asgT]
      refine pick_wp d1 (by omega) hn hbn (by simp) (by rw [List.length_map]; omega) fun v G2 hv d2 k2 => ?_
      obtain ⟨hd0, hm, rfl⟩ := List.mem_map.mp hv
      have hmK := hsub hd0 hm
      obtain ⟨n1, n2, n3, n4⟩ := ok.hn hd0 hmK
      have hK2 := hK.kp k2
      unfold Hd.av
      rw [wp_gT4D]
      simp_arith []
      unfold k_law_call_5
      simp_arith [take_eq]
      rw [len_T]
      simp_arith [take_eq]
      rw [int_bl]
      simp_arith [take_eq]
      refine take_wp d2 (by decide) (by decide) (by omega) fun r3 G3 a3 b3 d3 k3 => ?_
      obtain ⟨r3, rfl⟩ := Int.eq_ofNat_of_zero_le a3
      have hK3 := hK2.kp k3
      simp_arith []
      obtain ⟨m, hm7, hme⟩ : ∃ m : Nat, m ≤ 7 ∧ (((Pl.strA hd0.gets).length : Nat) : Int) + (if hd0.star = true then 1 else 0) * (r3 : Int) = (m : Nat) := by
        rw [strA_len]
        cases hst : hd0.star with
        | true => exact ⟨hd0.gets.length + r3, by omega, by simp⟩
        | false => exact ⟨hd0.gets.length, by omega, by simp⟩
      refine ⟨mul_room (by split <;> omega) (by omega), ?_⟩
      rw [hme]
      refine things_wp ok hm7 hK3 d3 (by omega) fun es G4 hes d4 k4 => ?_
      have hK4 := hK3.kp k4
      unfold k_law_call_6
      simp_arith []
      refine odd_wp hK4 d4 (by omega) fun c G5 d5 k5 => ?_
      have kk : Kp b G G5 := (((k1.trans k2).trans k3).trans k4).trans k5
      cases c with
      | false =>
        simp_arith []
        exact go8 hd0.who hd0.gets hd0.gives hd0.star (.ref n) es G5 _ hD (nmS_N n1) n4 hes (d5.mono (by omega)) kk
      | true =>
        simp_arith []
        refine lname0_wp d5 (by omega) fun w G6 hw d6 k6 => ?_
        simp_arith []
        exact go8 w hd0.gets hd0.gives hd0.star (.ref n) es G6 _ hD (nmS_N hw) n4 hes (d6.mono (by omega)) (kk.trans k6)
  simp_arith []
  by_cases c : r > 0
  · rw [decide_eq_true c]
    simp_arith []
    rw [wp_dgS hK.k kg_later]
    simp_arith []
    exact go _ _ _ (fun _ _ => rfl) h.ll hK.l ok.l1 ok.ls
  · rw [decide_eq_false c]
    simp_arith []
    rw [wp_dgS hK.k kg_heads]
    simp_arith []
    exact go _ _ _ (fun _ _ => rfl) h.lh hK.h ok.h1 fun _ hx => hx
theorem at_wpD (ok : KitOk K) (h : KitH b A K G) (hd : Dr b t s G) (ht : t + 3000 < 2 ^ 60) (hq : ∀ st G', smOk K st → Dr b (t + 3000) s G' → Kp b G G' → QV st.av G') : (f_law_at [.ref s, .ref A.κ] G).wp QV E := by
  have hh1 := ok.h1
  unfold f_law_at b_law_at
  simp_arith [wp_asgT]
  rw [wp_dgS h.k kg_heads]
  refine pick_wp hd (by omega) h.h h.lh (by rw [List.length_map]; exact ok.h0) (by rw [List.length_map]; omega) fun v G1 hv d1 k1 => ?_
  obtain ⟨hd0, hm, rfl⟩ := List.mem_map.mp hv
  obtain ⟨n1, n2, n3, n4⟩ := ok.hn hd0 hm
  have hK := h.kp k1
  unfold Hd.av
  rw [wp_gT4D]
  simp_arith []
  unfold k_law_at_2
  simp_arith []
  rw [wp_dgS hK.k kg_heads]
  simp_arith []
  rw [len_L hK.h]
  simp_arith [take_eq]
  rw [List.length_map]
  refine take_wp d1 (by omega) (by omega) (by omega) fun r2 G2 a2 b2 d2 k2 => ?_
  have hK2 := hK.kp k2
  simp_arith []
  have rest : ∀ (pl : Pl.Ex) (G3 : Hs) (D' : SP), (∀ v G, D'.rt v G = QV v G) → exOk K pl → pl.dep ≤ 1 → Dr b (t + 3) s G3 → Kp b G G3 → (k_law_at_5 [some (.ref s), some (.ref A.κ), some (.str hd0.who), some (.tup (Pl.strA hd0.gets)), some (.int hd0.gives), some (.bl hd0.star), some pl.av, none] G3).wp D' := fun pl G3 D' hD hpl hpd d3 k3 => by
    have hK3 := h.kp k3
    unfold k_law_at_5
    simp_arith [take_eq]
    rw [len_T]
    simp_arith [take_eq]
    rw [int_bl]
    simp_arith [take_eq]
    refine take_wp d3 (by decide) (by decide) (by omega) fun r4 G4 a4 b4 d4 k4 => ?_
    obtain ⟨r4, rfl⟩ := Int.eq_ofNat_of_zero_le a4
    have hK4 := hK3.kp k4
    simp_arith []
    obtain ⟨m, hm7, hme⟩ : ∃ m : Nat, m ≤ 6 ∧ (((Pl.strA hd0.gets).length : Nat) : Int) + (if hd0.star = true then 1 else 0) * (r4 : Int) = (m : Nat) := by
      rw [strA_len]
      cases hst : hd0.star with
      | true => exact ⟨hd0.gets.length + r4, by omega, by simp⟩
      | false => exact ⟨hd0.gets.length, by omega, by simp⟩
    refine ⟨mul_room (by split <;> omega) (by omega), ?_⟩
    rw [hme]
    unfold k_law_at_6
    simp_arith []
    refine box_wp ok hK4 d4 (by omega) fun x G5 hx d5 k5 => ?_
    have hK5 := hK4.kp k5
    simp_arith [take_eq]
    refine take_wp d5 (by decide) (by decide) (by omega) fun r6 G6 a6 b6 d6 k6 => ?_
    have hK6 := hK5.kp k6
    simp_arith []
    rw [int_bl]
    simp_arith []
    obtain ⟨m2, hm2, hme2⟩ : ∃ m2 : Nat, m2 ≤ 7 ∧ ((m : Nat) : Int) + (if decide (r6 = 0) = true then 1 else 0) = (m2 : Nat) := by
      by_cases c : r6 = 0
      · exact ⟨m + 1, by omega, by rw [decide_eq_true c]; rfl⟩
      · exact ⟨m, by omega, by rw [decide_eq_false c]; simp⟩
    rw [hme2]
    refine things_wp ok hm2 hK6 d6 (by omega) fun es G7 hes d7 k7 => ?_
    simp_arith []
    rw [hD]
    exact hq (.at_ x pl es) G7 ⟨hx, hpl, hpd, hes⟩ (d7.mono (by omega)) ((((k3.trans k4).trans k5).trans k6).trans k7)
  unfold k_law_at_3
  simp_arith []
  by_cases c : hd0.gives = 1
  · rw [decide_eq_true (show (hd0.gives : Int) = 1 by omega)]
    simp_arith [take_eq]
    refine take_wp d2 (by decide) (by decide) (by omega) fun r3 G3 a3 b3 d3 k3 => ?_
    simp_arith []
    by_cases c2 : r3 > 0
    · rw [decide_eq_true c2]
      simp_arith []
      exact rest (.ref hd0.who) G3 _ (fun _ _ => rfl) (nmS_N n1) (Nat.le_refl _) d3 ((k1.trans k2).trans k3)
    · rw [decide_eq_false c2]
      simp_arith []
      exact rest (.num r2) G3 _ (fun _ _ => rfl) ⟨a2, by omega⟩ (Nat.le_refl _) d3 ((k1.trans k2).trans k3)
  · rw [decide_eq_false (show ¬ (hd0.gives : Int) = 1 by omega)]
    simp_arith []
    exact rest (.num r2) G2 _ (fun _ _ => rfl) ⟨a2, by omega⟩ (Nat.le_refl _) (d2.mono (by omega)) (k1.trans k2)
theorem simple_wp (ok : KitOk K) {r : Int} (h : KitH b A K G) (hd : Dr b t s G) (ht : t + 3000 < 2 ^ 60) (hq : ∀ st G', smOk K st → Dr b (t + 3000) s G' → Kp b G G' → QV st.av G') : (f_law_simple [.ref s, .ref A.κ, .int r] G).wp QV E := by
  unfold f_law_simple b_law_simple
  simp_arith []
  by_cases c : r < 3
  · rw [decide_eq_true c]
    simp_arith []
    refine box_wp ok h hd (by omega) fun x G1 hx d1 k1 => ?_
    simp_arith []
    refine expr0 ok (d := 2) (by decide) (h.kp k1) d1 (by omega) fun e G2 he hde d2 k2 => ?_
    simp_arith []
    exact hq (.set x e) G2 ⟨hx, he, hde⟩ (d2.mono (by omega)) (k1.trans k2)
  rw [decide_eq_false c]
  simp_arith []
  unfold k_law_simple_3
  simp_arith []
  by_cases c : r < 5
  · rw [decide_eq_true c]
    simp_arith []
    refine expr0 ok (d := 2) (by decide) h hd (by omega) fun e G2 he hde d2 k2 => ?_
    simp_arith []
    exact hq (.say e) G2 ⟨he, hde⟩ (d2.mono (by omega)) k2
  rw [decide_eq_false c]
  simp_arith []
  unfold k_law_simple_5
  simp_arith []
  by_cases c : r < 8
  · rw [decide_eq_true c]
    simp_arith []
    exact call_wpD ok h hd ht hq
  rw [decide_eq_false c]
  simp_arith []
  unfold k_law_simple_7
  simp_arith []
  by_cases c : r = 8
  · rw [decide_eq_true c]
    simp_arith []
    exact at_wpD ok h hd ht hq
  rw [decide_eq_false c]
  simp_arith []
  unfold k_law_simple_9
  simp_arith []
  by_cases c : r = 9
  · rw [decide_eq_true c]
    simp_arith []
    rw [wp_dgS h.k kg_gives]
    refine things_wp ok (m := K.gives) (by have := ok.g; omega) h hd (by omega) fun es G1 hes d1 k1 => ?_
    simp_arith []
    exact hq (.ret es) G1 hes (d1.mono (by omega)) k1
  rw [decide_eq_false c]
  simp_arith []
  unfold k_law_simple_11
  simp_arith []
  refine expr0 ok (d := 1) (by decide) h hd (by omega) fun e G2 he hde d2 k2 => ?_
  simp_arith []
  exact hq (.throw e) G2 ⟨he, hde⟩ (d2.mono (by omega)) k2
end
end L_k13
namespace L_k13
open PySem L2 Vz
mutual
/-- a statement, bodies so deep -/
def stOkD (K : Kit) : Pl.St → Nat → Prop
  | .ite c a b, d => exOk K c ∧ c.dep ≤ 2 ∧ 0 < d ∧ bdOk K a (d - 1) ∧ bdOk K b (d - 1) ∧ a.length ≤ 6 ∧ b.length ≤ 6
  | .whl c b, d => exOk K c ∧ c.dep ≤ 2 ∧ 0 < d ∧ bdOk K b (d - 1) ∧ b.length ≤ 6
  | .try_ a x b, d => nmS x ∧ 0 < d ∧ bdOk K a (d - 1) ∧ bdOk K b (d - 1) ∧ a.length ≤ 6 ∧ b.length ≤ 6
  | .set x e, _ => smOk K (.set x e)
  | .say e, _ => smOk K (.say e)
  | .call ts g es, _ => smOk K (.call ts g es)
  | .at_ t e es, _ => smOk K (.at_ t e es)
  | .ret es, _ => smOk K (.ret es)
  | .throw e, _ => smOk K (.throw e)
def bdOk (K : Kit) : List Pl.St → Nat → Prop
  | [], _ => True
  | s :: r, d => stOkD K s d ∧ bdOk K r d
end
theorem st_sm {K : Kit} {st : Pl.St} {d : Nat} (h : smOk K st) : stOkD K st d := by
  cases st <;> first | exact h.elim | (simp only [stOkD]; exact h)
theorem bd_app {K : Kit} {d : Nat} {st : Pl.St} (hs : stOkD K st d) : ∀ l : List Pl.St, bdOk K l d → bdOk K (l ++ [st]) d
  | [], _ => by simp only [List.nil_append, bdOk]; exact ⟨hs, trivial⟩
  | x :: l, h => by
    simp only [bdOk] at h
    simp only [List.cons_append, bdOk]
    exact ⟨h.1, bd_app hs l h.2⟩
/-- kept from b on, but for one number -/
structure FrX (b f : Nat) (G G' : Hs) : Prop where
  le : G.length ≤ G'.length
  at_ : ∀ n, b ≤ n → n ≠ f → n < G.length → G'[n]? = G[n]?
section
variable {b f : Nat} {G G1 G2 : Hs}
theorem FrX.refl : FrX b f G G := ⟨Nat.le_refl _, fun _ _ _ _ => rfl⟩
theorem FrX.trans (h : FrX b f G G1) (k : FrX b f G1 G2) : FrX b f G G2 := ⟨Nat.le_trans h.le k.le, fun n hb hn hl => (k.at_ n hb hn (Nat.lt_of_lt_of_le hl h.le)).trans (h.at_ n hb hn hl)⟩
theorem FrX.kp (h : Kp b G G1) : FrX b f G G1 := ⟨h.le, fun n hb _ hl => h.at_ n hb hl⟩
theorem FrX.tkp (h : FrX b f G G1) (k : Kp b G1 G2) : FrX b f G G2 := h.trans (.kp k)
theorem FrX.setf {o : AO} (h : FrX b f G G1) : FrX b f G (G1.set f o) := ⟨by rw [List.length_set]; exact h.le, fun n hb hn hl => (List.getElem?_set_ne fun e => hn e.symm).trans (h.at_ n hb hn hl)⟩
theorem FrX.setN {n : Nat} {o : AO} (h : FrX b f G G1) (hn : G.length ≤ n) : FrX b f G (G1.set n o) := ⟨by rw [List.length_set]; exact h.le, fun m hb hm hl => (List.getElem?_set_ne (by omega)).trans (h.at_ m hb hm hl)⟩
theorem FrX.get {n : Nat} {o : AO} (h : FrX b f G G1) (hb : b ≤ n) (hn : n ≠ f) (e : G[n]? = some o) : G1[n]? = some o := (h.at_ n hb hn (List.getElem?_eq_some_iff.mp e).1).trans e
end
section
variable {QV : AV → Hs → Prop} {QB : Bool → Hs → Prop} {E : XQ} {G G' : Hs} {ρ : En} {D : SP} {b t s n : Nat} {z : AV} {A : KA} {K : Kit}
theorem KitH.setF {i : Int} (h : KitH b A K G) : KitH b A K (G.set A.f (.lst [.int i])) := by
  obtain ⟨j, hj⟩ := h.f
  have nk : A.κ ≠ A.f := fun e => by have := h.k; rw [e, hj] at this; cases this
  exact ⟨(Pl.set_other nk).trans h.k, (Pl.set_other (Ne.symm h.nh)).trans h.h, (Pl.set_other (Ne.symm h.nl)).trans h.l, (Pl.set_other (Ne.symm h.nx)).trans h.x, ⟨i, Pl.set_self hj⟩, h.lk, h.lh, h.ll, h.lx, h.lf, h.nh, h.nl, h.nx, h.od, h.bd⟩
theorem KitH.setNew {m : Nat} {o : AO} (h : KitH b A K G) (h1 : m ≠ A.κ) (h2 : m ≠ A.h) (h3 : m ≠ A.l) (h4 : m ≠ A.b) (h5 : m ≠ A.f) : KitH b A K (G.set m o) :=
  ⟨(Pl.set_other (Ne.symm h1)).trans h.k, (Pl.set_other (Ne.symm h2)).trans h.h, (Pl.set_other (Ne.symm h3)).trans h.l, (Pl.set_other (Ne.symm h4)).trans h.x, let ⟨i, e⟩ := h.f; ⟨i, (Pl.set_other (Ne.symm h5)).trans e⟩, h.lk, h.lh, h.ll, h.lx, h.lf, h.nh, h.nl, h.nx, h.od, h.bd⟩
theorem wp_gLs {mo mi : ME} {v : AV} : MG.wp (gLs mo mi v ρ G) D = (mo ρ G).wp (fun o G1 => (mi ρ G1).wp (fun i G2 => (fLs o i v G2).wp (fun _ G3 => D.nx ρ G3) noX) noX) noX := by
  unfold gLs
  cases mo ρ G with
  | ok o G1 =>
    simp only [R.bind_ok, R.wp]
    cases mi ρ G1 with
    | ok i G2 =>
      simp only [R.bind_ok]
      cases fLs o i v G2 <;> rfl
    | _ => rfl
  | _ => rfl
theorem fLs_L {m : Nat} {xs : List AV} {k : Int} {v : AV} {QU : Unit → Hs → Prop} (h : G[m]? = some (.lst xs)) (h0 : 0 ≤ k) (h1 : k < xs.length) : (fLs (.ref m) (.int k) v G).wp QU E = QU () (G.set m (.lst (xs.set k.toNat v))) := by
  have e : ixN xs.length k = some k.toNat := by
    unfold ixN
    rw [if_pos h0, if_pos h1]
  simp only [fLs, h, e]
  rfl
theorem add_TT {xs ys : List AV} (h : xs.length + ys.length ≤ szl) : (fAddI (.tup xs) (.tup ys) G).wp QV E = QV (.tup (xs ++ ys)) G := by
  show (fAdd (.tup xs) (.tup ys) G).wp QV E = _
  rw [fAdd_tup rfl rfl, if_pos h]
  cases xs with
  | nil => rfl
  | cons x xs =>
    cases ys with
    | nil => simp [R.wp]
    | cons y ys => rfl
def cS : Nat → Nat
  | 0 => 4000
  | d + 1 => 2 * ((d + 2) * cS d + 1) + 4000
def cB (d : Nat) : Nat := (d + 2) * cS d + 1
theorem cS_s (d : Nat) : cS (d + 1) = 2 * cB d + 4000 := rfl
theorem cS_0 : ∀ d, 4000 ≤ cS d
  | 0 => Nat.le_refl _
  | d + 1 => by rw [cS_s]; omega
abbrev BdW (b s : Nat) (A : KA) (K : Kit) (n d : Nat) : Prop := ∀ (t : Nat) (G : Hs) (QV : AV → Hs → Prop) (E : XQ), KitH b A K G → Dr b t s G → t + cB d < 2 ^ 60 → (∀ bd G', bdOk K bd d → bd.length ≤ d + 2 → Dr b (t + cB d) s G' → KitH b A K G' → FrX b A.f G G' → QV (.tup (Pl.bdA bd)) G') → (ringF step_law_body n 0 [.ref s, .ref A.κ, .int (d : Nat)] G).wp QV E
abbrev StW (b s : Nat) (A : KA) (K : Kit) (n d : Nat) : Prop := ∀ (t : Nat) (G : Hs) (QV : AV → Hs → Prop) (E : XQ), KitH b A K G → Dr b t s G → t + cS d < 2 ^ 60 → (∀ st G', stOkD K st d → Dr b (t + cS d) s G' → KitH b A K G' → FrX b A.f G G' → QV st.av G') → (ringF step_law_body n 1 [.ref s, .ref A.κ, .int (d : Nat)] G).wp QV E
theorem body_of {d : Nat} (hd2 : d ≤ 10) (hst : StW b s A K n d) : BdW b s A K (n + 1) d := fun t G QV E h hd ht hq => by
  have esz := szl_eq
  have hbl := hd.bl
  have hc := cS_0 d
  rw [ringS]
  show ((mFn 5 (b_law_body (ringF step_law_body n))) [.ref s, .ref A.κ, .int (d : Nat)] G).wp QV E
  unfold b_law_body
  simp_arith []
  unfold k_law_body_2
  simp_arith []
  refine wp_forRX ?_
  simp_arith [take_eq]
  have hA := h.kp (Kp.app b G [AO.lst []])
  refine take_wp hd.app (by omega) (by omega) (by unfold cB at ht; omega) fun r G1 a1 b1 d1 k1 => ?_
  have hK1 := hA.kp k1
  have kk : Kp b G G1 := (Kp.app b G _).trans k1
  have hl0 : ∀ m, m < G.length → m ≠ G.length := fun m h => by omega
  have lt : ∀ (m : Nat) (o : AO), G[m]? = some o → m < G.length := fun m o h => Pl.lt_of h
  have lk := lt _ _ h.k
  have lh := lt _ _ h.h
  have ll := lt _ _ h.l
  have lx := lt _ _ h.x
  have lf := let ⟨i, e⟩ := h.f; lt _ _ e
  refine ⟨r, rfl, ⟨by omega, by omega⟩, fun j ρ' G' => ∃ bd o4, ρ' = [some (.ref s), some (.ref A.κ), some (.int (d : Nat)), some (.ref G.length), o4] ∧ bdOk K bd d ∧ bd.length ≤ j ∧ G'[G.length]? = some (.lst (Pl.bdA bd)) ∧ Dr b (t + 1 + j * cS d) s G' ∧ KitH b A K G' ∧ FrX b A.f G G', ?_, fun j ρ' G2 hj ⟨bd, o4, eρ, hb, hl, hg, hd2, hK2, hF⟩ => ?_, fun ρ' G2 ⟨bd, o4, eρ, hb, hl, hg, hd2, hK2, hF⟩ => ?_⟩
  · refine ⟨[], none, rfl, trivial, Nat.le_refl _, ?_, by simpa using d1, hK1, .kp kk⟩
    simp only [Pl.bdA]
    exact k1.get hbl (by simp)
  · subst eρ
    have hjd : j + 1 ≤ d + 2 := by omega
    have hmul : (j + 1) * cS d ≤ (d + 2) * cS d := Nat.mul_le_mul_right _ hjd
    have hm2 : (j + 1) * cS d = j * cS d + cS d := Nat.succ_mul _ _
    simp only [List.set_cons_succ, List.set_cons_zero]
    unfold l_law_body_2
    simp_arith []
    obtain ⟨i, hi⟩ := hK2.f
    rw [wp_dgS hK2.k kg_left]
    simp_arith []
    rw [wp_ixL hi (by decide) (by simp) (w := .int i) rfl]
    simp_arith []
    by_cases c : i > 0
    · rw [decide_eq_true c]
      simp_arith [wp_asgT]
      rw [wp_dgS hK2.k kg_left]
      simp_arith []
      rw [wp_ixL hi (by decide) (by simp) (w := .int i) rfl]
      simp_arith []
      rw [wp_gLs]
      simp_arith []
      rw [wp_dgS hK2.k kg_left]
      simp_arith []
      rw [fLs_L hi (by decide) (by simp)]
      have hK3 : KitH b A K (G2.set A.f (.lst [.int (i - 1)])) := hK2.setF
      have d3 : Dr b (t + 1 + j * cS d) s (G2.set A.f (.lst [.int (i - 1)])) := hd2.setN h.lf
      have hg3 : (G2.set A.f (.lst [.int (i - 1)]))[G.length]? = some (.lst (Pl.bdA bd)) := (Pl.set_other (by omega)).trans hg
      have hF3 : FrX b A.f G (G2.set A.f (.lst [.int (i - 1)])) := hF.setf
      show ((k_law_body_5 _ _ (G2.set A.f (.lst [.int (i - 1)]))).wp _ : Prop)
      generalize G2.set A.f (.lst [.int (i - 1)]) = G3 at hK3 d3 hg3 hF3
      unfold k_law_body_5
      simp_arith [isL_L hg3]
      refine hst _ G3 _ _ hK3 d3 (by unfold cB at ht; omega) fun st G4 hst4 d4 hK4 hF4 => ?_
      have hg4 := hF4.get hbl (by omega) hg3
      simp_arith [isL_L hg4]
      rw [wp_appL hg4]
      have eb : Pl.bdA bd ++ [st.av] = Pl.bdA (bd ++ [st]) := by rw [bdA_map, bdA_map, List.map_append]; rfl
      refine ⟨by rw [bdA_map, List.length_map]; omega, bd ++ [st], _, rfl, bd_app hst4 bd hb, by rw [List.length_append]; simp; omega, by rw [← eb]; exact Pl.set_self hg4, ?_, hK4.setNew (by omega) (by omega) (by omega) (by omega) (by omega), (hF3.trans hF4).setN (Nat.le_refl _)⟩
      exact (d4.setN hbl).mono (by omega)
    · rw [decide_eq_false c]
      simp_arith []
      exact ⟨bd, _, rfl, hb, by omega, hg, hd2.mono (by omega), hK2, hF⟩
  · subst eρ
    simp_arith []
    rw [tuple_L hg]
    have hr : r.toNat ≤ d + 2 := by omega
    have hmul : r.toNat * cS d ≤ (d + 2) * cS d := Nat.mul_le_mul_right _ hr
    exact hq bd G2 hb (by omega) (hd2.mono (by unfold cB; omega)) hK2 hF
end
end L_k13
namespace L_k13
open PySem L2 Vz
section
variable {QV : AV → Hs → Prop} {QB : Bool → Hs → Prop} {E : XQ} {G G' : Hs} {ρ : En} {D : SP} {b t s n : Nat} {z : AV} {A : KA} {K : Kit}
theorem stm_of (ok : KitOk K) {d : Nat} (hd2 : d ≤ 3) (hbd : 0 < d → BdW b s A K n (d - 1)) : StW b s A K (n + 1) d := fun t G QV E h hd ht hq => by
  have esz := szl_eq
  have hc := cS_0 d
  rw [ringS]
  show ((mFn 10 (b_law_statement (ringF step_law_body n))) [.ref s, .ref A.κ, .int (d : Nat)] G).wp QV E
  unfold b_law_statement
  simp_arith [take_eq]
  refine take_wp hd (by decide) (by decide) (by omega) fun r G1 a1 b1 d1 k1 => ?_
  have hK := h.kp k1
  have simple : ∀ D' : SP, (∀ v G, D'.rt v G = QV v G) → ∀ x : Int, (f_law_simple [.ref s, .ref A.κ, .int x] G1).wp D'.rt E := fun D' hD x => by
    refine simple_wp ok hK d1 (by omega) fun st G2 hst d2 k2 => ?_
    rw [hD]
    exact hq st G2 (st_sm hst) (d2.mono (by omega)) (hK.kp k2) (.kp (k1.trans k2))
  unfold k_law_statement_2
  simp_arith []
  match d, hd2, hc, hbd, ht, hq, simple with
  | 0, _, _, _, ht, hq, simple =>
    rw [decide_eq_true (show ((0 : Nat) : Int) = 0 from rfl)]
    simp_arith []
    exact ⟨by decide, simple { nx := fun _ _ => True, rt := QV, bk := fun _ _ => True, ct := fun _ _ => True, ex := E } (fun _ _ => rfl) _⟩
  | d + 1, hd3, hc, hbd, ht, hq, simple =>
    have es : ((d + 1 : Nat) : Int) - 1 = (d : Nat) := by omega
    have hB : BdW b s A K n d := hbd (by omega)
    have hcs : cS (d + 1) = 2 * cB d + 4000 := rfl
    rw [decide_eq_false (show ¬ ((d + 1 : Nat) : Int) = 0 by omega)]
    simp_arith []
    by_cases c : r < 11
    · rw [decide_eq_true c]
      simp_arith []
      exact ⟨by decide, simple { nx := fun _ _ => True, rt := QV, bk := fun _ _ => True, ct := fun _ _ => True, ex := E } (fun _ _ => rfl) _⟩
    rw [decide_eq_false c]
    simp_arith []
    unfold k_law_statement_4
    simp_arith []
    by_cases c13 : r = 13
    · rw [decide_eq_true c13]
      simp_arith []
      rw [es]
      refine hB _ G1 _ _ hK d1 (by omega) fun x1 G2 hx1 hl1 d2 hK2 f2 => ?_
      unfold k_law_statement_6
      simp_arith []
      refine box_wp ok hK2 d2 (by omega) fun x G3 hx d3 k3 => ?_
      unfold k_law_statement_7
      simp_arith []
      rw [es]
      refine hB _ G3 _ _ (hK2.kp k3) d3 (by omega) fun x2 G4 hx2 hl2 d4 hK4 f4 => ?_
      simp_arith []
      have := hq (.try_ x1 x x2) G4 (by simp only [stOkD]; exact ⟨hx, by omega, hx1, hx2, by omega, by omega⟩) (d4.mono (by omega)) hK4 (((FrX.kp k1).trans f2).trans ((FrX.kp k3).trans f4))
      simpa [Pl.St.av] using this
    rw [decide_eq_false c13]
    simp_arith []
    unfold k_law_statement_8
    simp_arith []
    refine expr0 ok (d := 1) (by decide) hK d1 (by omega) fun c2 G2 hc2 hcd d2 k2 => ?_
    have hK2 := hK.kp k2
    unfold k_law_statement_9
    simp_arith []
    rw [es]
    refine hB _ G2 _ _ hK2 d2 (by omega) fun x1 G3 hx1 hl1 d3 hK3 f3 => ?_
    have F3 : FrX b A.f G G3 := ((FrX.kp k1).tkp k2).trans f3
    unfold k_law_statement_10
    simp_arith []
    by_cases c12 : r = 12
    · rw [decide_eq_true c12]
      simp_arith []
      rw [wp_dgS hK3.k kg_boxes]
      refine pick_wp d3 (by omega) hK3.x hK3.lx (by rw [List.length_map]; exact ok.b0) (by rw [List.length_map]; have := ok.b1; omega) fun v G4 hv d4 k4 => ?_
      obtain ⟨x, hx, rfl⟩ := List.mem_map.mp hv
      have hK4 := hK3.kp k4
      unfold k_law_statement_12
      simp_arith [take_eq]
      refine take_wp d4 (by decide) (by decide) (by omega) fun r5 G5 a5 b5 d5 k5 => ?_
      simp_arith []
      by_cases c5 : r5 = 0
      · rw [decide_eq_true c5]
        simp_arith []
        have := hq (.whl c2 x1) G5 (by simp only [stOkD]; exact ⟨hc2, hcd, by omega, hx1, by omega⟩) (d5.mono (by omega)) (hK4.kp k5) ((F3.tkp k4).tkp k5)
        simpa [Pl.St.av] using this
      · rw [decide_eq_false c5]
        simp_arith []
        unfold k_law_statement_14
        simp_arith []
        unfold k_law_statement_15
        simp_arith [take_eq]
        refine take_wp d5 (by decide) (by decide) (by omega) fun r6 G6 a6 b6 d6 k6 => ?_
        simp_arith []
        rw [add_TT (by rw [bdA_map, List.length_map]; simp; omega)]
        simp_arith []
        have eb : Pl.bdA x1 ++ [AV.tup [.str "set", .str x, .tup [.str "plus", .tup [.str "box", .str x], .tup [.str "number", .int 1]]]] = Pl.bdA (x1 ++ [.set x (.sum .plus (.box x) (.num 1))]) := by
          rw [bdA_map, bdA_map, List.map_append]
          simp [Pl.St.av, Pl.Ex.av, Pl.Sk.word]
        rw [eb]
        have hstep : stOkD K (.set x (.sum .plus (.box x) (.num 1))) d := st_sm ⟨nmS_N (ok.bn x hx), ⟨nmS_N (ok.bn x hx), by decide, by decide⟩, by simp [Pl.Ex.dep]⟩
        have := hq (.whl (.sum .under (.box x) (.num r6)) (x1 ++ [.set x (.sum .plus (.box x) (.num 1))])) G6 (by
          simp only [stOkD]
          exact ⟨⟨nmS_N (ok.bn x hx), a6, by omega⟩, by simp [Pl.Ex.dep], by omega, bd_app hstep x1 hx1, by rw [List.length_append]; simp; omega⟩) (d6.mono (by omega)) ((hK4.kp k5).kp k6) (((F3.tkp k4).tkp k5).tkp k6)
        simpa [Pl.St.av, Pl.Ex.av, Pl.Sk.word] using this
    · rw [decide_eq_false c12]
      simp_arith []
      unfold k_law_statement_16
      simp_arith []
      rw [es]
      refine hB _ G3 _ _ hK3 d3 (by omega) fun x2 G4 hx2 hl2 d4 hK4 f4 => ?_
      simp_arith []
      have := hq (.ite c2 x1 x2) G4 (by simp only [stOkD]; exact ⟨hc2, hcd, by omega, hx1, hx2, by omega, by omega⟩) (d4.mono (by omega)) hK4 (F3.trans f4)
      simpa [Pl.St.av] using this
theorem bd_ring (ok : KitOk K) : ∀ (d n : Nat), d ≤ 3 → 2 * d + 2 ≤ n → BdW b s A K n d
  | 0, n, hd, hn => by
    obtain ⟨m, rfl⟩ : ∃ m, n = m + 2 := ⟨n - 2, by omega⟩
    exact body_of (by omega) (stm_of ok (by omega) fun h => by omega)
  | d + 1, n, hd, hn => by
    obtain ⟨m, rfl⟩ : ∃ m, n = m + 2 := ⟨n - 2, by omega⟩
    exact body_of (by omega) (stm_of ok (by omega) fun _ => bd_ring ok d m (by omega) (by omega))
/-- a body, as a function has it -/
theorem body_wp (ok : KitOk K) (h : KitH b A K G) (hd : Dr b t s G) (ht : t + 700000 < 2 ^ 60) (hq : ∀ bd G', bdOk K bd 2 → bd.length ≤ 4 → Dr b (t + 700000) s G' → KitH b A K G' → FrX b A.f G G' → QV (.tup (Pl.bdA bd)) G') : (f_law_body [.ref s, .ref A.κ, .int 2] G).wp QV E := by
  have hc : cB 2 ≤ 700000 := by decide
  exact bd_ring ok 2 20 (by decide) (by decide) t G QV E h hd (by omega) fun bd G' h1 h2 d' k' f' => hq bd G' h1 h2 (d'.mono (by omega)) k' f'
end
end L_k13
namespace L_k13
open PySem L2 Vz
structure HdOk (boxes : List Str) (h : Hd) : Prop where
  who : isN h.who = true
  gets : ∀ x ∈ h.gets, x ∈ boxes
  nd : h.gets.Nodup
  len : h.gets.length ≤ 4
  gives : h.gives ≤ 3
structure HdsOk (boxes : List Str) (hs : List Hd) : Prop where
  l0 : 1 ≤ hs.length
  l1 : hs.length ≤ 4
  nd : (hs.map Hd.who).Nodup
  ok : ∀ h ∈ hs, HdOk boxes h
  first : ∀ h, hs[0]? = some h → h.star = false
section
variable {QV : AV → Hs → Prop} {QB : Bool → Hs → Prop} {E : XQ} {G G' : Hs} {ρ : En} {D : SP} {b t s n : Nat} {z : AV} {A : KA} {K : Kit} {boxes : List Str}
theorem slR {n : Nat} {xs : List AV} {lo hi : Option Int} (h : G[n]? = some (.lst xs)) : (fSl (.ref n) lo hi G).wp (fzQ QV) E = QV (.ls (cutA xs lo hi)) (G ++ [.gone]) := by
  have e : fSl (.ref n) lo hi G = .ok (.ref G.length) (G ++ [.lst (cutA xs lo hi)]) := by simp only [fSl, tupOf, lstOf, h]
  rw [e, wp_ok, fzQ_lst List.getElem?_concat_length]
  simp
theorem slI {xs : List AV} {lo hi : Option Int} : (fSl (.ls xs) lo hi G).wp (fzQ QV) E = QV (.ls (cutA xs lo hi)) (G ++ [.gone]) := by
  have e : fSl (.ls xs) lo hi G = .ok (.ref G.length) (G ++ [.lst (cutA xs lo hi)]) := by simp only [fSl, tupOf, lstOf]
  rw [e, wp_ok, fzQ_lst List.getElem?_concat_length]
  simp
theorem cut_to {ys : List AV} {k : Nat} : cutA ys none (some (k : Int)) = ys.take k := by
  have e : HT.sIx ys.length ys.length (some (k : Int)) = min k ys.length := by rw [HT.sIx_nat]
  have e2 : HT.sIx ys.length 0 none = 0 := rfl
  unfold cutA
  rw [e, e2, List.drop_zero, Nat.sub_zero]
  rcases Nat.le_total k ys.length with h | h
  · rw [Nat.min_eq_left h]
  · rw [Nat.min_eq_right h, List.take_of_length_le (Nat.le_refl _), List.take_of_length_le h]
def GIV : List Nat := [1, 1, 0, 2, 3]
theorem giv_le : ∀ x ∈ GIV, x ≤ 3 := by decide
theorem wp_gT2N {i j : Nat} {v w : AV} : MG.wp (gTp 2 (gCo (gNm i) (gCo (gNm j) gNi)) (.tup [v, w]) ρ G) D = D.nx ((ρ.set i (some v)).set j (some w)) G := propext Iff.rfl
theorem heads_wp {bN : Nat} (hd : Dr b t s G) (ht : t + 300 < 2 ^ 60) (hbx : G[bN]? = some (.lst (boxes.map .str))) (hbb : b ≤ bN) (hbl : boxes.length = 5) (hbn : boxes.Nodup)
    (hq : ∀ n hs G', HdsOk boxes hs → b ≤ n → G'[n]? = some (.lst (hs.map Hd.av)) → Dr b (t + 150) s G' → Kp b G G' → QV (.ref n) G') : (f_law_heads [.ref s, .ref bN] G).wp QV E := by
  have esz := szl_eq
  have hbG := hd.bl
  unfold f_law_heads b_law_heads
  simp_arith []
  unfold k_law_heads_2
  simp_arith [take_eq]
  refine take_wp hd.app (by decide) (by decide) (by omega) fun r G1 a1 b1 d1 k1 => ?_
  obtain ⟨r, rfl⟩ := Int.eq_ofNat_of_zero_le a1
  simp_arith []
  rw [show (1 : Int) + (r : Nat) = ((1 + r : Nat) : Int) by omega]
  have kk1 : Kp b G G1 := (Kp.app b G _).trans k1
  have hF1 : G1[G.length]? = some (.lst []) := k1.get hbG (by simp)
  have hl1 := Pl.lt_of hF1
  have hbx1 := kk1.get hbb hbx
  refine unlike_wp d1 (by omega) (by omega) fun nm names G2 hnl hnd hnN hbn2 hg2 d2 k2 => ?_
  have kk2 := kk1.trans k2
  have hF2 := k2.get hbG hF1
  have hbx2 := k2.get hbb hbx1
  have hne : nm ≠ G.length := fun e => by
    subst e
    rw [hF2] at hg2
    have := AO.lst.inj (Option.some.inj hg2)
    have : (names.map AV.str).length = 0 := by rw [← this]; rfl
    rw [List.length_map] at this
    omega
  unfold k_law_heads_3
  simp_arith []
  have hmi : (mEn (mVar 3)) [some (.ref s), some (.ref bN), some (.ref G.length), some (.ref nm), none, none, none] G2 = .ok (zipE (names.map .str, some (nm, names.map .str))) G2 := en_ok (v := .ref nm) (var_ok rfl) (by
    show (wkOf G2 (.ref nm)).map zipE = _
    rw [wk_L hg2]
    rfl)
  have hlz : (zipE (names.map AV.str, some (nm, names.map AV.str))).1.length = names.length := by rw [zipE_len, List.length_map]
  refine wp_forK hmi (fun j ρ' G' => ∃ (hs : List Hd) (o4 o5 o6 : Option AV), ρ' = [some (.ref s), some (.ref bN), some (.ref G.length), some (.ref nm), o4, o5, o6] ∧ hs.length = j ∧ hs.map Hd.who = names.take j ∧ (∀ h ∈ hs, HdOk boxes h) ∧ (∀ h, hs[0]? = some h → h.star = false) ∧ G'[G.length]? = some (.lst (hs.map Hd.av)) ∧ G'[nm]? = some (.lst (names.map .str)) ∧ G'[bN]? = some (.lst (boxes.map .str)) ∧ Dr b (t + 101 + 6 * j) s G' ∧ Kp b G G')
    (by exact ⟨[], _, _, _, rfl, rfl, rfl, (fun _ h => nomatch h), (fun _ h => nomatch h), hF2, hg2, hbx2, d2.mono (by omega), kk2⟩) (fun j ρ' G' _ ⟨hs, o4, o5, o6, _, _, _, _, _, _, h7, _⟩ => h7) (fun j v ρ' G3 hv ⟨hs, o4, o5, o6, eρ, hl, hw, hok, hf, hF3, hg3, hb3, d3, k3⟩ => ?_) fun ρ' G3 ⟨hs, o4, o5, o6, eρ, hl, hw, hok, hf, hF3, hg3, hb3, d3, k3⟩ => ?_
  · subst eρ
    have hj : j < names.length := by rw [← hlz]; exact (List.getElem?_eq_some_iff.mp hv).1
    rw [zipE_get] at hv
    have hv : ((names.map AV.str)[j]?).map (fun v => AV.tup [.int (j : Nat), v]) = some v := hv
    rw [List.getElem?_map, List.getElem?_eq_getElem hj] at hv
    have hv : v = AV.tup [.int (j : Nat), .str names[j]] := (Option.some.inj hv).symm
    subst hv
    rw [wp_gT2N]
    simp_arith []
    unfold l_law_heads_3
    simp_arith [wp_fz, take_eq]
    refine take_wp d3 (by decide) (by decide) (by omega) fun r1 G4 a4 b4 d4 k4 => ?_
    obtain ⟨r1, rfl⟩ := Int.eq_ofNat_of_zero_le a4
    have hb4 := k4.get hbb hb3
    simp_arith [wp_fz, take_eq]
    rw [slR hb4]
    simp_arith [wp_fz, take_eq]
    refine take_wp d4.app (by decide) (by decide) (by omega) fun r2 G5 a5 b5 d5 k5 => ?_
    obtain ⟨r2, rfl⟩ := Int.eq_ofNat_of_zero_le a5
    have k13 : Kp b G3 G5 := (k4.trans (Kp.app b G4 _)).trans k5
    simp_arith [wp_fz]
    rw [slI]
    rw [cut_fromN (by rw [List.length_map]; omega), cut_to, ← List.map_drop, ← List.map_take, tuple_ls]
    simp_arith []
    have k36 : Kp b G3 (G5 ++ [AO.gone]) := k13.trans (Kp.app b G5 _)
    have d6 := d5.app (o := [AO.gone])
    generalize G5 ++ [AO.gone] = G6 at k36 d6
    have hF6 := k36.get hbG hF3
    unfold k_law_heads_5
    simp_arith [isL_L hF6, take_eq]
    refine take_wp d6 (by decide) (by decide) (by omega) fun r3 G7 a7 b7 d7 k7 => ?_
    obtain ⟨r3, rfl⟩ := Int.eq_ofNat_of_zero_le a7
    have hr3 : r3 < GIV.length := by have : GIV.length = 5 := rfl; omega
    have e3 : ((GIV.map fun x => AV.int (x : Nat))[((r3 : Nat) : Int).toNat]?) = some (.int (GIV[r3] : Nat)) := by
      rw [List.getElem?_map, Int.toNat_natCast, List.getElem?_eq_getElem hr3]; rfl
    show ((fIx (.ls (GIV.map fun x => AV.int (x : Nat))) (.int (r3 : Nat)) G7).wp _ _ : Prop)
    rw [ix_ls (v := .int (GIV[r3] : Nat)) (by omega) (by rw [List.length_map]; omega) e3]
    simp_arith []
    have hF7 := k7.get hbG hF6
    have fin : ∀ (st : Bool) (G8 : Hs), (j = 0 → st = false) → Dr b (t + 101 + 6 * j + 4) s G8 → Kp b G7 G8 → (fApp (.ref G.length) [.tup [.str names[j], .tup ((((boxes.drop r1).take r2)).map AV.str), .int (GIV[r3] : Nat), .bl st]] G8).wp (fun _ G' => ∃ (hs : List Hd) (o4 o5 o6 : Option AV), [some (.ref s), some (.ref bN), some (.ref G.length), some (.ref nm), some (.int (j : Nat)), some (.str names[j]), some (.tup (((boxes.drop r1).take r2).map AV.str))] = [some (.ref s), some (.ref bN), some (.ref G.length), some (.ref nm), o4, o5, o6] ∧ hs.length = j + 1 ∧ hs.map Hd.who = names.take (j + 1) ∧ (∀ h ∈ hs, HdOk boxes h) ∧ (∀ h, hs[0]? = some h → h.star = false) ∧ G'[G.length]? = some (.lst (hs.map Hd.av)) ∧ G'[nm]? = some (.lst (names.map .str)) ∧ G'[bN]? = some (.lst (boxes.map .str)) ∧ Dr b (t + 101 + 6 * (j + 1)) s G' ∧ Kp b G G') E := fun st G8 hst d8 k8 => by
      have k38 : Kp b G3 G8 := (k36.trans k7).trans k8
      have hF8 := k38.get hbG hF3
      have hh : HdOk boxes ⟨names[j], (boxes.drop r1).take r2, GIV[r3], st⟩ := ⟨hnN _ (List.getElem_mem hj), fun x hx => List.mem_of_mem_drop (List.mem_of_mem_take hx), (hbn.sublist ((List.take_sublist _ _).trans (List.drop_sublist _ _))), by
        show ((boxes.drop r1).take r2).length ≤ 4
        rw [List.length_take, List.length_drop]; omega, giv_le _ (List.getElem_mem hr3)⟩
      rw [wp_appL hF8]
      refine ⟨by rw [List.length_map]; omega, hs ++ [⟨names[j], (boxes.drop r1).take r2, GIV[r3], st⟩], _, _, _, rfl, by rw [List.length_append, hl]; rfl, ?_, ?_, ?_, ?_, (Pl.set_other hne).trans (k38.get hbn2 hg3), (Pl.set_other (by have := Pl.lt_of hbx; omega)).trans (k38.get hbb hb3), (d8.setN hbG).mono (by omega), (k3.trans k38).setN (Nat.le_refl _)⟩
      · rw [List.map_append, hw, List.take_add_one, List.getElem?_eq_getElem hj]; rfl
      · intro h hh'
        rcases List.mem_append.mp hh' with h' | h'
        · exact hok h h'
        · rw [List.mem_singleton.mp h']; exact hh
      · intro h h0
        match hs, hl, hf, h0 with
        | [], hl, _, h0 =>
          have : j = 0 := hl.symm
          simp only [List.nil_append, List.getElem?_cons_zero, Option.some.injEq] at h0
          subst h0
          exact hst this
        | x :: r, _, hf, h0 => exact hf h (by simpa using h0)
      · rw [Pl.set_self hF8, List.map_append]; rfl
    by_cases c : j = 0
    · subst c
      simp_arith []
      rw [decide_eq_false (show ¬ ((0 : Nat) : Int) > 0 by omega)]
      simp_arith [isL_L hF7]
      exact fin false G7 (fun _ => rfl) (d7.mono (by omega)) (Kp.refl _ _)
    · rw [decide_eq_true (show ((j : Nat) : Int) > 0 by omega)]
      simp_arith [take_eq]
      refine take_wp d7 (by decide) (by decide) (by omega) fun r4 G8 a8 b8 d8 k8 => ?_
      have hF8 := k8.get hbG hF7
      simp_arith [isL_L hF8]
      exact fin _ G8 (fun z => absurd z c) (d8.mono (by omega)) k8
  · subst eρ
    simp_arith []
    rw [hlz] at hl hw d3
    rw [List.take_of_length_le (Nat.le_refl _)] at hw
    exact hq _ hs G3 ⟨by omega, by omega, by rw [hw]; exact hnd, hok, hf⟩ hbG hF3 (d3.mono (by omega)) k3
end
end L_k13
namespace L_k13
open PySem L2 Vz
def fnT (f : Pl.Fn) : AV := .tup [.str f.name, .tup (Pl.strA f.params), .tup (Pl.bdA f.body), .int f.results, .bl f.more]
/-- a function, as its head tells it -/
structure FnHd (hs : List Hd) (boxes : List Str) (f : Pl.Fn) (h : Hd) : Prop where
  name : f.name = h.who
  params : f.params = h.gets
  results : f.results = h.gives
  more : f.more = h.star
  len : f.body.length ≤ 4
  bd : ∃ l, bdOk ⟨hs, l, boxes, h.star, h.gives⟩ f.body 2
structure DrawnOk (fs : List Pl.Fn) (hs : List Hd) (boxes : List Str) : Prop where
  hk : HdsOk boxes hs
  bl : boxes.length = 5
  bn : boxes.Nodup
  bN : ∀ x ∈ boxes, isN x = true
  m : fs.length = hs.length
  at_ : ∀ (i : Nat) (f : Pl.Fn) (h : Hd), fs[i]? = some f → hs[i]? = some h → FnHd hs boxes f h
section
variable {QV : AV → Hs → Prop} {QB : Bool → Hs → Prop} {E : XQ} {G G' : Hs} {ρ : En} {D : SP} {b t s n : Nat} {z : AV} {A : KA} {K : Kit} {boxes : List Str}
theorem slN {n : Nat} {xs : List AV} {lo hi : Option Int} (h : G[n]? = some (.lst xs)) : (fSl (.ref n) lo hi G).wp QV E = QV (.ref G.length) (G ++ [.lst (cutA xs lo hi)]) := by
  have e : fSl (.ref n) lo hi G = .ok (.ref G.length) (G ++ [.lst (cutA xs lo hi)]) := by simp only [fSl, tupOf, lstOf, h]
  rw [e, wp_ok]
theorem wp_gT24 {i j k l m : Nat} {a v w u y : AV} : MG.wp (gTp 2 (gCo (gNm m) (gCo (gTp 4 (gCo (gNm i) (gCo (gNm j) (gCo (gNm k) (gCo (gNm l) gNi))))) gNi)) (.tup [a, .tup [v, w, u, y]]) ρ G) D = D.nx (((((ρ.set m (some a)).set i (some v)).set j (some w)).set k (some u)).set l (some y)) G := propext Iff.rfl
def BAD : List Str := ["", "Box", "end", "ninesigns", "a1", "many"]
def kit4 (h l b : Nat) (st : Bool) : List (L2.Key × AV) := [(.inr "heads", .ref h), (.inr "later", .ref l), (.inr "boxes", .ref b), (.inr "star", .bl st)]
theorem kit4_up {h l b f o : Nat} {st : Bool} {g : Nat} {bad : AV} : ([(.inr "gives", .int g), (.inr "odd", .int o), (.inr "left", .ref f), (.inr "bad", bad)] : List (L2.Key × AV)).foldl (fun acc kv => putA acc kv.1 kv.2) (kit4 h l b st) = kitK ⟨0, h, l, b, f, bad, o⟩ ⟨[], [], [], st, g⟩ := by
  simp [putA, kit4, kitK, ofS_inj]
theorem bad_ok : ∀ x ∈ BAD, nmS x := by unfold nmS; decide +kernel
theorem drawn_wp {od : Nat} (hod : od ≤ 200) (hd : Dr b t s G) (ht : t + 4000000 < 2 ^ 60) (hq : ∀ (fs : List Pl.Fn) (hs : List Hd) (bx : List Str) (G' : Hs), DrawnOk fs hs bx → Dr b (t + 4000000) s G' → Kp b G G' → QV (.ls (fs.map fnT)) G') : (f_law_drawn [.ref s, .int (od : Nat)] G).wp QV E := by
  have esz := szl_eq
  have hbG := hd.bl
  unfold f_law_drawn b_law_drawn
  simp_arith []
  refine unlike_wp (m := 5) hd (by decide) (by omega) fun bN boxes G1 hbl hbn hbN hbb hbx d1 k1 => ?_
  unfold k_law_drawn_2
  simp_arith []
  refine heads_wp d1 (by omega) hbx hbb hbl hbn fun hN hs G2 hok hbh hh2 d2 k2 => ?_
  have hbx2 := k2.get hbb hbx
  unfold k_law_drawn_3
  simp_arith [take_eq]
  refine take_wp d2 (by decide) (by decide) (by omega) fun r G3 a3 b3 d3 k3 => ?_
  obtain ⟨r, rfl⟩ := Int.eq_ofNat_of_zero_le a3
  have hr : r < BAD.length := by have : BAD.length = 6 := rfl; omega
  have e3 : ((BAD.map AV.str)[((r : Nat) : Int).toNat]?) = some (.str BAD[r]) := by
    rw [List.getElem?_map, Int.toNat_natCast, List.getElem?_eq_getElem hr]; rfl
  show ((fIx (.ls (BAD.map AV.str)) (.int (r : Nat)) G3).wp _ _ : Prop)
  rw [ix_ls (v := .str BAD[r]) (by omega) (by rw [List.length_map]; omega) e3]
  have hh3 := k3.get hbh hh2
  have hbx3 := k3.get hbb hbx2
  have lh := Pl.lt_of hh3
  have lx := Pl.lt_of hbx3
  have k03 : Kp b G G3 := (k1.trans k2).trans k3
  unfold k_law_drawn_4
  simp_arith []
  unfold k_law_drawn_5
  simp_arith []
  unfold k_law_drawn_6
  simp_arith []
  have k05 : Kp b G3 ((G3 ++ [AO.lst []]) ++ [AO.lst [.int 16]]) := (Kp.app b G3 _).trans (Kp.app b _ _)
  have d5 : Dr b (t + 251) s ((G3 ++ [AO.lst []]) ++ [AO.lst [.int 16]]) := (d3.app.app).mono (by omega)
  have hF5 : ((G3 ++ [AO.lst []]) ++ [AO.lst [.int 16]])[G3.length]? = some (.lst []) := by simp
  have hf5 : ((G3 ++ [AO.lst []]) ++ [AO.lst [.int 16]])[(G3 ++ [AO.lst []]).length]? = some (.lst [.int 16]) := by simp
  have el : (G3 ++ [AO.lst []]).length = G3.length + 1 := by simp
  rw [el] at hf5
  rw [el]
  have h3l := k03.le
  have hh5 := k05.get hbh hh3
  have hbx5 := k05.get hbb hbx3
  generalize (G3 ++ [AO.lst []]) ++ [AO.lst [.int 16]] = G5 at k05 d5 hF5 hf5 hh5 hbx5
  have hmi : (mEn (mVar 3)) [some (.ref s), some (.int od), some (.ref bN), some (.ref hN), some (.str BAD[r]), some (.ref G3.length), some (.ref (G3.length + 1)), none, none, none, none, none, none] G5 = .ok (zipE (hs.map Hd.av, some (hN, hs.map Hd.av))) G5 := en_ok (v := .ref hN) (var_ok rfl) (by
    show (wkOf G5 (.ref hN)).map zipE = _
    rw [wk_L hh5]
    rfl)
  have hlz : (zipE (hs.map Hd.av, some (hN, hs.map Hd.av))).1.length = hs.length := by rw [zipE_len, List.length_map]
  refine wp_forK hmi (fun j ρ' G' => ∃ (fs : List Pl.Fn) (o7 o8 o9 o10 o11 o12 : Option AV), ρ' = [some (.ref s), some (.int od), some (.ref bN), some (.ref hN), some (.str BAD[r]), some (.ref G3.length), some (.ref (G3.length + 1)), o7, o8, o9, o10, o11, o12] ∧ fs.length = j ∧ (∀ (i : Nat) (f : Pl.Fn) (h : Hd), fs[i]? = some f → hs[i]? = some h → FnHd hs boxes f h) ∧
      G'[G3.length]? = some (.lst (fs.map fnT)) ∧ (∃ i : Int, G'[G3.length + 1]? = some (.lst [.int i])) ∧ G'[hN]? = some (.lst (hs.map Hd.av)) ∧ G'[bN]? = some (.lst (boxes.map .str)) ∧ Dr b (t + 251 + 700000 * j) s G' ∧ Kp b G G')
    (by exact ⟨[], _, _, _, _, _, _, rfl, rfl, (fun i f h e => by simp at e), hF5, ⟨16, hf5⟩, hh5, hbx5, d5, k03.trans k05⟩) (fun j ρ' G' _ ⟨fs, o7, o8, o9, o10, o11, o12, _, _, _, _, _, h7, _⟩ => h7) (fun j v ρ' G6 hv ⟨fs, o7, o8, o9, o10, o11, o12, eρ, hl, hfs, hF6, ⟨i6, hf6⟩, hh6, hbx6, d6, k6⟩ => ?_) fun ρ' G6 ⟨fs, o7, o8, o9, o10, o11, o12, eρ, hl, hfs, hF6, ⟨i6, hf6⟩, hh6, hbx6, d6, k6⟩ => ?_
  · subst eρ
    have hj : j < hs.length := by rw [← hlz]; exact (List.getElem?_eq_some_iff.mp hv).1
    have hs4 := hok.l1
    rw [zipE_get] at hv
    have hv : ((hs.map Hd.av)[j]?).map (fun v => AV.tup [.int (j : Nat), v]) = some v := hv
    rw [List.getElem?_map, List.getElem?_eq_getElem hj] at hv
    have hv : v = AV.tup [.int (j : Nat), hs[j].av] := (Option.some.inj hv).symm
    subst hv
    have hjm := List.getElem_mem hj
    have hjok := hok.ok _ hjm
    have hje : hs[j]? = some hs[j] := List.getElem?_eq_getElem hj
    generalize hs[j] = h at hjm hjok hje
    unfold Hd.av
    rw [wp_gT24]
    simp_arith []
    unfold l_law_drawn_6
    simp_arith []
    rw [wp_dict]
    simp_arith [wp_prs, wp_prs0, kOf]
    have l6h := Pl.lt_of hh6
    have l6x := Pl.lt_of hbx6
    have l6F := Pl.lt_of hF6
    have l6f := Pl.lt_of hf6
    rw [slN (show (G6 ++ [AO.dk []])[hN]? = some (.lst (hs.map Hd.av)) from (Kp.app 0 G6 _).get0 hh6)]
    simp_arith [wp_prs, wp_prs0, kOf]
    have ecut : cutA (hs.map Hd.av) (some ((j : Nat) + 1)) none = (hs.drop (j + 1)).map Hd.av := by
      rw [show (((j : Nat) : Int) + 1) = ((j + 1 : Nat) : Int) by omega, cut_fromN (by rw [List.length_map]; omega), List.map_drop]
    rw [ecut]
    have el6 : (G6 ++ [AO.dk []]).length = G6.length + 1 := by simp
    rw [el6]
    refine ⟨⟨by decide, ?_⟩, ?_⟩
    · rw [List.getElem?_append_left (by rw [el6]; omega)]; simp
    have em : mergeA [(.inr "heads", .ref hN), (.inr "later", .ref (G6.length + 1)), (.inr "boxes", .ref bN), (.inr "star", .bl h.star)] = kit4 hN (G6.length + 1) bN h.star := by
      simp [mergeA, putA, kit4, ofS_inj]
    rw [em]
    have kS : ∀ o : AO, Kp b G6 (((G6 ++ [AO.dk []]) ++ [AO.lst ((hs.drop (j + 1)).map Hd.av)]).set G6.length o) := fun o => ((Kp.app b G6 _).trans (Kp.app b _ _)).setN (Nat.le_refl _)
    have hk7 := Pl.set_self (o' := AO.dk (kit4 hN (G6.length + 1) bN h.star)) (show ((G6 ++ [AO.dk []]) ++ [AO.lst ((hs.drop (j + 1)).map Hd.av)])[G6.length]? = some (.dk []) from by rw [List.getElem?_append_left (by rw [el6]; omega)]; simp)
    have hl7 : (((G6 ++ [AO.dk []]) ++ [AO.lst ((hs.drop (j + 1)).map Hd.av)]).set G6.length (AO.dk (kit4 hN (G6.length + 1) bN h.star)))[G6.length + 1]? = some (.lst ((hs.drop (j + 1)).map Hd.av)) := (Pl.set_other (by omega)).trans (by rw [← el6]; simp)
    have d7 : Dr b (t + 251 + 700000 * j) s (((G6 ++ [AO.dk []]) ++ [AO.lst ((hs.drop (j + 1)).map Hd.av)]).set G6.length (AO.dk (kit4 hN (G6.length + 1) bN h.star))) := d6.app.app.setN d6.bl
    have k7 := kS (AO.dk (kit4 hN (G6.length + 1) bN h.star))
    generalize ((G6 ++ [AO.dk []]) ++ [AO.lst ((hs.drop (j + 1)).map Hd.av)]).set G6.length (AO.dk (kit4 hN (G6.length + 1) bN h.star)) = G7 at hk7 hl7 d7 k7
    have l7 := Pl.lt_of hl7
    unfold k_law_drawn_8
    simp_arith [isD_D hk7, wp_fz]
    rw [wp_dict]
    simp_arith [wp_prs, wp_prs0, kOf]
    refine ⟨⟨by decide, by simp⟩, ?_⟩
    have em2 : mergeA [(.inr "gives", .int h.gives), (.inr "odd", .int od), (.inr "left", .ref (G3.length + 1)), (.inr "bad", .str BAD[r])] = [(.inr "gives", .int h.gives), (.inr "odd", .int od), (.inr "left", .ref (G3.length + 1)), (.inr "bad", .str BAD[r])] := by
      simp [mergeA, putA, ofS_inj]
    rw [em2]
    have hk8 : (((G7 ++ [AO.dk []]).set G7.length (.dk [(.inr "gives", .int h.gives), (.inr "odd", .int od), (.inr "left", .ref (G3.length + 1)), (.inr "bad", .str BAD[r])]))[G7.length]?) = some (.dk [(.inr "gives", .int h.gives), (.inr "odd", .int od), (.inr "left", .ref (G3.length + 1)), (.inr "bad", .str BAD[r])]) := Pl.set_self (o := .dk []) (by simp)
    rw [fzQ_ref hk8 rfl]
    have k8 : Kp b G7 (((G7 ++ [AO.dk []]).set G7.length (.dk [(.inr "gives", .int h.gives), (.inr "odd", .int od), (.inr "left", .ref (G3.length + 1)), (.inr "bad", .str BAD[r])])).set G7.length .gone) := ((Kp.app b G7 _).setN (Nat.le_refl _)).setN (Nat.le_refl _)
    have d8 := (((d7.app (o := [AO.dk []])).setN (o := .dk [(.inr "gives", .int h.gives), (.inr "odd", .int od), (.inr "left", .ref (G3.length + 1)), (.inr "bad", .str BAD[r])]) (n := G7.length) d7.bl).setN (o := .gone) (n := G7.length) d7.bl)
    generalize ((G7 ++ [AO.dk []]).set G7.length (.dk [(.inr "gives", .int h.gives), (.inr "odd", .int od), (.inr "left", .ref (G3.length + 1)), (.inr "bad", .str BAD[r])])).set G7.length .gone = G8 at k8 d8
    have b6 : b ≤ G6.length := d6.bl
    have hk9 := k8.get b6 hk7
    simp_arith [isD_D hk9]
    rw [dupd_wp hk9 (more := [(.inr "gives", .int h.gives), (.inr "odd", .int od), (.inr "left", .ref (G3.length + 1)), (.inr "bad", .str BAD[r])]) rfl rfl (by show (4 : Nat) + 4 ≤ szl; decide) (kit4_up (h := hN) (l := G6.length + 1) (b := bN) (f := G3.length + 1))]
    have d9 := d8.setN (o := .dk (kitK ⟨0, hN, G6.length + 1, bN, G3.length + 1, .str BAD[r], od⟩ ⟨[], [], [], h.star, h.gives⟩)) (n := G6.length) b6
    have hkA := Pl.set_self (o' := .dk (kitK ⟨0, hN, G6.length + 1, bN, G3.length + 1, .str BAD[r], od⟩ ⟨[], [], [], h.star, h.gives⟩)) hk9
    have k68 : Kp b G6 G8 := k7.trans k8
    have sN : ∀ (m : Nat) (o : AO), b ≤ m → m < G6.length → G6[m]? = some o → (G8.set G6.length (.dk (kitK ⟨0, hN, G6.length + 1, bN, G3.length + 1, .str BAD[r], od⟩ ⟨[], [], [], h.star, h.gives⟩)))[m]? = some o := fun m o hb hm e => (Pl.set_other (by omega)).trans (k68.get hb e)
    have kA : Kp b G6 (G8.set G6.length (.dk (kitK ⟨0, hN, G6.length + 1, bN, G3.length + 1, .str BAD[r], od⟩ ⟨[], [], [], h.star, h.gives⟩))) := k68.setN (Nat.le_refl _)
    have hlA : (G8.set G6.length (.dk (kitK ⟨0, hN, G6.length + 1, bN, G3.length + 1, .str BAD[r], od⟩ ⟨[], [], [], h.star, h.gives⟩)))[G6.length + 1]? = some (.lst ((hs.drop (j + 1)).map Hd.av)) := (Pl.set_other (by omega)).trans (k8.get (by omega) hl7)
    have hKit : KitH b ⟨G6.length, hN, G6.length + 1, bN, G3.length + 1, .str BAD[r], od⟩ ⟨hs, hs.drop (j + 1), boxes, h.star, h.gives⟩ (G8.set G6.length (.dk (kitK ⟨0, hN, G6.length + 1, bN, G3.length + 1, .str BAD[r], od⟩ ⟨[], [], [], h.star, h.gives⟩))) :=
      ⟨hkA, sN _ _ hbh l6h hh6, hlA, sN _ _ hbb l6x hbx6, ⟨i6, sN (G3.length + 1) _ (by omega) l6f hf6⟩, b6, hbh, by show b ≤ G6.length + 1; omega, hbb, by show b ≤ G3.length + 1; omega, by show G3.length + 1 ≠ hN; omega, by show G3.length + 1 ≠ G6.length + 1; omega, by show G3.length + 1 ≠ bN; omega, hod, ⟨_, rfl, bad_ok _ (List.getElem_mem hr)⟩⟩
    have hFA := sN _ _ (by omega) l6F hF6
    generalize G8.set G6.length (.dk (kitK ⟨0, hN, G6.length + 1, bN, G3.length + 1, .str BAD[r], od⟩ ⟨[], [], [], h.star, h.gives⟩)) = G9 at d9 hkA kA hlA hKit hFA
    unfold k_law_drawn_9
    simp_arith [isL_L hFA]
    have ok : KitOk ⟨hs, hs.drop (j + 1), boxes, h.star, h.gives⟩ := ⟨by show 0 < boxes.length; omega, by show boxes.length ≤ 10; omega, hbN, by show 0 < hs.length; omega, by show hs.length ≤ 10; omega, fun x hx => ⟨(hok.ok x hx).who, fun y hy => hbN y ((hok.ok x hx).gets y hy), (hok.ok x hx).len, (hok.ok x hx).gives⟩, by show (hs.drop (j + 1)).length ≤ 10; rw [List.length_drop]; omega, fun x hx => List.mem_of_mem_drop hx, hjok.gives⟩
    refine body_wp ok hKit d9 (by omega) fun bd G10 hbd hbl4 d10 hK10 f10 => ?_
    have hF10 := f10.get (by omega) (by show G3.length ≠ G3.length + 1; omega) hFA
    simp_arith [isL_L hF10]
    rw [wp_appL hF10]
    have b10 : ∀ m, m < b → True := fun _ _ => trivial
    have k10 : Kp b G G10 := ⟨Nat.le_trans k6.le (Nat.le_trans kA.le f10.le), fun m hb hm => by
      have e1 := f10.at_ m hb (by show m ≠ G3.length + 1; omega) (by have := k6.le; have := kA.le; omega)
      have e2 := kA.at_ m hb (by have := k6.le; omega)
      rw [e1, e2, k6.at_ m hb hm]⟩
    refine ⟨by rw [List.length_map]; omega, fs ++ [⟨h.who, h.gets, bd, h.gives, h.star⟩], _, _, _, _, _, _, rfl, by rw [List.length_append, hl]; rfl, ?_, ?_, ?_, ?_, ?_, (d10.setN (by omega)).mono (by omega), k10.setN (by omega)⟩
    · intro i f hh e1 e2
      by_cases c : i < fs.length
      · rw [List.getElem?_append_left c] at e1
        exact hfs i f hh e1 e2
      · have ei : i = fs.length := by
          have := (List.getElem?_eq_some_iff.mp e1).1
          rw [List.length_append] at this
          simp only [List.length_cons, List.length_nil] at this
          omega
        subst ei
        rw [List.getElem?_concat_length] at e1
        rw [hl, hje] at e2
        cases e1
        cases e2
        exact ⟨rfl, rfl, rfl, rfl, hbl4, ⟨_, hbd⟩⟩
    · rw [Pl.set_self hF10, List.map_append]; rfl
    · obtain ⟨i, hi⟩ := hK10.f
      exact ⟨i, (Pl.set_other (by show G3.length + 1 ≠ G3.length; omega)).trans hi⟩
    · exact (Pl.set_other (by omega)).trans hK10.h
    · exact (Pl.set_other (by omega)).trans hK10.x
  · subst eρ
    simp_arith []
    rw [wp_fz]
    simp_arith []
    rw [fzQ_lst hF6]
    rw [hlz] at hl d6
    have hs4 := hok.l1
    exact hq fs hs boxes _ ⟨hok, hbl, hbn, hbN, by omega, hfs⟩ ((d6.setN (by omega)).mono (by omega)) (k6.setN (by omega))
end
end L_k13
namespace L_k13
open PySem L2 Vz
/-- what is wrong in a statement -/
def wrongSt (fs : List Pl.Fn) (f : Pl.Fn) (s : Pl.St) : Option Str :=
  if (givenB s ++ Pl.esBoxes s.exs).all nmOk = false then some ("box" : Str) else if callOk fs s = false then some ("call" : Str) else if (Pl.subsOf s.exs).all (refOk fs) = false then some ("ref" : Str) else if retOk f s = false then some ("return" : Str) else if (f.more || (Pl.subsOf s.exs).all fewOk) = false then some ("many" : Str) else none
def badParam (ps : List Str) : Bool := (List.range ps.length).any fun j => match ps[j]? with
  | some p => !isN p || (ps.take j).any fun y => y == p
  | none => false
def firstW (fs : List Pl.Fn) (f : Pl.Fn) : List Pl.St → Option Str
  | [] => none
  | s :: r => match wrongSt fs f s with
    | some w => some w
    | none => firstW fs f r
def wrongFn (fs : List Pl.Fn) (ahead : List Str) (f : Pl.Fn) : Option Str :=
  if isN f.name = false then some ("name" : Str) else if (ahead.any fun y => y == f.name) = true then some ("name" : Str) else if badParam f.params = true then some ("box" : Str) else firstW fs f (bdSts f.body)
def wrongAt (fs : List Pl.Fn) : List Str → List Pl.Fn → Option (Str × Str)
  | _, [] => none
  | ahead, f :: r => match wrongFn fs ahead f with
    | some w => some (f.name, w)
    | none => wrongAt fs (ahead ++ [f.name]) r
def wrongB (fs : List Pl.Fn) : Option (Str × Str) := match wrongAt fs [] fs with
  | some x => some x
  | none => match fs with
    | [] => some ("", "first")
    | f :: _ => if f.more = true then some (f.name, "first") else none
/-- sizes -/
def szSt (s : Pl.St) : Bool := Pl.stFit s && decide ((givenB s ++ Pl.esBoxes s.exs).length ≤ 100000) && (givenB s ++ Pl.esBoxes s.exs).all fun w => decide (w.length ≤ 1000)
structure SzFn (f : Pl.Fn) : Prop where
  nm : f.name.length ≤ 1000
  pn : f.params.length ≤ 1000
  ps : ∀ p ∈ f.params, p.length ≤ 1000
  sl : (bdSts f.body).length ≤ 100000
  ss : ∀ s ∈ bdSts f.body, szSt s = true
  ft : f.fit = true
  da : ∀ s ∈ bdSts f.body, ∀ e ∈ Pl.subsOf s.exs, Da 9 e.av
structure SzB (fs : List Pl.Fn) : Prop where
  ln : fs.length ≤ 1000
  fn : ∀ f ∈ fs, SzFn f
abbrev noBook (E : XQ) (nm wd : Str) : Hs → Prop := E "NoBook" (mkX [("name", 1), ("word", 2)] [.str nm, .str wd])
section
variable {QV : AV → Hs → Prop} {QB : Bool → Hs → Prop} {E : XQ} {G : Hs} {ρ : En} {D : SP} {fs : List Pl.Fn} {kn : AV} {f : Pl.Fn}
theorem nmG_wp {w : Str} (h : w.length ≤ 1000) (hq : ∀ G', Kp 0 G G' → QV (.bl (isN w)) G') : (f_is_name [.str w] G).wp QV E := by
  have esz := szl_eq
  exact name_wp (by omega) hq
theorem callG_wp {s : Pl.St} (hk : Kn fs kn) (hq : QV (.bl (!callOk fs s)) G) : (f_call_is_wrong [s.av, kn] G).wp QV E := by
  unfold f_call_is_wrong b_call_is_wrong
  cases s with
  | call ts g es =>
    have avE : Pl.St.av (.call ts g es) = .tup [.str "call", .tup (Pl.strA ts), .str g, .tup (es.map Pl.Ex.av)] := by simp only [Pl.St.av]; rfl
    rw [avE]
    simp_arith []
    unfold k_call_is_wrong_3
    simp_arith [wp_dget1]
    refine ⟨kn_dk hk, ?_⟩
    rw [kn_get hk]
    simp only [callOk] at hq
    cases hf : fnOf fs g with
    | none =>
      rw [hf] at hq
      unfold k_call_is_wrong_4
      simp_arith []
      exact hq
    | some f =>
      rw [hf] at hq
      simp only at hq
      unfold k_call_is_wrong_4
      simp_arith []
      show ((fIsN f.av .non G).wp _ _ : Prop)
      show ((fIsN (.iv _ _ _) .non G).wp _ _ : Prop)
      rw [isN_iv]
      simp_arith []
      rw [fn_results (in1 _)]
      simp_arith []
      rw [len_T, strA_len]
      simp_arith []
      by_cases c : f.results = ts.length
      · rw [decide_eq_true (show (f.results : Int) = ts.length by omega)]
        rw [decide_eq_true c, Bool.true_and] at hq
        simp_arith []
        unfold k_call_is_wrong_6
        simp_arith []
        rw [len_T, List.length_map]
        exact takes_wp hq
      · rw [decide_eq_false (show ¬ (f.results : Int) = ts.length by omega)]
        rw [decide_eq_false c] at hq
        simp_arith []
        exact hq
  | try_ a x b =>
    rw [try_av]
    simp_arith [ofS_inj, String.reduceEq]
    exact hq
  | _ =>
    unfold Pl.St.av
    simp_arith [ofS_inj, String.reduceEq]
    exact hq
theorem lsne_nil {k : Nat} {xs : List AV} (h : ∀ v ∈ xs, Da k v) (l : k ≤ 10) : (fNe (.ls xs) (.ls []) G).wp QV E = QV (.bl (!xs.isEmpty)) G := by
  have e : eqB G (.ls xs) (.ls []) = some xs.isEmpty := by
    obtain ⟨ds, hd⟩ := das_of h
    show eqF G (.ls xs) (.ls []) = _
    rw [eqF_da (daD_ls hd) (daD_ls (k := k) .nil) (by omega) (by omega)]
    cases hd <;> rfl
  unfold fNe
  rw [e]
  rfl
def isMEw (w : Str) : Bool := decide (w = "many") || decide (w = "extra")
def isME : AV → Bool
  | .tup (.str w :: _) => isMEw w
  | _ => false
theorem isME_t {w : Str} {r : List AV} : isME (.tup (.str w :: r)) = isMEw w := rfl
theorem isME_ex (e : Pl.Ex) : isME e.av = !fewOk e := by
  cases e with
  | sum k a b =>
    show isMEw k.word = true.not
    cases k <;> decide +kernel
  | num n => show isMEw "number" = true.not; decide +kernel
  | box n => show isMEw "box" = true.not; decide +kernel
  | ref n => show isMEw "ref" = true.not; decide +kernel
  | many => show isMEw "many" = false.not; decide +kernel
  | extra e => show isMEw "extra" = false.not; decide +kernel
abbrev wdA : Option Str → AV
  | some w => .str w
  | none => .non
theorem wrongG_wp {s : Pl.St} (hk : Kn fs kn) (hz : szSt s = true) (hda : ∀ e ∈ Pl.subsOf s.exs, Da 9 e.av) (hq : ∀ G', Kp 0 G G' → QV (wdA (wrongSt fs f s)) G') : (f_wrong_in [f.av, s.av, kn] G).wp QV E := by
  have esz := szl_eq
  unfold szSt at hz
  simp only [Bool.and_eq_true, decide_eq_true_eq] at hz
  obtain ⟨⟨hf, hlen⟩, hw⟩ := hz
  have hw := List.all_eq_true.mp hw
  have hf2 := hf
  obtain ⟨f1, f2⟩ := Bool.and_eq_true_iff.mp hf2
  have f1 := of_decide_eq_true f1
  have f2 := of_decide_eq_true f2
  unfold f_wrong_in b_wrong_in
  simp_arith []
  refine exps2_wp f2 ?_
  simp_arith []
  refine within_wp 20 _ _ _ _ (by omega) f1 f2 fun G1 k1 => ?_
  unfold k_wrong_in_2
  simp_arith []
  rw [wp_fz]
  obtain ⟨v0, G0, e0, q0, k0⟩ := (show ((m2 fAddI (mBlt fListI (mCons (mCall 1 1 0 gAll f_given_by (mCons (mVar 1) mNil) mNil) mNil)) (mCall 1 1 0 gAll f_boxes_read (mCons (mVar 1) mNil) mNil)) [some f.av, some s.av, some kn, some (.ls ((Pl.subsOf s.exs).map Pl.Ex.av)), none, none, none] G1).wp (fun v G0 => v = .ls (Pl.strA (givenB s ++ Pl.esBoxes s.exs)) ∧ Kp 0 G1 G0) noX from by
    simp_arith []
    refine given2_wp ?_
    rw [list_tup]
    refine read2_wp hf fun G2 k2 => ?_
    simp_arith []
    rw [List.length_append] at hlen
    refine ⟨by rw [strA_len, strA_len]; omega, by rw [strA_app], k2⟩).ex
  subst q0
  rw [← wp_fz]
  refine wp_lcM (vs := Pl.strA (givenB s ++ Pl.esBoxes s.exs)) (G0 := G0) (wk_ok e0 rfl) k0 (fun v => match v with
    | .str w => .bl (isN w)
    | v => v) (by rw [strA_len]; omega) (fun v hv G2 k2 => ?_) fun G2 k2 => ?_
  · obtain ⟨w, hwm, rfl⟩ := List.mem_map.mp hv
    refine ⟨_, rfl, ?_⟩
    simp_arith []
    exact nmG_wp (of_decide_eq_true (hw w hwm)) fun G3 k3 => ⟨rfl, k3⟩
  · have e1 : (Pl.strA (givenB s ++ Pl.esBoxes s.exs)).map (fun v => match v with
        | .str w => AV.bl (isN w)
        | v => v) = ((givenB s ++ Pl.esBoxes s.exs).map isN).map AV.bl := by
      unfold Pl.strA
      rw [List.map_map, List.map_map]
      rfl
    rw [e1]
    simp_arith []
    rw [all_ls]
    have e2 : ((givenB s ++ Pl.esBoxes s.exs).map isN).all id = (givenB s ++ Pl.esBoxes s.exs).all nmOk := by rw [List.all_map]; rfl
    rw [e2]
    have k02 : Kp 0 G G2 := k1.trans k2
    unfold wrongSt at hq
    cases hb : (givenB s ++ Pl.esBoxes s.exs).all nmOk with
    | false =>
      rw [hb, if_pos rfl] at hq
      simp_arith []
      exact hq _ k02
    | true =>
      rw [hb, if_neg (by decide)] at hq
      simp_arith []
      unfold k_wrong_in_4
      simp_arith []
      refine callG_wp hk ?_
      cases hc : callOk fs s with
      | false =>
        rw [hc, if_pos rfl] at hq
        simp_arith []
        exact hq _ k02
      | true =>
        rw [hc, if_neg (by decide)] at hq
        simp_arith []
        unfold k_wrong_in_6
        rw [wp_seq]
        refine wp_forK (k := ((Pl.subsOf s.exs).map Pl.Ex.av, none)) (G0 := G2) (wk_ok rfl rfl) (fun j ρ G' => ∃ a4, ρ = [some f.av, some s.av, some kn, some (.ls ((Pl.subsOf s.exs).map Pl.Ex.av)), a4, none, none] ∧ G' = G2 ∧ ((Pl.subsOf s.exs).take j).all (refOk fs) = true)
          ⟨_, rfl, rfl, rfl⟩ (fun _ _ _ _ _ => True.intro) (fun j v ρ G' hv ⟨a4, er, eG, hall⟩ => ?_) fun ρ G' ⟨a4, er, eG, hall⟩ => ?_
        · subst er eG
          have hv : ((Pl.subsOf s.exs).map Pl.Ex.av)[j]? = some v := hv
          rw [List.getElem?_map] at hv
          obtain ⟨e, he, rfl⟩ := Option.map_eq_some_iff.mp hv
          have et : ((Pl.subsOf s.exs).take (j + 1)).all (refOk fs) = refOk fs e := by
            rw [List.take_succ, he, List.all_append, hall]
            simp
          have bad : refOk fs e = false → QV (.str "ref") G' := fun hr => by
            have : (Pl.subsOf s.exs).all (refOk fs) = false := List.all_eq_false.mpr ⟨e, List.mem_of_getElem? he, by rw [hr]; decide⟩
            rw [this, if_pos rfl] at hq
            exact hq _ k02
          unfold l_wrong_in_6
          cases e with
          | ref g =>
            simp only [refOk] at et bad
            unfold Pl.Ex.av
            simp_arith []
            rw [kn_nin hk]
            cases hg : fnOf fs g with
            | none =>
              rw [hg] at bad
              simp_arith [Option.isSome_none]
              exact bad rfl
            | some f' =>
              rw [hg] at et bad
              simp_arith [Option.isSome_some]
              rw [kn_dg hk hg, fn_results (in1 _)]
              simp_arith []
              by_cases c1 : f'.results = 1
              · rw [decide_eq_true (show (f'.results : Int) = 1 by omega)]
                simp_arith []
                exact ⟨_, rfl, by rw [et]; exact decide_eq_true c1⟩
              · rw [decide_eq_false (show ¬ (f'.results : Int) = 1 by omega)]
                simp_arith []
                exact bad (decide_eq_false c1)
          | sum k a b =>
            have hk : ¬ k.word = ("ref" : Str) := by cases k <;> simp [Pl.Sk.word, ofS_inj]
            unfold Pl.Ex.av
            simp_arith []
            rw [decide_eq_false hk]
            simp_arith []
            exact ⟨_, rfl, by rw [et]; rfl⟩
          | _ =>
            unfold Pl.Ex.av
            simp_arith [ofS_inj, String.reduceEq]
            exact ⟨_, rfl, by rw [et]; rfl⟩
        · subst er eG
          have hall : ((Pl.subsOf s.exs).take ((Pl.subsOf s.exs).map Pl.Ex.av).length).all (refOk fs) = true := hall
          rw [List.length_map, List.take_length] at hall
          rw [hall, if_neg (by decide)] at hq
          unfold k_wrong_in_9
          have fin : (∀ G3, Kp 0 G' G3 → QV (wdA (if (f.more || (Pl.subsOf s.exs).all fewOk) = false then some ("many" : Str) else none)) G3) → (k_wrong_in_11 [some f.av, some s.av, some kn, some (.ls ((Pl.subsOf s.exs).map Pl.Ex.av)), a4, none, none] G').wp ⟨fun _ G => QV .non G, QV, fun _ _ => False, fun _ _ => False, E⟩ := fun hq => by
            unfold k_wrong_in_11
            simp_arith []
            rw [fn_more (in1 _)]
            cases hmo : f.more with
            | true =>
              rw [hmo, Bool.true_or, if_neg (by decide)] at hq
              simp_arith []
              exact hq _ (Kp.refl _ _)
            | false =>
              rw [hmo, Bool.false_or] at hq
              simp_arith []
              refine wp_lcG (vs := (Pl.subsOf s.exs).map Pl.Ex.av) (G0 := G') (wk_ok rfl rfl) (Kp.refl _ _) isME (fun v => v) (by rw [List.length_map]; have := Pl.subsOf_len (n := 12) s.exs f1; omega) (fun v hv G3 k3 => ?_) fun G3 k3 => ?_
              · obtain ⟨e, hem, rfl⟩ := List.mem_map.mp hv
                refine ⟨_, rfl, ?_⟩
                cases e with
                | sum k a b =>
                  unfold Pl.Ex.av
                  simp_arith []
                  rw [isME_t]
                  cases k <;> exact ⟨by decide +kernel, Kp.refl _ _, fun _ => Kp.refl _ _⟩
                | _ =>
                  unfold Pl.Ex.av
                  simp_arith []
                  rw [isME_t]
                  exact ⟨by decide +kernel, Kp.refl _ _, fun _ => Kp.refl _ _⟩
              · have hE : (((Pl.subsOf s.exs).map Pl.Ex.av).filter isME).map (fun v => v) = ((Pl.subsOf s.exs).map Pl.Ex.av).filter isME := List.map_id' _
                rw [hE]
                simp_arith []
                rw [lsne_nil (k := 9) (fun v hv => by
                  obtain ⟨e, he, rfl⟩ := List.mem_map.mp (List.mem_filter.mp hv).1
                  exact hda e he) (by decide)]
                simp_arith []
                have eI : (((Pl.subsOf s.exs).map Pl.Ex.av).filter isME).isEmpty = (Pl.subsOf s.exs).all fewOk := by
                  generalize Pl.subsOf s.exs = l
                  induction l with
                  | nil => rfl
                  | cons e l ih =>
                    rw [List.map_cons, List.filter_cons, isME_ex, List.all_cons]
                    cases fewOk e with
                    | true => simpa using ih
                    | false => rfl
                rw [eI]
                cases hfw : (Pl.subsOf s.exs).all fewOk with
                | true =>
                  rw [hfw, if_neg (by decide)] at hq
                  simp_arith []
                  exact hq _ k3
                | false =>
                  rw [hfw, if_pos rfl] at hq
                  simp_arith []
                  exact hq _ k3
          have hw0 : ∃ (w : Str) (r : List AV), s.av = .tup (.str w :: r) := by
            cases s <;> simp only [Pl.St.av] <;> exact ⟨_, _, rfl⟩
          cases s with
          | ret es =>
            have avE : Pl.St.av (.ret es) = .tup [.str "return", .tup (es.map Pl.Ex.av)] := by simp only [Pl.St.av]
            have ix0 : ∀ (G : Hs) (Q : AV → Hs → Prop) (E : XQ), (fIx (Pl.St.av (.ret es)) (.int 0) G).wp Q E = Q (.str "return") G := fun G Q E => by rw [avE]; exact ixT0
            have ix1 : ∀ (G : Hs) (Q : AV → Hs → Prop) (E : XQ), (fIx (Pl.St.av (.ret es)) (.int 1) G).wp Q E = Q (.tup (es.map Pl.Ex.av)) G := fun G Q E => by rw [avE]; exact ixT1
            simp_arith [ix0, ix1]
            rw [len_T, List.length_map]
            simp_arith []
            rw [fn_results (in1 _)]
            simp_arith []
            by_cases c : es.length = f.results
            · rw [if_neg (show ¬ retOk f (.ret es) = false by simp [retOk, c])] at hq
              rw [decide_eq_true (show (es.length : Int) = f.results by omega)]
              simp_arith []
              exact fin fun G3 k3 => hq _ (k02.trans k3)
            · rw [if_pos (show retOk f (.ret es) = false by simp [retOk, c])] at hq
              rw [decide_eq_false (show ¬ (es.length : Int) = f.results by omega)]
              simp_arith []
              exact hq _ k02
          | _ =>
            obtain ⟨w, r, hw⟩ := hw0
            have ix0 : ∀ (G : Hs) (Q : AV → Hs → Prop) (E : XQ), (fIx (.tup (.str w :: r)) (.int 0) G).wp Q E = Q (.str w) G := fun G Q E => ixT0
            have hne : ¬ w = "return" := by
              simp only [Pl.St.av, AV.tup.injEq, List.cons.injEq, AV.str.injEq] at hw
              rw [← hw.1]
              simp [ofS_inj]
            rw [if_neg (by simp [retOk])] at hq
            rw [hw] at fin ⊢
            simp_arith [ix0]
            rw [decide_eq_false hne]
            simp_arith []
            exact fin fun G3 k3 => hq _ (k02.trans k3)
theorem fin_first {l : List Pl.St} {j : Nat} {s : Pl.St} (hs : l[j]? = some s) (h : firstW fs f (l.take j) = none) : firstW fs f (l.take (j + 1)) = wrongSt fs f s ∧ (∀ w, wrongSt fs f s = some w → firstW fs f l = some w) := by
  have app : ∀ (a b : List Pl.St), firstW fs f a = none → firstW fs f (a ++ b) = firstW fs f b := fun a b => by
    induction a with
    | nil => exact fun _ => rfl
    | cons x a ih =>
      intro h
      simp only [firstW] at h
      simp only [List.cons_append, firstW]
      cases q : wrongSt fs f x with
      | some w => rw [q] at h; cases h
      | none => rw [q] at h; exact ih h
  have hj := (List.getElem?_eq_some_iff.mp hs).1
  refine ⟨?_, fun w hw => ?_⟩
  · rw [List.take_succ, hs, app _ _ h]
    show (match wrongSt fs f s with
      | some w => some w
      | none => firstW fs f []) = _
    cases wrongSt fs f s <;> rfl
  · have e : l = l.take j ++ (s :: l.drop (j + 1)) := by
      rw [← (List.getElem?_eq_some_iff.mp hs).2, ← List.drop_eq_getElem_cons hj, List.take_append_drop]
    rw [e, app _ _ h]
    simp only [firstW, hw]
theorem lookG_wp {ahead : List Str} (hk : Kn fs kn) (hz : SzFn f) (hq : ∀ G', Kp 0 G G' → match wrongFn fs ahead f with
    | some w => noBook E f.name w G'
    | none => QV .non G') : (f_look_at [f.av, .ls (Pl.strA ahead), kn] G).wp QV E := by
  have esz := szl_eq
  obtain ⟨g1, g2, g3, g4⟩ := fn_fit hz.ft
  unfold f_look_at b_look_at
  simp_arith []
  rw [fn_name (in1 _)]
  simp_arith []
  refine nmG_wp hz.nm fun G1 k1 => ?_
  simp_arith []
  cases hN : isN f.name with
  | false =>
    have hw : wrongFn fs ahead f = some ("name" : Str) := by unfold wrongFn; rw [hN, if_pos rfl]
    rw [hw] at hq
    simp_arith [wp_raise]
    rw [fn_name (in1 _)]
    simp_arith []
    exact ⟨by decide, hq _ k1⟩
  | true =>
    simp_arith []
    rw [fn_name (in1 _)]
    simp_arith []
    show ((fIn (.str f.name) (.ls (ahead.map .str)) G1).wp _ _ : Prop)
    rw [in_lsS]
    cases hA : ahead.any fun y => y == f.name with
    | true =>
      have hw : wrongFn fs ahead f = some ("name" : Str) := by unfold wrongFn; rw [hN, if_neg (by decide), hA, if_pos rfl]
      rw [hw] at hq
      simp_arith [wp_raise]
      rw [fn_name (in1 _)]
      simp_arith []
      exact ⟨by decide, hq _ k1⟩
    | false =>
      simp_arith []
      unfold k_look_at_3
      rw [wp_seq]
      have he : (mEn (m1 (fFld ["Function"] "params") (mVar 0)) [some f.av, some (.ls (Pl.strA ahead)), some kn, none, none, none, none] G1) = .ok (zipE (Pl.strA f.params, none)) G1 := en_ok (v := .tup (Pl.strA f.params)) (eq_of_wp (by
        simp_arith []
        rw [fn_params (in1 _)]
        exact ⟨rfl, rfl⟩)) rfl
      have badJ : ∀ j p, f.params[j]? = some p → (!isN p || (f.params.take j).any fun y => y == p) = true → badParam f.params = true := fun j p hp hb => by
        unfold badParam
        rw [List.any_eq_true]
        exact ⟨j, List.mem_range.mpr (List.getElem?_eq_some_iff.mp hp).1, by rw [hp]; exact hb⟩
      have hwB : badParam f.params = true → wrongFn fs ahead f = some ("box" : Str) := fun hb => by
        unfold wrongFn; rw [hN, if_neg (by decide), hA, if_neg (by decide), if_pos hb]
      refine wp_forK he (fun j ρ G' => ∃ a3 a4, ρ = [some f.av, some (.ls (Pl.strA ahead)), some kn, a3, a4, none, none] ∧ Kp 0 G G' ∧ ∀ i p, i < j → f.params[i]? = some p → (!isN p || (f.params.take i).any fun y => y == p) = false)
        ⟨_, _, rfl, k1, fun _ _ z => absurd z (Nat.not_lt_zero _)⟩ (fun _ _ _ _ _ => True.intro) (fun j v ρ G' hv ⟨a3, a4, er, k, hok⟩ => ?_) fun ρ G' ⟨a3, a4, er, k, hok⟩ => ?_
      · subst er
        obtain ⟨p, hp, rfl⟩ : ∃ p, f.params[j]? = some p ∧ v = .tup [.int (j : Nat), .str p] := by
          have hv : (zipE (Pl.strA f.params, none)).1[j]? = some v := hv
          rw [zipE_get] at hv
          obtain ⟨u, hu, rfl⟩ := Option.map_eq_some_iff.mp hv
          obtain ⟨p, hp, rfl⟩ := Option.map_eq_some_iff.mp ((List.getElem?_map ..).symm.trans hu)
          exact ⟨p, hp, rfl⟩
        have hj := (List.getElem?_eq_some_iff.mp hp).1
        rw [wp_gT2]
        unfold l_look_at_3
        simp_arith []
        refine nmG_wp (hz.ps p (List.mem_of_getElem? hp)) fun G2 k2 => ?_
        simp_arith []
        cases hNp : isN p with
        | false =>
          have hb := badJ j p hp (by rw [hNp]; rfl)
          rw [hwB hb] at hq
          simp_arith [wp_raise]
          rw [fn_name (in1 _)]
          simp_arith []
          exact ⟨by decide, hq _ (k.trans k2)⟩
        | true =>
          simp_arith []
          rw [wp_fz]
          simp_arith []
          rw [fn_params (in1 _)]
          simp_arith []
          rw [sl_tup, fzQ_tup, cut_takeN (by rw [strA_len]; omega)]
          have e9 : (Pl.strA f.params).take j = (f.params.take j).map AV.str := List.map_take.symm
          rw [e9, in_tupS]
          cases hT : (f.params.take j).any fun y => y == p with
          | true =>
            have hb := badJ j p hp (by rw [hT, Bool.or_true])
            rw [hwB hb] at hq
            simp_arith [wp_raise]
            rw [fn_name (in1 _)]
            simp_arith []
            exact ⟨by decide, hq _ (k.trans k2)⟩
          | false =>
            simp_arith []
            refine ⟨_, _, rfl, k.trans k2, fun i p' hi hp' => ?_⟩
            rcases Nat.lt_or_ge i j with h | h
            · exact hok i p' h hp'
            · have : i = j := by omega
              subst this
              rw [hp] at hp'
              cases hp'
              rw [hNp, hT]
              rfl
      · subst er
        have hbF : badParam f.params = false := by
          unfold badParam
          rw [List.any_eq_false]
          intro i hi
          have hi := List.mem_range.mp hi
          have e : f.params[i]? = some (f.params[i]) := List.getElem?_eq_getElem hi
          rw [e]
          have := hok i _ (by rw [zipE_len, strA_len]; exact hi) e
          simp only [this]
          decide
        have hwF : wrongFn fs ahead f = firstW fs f (bdSts f.body) := by
          unfold wrongFn; rw [hN, if_neg (by decide), hA, if_neg (by decide), hbF, if_neg (by decide)]
        rw [hwF] at hq
        unfold k_look_at_6
        obtain ⟨v0, G0, e0, q0, k0⟩ := (show ((mCall 1 1 0 gAll f_statements_of (mCons (m1 (fFld ["Function"] "body") (mVar 0)) mNil) mNil) [some f.av, some (.ls (Pl.strA ahead)), some kn, a3, a4, none, none] G').wp (fun v G0 => v = .ls ((bdSts f.body).map Pl.St.av) ∧ Kp 0 G' G0) noX from by
          simp_arith []
          rw [fn_bodyF (in1 _)]
          simp_arith []
          exact sts_wp 20 _ _ _ _ (by omega) hz.sl fun G2 k2 => ⟨rfl, k2⟩).ex
        subst q0
        refine wp_forK (k := ((bdSts f.body).map Pl.St.av, none)) (wk_ok e0 rfl) (fun j ρ G' => ∃ a5 a6, ρ = [some f.av, some (.ls (Pl.strA ahead)), some kn, a3, a4, a5, a6] ∧ Kp 0 G G' ∧ firstW fs f ((bdSts f.body).take j) = none)
          ⟨_, _, rfl, k.trans k0, rfl⟩ (fun _ _ _ _ _ => True.intro) (fun j v ρ G2 hv ⟨a5, a6, er, k2, hno⟩ => ?_) fun ρ G2 ⟨a5, a6, er, k2, hno⟩ => ?_
        · subst er
          obtain ⟨s, hs, rfl⟩ := Option.map_eq_some_iff.mp ((List.getElem?_map ..).symm.trans hv)
          have hm := List.mem_of_getElem? hs
          obtain ⟨n1, n2⟩ := fin_first hs hno
          unfold l_look_at_6
          simp_arith []
          refine wrongG_wp hk (hz.ss s hm) (hz.da s hm) fun G3 k3 => ?_
          cases hW : wrongSt fs f s with
          | none =>
            unfold k_look_at_8
            simp_arith []
            exact ⟨_, _, rfl, k2.trans k3, by rw [n1, hW]⟩
          | some w =>
            rw [n2 w hW] at hq
            unfold k_look_at_8 wdA
            have nn : ∀ {G : Hs} {Q : AV → Hs → Prop} {E : XQ}, (fNotN (.str w) .non G).wp Q E = Q (.bl true) G := propext Iff.rfl
            simp_arith [nn, wp_raise]
            rw [fn_name (in1 _)]
            simp_arith []
            exact ⟨by decide, hq _ (k2.trans k3)⟩
        · subst er
          have hno : firstW fs f ((bdSts f.body).take ((bdSts f.body).map Pl.St.av).length) = none := hno
          rw [List.length_map, List.take_length] at hno
          rw [hno] at hq
          exact hq _ k2
def foldK (l : List Pl.Fn) : List (L2.Key × AV) := l.foldl (fun acc f => putA acc (.inr f.name) f.av) []
theorem getA_putA {kvs : List (L2.Key × AV)} {k g : L2.Key} {v : AV} : getA (putA kvs k v) g = if k = g then some v else getA kvs g := by
  have h1 : ∀ kvs : List (L2.Key × AV), getA (kvs.map fun kv => if kv.1 = k then (kv.1, v) else kv) g = if k = g ∧ (kvs.any fun kv => decide (kv.1 = k)) = true then some v else getA kvs g := fun kvs => by
    induction kvs with
    | nil => simp [getA]
    | cons x r ih =>
      obtain ⟨xk, xv⟩ := x
      by_cases c : xk = k
      · subst c
        by_cases c2 : xk = g
        · simp [getA, c2]
        · simp only [getA, List.map_cons, List.any_cons] at ih ⊢
          simp [c2, ih]
      · by_cases c2 : xk = g
        · have : ¬ k = g := fun e => c (c2.trans e.symm)
          have this2 : ¬ g = k := fun e => c (c2.trans e)
          simp [getA, c2, this, this2]
        · have e : ∀ (i : Decidable (xk = k)), @decide (xk = k) i = false := fun i => decide_eq_false c
          have hA : (((xk, xv) :: r).any fun kv => decide (kv.1 = k)) = (r.any fun kv => decide (kv.1 = k)) := by rw [List.any_cons, e, Bool.false_or]
          have hL : getA (((xk, xv) :: r).map fun kv => if kv.1 = k then (kv.1, v) else kv) g = getA (r.map fun kv => if kv.1 = k then (kv.1, v) else kv) g := by
            rw [List.map_cons, if_neg c]
            exact if_neg c2
          have hR : getA ((xk, xv) :: r) g = getA r g := if_neg c2
          rw [hL, hR, ih]
          by_cases q : k = g ∧ (r.any fun kv => decide (kv.1 = k)) = true
          · rw [if_pos q, if_pos ⟨q.1, hA.trans q.2⟩]
          · rw [if_neg q, if_neg (fun z => q ⟨z.1, hA.symm.trans z.2⟩)]
  unfold putA
  split
  · rename_i c
    refine Eq.trans (by first | rfl | (congr 1)) (h1 kvs) |>.trans ?_
    rw [c]
    simp
  · rename_i c
    have h2 : ∀ kvs : List (L2.Key × AV), ¬ (kvs.any fun kv => decide (kv.1 = k)) = true → getA (kvs ++ [(k, v)]) g = if k = g then some v else getA kvs g := fun kvs => by
      induction kvs with
      | nil => intro _; simp [getA]
      | cons x r ih =>
        obtain ⟨xk, xv⟩ := x
        intro h
        simp only [List.any_cons, Bool.or_eq_true, not_or] at h
        have ih := ih h.2
        have hx : ¬ xk = k := fun e => h.1 (decide_eq_true e)
        by_cases c2 : xk = g
        · have : ¬ k = g := fun e => hx (c2.trans e.symm)
          simp [getA, c2, this]
        · simp only [getA, List.cons_append] at ih ⊢
          simp [c2, ih]
    exact h2 kvs c
theorem putA_len {kvs : List (L2.Key × AV)} {k : L2.Key} {v : AV} : (putA kvs k v).length ≤ kvs.length + 1 := by
  unfold putA
  split
  · simp
  · simp
theorem foldK_get {g : Str} : ∀ l : List Pl.Fn, getA (foldK l.reverse) (.inr g) = (fnOf l g).map Pl.Fn.av
  | [] => rfl
  | f :: l => by
    unfold foldK
    rw [List.reverse_cons, List.foldl_append]
    show getA (putA (foldK l.reverse) (.inr f.name) f.av) (.inr g) = _
    rw [getA_putA, foldK_get l]
    unfold fnOf
    rw [List.find?_cons]
    by_cases c : f.name = g
    · rw [if_pos (by rw [c]), decide_eq_true c]; rfl
    · rw [if_neg (fun e => c (Sum.inr.inj e)), decide_eq_false c]
theorem kn_ofG (l : List Pl.Fn) : Kn l (.id ((foldK l.reverse).map (·.1)) ((foldK l.reverse).map (·.2))) :=
  ⟨_, _, rfl, fun g => by rw [zip_self, foldK_get]⟩
theorem foldK_len : ∀ l : List Pl.Fn, (foldK l).length ≤ l.length := fun l => by
  have : ∀ (l : List Pl.Fn) (acc : List (L2.Key × AV)), (l.foldl (fun acc f => putA acc (.inr f.name) f.av) acc).length ≤ acc.length + l.length := fun l => by
    induction l with
    | nil => intro acc; simp
    | cons f l ih =>
      intro acc
      simp only [List.foldl_cons, List.length_cons]
      have := ih (putA acc (.inr f.name) f.av)
      have := putA_len (kvs := acc) (k := .inr f.name) (v := f.av)
      omega
  have := this l []
  simpa [foldK] using this
theorem wrongAt_app {f : Pl.Fn} : ∀ (l : List Pl.Fn) (ahead : List Str), wrongAt fs ahead l = none → wrongAt fs ahead (l ++ [f]) = match wrongFn fs (ahead ++ l.map Pl.Fn.name) f with
    | some w => some (f.name, w)
    | none => none
  | [], ahead, _ => by
    simp only [List.nil_append, wrongAt, List.map_nil, List.append_nil]
  | x :: l, ahead, h => by
    simp only [wrongAt] at h
    simp only [List.cons_append, wrongAt]
    cases q : wrongFn fs ahead x with
    | some w => rw [q] at h; cases h
    | none =>
      rw [q] at h
      simp only at h ⊢
      rw [wrongAt_app l _ h]
      simp only [List.map_cons, List.append_assoc, List.cons_append, List.nil_append]
theorem wrongAt_hit {x : Str × Str} : ∀ (l r : List Pl.Fn) (ahead : List Str), wrongAt fs ahead l = some x → wrongAt fs ahead (l ++ r) = some x
  | [], _, _, h => nomatch h
  | y :: l, r, ahead, h => by
    simp only [wrongAt] at h
    simp only [List.cons_append, wrongAt]
    cases q : wrongFn fs ahead y with
    | some w => rw [q] at h; exact h
    | none => rw [q] at h; exact wrongAt_hit l r _ h
theorem bookG_wp {n : Nat} {v0 : AV} (ht : ∀ (QV : AV → Hs → Prop) (E : XQ), (fTuple [v0] G).wp QV E = QV (.tup (fs.map Pl.Fn.av)) G) (h : SzB fs) (hn : G[n]? = some (.ins "Book" []))
    (hq : ∀ G', G'[n]? = some (.ins "Book" [("functions", .tup (fs.map Pl.Fn.av))]) → Pl.FrP (fun m => m = n) G G' → match wrongB fs with
      | some (nm, wd) => noBook E nm wd G'
      | none => QV .non G') : (f_Book___init__ [.ref n, v0] G).wp QV E := by
  have esz := szl_eq
  obtain ⟨h3, h1⟩ := h
  unfold f_Book___init__ b_Book___init__
  simp_arith []
  rw [ht]
  simp_arith []
  rw [st_wp hn (in1 _) (by simp)]
  have n1 : (G.set n (.ins "Book" (putFA "functions" (.tup (fs.map Pl.Fn.av)) [])))[n]? = some (.ins "Book" [("functions", .tup (fs.map Pl.Fn.av))]) := Pl.set_self hn
  have f1 : Pl.FrP (fun m => m = n) G (G.set n (.ins "Book" (putFA "functions" (.tup (fs.map Pl.Fn.av)) []))) := Pl.FrP.refl.set rfl
  generalize G.set n (.ins "Book" (putFA "functions" (.tup (fs.map Pl.Fn.av)) [])) = G1 at n1 f1
  have flf : ∀ {G' : Hs} {Q : AV → Hs → Prop} {E : XQ}, G'[n]? = some (.ins "Book" [("functions", .tup (fs.map Pl.Fn.av))]) → (fFld ["Book"] "functions" (.ref n) G').wp Q E = Q (.tup (fs.map Pl.Fn.av)) G' := fun h => wp_fld h (in1 _) rfl
  unfold k_Book___init___2
  rw [wp_seq, wp_fzSet (by simp only [List.length_cons]; omega), wp_fz]
  refine wp_dc (fun j acc G2 => acc = foldK (fs.reverse.take j) ∧ Kp 0 G1 G2) ?_
  simp_arith []
  rw [wp_fz]
  simp_arith []
  rw [flf n1, rev_T, fzQ_tup]
  have wk_t : ∀ {xs : List AV}, wkOf G1 (.tup xs) = some (xs, none) := rfl
  rw [wk_t, ← List.map_reverse]
  simp only
  refine ⟨⟨rfl, Kp.app _ _ _⟩, fun _ _ _ _ _ => True.intro, fun j v acc G2 hv ⟨ea, k⟩ hm => ?_, fun acc G2 hm ⟨ea, k⟩ => ?_⟩
  · obtain ⟨f, hf, rfl⟩ := Option.map_eq_some_iff.mp ((List.getElem?_map ..).symm.trans hv)
    refine ⟨_, _, rfl, ?_⟩
    simp_arith []
    rw [fn_name (in1 _)]
    simp_arith []
    refine ⟨.inr f.name, rfl, hm, ?_, ?_, k.setN (Nat.le_refl _)⟩
    · rw [ea]; have := foldK_len (fs.reverse.take j); rw [List.length_take, List.length_reverse] at this; omega
    · rw [ea]
      have et : fs.reverse.take (j + 1) = fs.reverse.take j ++ [f] := by rw [List.take_succ, hf]; rfl
      rw [et]
      unfold foldK
      rw [List.foldl_append]
      rfl
  · have ea : acc = foldK (fs.reverse.take (fs.reverse.map Pl.Fn.av).length) := ea
    rw [List.length_map, List.take_length] at ea
    subst ea
    rw [fzQ_ref hm rfl]
    have kn0 := kn_ofG fs
    show ((k_Book___init___3 [some (.ref n), some v0, some (.id ((foldK fs.reverse).map (·.1)) ((foldK fs.reverse).map (·.2))), none, none, none] (G2.set G1.length .gone)).wp _ : Prop)
    generalize AV.id ((foldK fs.reverse).map (·.1)) ((foldK fs.reverse).map (·.2)) = kn at kn0
    have k3 : Kp 0 G1 (G2.set G1.length .gone) := k.setN (Nat.le_refl _)
    generalize G2.set G1.length .gone = G3 at k3
    unfold k_Book___init___3
    rw [wp_seq]
    have n3 := k3.get0 n1
    have he : (mEn (m1 (fFld ["Book"] "functions") (mVar 0)) [some (.ref n), some v0, some kn, none, none, none] G3) = .ok (zipE (fs.map Pl.Fn.av, none)) G3 := en_ok (v := .tup (fs.map Pl.Fn.av)) (eq_of_wp (by
      simp_arith []
      rw [flf n3]
      exact ⟨rfl, rfl⟩)) rfl
    refine wp_forK he (fun j ρ G' => ∃ a3 a4, ρ = [some (.ref n), some v0, some kn, a3, a4, none] ∧ Kp 0 G1 G' ∧ wrongAt fs [] (fs.take j) = none)
      ⟨_, _, rfl, k3, rfl⟩ (fun _ _ _ _ _ => True.intro) (fun j v ρ G' hv ⟨a3, a4, er, k, hno⟩ => ?_) fun ρ G' ⟨a3, a4, er, k, hno⟩ => ?_
    · subst er
      obtain ⟨f, hf, rfl⟩ : ∃ f, fs[j]? = some f ∧ v = .tup [.int (j : Nat), f.av] := by
        have hv : (zipE (fs.map Pl.Fn.av, none)).1[j]? = some v := hv
        rw [zipE_get] at hv
        obtain ⟨u, hu, rfl⟩ := Option.map_eq_some_iff.mp hv
        obtain ⟨p, hp, rfl⟩ := Option.map_eq_some_iff.mp ((List.getElem?_map ..).symm.trans hu)
        exact ⟨p, hp, rfl⟩
      have hj := (List.getElem?_eq_some_iff.mp hf).1
      have n4 := k.get0 n1
      rw [wp_gT2]
      unfold l_Book___init___3
      simp_arith []
      have hw : (mWk (mFz (mSl (m1 (fFld ["Book"] "functions") (mVar 0)) mNone (mSome (mVar 3)))) [some (.ref n), some v0, some kn, some (.int (j : Nat)), some f.av, none] G') = .ok ((fs.take j).map Pl.Fn.av, none) G' := wk_ok (v := .tup ((fs.take j).map Pl.Fn.av)) (eq_of_wp (by
        rw [wp_fz]
        simp_arith []
        rw [flf n4, sl_tup, fzQ_tup, cut_takeN (by rw [List.length_map]; omega)]
        exact ⟨by rw [List.map_take], rfl⟩)) rfl
      refine wp_lcM (vs := (fs.take j).map Pl.Fn.av) (G0 := G') hw (Kp.refl _ _) (fun v => match v with
        | .iv _ _ (n :: _) => n
        | _ => .non) (by rw [List.length_map, List.length_take]; omega) (fun v hv G4 k4 => ?_) fun G4 k4 => ?_
      · obtain ⟨x, _, rfl⟩ := List.mem_map.mp hv
        refine ⟨_, rfl, ?_⟩
        simp_arith []
        rw [fn_name (in1 _)]
        exact ⟨rfl, Kp.refl _ _⟩
      · have e8 : ((fs.take j).map Pl.Fn.av).map (fun v => match v with
          | .iv _ _ (n :: _) => n
          | _ => .non) = Pl.strA ((fs.take j).map Pl.Fn.name) := by
          rw [List.map_map]; unfold Pl.strA; rw [List.map_map]; rfl
        rw [e8]
        simp_arith []
        have et : fs.take (j + 1) = fs.take j ++ [f] := by rw [List.take_succ, hf]; rfl
        have ea := wrongAt_app (f := f) (fs.take j) [] hno
        rw [← et, List.nil_append] at ea
        refine lookG_wp kn0 (h1 f (List.mem_of_getElem? hf)) fun G5 k5 => ?_
        cases hW : wrongFn fs ((fs.take j).map Pl.Fn.name) f with
        | none =>
          rw [hW] at ea
          exact ⟨_, _, rfl, (k.trans k4).trans k5, ea⟩
        | some w =>
          rw [hW] at ea
          have e9 : fs = fs.take (j + 1) ++ fs.drop (j + 1) := (List.take_append_drop _ _).symm
          have eA : wrongAt fs [] fs = some (f.name, w) := by
            rw (occs := .pos [2]) [e9]
            exact wrongAt_hit _ _ _ ea
          have eB : wrongB fs = some (f.name, w) := by unfold wrongB; rw [eA]
          rw [eB] at hq
          have kk := (k.trans k4).trans k5
          exact hq _ (kk.get0 n1) (f1.trans (.kp kk))
    · subst er
      have n4 := k.get0 n1
      have hno : wrongAt fs [] (fs.take (zipE (fs.map Pl.Fn.av, none)).1.length) = none := hno
      rw [zipE_len, List.length_map, List.take_length] at hno
      have hq := hq _ n4 (f1.trans (.kp k))
      unfold wrongB at hq
      rw [hno] at hq
      unfold k_Book___init___5
      simp_arith []
      rw [flf n4]
      simp_arith []
      rw [wp_eqE]
      cases fs with
      | nil =>
        simp_arith [List.isEmpty_nil, List.map_nil, wp_raise]
        exact ⟨by decide, hq⟩
      | cons f r =>
        simp_arith [List.isEmpty_cons]
        unfold k_Book___init___7
        simp_arith []
        rw [flf n4]
        simp_arith []
        rw [fn_more (in1 _)]
        cases hm : f.more with
        | false =>
          simp only [hm] at hq
          simp_arith []
          exact hq
        | true =>
          simp only [hm] at hq
          simp_arith [wp_raise]
          rw [flf n4]
          simp_arith []
          rw [fn_name (in1 _)]
          simp_arith []
          exact ⟨by decide, hq⟩
end
end L_k13
namespace L_k13
open PySem L2 Vz
theorem ex_subs {K : Kit} : ∀ e : Pl.Ex, exOk K e → ∀ u ∈ e.subs, exOk K u
  | .num n, h, u, hu => by rw [List.mem_singleton.mp hu]; exact h
  | .box n, h, u, hu => by rw [List.mem_singleton.mp hu]; exact h
  | .ref n, h, u, hu => by rw [List.mem_singleton.mp hu]; exact h
  | .many, h, u, hu => by rw [List.mem_singleton.mp hu]; exact h
  | .extra e, h, u, hu => by
    simp only [Pl.Ex.subs, List.mem_cons] at hu
    rcases hu with rfl | hu
    · exact h
    · exact ex_subs e h u hu
  | .sum k a b, h, u, hu => by
    simp only [Pl.Ex.subs, List.mem_cons, List.mem_append] at hu
    rcases hu with rfl | hu | hu
    · exact h
    · exact ex_subs a h.1 u hu
    · exact ex_subs b h.2 u hu
theorem exs_subs {K : Kit} : ∀ es : List Pl.Ex, (∀ e ∈ es, exOk K e) → ∀ u ∈ Pl.subsOf es, exOk K u
  | [], _, _, hu => nomatch hu
  | e :: es, h, u, hu => by
    rcases List.mem_append.mp hu with hu | hu
    · exact ex_subs e (h e (List.mem_cons_self ..)) u hu
    · exact exs_subs es (fun e he => h e (List.mem_cons_of_mem _ he)) u hu
theorem exs_boxes {K : Kit} {es : List Pl.Ex} (h : ∀ e ∈ es, exOk K e) {x : Str} (hx : x ∈ Pl.esBoxes es) : nmS x := by
  rw [Pl.esBoxes_subs] at hx
  obtain ⟨u, hu, e⟩ := List.mem_filterMap.mp hx
  have ho := exs_subs es h u hu
  cases u with
  | box y => cases e; exact ho
  | _ => cases e
theorem exs_len {es : List Pl.Ex} {n : Nat} (h : Pl.exsDep es ≤ n) : (Pl.esBoxes es).length ≤ es.length * 2 ^ n := by
  rw [Pl.esBoxes_subs]
  exact Nat.le_trans (List.length_filterMap_le _ _) (Pl.subsOf_len (n := n) es h)
theorem exsDep_le {n : Nat} : ∀ es : List Pl.Ex, (∀ e ∈ es, e.dep ≤ n) → Pl.exsDep es ≤ n
  | [], _ => Nat.zero_le _
  | e :: es, h => by
    simp only [Pl.exsDep]
    exact Nat.max_le.mpr ⟨h e (List.mem_cons_self ..), exsDep_le es fun x hx => h x (List.mem_cons_of_mem _ hx)⟩
theorem can_w : ∀ w ∈ (["number", "box", "ref", "many", "extra", "plus", "less", "times", "under", "same", "set", "say", "call", "at", "return", "throw", "if", "while", "try"] : List Str), (PyData.str w).canLay0 = true := by decide +kernel
theorem cw {w : Str} (h : w ∈ (["number", "box", "ref", "many", "extra", "plus", "less", "times", "under", "same", "set", "say", "call", "at", "return", "throw", "if", "while", "try"] : List Str)) {k : Nat} (hk : 1 ≤ k) : Da k (.str w) := dS (can_w w h) hk
theorem ex_da {K : Kit} : ∀ e : Pl.Ex, exOk K e → Da (e.dep + 1) e.av
  | .num n, _ => da_tup (k := 1) (by intro v hv; simp only [List.mem_cons, List.not_mem_nil, or_false] at hv; rcases hv with rfl | rfl; exact cw (by simp) (Nat.le_refl _); exact da_int _)
  | .box x, h => da_tup (k := 1) (by intro v hv; simp only [List.mem_cons, List.not_mem_nil, or_false] at hv; rcases hv with rfl | rfl; exact cw (by simp) (Nat.le_refl _); exact da_str h.1)
  | .ref g, h => da_tup (k := 1) (by
      intro v hv; simp only [List.mem_cons, List.not_mem_nil, or_false] at hv; rcases hv with rfl | rfl; exact cw (by simp) (Nat.le_refl _); exact da_str h.1)
  | .many, _ => da_tup (k := 1) (by intro v hv; simp only [List.mem_cons, List.not_mem_nil, or_false] at hv; rcases hv with rfl; exact cw (by simp) (Nat.le_refl _))
  | .extra e, h => by
    have ih := ex_da e h
    refine da_tup (k := e.dep + 1) ?_
    intro v hv
    simp only [List.mem_cons, List.not_mem_nil, or_false] at hv
    rcases hv with rfl | rfl
    · exact cw (by simp) (by omega)
    · exact ih
  | .sum k a b, h => by
    have i1 := ex_da a h.1
    have i2 := ex_da b h.2
    refine da_tup (k := max a.dep b.dep + 1) ?_
    intro v hv
    simp only [List.mem_cons, List.not_mem_nil, or_false] at hv
    rcases hv with rfl | rfl | rfl
    · cases k <;> exact cw (by simp [Pl.Sk.word]) (by omega)
    · exact i1.mono (by omega)
    · exact i2.mono (by omega)
theorem exs_da {K : Kit} {es : List Pl.Ex} {n : Nat} (h : ∀ e ∈ es, exOk K e ∧ e.dep ≤ n) : Da (n + 2) (.tup (es.map Pl.Ex.av)) := da_tup (k := n + 1) fun v hv => by
  obtain ⟨e, he, rfl⟩ := List.mem_map.mp hv
  exact (ex_da e (h e he).1).mono (by have := (h e he).2; omega)
theorem strs_da {xs : List Str} (h : ∀ x ∈ xs, nmS x) : Da 2 (.tup (xs.map .str)) := da_tup (k := 1) fun v hv => by
  obtain ⟨x, hx, rfl⟩ := List.mem_map.mp hv
  exact da_str (h x hx).1
theorem subs_dep : ∀ e : Pl.Ex, ∀ u ∈ e.subs, u.dep ≤ e.dep
  | .num n, u, hu => by rw [List.mem_singleton.mp hu]; exact Nat.le_refl _
  | .box n, u, hu => by rw [List.mem_singleton.mp hu]; exact Nat.le_refl _
  | .ref n, u, hu => by rw [List.mem_singleton.mp hu]; exact Nat.le_refl _
  | .many, u, hu => by rw [List.mem_singleton.mp hu]; exact Nat.le_refl _
  | .extra e, u, hu => by
    simp only [Pl.Ex.subs, List.mem_cons] at hu
    rcases hu with rfl | hu
    · exact Nat.le_refl _
    · have := subs_dep e u hu; simp only [Pl.Ex.dep]; omega
  | .sum k a b, u, hu => by
    simp only [Pl.Ex.subs, List.mem_cons, List.mem_append] at hu
    rcases hu with rfl | hu | hu
    · exact Nat.le_refl _
    · have := subs_dep a u hu; simp only [Pl.Ex.dep]; omega
    · have := subs_dep b u hu; simp only [Pl.Ex.dep]; omega
theorem exs_dep {n : Nat} : ∀ es : List Pl.Ex, (∀ e ∈ es, e.dep ≤ n) → ∀ u ∈ Pl.subsOf es, u.dep ≤ n
  | [], _, _, hu => nomatch hu
  | e :: es, h, u, hu => by
    rcases List.mem_append.mp hu with hu | hu
    · exact Nat.le_trans (subs_dep e u hu) (h e (List.mem_cons_self ..))
    · exact exs_dep es (fun e he => h e (List.mem_cons_of_mem _ he)) u hu
/-- a statement, small -/
def okU (s : Pl.St) : Prop := szSt s = true ∧ (∀ e ∈ Pl.subsOf s.exs, Da 9 e.av) ∧ ∀ x ∈ givenB s ++ Pl.esBoxes s.exs, nmS x
theorem okU_of {K : Kit} {s : Pl.St} {n m : Nat} (h1 : ∀ e ∈ s.exs, exOk K e ∧ e.dep ≤ n) (hn : n ≤ 3) (h2 : s.exs.length ≤ m) (hm : m ≤ 8) (h3 : ∀ x ∈ givenB s, nmS x) (h4 : (givenB s).length ≤ 4) : okU s := by
  have hd := exsDep_le s.exs fun e he => (h1 e he).2
  have hl := exs_len (n := n) hd
  have h2n : 2 ^ n ≤ 8 := by
    match n, hn with
    | 0, _ => decide
    | 1, _ => decide
    | 2, _ => decide
    | 3, _ => decide
    | n + 4, h => omega
  have hlen : (Pl.esBoxes s.exs).length ≤ 64 := Nat.le_trans hl (Nat.le_trans (Nat.mul_le_mul (Nat.le_trans h2 hm) h2n) (by decide))
  refine ⟨?_, fun e he => (ex_da e (exs_subs s.exs (fun e he => (h1 e he).1) e he)).mono (by have := exs_dep s.exs (fun e he => (h1 e he).2) e he; omega), fun x hx => (List.mem_append.mp hx).elim (h3 x) (exs_boxes fun e he => (h1 e he).1)⟩
  unfold szSt
  simp only [Bool.and_eq_true, decide_eq_true_eq]
  refine ⟨⟨?_, by rw [List.length_append]; omega⟩, ?_⟩
  · unfold Pl.stFit
    rw [Bool.and_eq_true]
    exact ⟨decide_eq_true (by omega), decide_eq_true (by omega)⟩
  · rw [List.all_eq_true]
    intro x hx
    refine decide_eq_true ?_
    rcases List.mem_append.mp hx with hx | hx
    · have := (h3 x hx).2; omega
    · have := (exs_boxes (fun e he => (h1 e he).1) hx).2; omega
def cN : Nat → Nat
  | 0 => 1
  | d + 1 => 12 * cN d + 1
theorem cN_pos : ∀ d, 1 ≤ cN d
  | 0 => Nat.le_refl _
  | d + 1 => Nat.le_add_left _ _
structure StI (s : Pl.St) (d : Nat) : Prop where
  all : ∀ u ∈ stSts s, okU u
  len : (stSts s).length ≤ cN d
  bx : (Pl.stBoxes s).length ≤ 40 * cN d
  dep : s.dep ≤ d + 1
  fit : Pl.stAll Pl.stFit s = true
  da : Da (5 + 2 * d) s.av
structure BdI (l : List Pl.St) (d : Nat) : Prop where
  all : ∀ u ∈ bdSts l, okU u
  len : (bdSts l).length ≤ l.length * cN d
  bx : (Pl.bdBoxes l).length ≤ l.length * (40 * cN d)
  dep : Pl.bdDep l ≤ d + 1
  fit : Pl.bdAll Pl.stFit l = true
  da : ∀ v ∈ Pl.bdA l, Da (5 + 2 * d) v
theorem BdI.tup {l : List Pl.St} {d : Nat} (h : BdI l d) : Da (6 + 2 * d) (.tup (Pl.bdA l)) := (da_tup h.da).mono (by omega)
theorem fit_of {s : Pl.St} (h : okU s) : Pl.stFit s = true := by
  have h := h.1
  unfold szSt at h
  simp only [Bool.and_eq_true] at h
  exact h.1.1
theorem boxesN_len {es : List Pl.Ex} {n m k : Nat} (h : ∀ e ∈ es, e.dep ≤ n) (hm : es.length ≤ m) (hk : m * 2 ^ n ≤ k) : (Pl.esBoxes es).length ≤ k :=
  Nat.le_trans (exs_len (exsDep_le es h)) (Nat.le_trans (Nat.mul_le_mul_right _ hm) hk)
theorem exB1 (e : Pl.Ex) : Pl.esBoxes [e] = Pl.exBoxes e := by simp [Pl.esBoxes]
theorem ex1_len {e : Pl.Ex} {n k : Nat} (h : e.dep ≤ n) (hk : 2 ^ n ≤ k) : (Pl.exBoxes e).length ≤ k := by
  rw [← exB1]
  exact boxesN_len (m := 1) (fun x hx => by rw [List.mem_singleton.mp hx]; exact h) (Nat.le_refl _) (by omega)
theorem mem1 {P : Pl.Ex → Prop} {e : Pl.Ex} (h : P e) : ∀ x ∈ [e], P x := fun x hx => by rw [List.mem_singleton.mp hx]; exact h
section
variable {K : Kit}
theorem sm_ok : ∀ s : Pl.St, smOk K s → okU s
  | .set x e, h => okU_of (n := 3) (m := 1) (mem1 h.2) (Nat.le_refl _) (Nat.le_refl _) (by decide) (fun y hy => by rw [List.mem_singleton.mp hy]; exact h.1) (by simp [givenB, Pl.St.given])
  | .say e, h => okU_of (n := 3) (m := 1) (mem1 h) (Nat.le_refl _) (Nat.le_refl _) (by decide) (fun y hy => nomatch hy) (by simp [givenB, Pl.St.given])
  | .call ts g es, h => okU_of (n := 2) (m := 7) h.2.2.2.2 (by decide) h.2.2.2.1 (by decide) h.2.2.1 h.1
  | .at_ t e es, h => okU_of (n := 2) (m := 8) (fun x hx => by
      rcases List.mem_cons.mp hx with rfl | hx
      · exact ⟨h.2.1, by have := h.2.2.1; omega⟩
      · exact h.2.2.2.2 x hx) (by decide) (by show ([e] ++ es).length ≤ 8; have := h.2.2.2.1; simp; omega) (by decide) (fun y hy => by rw [List.mem_singleton.mp hy]; exact h.1) (by simp [givenB, Pl.St.given])
  | .ret es, h => okU_of (n := 2) (m := 7) h.2 (by decide) h.1 (by decide) (fun y hy => nomatch hy) (by simp [givenB, Pl.St.given])
  | .throw e, h => okU_of (n := 2) (m := 1) (mem1 h) (by decide) (Nat.le_refl _) (by decide) (fun y hy => nomatch hy) (by simp [givenB, Pl.St.given])
  | .ite .., h => h.elim
  | .whl .., h => h.elim
  | .try_ .., h => h.elim
theorem sm_bx : ∀ s : Pl.St, smOk K s → (Pl.stBoxes s).length ≤ 40
  | .set x e, h => by
    have := ex1_len (k := 8) h.2.2 (by decide)
    simp only [Pl.stBoxes, List.length_append, List.length_cons, List.length_nil]; omega
  | .say e, h => by
    have := ex1_len (k := 8) h.2 (by decide)
    simp only [Pl.stBoxes]; omega
  | .call ts g es, h => by
    have := boxesN_len (k := 28) (fun e he => (h.2.2.2.2 e he).2) h.2.2.2.1 (by decide)
    have h2 := h.1
    simp only [Pl.stBoxes, List.length_append]; omega
  | .at_ t e es, h => by
    have := boxesN_len (k := 28) (fun e he => (h.2.2.2.2 e he).2) h.2.2.2.1 (by decide)
    have h1 := ex1_len (k := 2) h.2.2.1 (by decide)
    simp only [Pl.stBoxes, List.length_append, List.length_cons, List.length_nil]; omega
  | .ret es, h => by
    have := boxesN_len (k := 28) (fun e he => (h.2 e he).2) h.1 (by decide)
    simp only [Pl.stBoxes]; omega
  | .throw e, h => by
    have := ex1_len (k := 4) h.2 (by decide)
    simp only [Pl.stBoxes]; omega
  | .ite .., h => h.elim
  | .whl .., h => h.elim
  | .try_ .., h => h.elim
theorem sm_da : ∀ s : Pl.St, smOk K s → Da 5 s.av
  | .set x e, h => by
    unfold Pl.St.av
    refine da_tup (k := 4) ?_
    intro v hv; simp only [List.mem_cons, List.not_mem_nil, or_false] at hv
    rcases hv with rfl | rfl | rfl
    · exact cw (by simp) (by decide)
    · exact dS h.1.1 (by decide)
    · exact (ex_da e h.2.1).mono (by have := h.2.2; omega)
  | .say e, h => by
    unfold Pl.St.av
    refine da_tup (k := 4) ?_
    intro v hv; simp only [List.mem_cons, List.not_mem_nil, or_false] at hv
    rcases hv with rfl | rfl
    · exact cw (by simp) (by decide)
    · exact (ex_da e h.1).mono (by have := h.2; omega)
  | .call ts g es, h => by
    unfold Pl.St.av
    refine da_tup (k := 4) ?_
    intro v hv; simp only [List.mem_cons, List.not_mem_nil, or_false] at hv
    rcases hv with rfl | rfl | rfl | rfl
    · exact cw (by simp) (by decide)
    · exact (strs_da h.2.2.1).mono (by decide)
    · exact dS h.2.1.1 (by decide)
    · exact exs_da (n := 2) h.2.2.2.2
  | .at_ t e es, h => by
    unfold Pl.St.av
    refine da_tup (k := 4) ?_
    intro v hv; simp only [List.mem_cons, List.not_mem_nil, or_false] at hv
    rcases hv with rfl | rfl | rfl | rfl
    · exact cw (by simp) (by decide)
    · exact dS h.1.1 (by decide)
    · exact (ex_da e h.2.1).mono (by have := h.2.2.1; omega)
    · exact exs_da (n := 2) h.2.2.2.2
  | .ret es, h => by
    unfold Pl.St.av
    refine da_tup (k := 4) ?_
    intro v hv; simp only [List.mem_cons, List.not_mem_nil, or_false] at hv
    rcases hv with rfl | rfl
    · exact cw (by simp) (by decide)
    · exact exs_da (n := 2) h.2
  | .throw e, h => by
    unfold Pl.St.av
    refine da_tup (k := 4) ?_
    intro v hv; simp only [List.mem_cons, List.not_mem_nil, or_false] at hv
    rcases hv with rfl | rfl
    · exact cw (by simp) (by decide)
    · exact (ex_da e h.1).mono (by have := h.2; omega)
  | .ite .., h => h.elim
  | .whl .., h => h.elim
  | .try_ .., h => h.elim
theorem sm_I {s : Pl.St} (d : Nat) (h : smOk K s) : StI s d := by
  have ho := sm_ok s h
  have hp := cN_pos d
  have e1 : stSts s = [s] := by cases s <;> first | exact h.elim | simp [stSts]
  refine ⟨fun u hu => ?_, by rw [e1]; exact hp, Nat.le_trans (sm_bx s h) (by omega), ?_, ?_, (sm_da s h).mono (by omega)⟩
  · rw [e1] at hu; rw [List.mem_singleton.mp hu]; exact ho
  · cases s <;> first | exact h.elim | (simp only [Pl.St.dep]; omega)
  · have hf := fit_of ho
    cases s <;> first | exact h.elim | (simp only [Pl.stAll]; exact hf)
/-- what a compound statement is -/
theorem cp_ok {s : Pl.St} (h1 : ∀ e ∈ s.exs, exOk K e ∧ e.dep ≤ 2) (h2 : s.exs.length ≤ 1) (h3 : ∀ x ∈ givenB s, nmS x) (h4 : (givenB s).length ≤ 4) : okU s :=
  okU_of (n := 2) (m := 1) h1 (by decide) h2 (by decide) h3 h4
theorem le6 {n a c : Nat} (h : n ≤ a * c) (ha : a ≤ 6) : n ≤ 6 * c := Nat.le_trans h (Nat.mul_le_mul_right _ ha)
mutual
theorem st_I : ∀ (s : Pl.St) (d : Nat), stOkD K s d → StI s d
  | .set x e, d, h => sm_I d (by simpa only [stOkD] using h)
  | .say e, d, h => sm_I d (by simpa only [stOkD] using h)
  | .call ts g es, d, h => sm_I d (by simpa only [stOkD] using h)
  | .at_ t e es, d, h => sm_I d (by simpa only [stOkD] using h)
  | .ret es, d, h => sm_I d (by simpa only [stOkD] using h)
  | .throw e, d, h => sm_I d (by simpa only [stOkD] using h)
  | .ite e a b, d, h => by
    simp only [stOkD] at h
    obtain ⟨h1, h2, h3, h4, h5, h6, h7⟩ := h
    obtain ⟨d, rfl⟩ : ∃ k, d = k + 1 := ⟨d - 1, by omega⟩
    have ia := bd_I a d h4
    have ib := bd_I b d h5
    have ho : okU (.ite e a b) := cp_ok (K := K) (mem1 ⟨h1, h2⟩) (Nat.le_refl _) (fun _ hy => nomatch hy) (Nat.zero_le _)
    have la := le6 ia.len h6
    have lb := le6 ib.len h7
    have xa := le6 ia.bx h6
    have xb := le6 ib.bx h7
    have eN : cN (d + 1) = 12 * cN d + 1 := rfl
    refine ⟨fun u hu => ?_, ?_, ?_, ?_, ?_, ?_⟩
    · simp only [stSts, List.mem_cons, List.mem_append] at hu
      rcases hu with rfl | hu | hu
      · exact ho
      · exact ia.all u hu
      · exact ib.all u hu
    · simp only [stSts, List.length_cons, List.length_append]; omega
    · have := ex1_len (k := 4) h2 (by decide)
      simp only [Pl.stBoxes, List.length_append]; omega
    · have := ia.dep; have := ib.dep
      simp only [Pl.St.dep]; omega
    · simp only [Pl.stAll, ia.fit, ib.fit, fit_of ho, Bool.and_self]
    · unfold Pl.St.av
      refine (da_tup (k := 6 + 2 * d) ?_).mono (by omega)
      intro v hv; simp only [List.mem_cons, List.not_mem_nil, or_false] at hv
      rcases hv with rfl | rfl | rfl | rfl
      · exact cw (by simp) (by omega)
      · exact (ex_da e h1).mono (by omega)
      · exact ia.tup
      · exact ib.tup
  | .whl e b, d, h => by
    simp only [stOkD] at h
    obtain ⟨h1, h2, h3, h5, h7⟩ := h
    obtain ⟨d, rfl⟩ : ∃ k, d = k + 1 := ⟨d - 1, by omega⟩
    have ib := bd_I b d h5
    have ho : okU (.whl e b) := cp_ok (K := K) (mem1 ⟨h1, h2⟩) (Nat.le_refl _) (fun _ hy => nomatch hy) (Nat.zero_le _)
    have lb := le6 ib.len h7
    have xb := le6 ib.bx h7
    have eN : cN (d + 1) = 12 * cN d + 1 := rfl
    refine ⟨fun u hu => ?_, ?_, ?_, ?_, ?_, ?_⟩
    · simp only [stSts, List.mem_cons] at hu
      rcases hu with rfl | hu
      · exact ho
      · exact ib.all u hu
    · simp only [stSts, List.length_cons]; omega
    · have := ex1_len (k := 4) h2 (by decide)
      simp only [Pl.stBoxes, List.length_append]; omega
    · have := ib.dep
      simp only [Pl.St.dep]; omega
    · simp only [Pl.stAll, ib.fit, fit_of ho, Bool.and_self]
    · unfold Pl.St.av
      refine (da_tup (k := 6 + 2 * d) ?_).mono (by omega)
      intro v hv; simp only [List.mem_cons, List.not_mem_nil, or_false] at hv
      rcases hv with rfl | rfl | rfl
      · exact cw (by simp) (by omega)
      · exact (ex_da e h1).mono (by omega)
      · exact ib.tup
  | .try_ a x b, d, h => by
    simp only [stOkD] at h
    obtain ⟨h1, h3, h4, h5, h6, h7⟩ := h
    obtain ⟨d, rfl⟩ : ∃ k, d = k + 1 := ⟨d - 1, by omega⟩
    have ia := bd_I a d h4
    have ib := bd_I b d h5
    have ho : okU (.try_ a x b) := cp_ok (K := K) (fun _ hy => nomatch hy) (Nat.zero_le _) (fun y hy => by rw [List.mem_singleton.mp hy]; exact h1) (by simp [givenB])
    have la := le6 ia.len h6
    have lb := le6 ib.len h7
    have xa := le6 ia.bx h6
    have xb := le6 ib.bx h7
    have eN : cN (d + 1) = 12 * cN d + 1 := rfl
    refine ⟨fun u hu => ?_, ?_, ?_, ?_, ?_, ?_⟩
    · simp only [stSts, List.mem_cons, List.mem_append] at hu
      rcases hu with rfl | hu | hu
      · exact ho
      · exact ia.all u hu
      · exact ib.all u hu
    · simp only [stSts, List.length_cons, List.length_append]; omega
    · simp only [Pl.stBoxes, List.length_append, List.length_cons, List.length_nil]; omega
    · have := ia.dep; have := ib.dep
      simp only [Pl.St.dep]; omega
    · simp only [Pl.stAll, ia.fit, ib.fit, fit_of ho, Bool.and_self]
    · unfold Pl.St.av
      refine (da_tup (k := 6 + 2 * d) ?_).mono (by omega)
      intro v hv; simp only [List.mem_cons, List.not_mem_nil, or_false] at hv
      rcases hv with rfl | rfl | rfl | rfl
      · exact cw (by simp) (by omega)
      · exact ia.tup
      · exact dS h1.1 (by omega)
      · exact ib.tup
theorem bd_I : ∀ (l : List Pl.St) (d : Nat), bdOk K l d → BdI l d
  | [], d, _ => ⟨fun _ hu => by simp [bdSts] at hu, by simp [bdSts], by simp [Pl.bdBoxes], by simp [Pl.bdDep], by simp [Pl.bdAll], fun _ hv => by simp [Pl.bdA] at hv⟩
  | s :: r, d, h => by
    simp only [bdOk] at h
    have i1 := st_I s d h.1
    have i2 := bd_I r d h.2
    refine ⟨fun u hu => ?_, ?_, ?_, ?_, ?_, ?_⟩
    · simp only [bdSts, List.mem_append] at hu
      rcases hu with hu | hu
      · exact i1.all u hu
      · exact i2.all u hu
    · have := i1.len; have := i2.len
      simp only [bdSts, List.length_append, List.length_cons, Nat.succ_mul]; omega
    · have := i1.bx; have := i2.bx
      have e : (r.length + 1) * (40 * cN d) = r.length * (40 * cN d) + 40 * cN d := Nat.succ_mul _ _
      simp only [Pl.bdBoxes, List.length_append, List.length_cons, e]; omega
    · have := i1.dep; have := i2.dep
      simp only [Pl.bdDep]; omega
    · simp only [Pl.bdAll, i1.fit, i2.fit, Bool.and_self]
    · intro v hv
      simp only [Pl.bdA] at hv
      rcases List.mem_cons.mp hv with rfl | hv
      · exact i1.da
      · exact i2.da v hv
end
end
/-- a function as it may be drawn and bent -/
structure FnW (f : Pl.Fn) : Prop where
  name : nmS f.name
  pl : f.params.length ≤ 4
  ps : ∀ p ∈ f.params, nmS p
  res : f.results ≤ 3
  bl : f.body.length ≤ 4
  bd : ∃ K, bdOk K f.body 2
theorem FnW.I {f : Pl.Fn} (h : FnW f) : BdI f.body 2 := let ⟨_, hb⟩ := h.bd; bd_I f.body 2 hb
theorem FnW.sz {f : Pl.Fn} (h : FnW f) : SzFn f := by
  have I := h.I
  have hl := h.bl
  have hp := h.pl
  have eN : cN 2 = 157 := rfl
  have l1 : f.body.length * cN 2 ≤ 4 * 157 := by rw [eN]; exact Nat.mul_le_mul_right _ hl
  have l2 : f.body.length * (40 * cN 2) ≤ 4 * (40 * 157) := by rw [eN]; exact Nat.mul_le_mul_right _ hl
  have i1 := I.len
  have i2 := I.bx
  have i3 := I.dep
  refine ⟨by have := h.name.2; omega, by omega, fun p hp => by have := (h.ps p hp).2; omega, by omega, fun s hs => (I.all s hs).1, ?_, fun s hs => (I.all s hs).2.1⟩
  unfold Pl.Fn.fit
  simp only [Bool.and_eq_true, decide_eq_true_eq]
  exact ⟨⟨⟨I.fit, by omega⟩, by omega⟩, by rw [List.length_append]; omega⟩
theorem FnW.da {f : Pl.Fn} (h : FnW f) : Da 11 (fnT f) := by
  refine da_tup (k := 10) ?_
  intro v hv
  simp only [List.mem_cons, List.not_mem_nil, or_false] at hv
  rcases hv with rfl | rfl | rfl | rfl | rfl
  · exact dS h.name.1 (by decide)
  · exact (strs_da h.ps).mono (by decide)
  · exact h.I.tup
  · exact dI (by decide)
  · exact (da_bl _).mono (by decide)
end L_k13
namespace L_k13
open PySem L2 Vz
section
variable {QV : AV → Hs → Prop} {QB : Bool → Hs → Prop} {E : XQ} {G : Hs} {ρ : En} {D : SP} {fs : List Pl.Fn} {f : Pl.Fn}
def isLow : AV → Bool
  | .str s => inL (s.cps.toList.headD 0)
  | _ => false
theorem subsOf_app : ∀ a c : List Pl.Ex, Pl.subsOf (a ++ c) = Pl.subsOf a ++ Pl.subsOf c
  | [], c => rfl
  | e :: a, c => by simp only [List.cons_append, Pl.subsOf, subsOf_app a c, List.append_assoc]
def fnV : Option Pl.Fn → AV
  | some f => fnT f
  | none => .non
theorem fnV_none : fnV none = .non := rfl
theorem fnV_some (f : Pl.Fn) : fnV (some f) = .tup [.str f.name, .tup (Pl.strA f.params), .tup (Pl.bdA f.body), .int f.results, .bl f.more] := rfl
theorem strs_eqnil {xs : List Str} (h : ∀ x ∈ xs, (PyData.str x).canLay0 = true) : (fEq (.ls (xs.map .str)) (.ls []) G).wp QV E = QV (.bl xs.isEmpty) G := by
  have e : eqB G (.ls (xs.map .str)) (.ls []) = some xs.isEmpty := by
    show eqF G (.ls (xs.map .str)) (.ls []) = _
    rw [eqF_nil (k := 1) (fun v hv => by obtain ⟨x, hx, rfl⟩ := List.mem_map.mp hv; exact da_str (h x hx)) (by decide) rfl]
    cases xs <;> rfl
  unfold fEq
  rw [e]
  rfl
theorem isN_tup {xs : List AV} : (fIsN (.tup xs) .non G).wp QV E = QV (.bl false) G := propext Iff.rfl
theorem fnT_def (f : Pl.Fn) : fnT f = .tup [.str f.name, .tup (Pl.strA f.params), .tup (Pl.bdA f.body), .int f.results, .bl f.more] := rfl
theorem lisname_wp {w : Str} (hn : nmS w) (hq : ∀ G', Kp 0 G G' → QV (.bl (isN w)) G') : (f_law_is_name [.str w] G).wp QV E := by
  have esz := szl_eq
  have hz : w.length ≤ szl := by have := hn.2; omega
  have fin : ∀ bb : Bool, isN w = bb → QV (.bl bb) G := fun bb e => by rw [← e]; exact hq _ (Kp.refl _ _)
  unfold f_law_is_name b_law_is_name
  simp_arith [len_S]
  refine ⟨hz, ?_⟩
  by_cases h1 : (1 : Int) ≤ w.length
  case neg =>
    rw [decide_eq_false h1]
    simp_arith []
    exact fin _ (by unfold isN; rw [if_pos (.inl (by omega))])
  rw [decide_eq_true h1]
  simp_arith []
  by_cases h2 : (w.length : Int) ≤ 8
  case neg =>
    rw [decide_eq_false h2]
    simp_arith []
    exact fin _ (by unfold isN; rw [if_pos (.inr (.inl (by omega)))])
  rw [decide_eq_true h2]
  simp_arith []
  refine reserved_wp ?_
  rw [in_lsS]
  cases h3 : RES.any fun y => y == w with
  | true =>
    simp_arith []
    exact fin _ (by unfold isN; rw [if_pos (.inr (.inr h3))])
  | false =>
    simp_arith []
    unfold k_law_is_name_3
    simp_arith []
    rw [wp_fz]
    have hl : w.cps.toList.length = w.length := by simp [Str.length]
    refine wp_lcPK (k := (w.cps.toList.map (fun c => AV.str ⟨#[c]⟩), none)) (G0 := G) (wk_ok (v := .str w) (var_ok rfl) rfl) (fun v => !isLow v) (fun v => v) (by rw [List.length_map, hl]; exact hz) True.intro (fun v hv acc => ?_) ?_
    · obtain ⟨c, _, rfl⟩ := List.mem_map.mp hv
      exact ⟨_, rfl, rfl, fun _ => rfl⟩
    · have hf : ((w.cps.toList.map (fun c => AV.str ⟨#[c]⟩)).filter fun v => !isLow v).map (fun v => v) = ((w.cps.toList.filter fun c => !inL c).map fun c => (⟨#[c]⟩ : Str)).map .str := by
        rw [List.map_id', List.filter_map, List.map_map]
        rfl
      show fzQ _ (.ref G.length) (G ++ [.lst _])
      rw [hf, fzQ_lst List.getElem?_concat_length]
      simp_arith []
      have hcan : ∀ x ∈ (w.cps.toList.filter fun c => !inL c).map fun c => (⟨#[c]⟩ : Str), (PyData.str x).canLay0 = true := fun x hx => by
        obtain ⟨c, hc, rfl⟩ := List.mem_map.mp hx
        have h0 : PyData.strOk w = true := hn.1
        unfold PyData.strOk at h0
        have := Array.all_eq_true_iff_forall_mem.mp h0 c (by simpa using (List.mem_filter.mp hc).1)
        show PyData.strOk _ = true
        unfold PyData.strOk
        rw [Array.all_eq_true_iff_forall_mem]
        intro d hd
        have : d = c := by simpa using hd
        rw [this]
        assumption
      rw [strs_eqnil hcan]
      have e : isN w = (((w.cps.toList.filter fun c => !inL c).map fun c => (⟨#[c]⟩ : Str))).isEmpty := by
        unfold isN
        rw [if_neg (by rw [h3]; simp; omega)]
        generalize w.cps.toList = l
        induction l with
        | nil => rfl
        | cons c l ih =>
          rw [List.all_cons, List.filter_cons]
          cases inL c with
          | true => simpa using ih
          | false => rfl
      rw [← e]
      exact hq _ ((Kp.app 0 G _).setN (Nat.le_refl _))
theorem lfirst_wp {g : Str} (hq : QV (fnV (fnOf fs g)) G) : (f_law_first [.ls (fs.map fnT), .str g] G).wp QV E := by
  unfold f_law_first b_law_first
  simp_arith []
  have hget : ∀ (j : Nat) (v : AV), (fs.map fnT)[j]? = some v → ∃ f, fs[j]? = some f ∧ v = fnT f := fun j v hv => by
    obtain ⟨f, hf, e⟩ := Option.map_eq_some_iff.mp ((List.getElem?_map ..).symm.trans hv)
    exact ⟨f, hf, e.symm⟩
  refine wp_forK (k := (fs.map fnT, none)) (wk_ok rfl rfl) (fun j ρ G' => ∃ a2, ρ = [some (.ls (fs.map fnT)), some (.str g), a2] ∧ G' = G ∧ ∀ x ∈ fs.take j, ¬ x.name = g)
    ⟨_, rfl, rfl, fun x hx => by simp at hx⟩ (fun _ _ _ _ _ => True.intro) (fun j v ρ G' hv ⟨a2, er, eG, hno⟩ => ?_) fun ρ G' ⟨a2, er, eG, hno⟩ => ?_
  · subst er eG
    obtain ⟨f, hf, rfl⟩ := hget j v hv
    have et : fs.take (j + 1) = fs.take j ++ [f] := by rw [List.take_succ, hf]; rfl
    unfold l_law_first_1
    rw [fnT_def f]
    simp_arith []
    by_cases c : f.name = g
    · rw [decide_eq_true c]
      simp_arith []
      have e : fnOf fs g = some f := by
        have e1 : fs = fs.take j ++ (f :: fs.drop (j + 1)) := by
          have hj := (List.getElem?_eq_some_iff.mp hf).1
          rw [← (List.getElem?_eq_some_iff.mp hf).2, ← List.drop_eq_getElem_cons hj, List.take_append_drop]
        have e2 : (fs.take j).find? (fun f => decide (f.name = g)) = none := List.find?_eq_none.mpr fun x hx => by simpa using hno x hx
        unfold fnOf
        rw [e1, List.find?_append, e2, Option.none_or, List.find?_cons, decide_eq_true c]
      rw [e] at hq
      exact hq
    · rw [decide_eq_false c]
      simp_arith []
      refine ⟨_, rfl, fun x hx => ?_⟩
      rw [et] at hx
      rcases List.mem_append.mp hx with hx | hx
      · exact hno x hx
      · rw [List.mem_singleton.mp hx]; exact c
  · subst er eG
    have hno : ∀ x ∈ fs.take (fs.map fnT).length, ¬ x.name = g := hno
    rw [List.length_map, List.take_length] at hno
    have e : fnOf fs g = none := List.find?_eq_none.mpr fun x hx => by simpa using hno x hx
    rw [e] at hq
    simp_arith []
    exact hq
theorem lsplit_wp {s : Pl.St} (hl : s.exs.length ≤ 1000) (hq : QV (.tup [.ls (Pl.strA (givenB s)), .ls (s.exs.map Pl.Ex.av)]) G) : (f_law_split [s.av] G).wp QV E := by
  have esz := szl_eq
  unfold f_law_split b_law_split k_law_split_3 k_law_split_5 k_law_split_7 k_law_split_9 k_law_split_11
  cases s with
  | call ts g es =>
    have avE : Pl.St.av (.call ts g es) = .tup [.str "call", .tup (Pl.strA ts), .str g, .tup (es.map Pl.Ex.av)] := by simp only [Pl.St.av]; rfl
    rw [avE]
    simp_arith [ofS_inj, String.reduceEq]
    exact hq
  | try_ a x b =>
    rw [try_av]
    simp_arith [ofS_inj, String.reduceEq]
    exact hq
  | at_ t e es =>
    unfold Pl.St.av
    simp_arith [ofS_inj, String.reduceEq]
    rw [list_tup]
    simp_arith []
    exact ⟨by rw [List.length_map]; simp [Pl.St.exs] at hl; omega, hq⟩
  | _ =>
    unfold Pl.St.av
    simp_arith [ofS_inj, String.reduceEq]
    try rw [list_tup]
    simp_arith []
    exact hq
theorem lparts_wp : ∀ (n : Nat) (e : Pl.Ex) (G : Hs) (QV : AV → Hs → Prop) (E : XQ), e.dep < n → e.dep ≤ 12 → (QV (.ls (e.subs.map Pl.Ex.av)) G) → (ringF step_law_parts n 0 [e.av] G).wp QV E
  | 0, e, G, QV, E, h, _, _ => absurd h (Nat.not_lt_zero _)
  | n + 1, e, G, QV, E, h, hl, hq => by
    have esz := szl_eq
    rw [ringS]
    show ((mFn 3 (b_law_parts (ringF step_law_parts n))) [e.av] G).wp QV E
    unfold b_law_parts
    have go : ∀ (w : Str) (as : List Pl.Ex) (D' : SP), (∀ v G, D'.rt v G = QV v G) → e.av = .tup (.str w :: as.map Pl.Ex.av) → e.subs = e :: Pl.subsOf as → (∀ a ∈ as, a.dep < n ∧ a.dep ≤ 12) → (k_law_parts_3 (ringF step_law_parts n) [some (.tup (.str w :: as.map Pl.Ex.av)), none, none] G).wp D' := fun w as D' hD hav hsub hdp => by
      have hlen : (e :: Pl.subsOf as).length ≤ 2 ^ 12 := by
        rw [← hsub]
        have := Pl.subs_len e
        have : 2 ^ e.dep ≤ 2 ^ 12 := Nat.pow_le_pow_right (by decide) hl
        omega
      have pre : ∀ j, (e :: Pl.subsOf (as.take j)).length ≤ 2 ^ 12 := fun j => by
        have h1 : Pl.subsOf as = Pl.subsOf (as.take j) ++ Pl.subsOf (as.drop j) := by
          rw [← subsOf_app, List.take_append_drop]
        rw [h1, List.length_cons, List.length_append] at hlen
        rw [List.length_cons]
        omega
      unfold k_law_parts_3
      simp_arith []
      unfold k_law_parts_4
      have hk : (mWk (mFz (mSl (mVar 0) (mSome (mC (.int 1))) mNone))) [some (.tup (.str w :: as.map Pl.Ex.av)), some (.ls [.tup (.str w :: as.map Pl.Ex.av)]), none] G = .ok (as.map Pl.Ex.av, none) G := wk_ok (v := .tup (as.map Pl.Ex.av)) (eq_of_wp (by
        rw [wp_fz]
        simp_arith []
        rw [sl_tup, fzQ_tup, show (1 : Int) = ((1 : Nat) : Int) from rfl, cut_fromN (by simp)]
        exact ⟨rfl, rfl⟩)) rfl
      rw [wp_seq]
      refine wp_forK (k := (as.map Pl.Ex.av, none)) hk (fun j ρ G' => ∃ a2, ρ = [some (.tup (.str w :: as.map Pl.Ex.av)), some (.ls ((e :: Pl.subsOf (as.take j)).map Pl.Ex.av)), a2] ∧ G' = G)
        ⟨_, by rw [List.map_cons, hav]; rfl, rfl⟩ (fun _ _ _ _ _ => True.intro) (fun j v ρ G' hv ⟨a2, er, eG⟩ => ?_) fun ρ G' ⟨a2, er, eG⟩ => ?_
      · subst er eG
        have hv : (as.map Pl.Ex.av)[j]? = some v := hv
        rw [List.getElem?_map] at hv
        obtain ⟨a, ha, rfl⟩ := Option.map_eq_some_iff.mp hv
        obtain ⟨d1, d2⟩ := hdp a (List.mem_of_getElem? ha)
        have et : as.take (j + 1) = as.take j ++ [a] := by rw [List.take_succ, ha]; rfl
        have e1 : Pl.subsOf (as.take (j + 1)) = Pl.subsOf (as.take j) ++ a.subs := by rw [et, subsOf_app]; simp [Pl.subsOf]
        have p1 := pre (j + 1)
        rw [e1] at p1
        unfold l_law_parts_4
        simp_arith []
        refine lparts_wp n a _ _ _ d1 d2 ?_
        simp_arith []
        refine ⟨by rw [List.length_map, List.length_map]; simp only [List.length_cons, List.length_append] at p1 ⊢; omega, ?_⟩
        refine ⟨some a.av, ?_⟩
        rw [e1, ← List.map_append]
      · subst er eG
        simp_arith []
        rw [hsub] at hq
        rw [hD, List.length_map, List.take_length]
        exact hq
    cases e with
    | sum k a b =>
      unfold Pl.Ex.av
      simp_arith []
      show ((fIn (.str k.word) (.tup ((["number", "box", "ref", "many"] : List Str).map .str)) G).wp _ _ : Prop)
      rw [in_tupS, show ((["number", "box", "ref", "many"] : List Str).any fun y => y == k.word) = false by cases k <;> decide +kernel]
      simp_arith []
      refine go k.word [a, b] _ (fun _ _ => rfl) rfl (by simp [Pl.Ex.subs, Pl.subsOf]) fun x hx => ?_
      simp only [Pl.Ex.dep] at h hl
      rcases List.mem_cons.mp hx with rfl | hx
      · omega
      · rw [List.mem_singleton.mp hx]; omega
    | extra a =>
      unfold Pl.Ex.av
      simp_arith []
      show ((fIn (.str "extra") (.tup ((["number", "box", "ref", "many"] : List Str).map .str)) G).wp _ _ : Prop)
      rw [in_tupS, show ((["number", "box", "ref", "many"] : List Str).any fun y => y == ("extra" : Str)) = false by decide +kernel]
      simp_arith []
      refine go "extra" [a] _ (fun _ _ => rfl) rfl (by simp [Pl.Ex.subs, Pl.subsOf]) fun x hx => ?_
      simp only [Pl.Ex.dep] at h hl
      rw [List.mem_singleton.mp hx]; omega
    | num n =>
      unfold Pl.Ex.av
      simp_arith []
      show ((fIn (.str "number") (.tup ((["number", "box", "ref", "many"] : List Str).map .str)) G).wp _ _ : Prop)
      rw [in_tupS, show ((["number", "box", "ref", "many"] : List Str).any fun y => y == ("number" : Str)) = true by decide +kernel]
      simp_arith []
      exact hq
    | box n =>
      unfold Pl.Ex.av
      simp_arith []
      show ((fIn (.str "box") (.tup ((["number", "box", "ref", "many"] : List Str).map .str)) G).wp _ _ : Prop)
      rw [in_tupS, show ((["number", "box", "ref", "many"] : List Str).any fun y => y == ("box" : Str)) = true by decide +kernel]
      simp_arith []
      exact hq
    | ref n =>
      unfold Pl.Ex.av
      simp_arith []
      show ((fIn (.str "ref") (.tup ((["number", "box", "ref", "many"] : List Str).map .str)) G).wp _ _ : Prop)
      rw [in_tupS, show ((["number", "box", "ref", "many"] : List Str).any fun y => y == ("ref" : Str)) = true by decide +kernel]
      simp_arith []
      exact hq
    | many =>
      unfold Pl.Ex.av
      simp_arith []
      show ((fIn (.str "many") (.tup ((["number", "box", "ref", "many"] : List Str).map .str)) G).wp _ _ : Prop)
      rw [in_tupS, show ((["number", "box", "ref", "many"] : List Str).any fun y => y == ("many" : Str)) = true by decide +kernel]
      simp_arith []
      exact hq
theorem wrongcall_wp {ts : List Str} {g : Str} {es : List Pl.Ex} (hq : QV (.bl (!callOk fs (.call ts g es))) G) : (f_law_wrong_call [Pl.St.av (.call ts g es), .ls (fs.map fnT)] G).wp QV E := by
  have avE : Pl.St.av (.call ts g es) = .tup [.str "call", .tup (Pl.strA ts), .str g, .tup (es.map Pl.Ex.av)] := by simp only [Pl.St.av]; rfl
  rw [avE]
  unfold f_law_wrong_call b_law_wrong_call
  simp_arith []
  refine lfirst_wp ?_
  simp only [callOk] at hq
  unfold k_law_wrong_call_2
  cases hf : fnOf fs g with
  | none =>
    rw [hf] at hq
    rw [fnV_none]
    simp_arith []
    exact hq
  | some f =>
    rw [hf] at hq
    simp only at hq
    rw [fnV_some f]
    simp_arith [isN_tup, len_T, strA_len]
    by_cases c : f.results = ts.length
    case neg =>
      rw [decide_eq_false (show ¬ (f.results : Int) = ts.length by omega)]
      rw [decide_eq_false c] at hq
      simp_arith []
      exact hq
    rw [decide_eq_true (show (f.results : Int) = ts.length by omega)]
    rw [decide_eq_true c, Bool.true_and] at hq
    simp_arith []
    unfold k_law_wrong_call_4
    simp_arith [len_T, strA_len, List.length_map]
    unfold Pl.takes at hq
    by_cases c1 : es.length = f.params.length
    · rw [decide_eq_true (show (es.length : Int) = f.params.length by omega)]
      rw [decide_eq_true c1, Bool.true_or] at hq
      simp_arith []
      exact hq
    · rw [decide_eq_false (show ¬ (es.length : Int) = f.params.length by omega)]
      rw [decide_eq_false c1, Bool.false_or] at hq
      simp_arith [len_T, strA_len, List.length_map]
      cases hm : f.more with
      | false =>
        rw [hm] at hq
        simp_arith []
        exact hq
      | true =>
        rw [hm] at hq
        simp_arith [len_T, strA_len, List.length_map]
        by_cases c2 : f.params.length < es.length
        · rw [decide_eq_true (show (es.length : Int) > f.params.length by omega)]
          rw [decide_eq_true c2] at hq
          simp_arith []
          exact hq
        · rw [decide_eq_false (show ¬ (es.length : Int) > f.params.length by omega)]
          rw [decide_eq_false c2] at hq
          simp_arith []
          exact hq
end
end L_k13
namespace L_k13
open PySem L2 Vz
theorem st_word (s : Pl.St) : ∃ (w : Str) (r : List AV), s.av = .tup (.str w :: r) ∧ (w = "call" → ∃ ts g es, s = .call ts g es) ∧ (w = "return" → ∃ es, s = .ret es) ∧ (¬ w = "call" → ∀ fs, callOk fs s = true) ∧ (¬ w = "return" → ∀ f, retOk f s = true) := by
  cases s <;> simp only [Pl.St.av] <;> exact ⟨_, _, rfl, by simp [ofS_inj], by simp [ofS_inj], by simp [callOk, ofS_inj], by simp [retOk, ofS_inj]⟩
def isBoxA : AV → Bool
  | .tup (.str w :: _) => decide (w = "box")
  | _ => false
def sndA : AV → AV
  | .tup [_, w] => w
  | _ => .non
theorem boxA_map (es : List Pl.Ex) : (((Pl.subsOf es).map Pl.Ex.av).filter isBoxA).map sndA = Pl.strA (Pl.esBoxes es) := by
  rw [Pl.esBoxes_subs]
  unfold Pl.strA
  generalize Pl.subsOf es = l
  induction l with
  | nil => rfl
  | cons e l ih =>
    cases h : Pl.isBox e with
    | some x =>
      rw [List.filterMap_cons_some h, List.map_cons, List.map_cons, exA_box h, List.filter_cons_of_pos (by simp [isBoxA]), List.map_cons, ih]
      rfl
    | none =>
      rw [List.filterMap_cons_none h, List.map_cons, List.filter_cons_of_neg, ih]
      cases e with
      | box x => cases h
      | sum k a b => cases k <;> simp [Pl.Ex.av, Pl.Sk.word, ofS_inj, isBoxA]
      | _ => simp [Pl.Ex.av, ofS_inj, isBoxA]
section
variable {QV : AV → Hs → Prop} {QB : Bool → Hs → Prop} {E : XQ} {G : Hs} {ρ : En} {D : SP} {fs : List Pl.Fn} {f : Pl.Fn}
theorem lword_wp {s : Pl.St} (hz : okU s) (hq : ∀ G', Kp 0 G G' → QV (wdA (wrongSt fs f s)) G') : (f_law_word [s.av, fnT f, .ls (fs.map fnT)] G).wp QV E := by
  have esz := szl_eq
  obtain ⟨hz1, hda, hnm⟩ := hz
  unfold szSt at hz1
  simp only [Bool.and_eq_true, decide_eq_true_eq] at hz1
  obtain ⟨⟨hf, hlen⟩, _⟩ := hz1
  obtain ⟨f1, f2⟩ := Bool.and_eq_true_iff.mp hf
  have f1 := of_decide_eq_true f1
  have f2 := of_decide_eq_true f2
  have bnd := Pl.subsOf_len (n := 12) s.exs f1
  have bnd2 : s.exs.length * 2 ^ 12 ≤ 1000 * 2 ^ 12 := Nat.mul_le_mul_right _ f2
  rw [List.length_append] at hlen
  obtain ⟨w, r, hav, hc1, hr1, hc0, hr0⟩ := st_word s
  have ix0 : ∀ (G : Hs) (Q : AV → Hs → Prop) (E : XQ), (fIx s.av (.int 0) G).wp Q E = Q (.str w) G := fun G Q E => by rw [hav]; exact ixT0
  unfold f_law_word b_law_word
  simp_arith [wp_asgT]
  refine lsplit_wp f2 ?_
  rw [wp_gT2N]
  simp_arith []
  unfold k_law_word_2
  simp_arith []
  unfold k_law_word_3
  rw [wp_seq]
  refine wp_forK (k := (s.exs.map Pl.Ex.av, none)) (wk_ok rfl rfl) (fun j ρ G' => ∃ a6, ρ = [some s.av, some (fnT f), some (.ls (fs.map fnT)), some (.ls (Pl.strA (givenB s))), some (.ls (s.exs.map Pl.Ex.av)), some (.ls ((Pl.subsOf (s.exs.take j)).map Pl.Ex.av)), a6, none, none, none] ∧ G' = G)
    ⟨_, rfl, rfl⟩ (fun _ _ _ _ _ => True.intro) (fun j v ρ G' hv ⟨a6, er, eG⟩ => ?_) fun ρ G' ⟨a6, er, eG⟩ => ?_
  · subst er eG
    have hv : (s.exs.map Pl.Ex.av)[j]? = some v := hv
    rw [List.getElem?_map] at hv
    obtain ⟨a, ha, rfl⟩ := Option.map_eq_some_iff.mp hv
    have hd : a.dep ≤ 12 := Nat.le_trans (Pl.exsDep_mem (List.mem_of_getElem? ha)) f1
    have et : s.exs.take (j + 1) = s.exs.take j ++ [a] := by rw [List.take_succ, ha]; rfl
    have e1 : Pl.subsOf (s.exs.take (j + 1)) = Pl.subsOf (s.exs.take j) ++ a.subs := by rw [et, subsOf_app]; simp [Pl.subsOf]
    have p1 : (Pl.subsOf (s.exs.take (j + 1))).length ≤ (Pl.subsOf s.exs).length := by
      have := subsOf_app (s.exs.take (j + 1)) (s.exs.drop (j + 1))
      rw [List.take_append_drop] at this
      rw [this, List.length_append]
      omega
    rw [e1, List.length_append] at p1
    unfold l_law_word_3
    simp_arith []
    refine lparts_wp 20 a _ _ _ (by omega) hd ?_
    simp_arith []
    refine ⟨by rw [List.length_map, List.length_map]; omega, ?_⟩
    refine ⟨some a.av, ?_⟩
    rw [e1, ← List.map_append]
  · subst er eG
    rw [List.length_map, List.take_length]
    unfold k_law_word_5
    simp_arith []
    refine wp_lcG (vs := (Pl.subsOf s.exs).map Pl.Ex.av) (G0 := G') (wk_ok rfl rfl) (Kp.refl _ _) isBoxA sndA (by rw [List.length_map]; omega) (fun v hv G1 k1 => ?_) fun G1 k1 => ?_
    · obtain ⟨e, _, rfl⟩ := List.mem_map.mp hv
      refine ⟨_, rfl, ?_⟩
      cases e with
      | box x =>
        unfold Pl.Ex.av
        simp_arith [isBoxA, sndA]
        exact ⟨Kp.refl _ _, fun _ => Kp.refl _ _⟩
      | sum k a b =>
        have hk : ¬ k.word = ("box" : Str) := by cases k <;> simp [Pl.Sk.word, ofS_inj]
        unfold Pl.Ex.av
        simp_arith [isBoxA, sndA]
        exact ⟨Kp.refl _ _, fun z => absurd (of_decide_eq_true z) hk⟩
      | _ =>
        unfold Pl.Ex.av
        simp_arith [ofS_inj, String.reduceEq, isBoxA, sndA]
        exact ⟨Kp.refl _ _, fun z => z.elim⟩
    rw [boxA_map]
    simp_arith []
    refine ⟨by rw [strA_len, strA_len]; omega, ?_⟩
    rw [← strA_app]
    unfold k_law_word_6
    simp_arith []
    refine wp_lcG (vs := Pl.strA (givenB s ++ Pl.esBoxes s.exs)) (G0 := G1) (wk_ok rfl rfl) (Kp.refl _ _) (fun v => match v with
      | .str w => !isN w
      | _ => false) (fun v => v) (by rw [strA_len, List.length_append]; omega) (fun v hv G2 k2 => ?_) fun G2 k2 => ?_
    · obtain ⟨x, hx, rfl⟩ := List.mem_map.mp hv
      refine ⟨_, rfl, ?_⟩
      simp_arith []
      refine lisname_wp (hnm x hx) fun G3 k3 => ?_
      simp_arith []
      exact ⟨k3, fun _ => Kp.refl _ _⟩
    have k02 : Kp 0 G' G2 := k1.trans k2
    have eF : ((Pl.strA (givenB s ++ Pl.esBoxes s.exs)).filter (fun v => match v with
      | .str w => !isN w
      | _ => false)).map (fun v => v) = ((givenB s ++ Pl.esBoxes s.exs).filter fun x => !isN x).map .str := by
      rw [List.map_id']
      unfold Pl.strA
      rw [List.filter_map]
      rfl
    rw [eF]
    simp_arith []
    rw [strs_nil fun x hx => (hnm x (List.mem_filter.mp hx).1).1]
    have eB : ((givenB s ++ Pl.esBoxes s.exs).filter fun x => !isN x).isEmpty = (givenB s ++ Pl.esBoxes s.exs).all nmOk := by
      generalize givenB s ++ Pl.esBoxes s.exs = l
      induction l with
      | nil => rfl
      | cons x l ih =>
        rw [List.all_cons, List.filter_cons]
        show _ = (isN x && _)
        cases isN x with
        | true => simpa using ih
        | false => rfl
    rw [eB]
    unfold wrongSt at hq
    cases hb : (givenB s ++ Pl.esBoxes s.exs).all nmOk with
    | false =>
      rw [hb, if_pos rfl] at hq
      simp_arith []
      exact hq _ k02
    | true =>
    rw [hb, if_neg (by decide)] at hq
    simp_arith []
    have part2 : ∀ (D' : SP), (∀ v G, D'.rt v G = QV v G) → callOk fs s = true → (k_law_word_10 [some s.av, some (fnT f), some (.ls (fs.map fnT)), some (.ls (Pl.strA (givenB s ++ Pl.esBoxes s.exs))), some (.ls (s.exs.map Pl.Ex.av)), some (.ls ((Pl.subsOf s.exs).map Pl.Ex.av)), a6, none, none, none] G2).wp D' := fun D' hD hc => by
      have last : (∀ G3, Kp 0 G2 G3 → QV (wdA (if (f.more || (Pl.subsOf s.exs).all fewOk) = false then some ("many" : Str) else none)) G3) → ∀ (D' : SP) (a7 a8 : Option AV), (∀ v G, D'.rt v G = QV v G) → (k_law_word_17 [some s.av, some (fnT f), some (.ls (fs.map fnT)), some (.ls (Pl.strA (givenB s ++ Pl.esBoxes s.exs))), some (.ls (s.exs.map Pl.Ex.av)), some (.ls ((Pl.subsOf s.exs).map Pl.Ex.av)), a6, a7, a8, none] G2).wp D' := fun hq D' a7 a8 hD => by
        unfold k_law_word_17
        rw [fnT_def f]
        simp_arith []
        cases hmo : f.more with
        | true =>
          rw [hmo, Bool.true_or, if_neg (by decide)] at hq
          simp_arith []
          rw [hD]
          exact hq _ (Kp.refl _ _)
        | false =>
          rw [hmo, Bool.false_or] at hq
          simp_arith []
          refine wp_lcG (vs := (Pl.subsOf s.exs).map Pl.Ex.av) (G0 := G2) (wk_ok rfl rfl) (Kp.refl _ _) isME (fun v => v) (by rw [List.length_map]; omega) (fun v hv G3 k3 => ?_) fun G3 k3 => ?_
          · obtain ⟨e, hem, rfl⟩ := List.mem_map.mp hv
            refine ⟨_, rfl, ?_⟩
            cases e with
            | sum k a b =>
              unfold Pl.Ex.av
              simp_arith []
              rw [isME_t]
              cases k <;> exact ⟨by decide +kernel, Kp.refl _ _, fun _ => Kp.refl _ _⟩
            | _ =>
              unfold Pl.Ex.av
              simp_arith []
              rw [isME_t]
              exact ⟨by decide +kernel, Kp.refl _ _, fun _ => Kp.refl _ _⟩
          · have hE : (((Pl.subsOf s.exs).map Pl.Ex.av).filter isME).map (fun v => v) = ((Pl.subsOf s.exs).map Pl.Ex.av).filter isME := List.map_id' _
            rw [hE]
            simp_arith []
            rw [lsne_nil (k := 9) (fun v hv => by
              obtain ⟨e, he, rfl⟩ := List.mem_map.mp (List.mem_filter.mp hv).1
              exact hda e he) (by decide)]
            simp_arith []
            have eI : (((Pl.subsOf s.exs).map Pl.Ex.av).filter isME).isEmpty = (Pl.subsOf s.exs).all fewOk := by
              generalize Pl.subsOf s.exs = l
              induction l with
              | nil => rfl
              | cons e l ih =>
                rw [List.map_cons, List.filter_cons, isME_ex, List.all_cons]
                cases fewOk e with
                | true => simpa using ih
                | false => rfl
            rw [eI]
            cases hfw : (Pl.subsOf s.exs).all fewOk with
            | true =>
              rw [hfw, if_neg (by decide)] at hq
              simp_arith []
              rw [hD]
              exact hq _ k3
            | false =>
              rw [hfw, if_pos rfl] at hq
              simp_arith []
              rw [hD]
              exact hq _ k3
      rw [hc, if_neg (by decide)] at hq
      unfold k_law_word_10
      rw [wp_seq]
      refine wp_forK (k := ((Pl.subsOf s.exs).map Pl.Ex.av, none)) (G0 := G2) (wk_ok rfl rfl) (fun j ρ G' => ∃ a7 a8, ρ = [some s.av, some (fnT f), some (.ls (fs.map fnT)), some (.ls (Pl.strA (givenB s ++ Pl.esBoxes s.exs))), some (.ls (s.exs.map Pl.Ex.av)), some (.ls ((Pl.subsOf s.exs).map Pl.Ex.av)), a6, a7, a8, none] ∧ G' = G2 ∧ ((Pl.subsOf s.exs).take j).all (refOk fs) = true)
        ⟨_, _, rfl, rfl, rfl⟩ (fun _ _ _ _ _ => True.intro) (fun j v ρ G' hv ⟨a7, a8, er, eG, hall⟩ => ?_) fun ρ G' ⟨a7, a8, er, eG, hall⟩ => ?_
      · subst er eG
        have hv : ((Pl.subsOf s.exs).map Pl.Ex.av)[j]? = some v := hv
        rw [List.getElem?_map] at hv
        obtain ⟨e, he, rfl⟩ := Option.map_eq_some_iff.mp hv
        have et : ((Pl.subsOf s.exs).take (j + 1)).all (refOk fs) = refOk fs e := by
          rw [List.take_succ, he, List.all_append, hall]
          simp
        have bad : refOk fs e = false → QV (.str "ref") G' := fun hr => by
          have : (Pl.subsOf s.exs).all (refOk fs) = false := List.all_eq_false.mpr ⟨e, List.mem_of_getElem? he, by rw [hr]; decide⟩
          rw [this, if_pos rfl] at hq
          exact hq _ k02
        unfold l_law_word_10
        cases e with
        | ref g =>
          simp only [refOk] at et bad
          unfold Pl.Ex.av
          simp_arith []
          refine lfirst_wp ?_
          unfold k_law_word_13
          cases hg : fnOf fs g with
          | none =>
            rw [hg] at bad
            rw [fnV_none]
            simp_arith []
            rw [hD]
            exact bad rfl
          | some f' =>
            rw [hg] at et bad
            rw [fnV_some f']
            simp_arith [isN_tup]
            by_cases c1 : f'.results = 1
            · rw [decide_eq_true (show (f'.results : Int) = 1 by omega)]
              simp_arith []
              exact ⟨_, _, rfl, by rw [et]; exact decide_eq_true c1⟩
            · rw [decide_eq_false (show ¬ (f'.results : Int) = 1 by omega)]
              simp_arith []
              rw [hD]
              exact bad (decide_eq_false c1)
        | sum k a b =>
          have hk : ¬ k.word = ("ref" : Str) := by cases k <;> simp [Pl.Sk.word, ofS_inj]
          unfold Pl.Ex.av
          simp_arith []
          rw [decide_eq_false hk]
          simp_arith []
          exact ⟨_, _, rfl, by rw [et]; rfl⟩
        | _ =>
          unfold Pl.Ex.av
          simp_arith [ofS_inj, String.reduceEq]
          exact ⟨_, _, rfl, by rw [et]; rfl⟩
      · subst er eG
        have hall : ((Pl.subsOf s.exs).take ((Pl.subsOf s.exs).map Pl.Ex.av).length).all (refOk fs) = true := hall
        rw [List.length_map, List.take_length] at hall
        rw [hall, if_neg (by decide)] at hq
        unfold k_law_word_15
        simp_arith [ix0]
        by_cases cr : w = "return"
        case neg =>
          rw [decide_eq_false cr]
          simp_arith []
          rw [hr0 cr f, if_neg (by decide)] at hq
          exact last (fun G3 k3 => hq _ (k02.trans k3)) _ _ _ hD
        rw [decide_eq_true cr]
        obtain ⟨es, rfl⟩ := hr1 cr
        have avE : Pl.St.av (.ret es) = .tup [.str "return", .tup (es.map Pl.Ex.av)] := by simp only [Pl.St.av]
        have ix1 : ∀ (G : Hs) (Q : AV → Hs → Prop) (E : XQ), (fIx (Pl.St.av (.ret es)) (.int 1) G).wp Q E = Q (.tup (es.map Pl.Ex.av)) G := fun G Q E => by rw [avE]; exact ixT1
        have f3 : ∀ (G : Hs) (Q : AV → Hs → Prop) (E : XQ), (fIx (fnT f) (.int 3) G).wp Q E = Q (.int f.results) G := fun G Q E => propext Iff.rfl
        simp_arith [ix1, len_T, List.length_map, f3]
        by_cases c : es.length = f.results
        · rw [if_neg (show ¬ retOk f (.ret es) = false by simp [retOk, c])] at hq
          rw [decide_eq_true (show (es.length : Int) = f.results by omega)]
          simp_arith []
          exact last (fun G3 k3 => hq _ (k02.trans k3)) _ _ _ hD
        · rw [if_pos (show retOk f (.ret es) = false by simp [retOk, c])] at hq
          rw [decide_eq_false (show ¬ (es.length : Int) = f.results by omega)]
          simp_arith []
          rw [hD]
          exact hq _ k02
    unfold k_law_word_8
    simp_arith [ix0]
    by_cases cc : w = "call"
    case neg =>
      rw [decide_eq_false cc]
      simp_arith []
      exact part2 _ (fun _ _ => rfl) (hc0 cc fs)
    rw [decide_eq_true cc]
    obtain ⟨ts, g, es, rfl⟩ := hc1 cc
    simp_arith []
    refine wrongcall_wp ?_
    cases hc : callOk fs (.call ts g es) with
    | true =>
      simp_arith []
      exact part2 _ (fun _ _ => rfl) hc
    | false =>
      rw [hc, if_pos rfl] at hq
      simp_arith []
      exact hq _ k02
end
end L_k13
namespace L_k13
open PySem L2 Vz
section
variable {QV : AV → Hs → Prop} {QB : Bool → Hs → Prop} {E : XQ} {G : Hs} {ρ : En} {D : SP} {fs : List Pl.Fn} {f : Pl.Fn}
theorem cut_fromG {ys : List AV} {k : Nat} : cutA ys (some (k : Int)) none = ys.drop k := by
  rcases Nat.le_total k ys.length with h | h
  · exact cut_fromN h
  · have e1 : HT.sIx ys.length 0 (some (k : Int)) = min k ys.length := by rw [HT.sIx_nat]
    have e2 : HT.sIx ys.length ys.length none = ys.length := rfl
    unfold cutA
    rw [e1, e2, Nat.min_eq_right h, List.drop_of_length_le h]
    simp
theorem cut_12 {ys : List AV} : cutA ys (some 1) (some 2) = (ys.drop 1).take 1 := by
  have e1 : HT.sIx ys.length 0 (some 1) = min 1 ys.length := by rw [show (1 : Int) = ((1 : Nat) : Int) from rfl, HT.sIx_nat]
  have e2 : HT.sIx ys.length ys.length (some 2) = min 2 ys.length := by rw [show (2 : Int) = ((2 : Nat) : Int) from rfl, HT.sIx_nat]
  unfold cutA
  rw [e1, e2]
  match ys with
  | [] => rfl
  | [a] => rfl
  | a :: b :: r =>
    have h1 : min 1 (a :: b :: r).length = 1 := by simp only [List.length_cons]; omega
    have h2 : min 2 (a :: b :: r).length = 2 := by simp only [List.length_cons]; omega
    rw [h1, h2]
/-- what the law's dict holds -/
def lawK (xs : List AV) : List (L2.Key × AV) := [(.inr "if", .tup (xs.drop 2)), (.inr "while", .tup (xs.drop 2)), (.inr "try", .tup ((xs.drop 1).take 1 ++ xs.drop 3))]
theorem lawK_get (s : Pl.St) : ∃ (w : Str) (r : List AV), s.av = .tup (.str w :: r) ∧ r.length ≤ 4 ∧ ∀ (G : Hs) (Q : AV → Hs → Prop) (E : XQ), (fDgo (.id ((lawK (.str w :: r)).map (·.1)) ((lawK (.str w :: r)).map (·.2))) (.str w) (.tup []) G).wp Q E = Q (.tup ((bodiesB s).map fun b => .tup (Pl.bdA b))) G := by
  cases s <;> simp only [Pl.St.av] <;> refine ⟨_, _, rfl, by simp, fun G Q E => ?_⟩ <;> simp [fDgo, dkR, kOf, lawK, getA, ofS_inj, bodiesB, Pl.St.bodies, R.wp]
theorem lsts_wp : ∀ (n : Nat) (body : List Pl.St) (G : Hs) (QV : AV → Hs → Prop) (E : XQ), Pl.bdDep body < n → (bdSts body).length ≤ 100000 → (∀ G', Kp 0 G G' → QV (.ls ((bdSts body).map Pl.St.av)) G') →
    (ringF step_law_statements n 0 [.tup (Pl.bdA body)] G).wp QV E
  | 0, body, G, QV, E, h, _, _ => absurd h (Nat.not_lt_zero _)
  | n + 1, body, G, QV, E, h, hl, hq => by
    have esz := szl_eq
    have ih := lsts_wp n
    rw [ringS, bdA_map]
    show (mFn 5 (b_law_statements (ringF step_law_statements n)) _ G).wp QV E
    unfold b_law_statements
    generalize hR : ringF step_law_statements n 0 = F at ih
    generalize ringF step_law_statements n = rr at hR
    simp_arith []
    unfold k_law_statements_2
    rw [wp_seq]
    have pre : ∀ j, (bdSts (body.take j)).length ≤ 100000 := fun j => by
      have := bdS_app (body.take j) (body.drop j)
      rw [List.take_append_drop] at this
      have := congrArg List.length this
      rw [List.length_append] at this
      omega
    refine wp_forK (k := (body.map Pl.St.av, none)) (G0 := G ++ [.lst []]) (wk_ok rfl rfl) (fun j ρ G' => ∃ m a2 a3 a4, ρ = [some (.tup (body.map Pl.St.av)), some (.ref m), a2, a3, a4] ∧ G.length ≤ m ∧ G'[m]? = some (.lst ((bdSts (body.take j)).map Pl.St.av)) ∧ Kp 0 G G')
      ⟨G.length, _, _, _, rfl, Nat.le_refl _, by simp [bdSts], Kp.app _ _ _⟩ (fun _ _ _ _ _ => True.intro) (fun j v ρ G' hv ⟨m, a2, a3, a4, er, hm, hn, k⟩ => ?_) fun ρ G' ⟨m, a2, a3, a4, er, hm, hn, k⟩ => ?_
    · subst er
      have hv : (body.map Pl.St.av)[j]? = some v := hv
      rw [List.getElem?_map] at hv
      obtain ⟨s, hs, rfl⟩ := Option.map_eq_some_iff.mp hv
      have hsd := mem_dep (List.mem_of_getElem? hs)
      have et : body.take (j + 1) = body.take j ++ [s] := by rw [List.take_succ, hs]; rfl
      have b1 := pre j
      have b2 := pre (j + 1)
      have eb : bdSts (body.take (j + 1)) = bdSts (body.take j) ++ (s :: bdsSts (bodiesB s)) := by
        rw [et, bdS_app, ← stSts_eq]; simp [bdSts]
      have b3 := b2
      rw [eb, List.length_append, List.length_cons] at b3
      unfold l_law_statements_2
      simp_arith [isL_L hn, wp_appL hn]
      refine ⟨by rw [List.length_map]; omega, ?_⟩
      have k2 : Kp 0 G (G'.set m (.lst ((bdSts (body.take j)).map Pl.St.av ++ [s.av]))) := k.setN hm
      have hn2 : (G'.set m (.lst ((bdSts (body.take j)).map Pl.St.av ++ [s.av])))[m]? = some (.lst ((bdSts (body.take j) ++ [s]).map Pl.St.av)) := by
        rw [Pl.set_self hn, List.map_append]; rfl
      generalize G'.set m (.lst ((bdSts (body.take j)).map Pl.St.av ++ [s.av])) = G2 at k2 hn2
      have kont : ∀ (D' : SP) (G2 : Hs), D'.nx = (fun ρ G' => ∃ m a2 a3 a4, ρ = [some (.tup (body.map Pl.St.av)), some (.ref m), a2, a3, a4] ∧ G.length ≤ m ∧ G'[m]? = some (.lst ((bdSts (body.take (j + 1))).map Pl.St.av)) ∧ Kp 0 G G') → Kp 0 G G2 → G2[m]? = some (.lst ((bdSts (body.take j) ++ [s]).map Pl.St.av)) → ((mFor (mWk (mVar 3)) (gNm 4) (l_law_statements_5 rr)) [some (.tup (body.map Pl.St.av)), some (.ref m), some s.av, some (.tup ((bodiesB s).map fun b => .tup (Pl.bdA b))), a4] G2).wp D' := fun D' G2 hD k2 hn2 => by
        refine wp_forK (k := ((bodiesB s).map fun b => AV.tup (Pl.bdA b), none)) (G0 := G2) (wk_ok rfl rfl) (fun i ρ G' => ∃ m a4, ρ = [some (.tup (body.map Pl.St.av)), some (.ref m), some s.av, some (.tup ((bodiesB s).map fun b => .tup (Pl.bdA b))), a4] ∧ G.length ≤ m ∧ G'[m]? = some (.lst ((bdSts (body.take j) ++ [s] ++ bdsSts ((bodiesB s).take i)).map Pl.St.av)) ∧ Kp 0 G G')
          ⟨m, _, rfl, hm, by rw [hn2]; simp [bdsSts], k2⟩ (fun _ _ _ _ _ => True.intro) (fun i v ρ G3 hv ⟨m, a4, er, hm, hn3, k3⟩ => ?_) fun ρ G3 ⟨m, a4, er, hm, hn3, k3⟩ => ?_
        · subst er
          have hv : ((bodiesB s).map fun b => AV.tup (Pl.bdA b))[i]? = some v := hv
          rw [List.getElem?_map] at hv
          obtain ⟨b, hb, rfl⟩ := Option.map_eq_some_iff.mp hv
          have bd := bodB_fit (List.mem_of_getElem? hb)
          have et2 : (bodiesB s).take (i + 1) = (bodiesB s).take i ++ [b] := by rw [List.take_succ, hb]; rfl
          have e5 : bdsSts ((bodiesB s).take (i + 1)) = bdsSts ((bodiesB s).take i) ++ bdSts b := by rw [et2, bdsS_app]; simp [bdsSts]
          have b6 : (bdsSts ((bodiesB s).take (i + 1))).length ≤ (bdsSts (bodiesB s)).length := by
            have := bdsS_app ((bodiesB s).take (i + 1)) ((bodiesB s).drop (i + 1))
            rw [List.take_append_drop] at this
            have := congrArg List.length this
            rw [List.length_append] at this
            omega
          rw [e5, List.length_append] at b6
          unfold l_law_statements_5
          simp_arith []
          rw [hR]
          refine ih b _ _ _ (by omega) (by omega) fun G4 k4 => ?_
          have hn4 := k4.get0 hn3
          rw [addW_rl hn4]
          refine ⟨by rw [List.length_map, List.length_map, List.length_append, List.length_append]; simp only [List.length_cons, List.length_nil]; omega, ?_⟩
          simp_arith []
          refine ⟨G4.length, _, rfl, Nat.le_trans k3.le k4.le, ?_, (k3.trans k4).trans (Kp.app 0 G4 _)⟩
          rw [List.getElem?_concat_length, ← List.map_append, e5, List.append_assoc _ (bdsSts _)]
        · subst er
          have hn3 : G3[m]? = some (.lst ((bdSts (body.take j) ++ [s] ++ bdsSts ((bodiesB s).take ((bodiesB s).map fun b => AV.tup (Pl.bdA b)).length)).map Pl.St.av)) := hn3
          rw [List.length_map, List.take_length] at hn3
          rw [hD]
          refine ⟨m, _, _, _, rfl, hm, ?_, k3⟩
          rw [hn3, eb, List.append_assoc]
          rfl
      obtain ⟨w, r, hav, hr4, hget⟩ := lawK_get s
      unfold k_law_statements_4
      simp_arith [wp_dget2]
      rw [wp_fz, wp_dict, hav]
      simp_arith [wp_prs, wp_prs0, kOf, wp_fz]
      have c2 : cutA (.str w :: r) (some 2) none = (AV.str w :: r).drop 2 := cut_fromG (k := 2)
      have c3 : cutA (.str w :: r) (some 3) none = (AV.str w :: r).drop 3 := cut_fromG (k := 3)
      rw [sl_tup, fzQ_tup, sl_tup, fzQ_tup, sl_tup, fzQ_tup, sl_tup, fzQ_tup, c2, c3, cut_12, add_TT (by simp only [List.length_take, List.length_drop, List.length_cons]; omega)]
      refine ⟨⟨by decide, by simp⟩, ?_⟩
      have em : mergeA [(Sum.inr (Str.ofString "if"), AV.tup ((AV.str w :: r).drop 2)), (Sum.inr (Str.ofString "while"), AV.tup ((AV.str w :: r).drop 2)), (Sum.inr (Str.ofString "try"), AV.tup (((AV.str w :: r).drop 1).take 1 ++ (AV.str w :: r).drop 3))] = lawK (.str w :: r) := by
        simp [mergeA, putA, lawK, ofS_inj]
      rw [em]
      have hk8 : (((G2 ++ [AO.dk []]).set G2.length (.dk (lawK (.str w :: r))))[G2.length]?) = some (.dk (lawK (.str w :: r))) := Pl.set_self (o := .dk []) (by simp)
      rw [fzQ_ref hk8 rfl]
      have k8 : Kp 0 G2 (((G2 ++ [AO.dk []]).set G2.length (.dk (lawK (.str w :: r)))).set G2.length .gone) := ((Kp.app 0 G2 _).setN (Nat.le_refl _)).setN (Nat.le_refl _)
      generalize ((G2 ++ [AO.dk []]).set G2.length (.dk (lawK (.str w :: r)))).set G2.length .gone = G8 at k8
      refine ⟨rfl, ?_⟩
      rw [hget]
      have := kont { nx := fun ρ G' => ∃ m a2 a3 a4, ρ = [some (.tup (body.map Pl.St.av)), some (.ref m), a2, a3, a4] ∧ G.length ≤ m ∧ G'[m]? = some (.lst ((bdSts (body.take (j + 1))).map Pl.St.av)) ∧ Kp 0 G G', rt := QV, bk := fun ρ G => match ρ[1]? with
        | some (some v) => fzQ (fun v G => QV v G) v G
        | x => False, ct := fun ρ G' => ∃ m a2 a3 a4, ρ = [some (.tup (body.map Pl.St.av)), some (.ref m), a2, a3, a4] ∧ G.length ≤ m ∧ G'[m]? = some (.lst ((bdSts (body.take (j + 1))).map Pl.St.av)) ∧ Kp 0 G G', ex := E } G8 rfl (k2.trans k8) (k8.get0 hn2)
      rw [hav] at this
      exact this
    · subst er
      have hn : G'[m]? = some (.lst ((bdSts (body.take (body.map Pl.St.av).length)).map Pl.St.av)) := hn
      rw [List.length_map, List.take_length] at hn
      simp_arith [wp_fz]
      rw [fzQ_lst hn]
      exact hq _ (k.setN hm)
end
end L_k13
namespace L_k13
open PySem L2 Vz
abbrev dueA : Option (Str × Str) → AV
  | some (a, b) => .tup [.str a, .str b]
  | none => .non
section
variable {QV : AV → Hs → Prop} {QB : Bool → Hs → Prop} {E : XQ} {G : Hs} {ρ : En} {D : SP} {fs : List Pl.Fn} {f : Pl.Fn}
theorem wp_gT5 {i j k l m : Nat} {v w u y z : AV} : MG.wp (gTp 5 (gCo (gNm i) (gCo (gNm j) (gCo (gNm k) (gCo (gNm l) (gCo (gNm m) gNi))))) (.tup [v, w, u, y, z]) ρ G) D = D.nx (((((ρ.set i (some v)).set j (some w)).set k (some u)).set l (some y)).set m (some z)) G := propext Iff.rfl
theorem ldue_wp (h : ∀ f ∈ fs, FnW f) (hl : fs.length ≤ 100) (hq : ∀ G', Kp 0 G G' → QV (dueA (wrongB fs)) G') : (f_law_due [.ls (fs.map fnT)] G).wp QV E := by
  have esz := szl_eq
  unfold f_law_due b_law_due
  simp_arith []
  unfold k_law_due_2
  rw [wp_seq]
  refine wp_forK (k := (fs.map fnT, none)) (G0 := G ++ [.lst []]) (wk_ok rfl rfl) (fun j ρ G' => ∃ n a2 a3 a4 a5 a6 a7 a8 a9 a10, ρ = [some (.ls (fs.map fnT)), some (.ref n), a2, a3, a4, a5, a6, a7, a8, a9, a10] ∧ G.length ≤ n ∧ G'[n]? = some (.lst (((fs.take j).map Pl.Fn.name).map .str)) ∧ Kp 0 G G' ∧ wrongAt fs [] (fs.take j) = none)
    ⟨G.length, _, _, _, _, _, _, _, _, _, rfl, Nat.le_refl _, by simp, Kp.app _ _ _, rfl⟩ (fun _ _ _ _ _ => True.intro) (fun j v ρ G' hv ⟨n, a2, a3, a4, a5, a6, a7, a8, a9, a10, er, hn0, hn, k, hno⟩ => ?_) fun ρ G' ⟨n, a2, a3, a4, a5, a6, a7, a8, a9, a10, er, hn0, hn, k, hno⟩ => ?_
  · subst er
    have hv : (fs.map fnT)[j]? = some v := hv
    rw [List.getElem?_map] at hv
    obtain ⟨f, hf, rfl⟩ := Option.map_eq_some_iff.mp hv
    have hfm := List.mem_of_getElem? hf
    have hw := h f hfm
    have hsz := hw.sz
    have hI := hw.I
    have et : fs.take (j + 1) = fs.take j ++ [f] := by rw [List.take_succ, hf]; rfl
    have ea := wrongAt_app (f := f) (fs.take j) [] hno
    rw [← et, List.nil_append] at ea
    have bad : ∀ w, wrongFn fs ((fs.take j).map Pl.Fn.name) f = some w → ∀ G2, Kp 0 G G2 → QV (.tup [.str f.name, .str w]) G2 := fun w hW G2 k2 => by
      rw [hW] at ea
      have e9 : fs = fs.take (j + 1) ++ fs.drop (j + 1) := (List.take_append_drop _ _).symm
      have eA : wrongAt fs [] fs = some (f.name, w) := by
        rw (occs := .pos [2]) [e9]
        exact wrongAt_hit _ _ _ ea
      have eB : wrongB fs = some (f.name, w) := by unfold wrongB; rw [eA]
      rw [eB] at hq
      exact hq G2 k2
    unfold l_law_due_2
    simp_arith [wp_asgT]
    rw [fnT_def f]
    rw [wp_gT5]
    simp_arith []
    unfold k_law_due_4
    simp_arith []
    refine lisname_wp hw.name fun G1 k1 => ?_
    simp_arith []
    cases hN : isN f.name with
    | false =>
      simp_arith []
      exact bad ("name" : Str) (by unfold wrongFn; rw [hN, if_pos rfl]) _ (k.trans k1)
    | true =>
    simp_arith []
    have hn1 := k1.get0 hn
    rw [in_lstS hn1]
    cases hA : ((fs.take j).map Pl.Fn.name).any fun y => y == f.name with
    | true =>
      simp_arith []
      exact bad ("name" : Str) (by unfold wrongFn; rw [hN, if_neg (by decide), hA, if_pos rfl]) _ (k.trans k1)
    | false =>
    simp_arith []
    unfold k_law_due_6
    rw [wp_seq]
    have badJ : ∀ j p, f.params[j]? = some p → (!isN p || (f.params.take j).any fun y => y == p) = true → badParam f.params = true := fun j p hp hb => by
      unfold badParam
      rw [List.any_eq_true]
      exact ⟨j, List.mem_range.mpr (List.getElem?_eq_some_iff.mp hp).1, by rw [hp]; exact hb⟩
    have hwB : badParam f.params = true → wrongFn fs ((fs.take j).map Pl.Fn.name) f = some ("box" : Str) := fun hb => by
      unfold wrongFn; rw [hN, if_neg (by decide), hA, if_neg (by decide), if_pos hb]
    have hpl := hw.pl
    have hk : (mRg1 (mBlt fLen (mCons (mVar 4) mNil))) [some (.ls (fs.map fnT)), some (.ref n), some (.tup [.str f.name, .tup (Pl.strA f.params), .tup (Pl.bdA f.body), .int f.results, .bl f.more]), some (.str f.name), some (.tup (Pl.strA f.params)), some (.tup (Pl.bdA f.body)), some (.int f.results), some (.bl f.more), a8, a9, a10] G1 = .ok (rgA 0 (f.params.length : Int), none) G1 := rg1_ok (eq_of_wp (by
      simp_arith [len_T, strA_len]
      all_goals exact ⟨rfl, rfl⟩)) (by omega) (by omega)
    refine wp_forR0 (n := f.params.length) hk (fun i ρ G' => ∃ a8 a9 a10, ρ = [some (.ls (fs.map fnT)), some (.ref n), some (fnT f), some (.str f.name), some (.tup (Pl.strA f.params)), some (.tup (Pl.bdA f.body)), some (.int f.results), some (.bl f.more), a8, a9, a10] ∧ Kp 0 G1 G' ∧ ∀ i' p, i' < i → f.params[i']? = some p → (!isN p || (f.params.take i').any fun y => y == p) = false)
      ⟨_, _, _, rfl, Kp.refl _ _, fun _ _ z => absurd z (Nat.not_lt_zero _)⟩ (fun i ρ G' hi ⟨a8, a9, a10, er, k2, hok⟩ => ?_) fun ρ G' ⟨a8, a9, a10, er, k2, hok⟩ => ?_
    · subst er
      have hp : f.params[i]? = some (f.params[i]'hi) := List.getElem?_eq_getElem hi
      have hpm := List.getElem_mem hi
      generalize f.params[i] = p at hp hpm
      have ixp : ∀ (G : Hs) (Q : AV → Hs → Prop) (E : XQ), (fIx (.tup (Pl.strA f.params)) (.int (i : Nat)) G).wp Q E = Q (.str p) G := fun G Q E => wp_ixT (by omega) (by rw [strA_len]; omega) (by show (f.params.map AV.str)[((i : Nat) : Int).toNat]? = _; rw [List.getElem?_map, Int.toNat_natCast, hp]; rfl)
      simp only [List.set_cons_succ, List.set_cons_zero]
      unfold l_law_due_6
      simp_arith [ixp]
      refine lisname_wp (hw.ps p hpm) fun G3 k3 => ?_
      simp_arith []
      have kk : Kp 0 G G3 := ((k.trans k1).trans k2).trans k3
      cases hNp : isN p with
      | false =>
        simp_arith []
        exact bad ("box" : Str) (hwB (badJ i p hp (by rw [hNp]; rfl))) _ kk
      | true =>
        simp_arith [ixp, wp_fz]
        rw [sl_tup, fzQ_tup, cut_takeN (by rw [strA_len]; omega)]
        have e9 : (Pl.strA f.params).take i = (f.params.take i).map AV.str := List.map_take.symm
        rw [e9, in_tupS]
        cases hT : (f.params.take i).any fun y => y == p with
        | true =>
          simp_arith []
          exact bad ("box" : Str) (hwB (badJ i p hp (by rw [hT, Bool.or_true]))) _ kk
        | false =>
          simp_arith []
          refine ⟨_, _, _, rfl, k2.trans k3, fun i' p' hi' hp' => ?_⟩
          rcases Nat.lt_or_ge i' i with h | h
          · exact hok i' p' h hp'
          · have : i' = i := by omega
            subst this
            rw [hp] at hp'
            cases hp'
            rw [hNp, hT]
            rfl
    · subst er
      have hbF : badParam f.params = false := by
        unfold badParam
        rw [List.any_eq_false]
        intro i hi
        have hi := List.mem_range.mp hi
        have e : f.params[i]? = some (f.params[i]) := List.getElem?_eq_getElem hi
        rw [e]
        have := hok i _ hi e
        simp only [this]
        decide
      have hwF : wrongFn fs ((fs.take j).map Pl.Fn.name) f = firstW fs f (bdSts f.body) := by
        unfold wrongFn; rw [hN, if_neg (by decide), hA, if_neg (by decide), hbF, if_neg (by decide)]
      have kG' : Kp 0 G G' := (k.trans k1).trans k2
      have hn' := k2.get0 hn1
      unfold k_law_due_9
      dsimp only
      rw [wp_seq]
      have hft := (fn_fit hsz.ft).2.1
      obtain ⟨v0, G0, e0, q0, k0⟩ := (show ((mCall 1 1 0 gAll f_law_statements (mCons (mVar 5) mNil) mNil) [some (.ls (fs.map fnT)), some (.ref n), some (fnT f), some (.str f.name), some (.tup (Pl.strA f.params)), some (.tup (Pl.bdA f.body)), some (.int f.results), some (.bl f.more), a8, a9, a10] G').wp (fun v G0 => v = .ls ((bdSts f.body).map Pl.St.av) ∧ Kp 0 G' G0) noX from by
        simp_arith []
        exact lsts_wp 20 _ _ _ _ (by omega) hsz.sl fun G2 k2 => ⟨rfl, k2⟩).ex
      subst q0
      refine wp_forK (k := ((bdSts f.body).map Pl.St.av, none)) (wk_ok e0 rfl) (fun j ρ G2 => ∃ a9 a10, ρ = [some (.ls (fs.map fnT)), some (.ref n), some (fnT f), some (.str f.name), some (.tup (Pl.strA f.params)), some (.tup (Pl.bdA f.body)), some (.int f.results), some (.bl f.more), a8, a9, a10] ∧ Kp 0 G' G2 ∧ firstW fs f ((bdSts f.body).take j) = none)
        ⟨_, _, rfl, k0, rfl⟩ (fun _ _ _ _ _ => True.intro) (fun i v ρ G2 hv ⟨a9, a10, er, k3, hno2⟩ => ?_) fun ρ G2 ⟨a9, a10, er, k3, hno2⟩ => ?_
      · subst er
        obtain ⟨s, hs, rfl⟩ := Option.map_eq_some_iff.mp ((List.getElem?_map ..).symm.trans hv)
        have hm := List.mem_of_getElem? hs
        obtain ⟨n1, n2⟩ := fin_first hs hno2
        unfold l_law_due_9
        simp_arith []
        refine lword_wp (hI.all s hm) fun G3 k4 => ?_
        cases hW : wrongSt fs f s with
        | none =>
          unfold k_law_due_11
          simp_arith []
          exact ⟨_, _, rfl, k3.trans k4, by rw [n1, hW]⟩
        | some w =>
          unfold k_law_due_11 wdA
          have nn : ∀ {G : Hs} {Q : AV → Hs → Prop} {E : XQ}, (fNotN (.str w) .non G).wp Q E = Q (.bl true) G := propext Iff.rfl
          simp_arith [nn]
          exact bad w (hwF.trans (n2 w hW)) _ ((kG'.trans k3).trans k4)
      · subst er
        have hno2 : firstW fs f ((bdSts f.body).take ((bdSts f.body).map Pl.St.av).length) = none := hno2
        rw [List.length_map, List.take_length] at hno2
        have hn2 := k3.get0 hn'
        simp_arith [isL_L hn2, wp_appL hn2]
        refine ⟨by rw [List.length_map, List.length_map, List.length_take]; omega, n, _, _, _, _, _, _, _, _, _, rfl, hn0, ?_, (kG'.trans k3).setN hn0, ?_⟩
        · rw [Pl.set_self hn2, et, List.map_append, List.map_append]; rfl
        · rw [ea, hwF, hno2]
  · subst er
    have hno : wrongAt fs [] (fs.take (fs.map fnT).length) = none := hno
    rw [List.length_map, List.take_length] at hno
    have hq := hq _ k
    unfold wrongB at hq
    rw [hno] at hq
    unfold k_law_due_14
    simp_arith []
    have e : ∀ (G : Hs) (Q : AV → Hs → Prop) (E : XQ), (fEq (.ls (fs.map fnT)) (.ls []) G).wp Q E = Q (.bl fs.isEmpty) G := fun G Q E => by
      have e : eqB G (.ls (fs.map fnT)) (.ls []) = some fs.isEmpty := by
        have hh : ∀ v ∈ fs.map fnT, Da 11 v := fun v hv => by obtain ⟨f, hf, rfl⟩ := List.mem_map.mp hv; exact (h f hf).da
        obtain ⟨ds, hd⟩ := das_of hh
        show eqF G (.ls (fs.map fnT)) (.ls []) = _
        rw [eqF_da (daD_ls hd) (daD_ls (k := 11) .nil) (by omega) (by omega)]
        cases fs with
        | nil => cases hd; rfl
        | cons f r => cases hd; rfl
      unfold fEq
      rw [e]
      rfl
    rw [e]
    cases fs with
    | nil =>
      simp_arith [List.isEmpty_nil]
      exact hq
    | cons f r =>
      simp_arith [List.isEmpty_cons]
      unfold k_law_due_16
      rw [fnT_def f]
      simp_arith []
      cases hm : f.more with
      | false =>
        simp only [hm] at hq
        simp_arith []
        exact hq
      | true =>
        simp only [hm] at hq
        simp_arith []
        exact hq
end
end L_k13
namespace L_k13
open PySem L2 Vz
def fOf : AV → AV
  | .tup [a, b, c, d, e] => .iv "Function" Pl.fnN [a, b, c, d, e]
  | v => v
section
variable {QV : AV → Hs → Prop} {QB : Bool → Hs → Prop} {E : XQ} {G : Hs} {ρ : En} {D : SP} {b t s : Nat} {fs : List Pl.Fn} {f : Pl.Fn}
theorem fninit_wp {f : Pl.Fn} {n : Nat} (hn : G[n]? = some (.ins "Function" [])) (hq : ∀ G', G'[n]? = some (.ins "Function" [("name", .str f.name), ("params", .tup (Pl.strA f.params)), ("body", .tup (Pl.bdA f.body)), ("results", .int f.results), ("more", .bl f.more)]) → Pl.FrP (fun m => m = n) G G' → QV .non G') :
    (f_Function___init__ [.ref n, .str f.name, .tup (Pl.strA f.params), .tup (Pl.bdA f.body), .int f.results, .bl f.more] G).wp QV E := by
  unfold f_Function___init__ b_Function___init__
  simp_arith []
  rw [st_wp hn (in1 _) (by simp)]
  have n1 := Pl.set_self (o' := .ins "Function" (putFA "name" (.str f.name) [])) hn
  have f1 : Pl.FrP (fun m => m = n) G (G.set n (.ins "Function" (putFA "name" (.str f.name) []))) := Pl.FrP.refl.set rfl
  generalize G.set n (.ins "Function" (putFA "name" (.str f.name) [])) = G1 at n1 f1
  unfold k_Function___init___2
  simp_arith []
  rw [tuple_T]
  simp_arith []
  rw [st_wp n1 (in1 _) (by simp [putFA])]
  have n2 := Pl.set_self (o' := .ins "Function" (putFA "params" (.tup (Pl.strA f.params)) (putFA "name" (.str f.name) []))) n1
  have f2 : Pl.FrP (fun m => m = n) G (G1.set n (.ins "Function" (putFA "params" (.tup (Pl.strA f.params)) (putFA "name" (.str f.name) [])))) := f1.set rfl
  generalize G1.set n (.ins "Function" (putFA "params" (.tup (Pl.strA f.params)) (putFA "name" (.str f.name) []))) = G2 at n2 f2
  unfold k_Function___init___3
  simp_arith []
  rw [st_wp n2 (in1 _) (by simp [putFA, ofS_inj])]
  have n3 := Pl.set_self (o' := .ins "Function" (putFA "body" (.tup (Pl.bdA f.body)) (putFA "params" (.tup (Pl.strA f.params)) (putFA "name" (.str f.name) [])))) n2
  have f3 : Pl.FrP (fun m => m = n) G (G2.set n (.ins "Function" (putFA "body" (.tup (Pl.bdA f.body)) (putFA "params" (.tup (Pl.strA f.params)) (putFA "name" (.str f.name) []))))) := f2.set rfl
  generalize G2.set n (.ins "Function" (putFA "body" (.tup (Pl.bdA f.body)) (putFA "params" (.tup (Pl.strA f.params)) (putFA "name" (.str f.name) [])))) = G3 at n3 f3
  unfold k_Function___init___4
  simp_arith []
  rw [st_wp n3 (in1 _) (by simp [putFA, ofS_inj])]
  have n4 := Pl.set_self (o' := .ins "Function" (putFA "results" (.int f.results) (putFA "body" (.tup (Pl.bdA f.body)) (putFA "params" (.tup (Pl.strA f.params)) (putFA "name" (.str f.name) []))))) n3
  have f4 : Pl.FrP (fun m => m = n) G (G3.set n (.ins "Function" (putFA "results" (.int f.results) (putFA "body" (.tup (Pl.bdA f.body)) (putFA "params" (.tup (Pl.strA f.params)) (putFA "name" (.str f.name) [])))))) := f3.set rfl
  generalize G3.set n (.ins "Function" (putFA "results" (.int f.results) (putFA "body" (.tup (Pl.bdA f.body)) (putFA "params" (.tup (Pl.strA f.params)) (putFA "name" (.str f.name) []))))) = G4 at n4 f4
  rw [st_wp n4 (in1 _) (by simp [putFA, ofS_inj])]
  exact hq _ ((Pl.set_self n4).trans (by simp [putFA, ofS_inj])) (f4.set rfl)
theorem mk_fn {f : Pl.Fn} (hq : ∀ G', Kp 0 G G' → QV f.av G') : (f_Function___init__ [.ref G.length, .str f.name, .tup (Pl.strA f.params), .tup (Pl.bdA f.body), .int f.results, .bl f.more] (G ++ [AO.ins "Function" []])).wp (fun v G' => v = .non ∧ fzQ QV (.ref G.length) G') E := by
  have hnF : (G ++ [AO.ins "Function" []])[G.length]? = some (.ins "Function" []) := by simp
  refine fninit_wp (f := f) hnF fun G2 n2 f2 => ⟨rfl, ?_⟩
  rw [fzQ_ins n2]
  have k2 : Kp 0 G (G2.set G.length .gone) := ⟨by rw [List.length_set]; have := f2.le; simp at this; omega, fun m _ hm => by
    rw [Pl.set_other (by omega)]
    have := f2.at_ m (by omega) (by simp; omega)
    rw [this, List.getElem?_append_left hm]⟩
  exact hq _ k2
theorem made_wp {l : List Pl.Fn} (hl : l.length ≤ 100) (hq : ∀ G', Kp 0 G G' → QV (.ls (l.map Pl.Fn.av)) G') : (f_law_made [.ls (l.map fnT)] G).wp QV E := by
  have esz := szl_eq
  unfold f_law_made b_law_made
  simp_arith []
  have hk : (mWk (mVar 0)) [some (.ls (l.map fnT)), none, none, none, none, none] G = .ok (l.map fnT, none) G := wk_ok (v := .ls (l.map fnT)) (var_ok rfl) rfl
  refine wp_lcM hk (Kp.refl _ _) fOf (by rw [List.length_map]; omega) (fun v hv G1 k1 => ?_) fun G1 k1 => ?_
  · obtain ⟨f, _, rfl⟩ := List.mem_map.mp hv
    refine ⟨_, rfl, ?_⟩
    simp_arith []
    rw [wp_fz]
    simp_arith [gP, List.filterMap_cons, List.filterMap_nil]
    exact mk_fn fun G2 k2 => ⟨rfl, k2⟩
  · have e : (l.map fnT).map fOf = l.map Pl.Fn.av := by rw [List.map_map]; rfl
    rw [e]
    exact hq _ k1
theorem xfd_at {cs : List Str} {f c : Str} {ns : List Str} {xs : List AV} {v : AV} (h : c ∈ cs) (e : (ns.zip xs).lookup f = some v) : (fXfd cs f (.xv c ns xs) G).wp QV E = QV v G := by
  simp only [fXfd, h, if_true, e, wp_ok]
theorem tupLs {xs : List AV} : (fTuple [.ls xs] G).wp QV E = QV (.tup xs) G := by first | exact propext Iff.rfl | exact tuple_ls
theorem lrefused_wp (h : SzB fs) (hq : ∀ G', Kp 0 G G' → QV (dueA (wrongB fs)) G') : (f_law_refused [.ls (fs.map Pl.Fn.av)] G).wp QV E := by
  unfold f_law_refused b_law_refused
  simp_arith []
  unfold k_law_refused_2
  rw [wp_seq, wp_try]
  unfold t_law_refused_2
  rw [wpx_drop, wp_fz]
  simp_arith [gP, List.filterMap_cons, List.filterMap_nil]
  have hnB : (G ++ [AO.ins "Book" []])[G.length]? = some (.ins "Book" []) := by simp
  refine bookG_wp (fun _ _ => tupLs) h hnB fun G4 n4 f4 => ?_
  have k4 : Kp 0 G G4 := ⟨by have := f4.le; simp at this; omega, fun m _ hm => by
    have := f4.at_ m (by omega) (by simp; omega)
    rw [this, List.getElem?_append_left hm]⟩
  cases hW : wrongB fs with
  | none =>
    rw [hW] at hq
    refine ⟨rfl, ?_⟩
    rw [fzQ_ins n4]
    simp_arith []
    exact hq _ (k4.setN (Nat.le_refl _))
  | some x =>
    obtain ⟨nm, wd⟩ := x
    rw [hW] at hq
    show catchA _ _ _ _ _ _ |>.wp _
    rw [catch_yes (by decide +kernel), wp_outH]
    simp_arith [inA, unA]
    rw [xfd_at (v := .str nm) (in1 _) (by simp [mkX, List.lookup, beqS])]
    simp_arith []
    rw [xfd_at (v := .str wd) (in1 _) (by simp [mkX, List.lookup, beqS])]
    simp_arith []
    exact hq _ k4
theorem lkind_wp (h : SzB fs) (hq : ∀ G', Kp 0 G G' → QV (.bl (wrongB fs).isSome) G') : (f_law_kind [.ls (fs.map Pl.Fn.av)] G).wp QV E := by
  unfold f_law_kind b_law_kind
  simp_arith []
  unfold k_law_kind_2
  rw [wp_seq, wp_try]
  unfold t_law_kind_2
  rw [wpx_drop, wp_fz]
  simp_arith [gP, List.filterMap_cons, List.filterMap_nil]
  have hnB : (G ++ [AO.ins "Book" []])[G.length]? = some (.ins "Book" []) := by simp
  refine bookG_wp (fun _ _ => tupLs) h hnB fun G4 n4 f4 => ?_
  have k4 : Kp 0 G G4 := ⟨by have := f4.le; simp at this; omega, fun m _ hm => by
    have := f4.at_ m (by omega) (by simp; omega)
    rw [this, List.getElem?_append_left hm]⟩
  cases hW : wrongB fs with
  | none =>
    rw [hW] at hq
    refine ⟨rfl, ?_⟩
    rw [fzQ_ins n4]
    simp_arith []
    exact hq _ (k4.setN (Nat.le_refl _))
  | some x =>
    obtain ⟨nm, wd⟩ := x
    rw [hW] at hq
    show catchA _ _ _ _ _ _ |>.wp _
    rw [catch_yes (by decide +kernel), wp_outH]
    simp_arith [inA, unA]
    rw [isi_wp (ty := .x "NoBook") (r := true) rfl rfl]
    simp_arith []
    rw [isi_wp (ty := .x "NoBook") (r := true) rfl rfl]
    simp_arith []
    rw [isi_wp (ty := .x "NoBook") (r := false) rfl rfl]
    simp_arith []
    exact hq _ k4
end
end L_k13
namespace L_k13
open PySem L2 Vz
def BADS : List Str := ["", "Box", "ninesigns", "a1", "a b"]
theorem bads_ok : ∀ x ∈ BADS, nmS x := by unfold nmS; decide +kernel
theorem res_ok : ∀ x ∈ RES, nmS x := by unfold nmS; decide +kernel
theorem cut_any {ys : List AV} {j : Int} : ∃ k, cutA ys none (some j) = ys.take k := by
  have e2 : HT.sIx ys.length 0 none = 0 := rfl
  unfold cutA
  rw [e2, List.drop_zero]
  exact ⟨_, rfl⟩
section
variable {QV : AV → Hs → Prop} {QB : Bool → Hs → Prop} {E : XQ} {G : Hs} {ρ : En} {D : SP} {b t s : Nat} {fs : List Pl.Fn} {f : Pl.Fn}
theorem strsT_ne {xs : List Str} (h : ∀ x ∈ xs, (PyData.str x).canLay0 = true) : (fNe (.tup (xs.map .str)) (.tup []) G).wp QV E = QV (.bl (!xs.isEmpty)) G := by
  have e : eqB G (.tup (xs.map .str)) (.tup []) = some xs.isEmpty := by
    show eqF G (.tup (xs.map .str)) (.tup []) = _
    have hh : ∀ v ∈ xs.map AV.str, Da 1 v := fun v hv => by obtain ⟨x, hx, rfl⟩ := List.mem_map.mp hv; exact da_str (h x hx)
    obtain ⟨ds, hd⟩ := das_of hh
    rw [eqF_da (daD_tup hd) (daD_tup (k := 1) .nil) (by omega) (by omega)]
    cases xs with
    | nil => cases hd; rfl
    | cons x xs => cases hd; rfl
  unfold fNe
  rw [e]
  rfl
theorem fnTs_eq (h : ∀ f ∈ fs, FnW f) : (fEq (.ls (fs.map fnT)) (.ls []) G).wp QV E = QV (.bl fs.isEmpty) G := by
  have e : eqB G (.ls (fs.map fnT)) (.ls []) = some fs.isEmpty := by
    have hh : ∀ v ∈ fs.map fnT, Da 11 v := fun v hv => by obtain ⟨f, hf, rfl⟩ := List.mem_map.mp hv; exact (h f hf).da
    obtain ⟨ds, hd⟩ := das_of hh
    show eqF G (.ls (fs.map fnT)) (.ls []) = _
    rw [eqF_da (daD_ls hd) (daD_ls (k := 11) .nil) (by omega) (by omega)]
    cases fs with
    | nil => cases hd; rfl
    | cons f r => cases hd; rfl
  unfold fEq
  rw [e]
  rfl
theorem badname_wp {names : List Str} (hd : Dr b t s G) (ht : t + 3 < 2 ^ 60) (hn : ∀ x ∈ names, nmS x) (hl : names.length ≤ 100) (hq : ∀ w G', nmS w → Dr b (t + 3) s G' → Kp b G G' → QV (.str w) G') : (f_law_bad_name [.ref s, .ls (names.map .str)] G).wp QV E := by
  have esz := szl_eq
  unfold f_law_bad_name b_law_bad_name
  simp_arith [wp_addS]
  refine ⟨by decide +kernel, ?_⟩
  refine ⟨by rw [List.length_map]; show 5 + _ ≤ szl; omega, ?_⟩
  have e : ([AV.str "", AV.str "Box", AV.str (Str.ofString "nine" ++ Str.ofString "signs"), AV.str "a1", AV.str "a b"] ++ names.map AV.str) = (BADS ++ names).map .str := by
    rw [List.map_append]
    have : (Str.ofString "nine" ++ Str.ofString "signs") = Str.ofString "ninesigns" := by decide +kernel
    rw [this]
    rfl
  unfold k_law_bad_name_2
  show ((mRet _ [some (.ref s), some (.ls (names.map .str)), some (.ls ([AV.str "", AV.str "Box", AV.str (Str.ofString "nine" ++ Str.ofString "signs"), AV.str "a1", AV.str "a b"] ++ names.map AV.str))] G).wp _ : Prop)
  rw [e]
  have hB : ∀ x ∈ BADS ++ names, nmS x := fun x hx => (List.mem_append.mp hx).elim (bads_ok x) (hn x)
  simp_arith [take_eq]
  refine pickI_wp hd (by omega) (by rw [List.length_map, List.length_append]; show 0 < 5 + _; omega) (by rw [List.length_map, List.length_append]; show 5 + _ < 1000; omega) fun v G1 hv d1 k1 => ?_
  obtain ⟨w1, hw1, rfl⟩ := List.mem_map.mp hv
  simp_arith [take_eq]
  refine reserved_wp ?_
  refine pickI_wp d1 (by omega) (by decide) (by decide) fun v G2 hv d2 k2 => ?_
  obtain ⟨w2, hw2, rfl⟩ := List.mem_map.mp hv
  simp_arith [take_eq]
  refine take_wp d2 (by decide) (by decide) (by omega) fun r G3 r0 r1 d3 k3 => ?_
  have k := (k1.trans k2).trans k3
  rcases (show r = 0 ∨ r = 1 by omega) with q | q <;> subst q
  · simp_arith []
    exact hq _ _ (hB w1 hw1) d3 k
  · simp_arith []
    exact hq _ _ (res_ok w2 hw2) d3 k
theorem lbent_wp (hd : Dr b t s G) (ht : t + 10 < 2 ^ 60) (h : ∀ f ∈ fs, FnW f) (hl : fs.length ≤ 50) (hq : ∀ (fs' : List Pl.Fn) G', (∀ f ∈ fs', FnW f) → fs'.length ≤ fs.length + 1 → Dr b (t + 10) s G' → Kp b G G' → QV (.ls (fs'.map fnT)) G') : (f_law_bent [.ref s, .ls (fs.map fnT)] G).wp QV E := by
  have esz := szl_eq
  unfold f_law_bent b_law_bent
  simp_arith [take_eq]
  refine take_wp hd (by decide) (by decide) (by omega) fun r G1 a1 b1 d1 k1 => ?_
  unfold k_law_bent_2
  simp_arith []
  rw [fnTs_eq h]
  cases hfs : fs.isEmpty with
  | true =>
    simp_arith []
    exact hq fs _ h (by omega) (d1.mono (by omega)) k1
  | false =>
  simp_arith []
  by_cases c7 : r = 7
  · rw [decide_eq_true c7]
    simp_arith []
    exact hq fs _ h (by omega) (d1.mono (by omega)) k1
  rw [decide_eq_false c7]
  simp_arith []
  have hlen : 0 < fs.length := by
    cases fs with
    | nil => cases hfs
    | cons f r => simp
  unfold k_law_bent_4
  simp_arith [take_eq]
  rw [List.length_map]
  refine take_wp d1 (by omega) (by omega) (by omega) fun i G2 a2 b2 d2 k2 => ?_
  obtain ⟨i, rfl⟩ := Int.eq_ofNat_of_zero_le a2
  have hi : i < fs.length := by omega
  have hf : fs[i]? = some fs[i] := List.getElem?_eq_getElem hi
  have hfw := h _ (List.getElem_mem hi)
  generalize fs[i] = f at hf hfw
  have ixi : ∀ (G : Hs) (Q : AV → Hs → Prop) (E : XQ), (fIx (.ls (fs.map fnT)) (.int (i : Nat)) G).wp Q E = Q (fnT f) G := fun G Q E => ix_ls (by omega) (by rw [List.length_map]; omega) (by rw [List.getElem?_map, Int.toNat_natCast, hf]; rfl)
  unfold k_law_bent_5
  simp_arith [wp_asgT]
  rw [ixi, fnT_def f, wp_gT5]
  simp_arith []
  have k12 := k1.trans k2
  have fin : ∀ (f' : Pl.Fn) (G3 : Hs) (D' : SP) (a9 a10 : Option AV), (∀ v G, D'.rt v G = QV v G) → FnW f' → Dr b (t + 10) s G3 → Kp b G G3 → (k_law_bent_21 [some (.ref s), some (.ls (fs.map fnT)), some (.int r), some (.int (i : Nat)), some (.str f'.name), some (.tup (Pl.strA f'.params)), some (.tup (Pl.bdA f'.body)), some (.int f'.results), some (.bl f'.more), a9, a10] G3).wp D' := fun f' G3 D' a9 a10 hD hw d3 k3 => by
    unfold k_law_bent_21
    simp_arith [wp_fz]
    rw [slI, cut_to]
    simp_arith [wp_fz]
    refine ⟨by rw [← List.map_take, List.length_map, List.length_take]; show _ + 1 ≤ szl; omega, ?_⟩
    rw [slI, show (((i : Nat) : Int) + 1) = ((i + 1 : Nat) : Int) by omega, cut_fromG]
    simp_arith []
    refine ⟨by rw [← List.map_take, ← List.map_drop, List.length_append, List.length_map, List.length_map, List.length_take, List.length_drop]; show _ + 1 + _ ≤ szl; omega, ?_⟩
    have e : (fs.map fnT).take i ++ [AV.tup [.str f'.name, .tup (Pl.strA f'.params), .tup (Pl.bdA f'.body), .int f'.results, .bl f'.more]] ++ (fs.map fnT).drop (i + 1) = (fs.take i ++ [f'] ++ fs.drop (i + 1)).map fnT := by
      rw [List.map_append, List.map_append, List.map_take, List.map_drop]; rfl
    rw [e, hD]
    refine hq _ _ (fun x hx => ?_) (by simp only [List.length_append, List.length_take, List.length_drop, List.length_cons, List.length_nil]; omega) (d3.app.app) ((k3.trans (Kp.app b _ _)).trans (Kp.app b _ _))
    rcases List.mem_append.mp hx with hx | hx
    · rcases List.mem_append.mp hx with hx | hx
      · exact h x (List.mem_of_mem_take hx)
      · rw [List.mem_singleton.mp hx]; exact hw
    · exact h x (List.mem_of_mem_drop hx)
  unfold k_law_bent_6
  simp_arith []
  by_cases c0 : r = 0
  · rw [decide_eq_true c0]
    simp_arith []
    refine wp_lcM (vs := fs.map fnT) (G0 := G2) (wk_ok rfl rfl) (Kp.refl _ _) whoA (by rw [List.length_map]; omega) (fun v hv G3 k3 => ?_) fun G3 k3 => ?_
    · obtain ⟨x, _, rfl⟩ := List.mem_map.mp hv
      refine ⟨_, rfl, ?_⟩
      rw [fnT_def x]
      simp_arith []
      exact ⟨rfl, Kp.refl _ _⟩
    have e : (fs.map fnT).map whoA = (fs.map Pl.Fn.name).map .str := by
      rw [List.map_map, List.map_map]; rfl
    rw [e]
    simp_arith []
    refine badname_wp (s := s) (b := b) (t := t + 2) (d2.kp k3) (by omega) (fun x hx => by obtain ⟨y, hy, rfl⟩ := List.mem_map.mp hx; exact (h y hy).name) (by rw [List.length_map]; omega) fun w G4 hw d4 k4 => ?_
    simp_arith []
    exact fin { f with name := w } G4 _ _ _ (fun _ _ => rfl) ⟨hw, hfw.pl, hfw.ps, hfw.res, hfw.bl, hfw.bd⟩ (d4.mono (by omega)) ((k12.trans k3.up).trans k4)
  rw [decide_eq_false c0]
  simp_arith []
  have add1 : ∀ (G3 : Hs), G3 = G2 → (fs.map fnT).length + 1 ≤ szl ∧ QV (.ls (fs.map fnT ++ [fnT f])) G3 := fun G3 e => by
    subst e
    refine ⟨by rw [List.length_map]; omega, ?_⟩
    have e : fs.map fnT ++ [fnT f] = (fs ++ [f]).map fnT := by rw [List.map_append]; rfl
    rw [e]
    refine hq _ _ (fun x hx => ?_) (by simp) (d2.mono (by omega)) k12
    rcases List.mem_append.mp hx with hx | hx
    · exact h x hx
    · rw [List.mem_singleton.mp hx]; exact hfw
  by_cases c1 : r = 1
  · subst c1
    simp_arith []
    rw [show Pl.strA f.params = f.params.map AV.str from rfl, strsT_ne fun x hx => (hfw.ps x hx).1]
    simp_arith []
    cases hgp : f.params.isEmpty with
    | true =>
      simp_arith []
      rw [ixi]
      exact add1 G2 rfl
    | false =>
    simp_arith [len_T, take_eq]
    have hp0 : 0 < f.params.length := by
      cases hp : f.params with
      | nil => rw [hp] at hgp; cases hgp
      | cons x r => simp
    have hpl := hfw.pl
    rw [List.length_map]
    refine take_wp d2 (by omega) (by omega) (by omega) fun p G3 a3 b3 d3 k3 => ?_
    obtain ⟨p, rfl⟩ := Int.eq_ofNat_of_zero_le a3
    have hp : p < f.params.length := by omega
    unfold k_law_bent_10
    simp_arith [wp_fz]
    rw [sl_tup, fzQ_tup, cut_to]
    simp_arith [wp_fz]
    rw [list_tup]
    refine badname_wp d3 (by omega) hfw.ps (by omega) fun w G4 hw d4 k4 => ?_
    simp_arith []
    rw [add_TT (by rw [List.length_take]; show _ + 1 ≤ szl; omega)]
    simp_arith [wp_fz]
    rw [sl_tup, fzQ_tup, show (((p : Nat) : Int) + 1) = ((p + 1 : Nat) : Int) by omega, cut_fromG]
    rw [add_TT (by rw [List.length_append, List.length_take, List.length_drop, List.length_map]; show _ + 1 + _ ≤ szl; omega)]
    simp_arith []
    have e : (f.params.map AV.str).take p ++ [AV.str w] ++ (f.params.map AV.str).drop (p + 1) = Pl.strA (f.params.take p ++ [w] ++ f.params.drop (p + 1)) := by
      unfold Pl.strA
      rw [List.map_append, List.map_append, List.map_take, List.map_drop]; rfl
    rw [e]
    refine fin { f with params := f.params.take p ++ [w] ++ f.params.drop (p + 1) } G4 _ _ _ (fun _ _ => rfl) ⟨hfw.name, ?_, fun x hx => ?_, hfw.res, hfw.bl, hfw.bd⟩ (d4.mono (by omega)) ((k12.trans k3).trans k4)
    · simp only [List.length_append, List.length_take, List.length_drop, List.length_cons, List.length_nil]; omega
    · rcases List.mem_append.mp hx with hx | hx
      · rcases List.mem_append.mp hx with hx | hx
        · exact hfw.ps x (List.mem_of_mem_take hx)
        · rw [List.mem_singleton.mp hx]; exact hw
      · exact hfw.ps x (List.mem_of_mem_drop hx)
  rw [decide_eq_false c1]
  simp_arith []
  by_cases c2 : r = 2
  · rw [decide_eq_true c2]
    simp_arith [take_eq]
    refine take_wp d2 (by decide) (by decide) (by omega) fun g G3 a3 b3 d3 k3 => ?_
    obtain ⟨g, rfl⟩ := Int.eq_ofNat_of_zero_le a3
    simp_arith []
    exact fin { f with results := g } G3 _ _ _ (fun _ _ => rfl) ⟨hfw.name, hfw.pl, hfw.ps, by show g ≤ 3; omega, hfw.bl, hfw.bd⟩ (d3.mono (by omega)) (k12.trans k3)
  rw [decide_eq_false c2]
  simp_arith []
  by_cases c3 : r = 3
  · rw [decide_eq_true c3]
    simp_arith []
    exact fin { f with more := !f.more } G2 _ _ _ (fun _ _ => rfl) ⟨hfw.name, hfw.pl, hfw.ps, hfw.res, hfw.bl, hfw.bd⟩ (d2.mono (by omega)) k12
  rw [decide_eq_false c3]
  simp_arith []
  by_cases c4 : r = 4
  · rw [decide_eq_true c4]
    have hneg : ∀ (G : Hs) (Q : AV → Hs → Prop) (E : XQ), (fNeg (.int 1) G).wp Q E = Q (.int (-1)) G := fun _ _ _ => propext Iff.rfl
    simp_arith [wp_fz, hneg]
    rw [sl_tup, fzQ_tup]
    obtain ⟨q, hq4⟩ := cut_any (ys := Pl.strA f.params) (j := -1)
    rw [hq4, show (Pl.strA f.params).take q = Pl.strA (f.params.take q) from List.map_take.symm]
    refine fin { f with params := f.params.take q } G2 _ _ _ (fun _ _ => rfl) ⟨hfw.name, ?_, fun x hx => hfw.ps x (List.mem_of_mem_take hx), hfw.res, hfw.bl, hfw.bd⟩ (d2.mono (by omega)) k12
    have := hfw.pl
    show (f.params.take q).length ≤ 4
    rw [List.length_take]; omega
  rw [decide_eq_false c4]
  simp_arith []
  by_cases c5 : r = 5
  · rw [decide_eq_true c5]
    simp_arith [wp_fz]
    rw [slI, cut_to]
    simp_arith [wp_fz]
    rw [slI, show (((i : Nat) : Int) + 1) = ((i + 1 : Nat) : Int) by omega, cut_fromG]
    simp_arith []
    refine ⟨by rw [← List.map_take, ← List.map_drop, List.length_map, List.length_map, List.length_take, List.length_drop]; omega, ?_⟩
    have e : (fs.map fnT).take i ++ (fs.map fnT).drop (i + 1) = (fs.take i ++ fs.drop (i + 1)).map fnT := by
      rw [List.map_append, List.map_take, List.map_drop]
    rw [e]
    refine hq _ _ (fun x hx => ?_) (by simp only [List.length_append, List.length_take, List.length_drop]; omega) ((d2.app.app).mono (by omega)) ((k12.trans (Kp.app b _ _)).trans (Kp.app b _ _))
    rcases List.mem_append.mp hx with hx | hx
    · exact h x (List.mem_of_mem_take hx)
    · exact h x (List.mem_of_mem_drop hx)
  rw [decide_eq_false c5]
  simp_arith []
  rw [ixi]
  exact add1 G2 rfl
end
end L_k13
namespace L_k13
open PySem L2 Vz
abbrev canS (w : Str) : Prop := (PyData.str w).canLay0 = true
theorem can_wd : ∀ w ∈ (["name", "box", "call", "ref", "return", "many", "first", ""] : List Str), canS w := by decide +kernel
theorem wrongSt_can {fs : List Pl.Fn} {f : Pl.Fn} {s : Pl.St} {w : Str} (h : wrongSt fs f s = some w) : canS w := by
  unfold wrongSt at h
  split at h
  · cases h; exact can_wd _ (by simp)
  split at h
  · cases h; exact can_wd _ (by simp)
  split at h
  · cases h; exact can_wd _ (by simp)
  split at h
  · cases h; exact can_wd _ (by simp)
  split at h
  · cases h; exact can_wd _ (by simp)
  · cases h
theorem firstW_can {fs : List Pl.Fn} {f : Pl.Fn} {w : Str} : ∀ l : List Pl.St, firstW fs f l = some w → canS w
  | [], h => nomatch h
  | s :: r, h => by
    simp only [firstW] at h
    cases q : wrongSt fs f s with
    | some x => rw [q] at h; cases h; exact wrongSt_can q
    | none => rw [q] at h; exact firstW_can r h
theorem wrongFn_can {fs : List Pl.Fn} {a : List Str} {f : Pl.Fn} {w : Str} (h : wrongFn fs a f = some w) : canS w := by
  unfold wrongFn at h
  split at h
  · cases h; exact can_wd _ (by simp)
  split at h
  · cases h; exact can_wd _ (by simp)
  split at h
  · cases h; exact can_wd _ (by simp)
  · exact firstW_can _ h
theorem wrongAt_can {fs : List Pl.Fn} {x : Str × Str} : ∀ (l : List Pl.Fn) (a : List Str), (∀ f ∈ l, nmS f.name) → wrongAt fs a l = some x → canS x.1 ∧ canS x.2
  | [], _, _, h => nomatch h
  | f :: r, a, hn, h => by
    simp only [wrongAt] at h
    cases q : wrongFn fs a f with
    | some w => rw [q] at h; cases h; exact ⟨(hn f (List.mem_cons_self ..)).1, wrongFn_can q⟩
    | none => rw [q] at h; exact wrongAt_can r _ (fun f hf => hn f (List.mem_cons_of_mem _ hf)) h
theorem wrongB_can {fs : List Pl.Fn} {x : Str × Str} (hn : ∀ f ∈ fs, nmS f.name) (h : wrongB fs = some x) : canS x.1 ∧ canS x.2 := by
  unfold wrongB at h
  cases q : wrongAt fs [] fs with
  | some y => rw [q] at h; cases h; exact wrongAt_can _ _ hn q
  | none =>
    rw [q] at h
    cases fs with
    | nil => cases h; exact ⟨can_wd _ (by simp), can_wd _ (by simp)⟩
    | cons f r =>
      simp only at h
      split at h
      · cases h; exact ⟨(hn f (List.mem_cons_self ..)).1, can_wd _ (by simp)⟩
      · cases h
theorem DrawnOk.fnW {fs : List Pl.Fn} {hs : List Hd} {bx : List Str} (h : DrawnOk fs hs bx) : ∀ f ∈ fs, FnW f := fun f hm => by
  obtain ⟨i, hi, e⟩ := List.mem_iff_getElem.mp hm
  have hmm := h.m
  have e1 : fs[i]? = some f := by rw [List.getElem?_eq_getElem hi, e]
  have e2 : hs[i]? = some (hs[i]'(by omega)) := List.getElem?_eq_getElem _
  have hf := h.at_ i f _ e1 e2
  have ho := h.hk.ok _ (List.getElem_mem (show i < hs.length by omega))
  obtain ⟨l, hb⟩ := hf.bd
  exact ⟨by rw [hf.name]; exact nmS_N ho.who, by rw [hf.params]; exact ho.len, fun p hp => nmS_N (h.bN p (ho.gets p (by rw [← hf.params]; exact hp))), by rw [hf.results]; exact ho.gives, hf.len, ⟨_, hb⟩⟩
section
variable {QV : AV → Hs → Prop} {QB : Bool → Hs → Prop} {E : XQ} {G : Hs} {ρ : En} {D : SP} {b t s : Nat} {fs : List Pl.Fn} {f : Pl.Fn}
theorem end_wp {z0 z1 z2 z3 : Option AV} {a5 : Option AV} (hD : ∀ v G, D.rt v G = (v = .bl true)) (h : ∀ f ∈ fs, FnW f) (hl : fs.length ≤ 50) : (k_law_9 [z0, z1, z2, z3, some (.ls (fs.map fnT)), a5, none, none] G).wp D := by
  have hsz : SzB fs := ⟨by omega, fun f hf => (h f hf).sz⟩
  unfold k_law_9
  simp_arith []
  refine ldue_wp h (by omega) fun G1 k1 => ?_
  unfold k_law_10
  simp_arith []
  refine made_wp (by omega) fun G2 k2 => ?_
  unfold k_law_11
  simp_arith []
  refine lrefused_wp hsz fun G3 k3 => ?_
  have hda : Da 2 (dueA (wrongB fs)) := by
    cases q : wrongB fs with
    | none => exact da_non.mono (by decide)
    | some x =>
      obtain ⟨a, c⟩ := x
      obtain ⟨c1, c2⟩ := wrongB_can (fun f hf => (h f hf).name) q
      refine da_tup (k := 1) fun v hv => ?_
      simp only [List.mem_cons, List.not_mem_nil, or_false] at hv
      rcases hv with rfl | rfl
      · exact da_str c1
      · exact da_str c2
  rw [ne_refl hda (by decide)]
  simp_arith []
  unfold k_law_13
  cases q : wrongB fs with
  | none =>
    simp_arith []
    rw [hD]
  | some x =>
    obtain ⟨a, c⟩ := x
    simp_arith [isN_tup]
    refine lkind_wp hsz fun G4 k4 => ?_
    rw [q, hD]
    rfl
end
theorem law_pure : ∀ ns : List Int, ns.length ≤ 63 → ∃ G, f_law [scriptAV ns] [] = .ok (.bl true) G := fun ns hn => by
  have main : (f_law [scriptAV ns] []).wp (fun v _ => v = .bl true) noX := by
    unfold f_law b_law
    simp_arith [begun_eq]
    refine begun_wp (by decide) (by decide) hn fun s G1 h1 k1 => ?_
    simp_arith []
    generalize hb : G1.length = b at h1
    have tail : ∀ (od : Nat) (G2 : Hs), od ≤ 200 → Dr b 1 s G2 → (k_law_3 [some (scriptAV ns), some (.ref s), some (.int (od : Nat)), none, none, none, none, none] G2).wp { nx := fun _ _ => AV.non = AV.bl true, rt := fun v _ => v = .bl true, bk := fun _ _ => False, ct := fun _ _ => False, ex := noX } := fun od G2 hod d2 => by
      unfold k_law_3
      simp_arith [take_eq]
      refine take_wp d2 (by decide) (by decide) (by omega) fun r1 G3 a3 b3 d3 k3 => ?_
      simp_arith [take_eq]
      refine take_wp d3 (by decide) (by decide) (by omega) fun r2 G4 a4 b4 d4 k4 => ?_
      simp_arith []
      refine ⟨mul_room (by omega) (by omega), ?_⟩
      obtain ⟨m, hm, hm2⟩ : ∃ m : Nat, r1 * r2 = (m : Nat) ∧ m ≤ 2 := by
        rcases (show r1 = 0 ∨ r1 = 1 by omega) with e | e <;> subst e
        · exact ⟨0, by omega, by omega⟩
        · exact ⟨r2.toNat, by omega, by omega⟩
      rw [hm]
      unfold k_law_4
      simp_arith []
      refine drawn_wp hod d4 (by decide) fun fs hs bx G5 ok d5 k5 => ?_
      have hw := ok.fnW
      have hl : fs.length ≤ 4 := by rw [ok.m]; exact ok.hk.l1
      unfold k_law_5
      simp_arith [take_eq]
      refine take_wp d5 (by decide) (by decide) (by omega) fun r6 G6 a6 b6 d6 k6 => ?_
      have go : ∀ (fs : List Pl.Fn) (G6 : Hs) (t : Nat), t ≤ 5000000 → (∀ f ∈ fs, FnW f) → fs.length ≤ 4 → Dr b t s G6 → (k_law_7 [some (scriptAV ns), some (.ref s), some (.int (od : Nat)), some (.int (m : Nat)), some (.ls (fs.map fnT)), none, none, none] G6).wp { nx := fun _ _ => AV.non = AV.bl true, rt := fun v _ => v = .bl true, bk := fun _ _ => False, ct := fun _ _ => False, ex := noX } := fun fs G6 t ht hw hl d6 => by
        unfold k_law_7
        rw [wp_seq]
        have hk : (mRg1 (mVar 3)) [some (scriptAV ns), some (.ref s), some (.int (od : Nat)), some (.int (m : Nat)), some (.ls (fs.map fnT)), none, none, none] G6 = .ok (rgA 0 (m : Int), none) G6 := rg1_ok (var_ok rfl) (by omega) (by omega)
        refine wp_forR0 (n := m) hk (fun j ρ G' => ∃ (fs : List Pl.Fn) (a5 : Option AV), ρ = [some (scriptAV ns), some (.ref s), some (.int (od : Nat)), some (.int (m : Nat)), some (.ls (fs.map fnT)), a5, none, none] ∧ (∀ f ∈ fs, FnW f) ∧ fs.length ≤ 4 + j ∧ Dr b (t + 10 * j) s G')
          ⟨fs, _, rfl, hw, by omega, d6.mono (by omega)⟩ (fun j ρ G' hj ⟨fs, a5, er, hw, hl, d⟩ => ?_) fun ρ G' ⟨fs, a5, er, hw, hl, d⟩ => ?_
        · subst er
          simp only [List.set_cons_succ, List.set_cons_zero]
          unfold l_law_7
          simp_arith []
          refine lbent_wp d (by omega) hw (by omega) fun fs' G2 hw' hl' d' k' => ?_
          simp_arith []
          exact ⟨fs', _, rfl, hw', by omega, d'.mono (by omega)⟩
        · subst er
          exact end_wp (fun _ _ => rfl) hw (by omega)
      simp_arith []
      by_cases c : r6 = 0
      · rw [decide_eq_true c]
        simp_arith []
        exact go [] G6 _ (by omega) (fun _ h => nomatch h) (by simp) d6
      · rw [decide_eq_false c]
        simp_arith []
        exact go fs G6 _ (by omega) hw hl d6
    unfold k_law_2
    simp_arith [take_eq]
    refine take_wp h1 (by decide) (by decide) (by omega) fun r G2 a2 b2 d2 k2 => ?_
    rcases (show r = 0 ∨ r = 1 ∨ r = 2 ∨ r = 3 by omega) with q | q | q | q <;> subst q
    · simp_arith []
      exact tail 0 G2 (by decide) d2
    · simp_arith []
      exact tail 15 G2 (by decide) d2
    · simp_arith []
      exact tail 60 G2 (by decide) d2
    · simp_arith []
      exact tail 200 G2 (by decide) d2
  obtain ⟨v, G, e, rfl⟩ := main.ex
  exact ⟨G, e⟩
end L_k13
namespace L_k13
open PySem L2 Vz
theorem tells {w : World} {mg : Str → Option Value} {a : Addr} {hp : Heap} (Y : hk.says w hp) (G : hp.Ns mainGlobals mg) (ha : mg "law" = some (.ref a)) (pure_ : ∀ ns : List Int, ns.length ≤ 63 → ∃ G, f_law [scriptAV ns] [] = .ok (.bl true) G) :
    ∃ (K : PySem.W.Frag) (fd : FuncData) (b : List AV → Hs → R AV), K.In hp ∧ (∀ (s : Shared) (u : Value), BindsTo s fd ⟨[u], []⟩ [("_law_script", u)]) ∧
      (∀ ns : List Int, ns.length ≤ 63 → ∃ G, b [scriptAV ns] [] = .ok (.bl true) G) ∧ ∀ base : Heap, K.In base → base.Ns mainGlobals mg → FnG PySem.Challenge.pw_callvows_k13_books_refused w K mg base (CX PySem.Challenge.pw_callvows_k13_books_refused w) 51 a fd ["_law_script"] (fsp K 1 b) := by
  obtain ⟨K, KX, t⟩ := Y
  have T : Ts K mg := .of t ⟨hp, KX, G⟩
  have e := ha.symm.trans T.m_law
  cases e
  obtain ⟨fd, F⟩ := T.d_law
  have F : FunD K "law" "law" (defArgs s_law) (defBody s_law) (defScope s_law) [] [] (ga K "law") fd := F
  have b := FunD.bindsA (ps := ["_law_script"]) F fun _ _ _ _ _ _ us hl => match us, hl with | [_], _ => rfl
  exact ⟨K, fd, f_law, KX, fun s u => b s [u] rfl, pure_, fun base _ _ => ok_law T F⟩
end L_k13
open PySem PySem.W PySem.Calls PyProof.Rows in
theorem PySem.Challenge.cw_callvows_k13_books_refused_holds : PySem.Challenge.rw_callvows_k13_books_refused.Holds := by
  w_on; o_law
  refine HandSHeadRun.head_any (r := OpenLaw.row PySem.Challenge.rw_callvows_k13_books_refused) (q := view (OpenLaw.row PySem.Challenge.rw_callvows_k13_books_refused).prog [56]) (H := L_k13.hk) (ob := L_k13.ob) (M := 5920) (loose := L_k13.loose) (d := HandSHeadRun.topDef (OpenLaw.row PySem.Challenge.rw_callvows_k13_books_refused).prog 56) (kwd := []) L_k13.ob_eq
    (by kernel_rfl) (fun s => by kernel_rfl) L_k13.run (by kernel_rfl) (by kernel_rfl) (by kernel_rfl) (by rfl) (by first | assumption | decide +kernel) (by decide +kernel) ⟨rfl, rfl, rfl, rfl, rfl, by decide +kernel⟩ ?hw ?hc
  case hw => w_witness2
  case hc =>
    refine Vz.walkX (l := PySem.Challenge.rw_callvows_k13_books_refused) (n := 63) (k := 51) (x := "_law_script") rfl (by decide) (by kernel_rfl) ⟨⟨rfl, by decide, by decide⟩, rfl⟩ ?F
    intro w mg a hp Y G hmg0
    have hmg : mg ("law" : PySem.Str) = some (.ref a) := by
      have e : (HandSHeadRun.topDef (OpenLaw.row PySem.Challenge.rw_callvows_k13_books_refused).prog 56).name = ("law" : PySem.Str) := by kernel_rfl
      rw [← e]
      exact hmg0
    exact L_k13.tells Y G hmg L_k13.law_pure
