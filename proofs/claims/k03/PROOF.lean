import PyProof.Rows.All
import Wide.All
import OpenK.AllK
import Wide.FinOn
import KE.KStateDown
import HandS.ForMost
import HandS.Exc
import HandS.HeadHook2
import HandS.TupAny
import HandS.TupMul
import HandS.Deep
import HandS.Wide
import HandS.Style
import HandS.TupLe
import HandS.Flow
import HandS.Defaults
import HandS.MakeKw
import HandS.MakeKwOnly
import HandS.DictComp
import HandS.IsInst
import KE.KExcIs
import HandS.Ends
import HandS.HeadEnd
import HandS.Head2
import HandS.FStr
import HandS.Text
import HandS.Iter
import KE.GoesMore
import HandS.RaiseMore
import HandS.ExcInit
import HandS.ExcField
import HandS.ExcIs
import HandS.TryMany
import HandS.ExcOwn
import HandS.Small
import HandS.ExcSuper
import PyProof.P3Eq
import KE.KExcPX
import HandS.OwnEq
import HandS.More
import HandS.Dict
import HandS.DictEq
import PyProof.DictFindH
import PyProof.TupleKey
import HandS.TupLen
import HandS.Conv
import HandS.NoneIn
import HandS.Zip
import KE.GoesZip
import KE.GoesEnum
import KE.KUnpackStar
import HandS.Finally
import PyProof.DictUpdate
import HandS.Sort
import PyProof.ReprBulk
import KE.KDictPairs
import KE.KDictKeyed
import HandS.SortRule
import HandS.ListItems
import HandS.DictTup
import HandS.DeepEq
import HandS.Comp
import PySem.Challenge.RW_callvows_k03_laid_by_vows
set_option Elab.async false
set_option linter.all false
set_option maxRecDepth 100000
set_option maxHeartbeats 0
namespace Vz
open PySem L2
/-- a plain value: tuples stand within it, what may change is a number of an object -/
inductive AV where
  | non | bl (b : Bool) | int (i : Int) | str (s : Str)
  | tup (xs : List AV)
  | con (xs : List AV)
  | lk (xs : List AV)
  | ls (xs : List AV)
  | iv (c : Str) (ns : List Str) (xs : List AV)
  | id (ks : List Key) (xs : List AV)
  | it (ks : List (List Key)) (xs : List AV)
  | xv (c : Str) (ns : List Str) (xs : List AV)
  | fd (ks : List Key) (xs : List AV)
  | ref (n : Nat)
  deriving Inhabited
/-- an object -/
inductive AO where
  | lst (xs : List AV)
  | dk (kvs : List (Key × AV))
  | dt (kvs : List (List Key × AV))
  | ins (c : Str) (fs : List (Str × AV))
  | xd (fs : List (Str × AV))
  | gone
  deriving Inhabited
abbrev Hs := List AO
/-- what an exception bears: its fields' names and values -/
abbrev XP := List Str × List AV
abbrev En := List (Option AV)
inductive R (α : Type) where
  | ok (a : α) (G : Hs) | exc (c : Str) (d : XP) (G : Hs) | stuck
/-- a statement's end -/
inductive SR where
  | nx (ρ : En) (G : Hs) | rt (v : AV) (G : Hs) | bk (ρ : En) (G : Hs) | ct (ρ : En) (G : Hs) | exc (c : Str) (d : XP) (ρ : En) (G : Hs) | stuck
/-- the address of a global of the module -/
abbrev ga (K : PySem.W.Frag) (x : Str) : Addr := He.ga K x
/-- a tuple that the text itself holds -/
def KTup (K : PySem.W.Frag) (a : Addr) (xs : List V) : Prop :=
  ∃ (o : Obj) (its : Array Value) (n : Nat), K.lookup a = some o ∧ o.cls = .type "tuple" ∧ o.data = .seq its n ∧ its.size ≤ sizeLine ∧ Vals xs its.toList
/-- the numbered ones; a number may have gone -/
abbrev Mu := List (Option Addr)
/-- a is what n numbers, if n still numbers -/
def Num (μ : Mu) (n : Nat) (a : Addr) : Prop := n < μ.length ∧ ∀ a', μ[n]? = some (some a') → a' = a
/-- a list that is not numbered -/
def LsF (H : Hp) (μ : Mu) (a : Addr) (xs : List V) : Prop := H a = some (.lst xs) ∧ some a ∉ μ
/-- a list that nobody writes: the script -/
def KLst (K : PySem.W.Frag) (H : Hp) (a : Addr) (xs : List V) : Prop := (∃ o, H a = some (.frz o (.lst xs))) ∨
  ∃ (o : Obj) (its : Array Value) (n : Nat), K.lookup a = some o ∧ o.cls = .type "list" ∧ o.dict = none ∧ o.data = .seq its n ∧ its.size ≤ sizeLine ∧ Vals xs its.toList
/-- at e: an exception of the class C, its dict at d -/
def xo (e : Addr) (C : Value) (d : Option Addr) : HO := .ext fun h => ∃ (oe : Obj) (vs : Array Value), h.get? e = some oe ∧ Zc C d oe ∧ oe.data = .fields vs
mutual
inductive RA (K : PySem.W.Frag) (H : Hp) (μ : Mu) : AV → V → Prop where
  | non : RA K H μ .non .non
  | bl (b : Bool) : RA K H μ (.bl b) (.bl b)
  | int (i : Int) : RA K H μ (.int i) (.int i)
  | str (s : Str) : RA K H μ (.str s) (.str s)
  | tup {a : Addr} {vs : List V} {xs : List AV} : H a = some (.tup vs) → RAs K H μ xs vs → RA K H μ (.tup xs) (.ref a)
  | con {a : Addr} {vs : List V} {xs : List AV} : KTup K a vs → RAs K H μ xs vs → RA K H μ (.con xs) (.ref a)
  | lk {a : Addr} {vs : List V} {xs : List AV} : KLst K H a vs → RAs K H μ xs vs → RA K H μ (.lk xs) (.ref a)
  | ls {a : Addr} {vs : List V} {xs : List AV} : LsF H μ a vs → RAs K H μ xs vs → RA K H μ (.ls xs) (.ref a)
  | iv {a dx : Addr} {c : Str} {ns : List Str} {gs : List (Str × V)} {xs : List AV} : H a = some (.ins (ga K c) dx gs) → some a ∉ μ → ns = gs.map (·.1) → RAs K H μ xs (gs.map (·.2)) → RA K H μ (.iv c ns xs) (.ref a)
  | id {a : Addr} {ks : List Key} {ws : List (Key × V)} {xs : List AV} : H a = some (.dK ws) → some a ∉ μ → ks = ws.map (·.1) → RAs K H μ xs (ws.map (·.2)) → RA K H μ (.id ks xs) (.ref a)
  | it {a : Addr} {ks : List (List Key)} {ws : List (List Key × V)} {xs : List AV} : H a = some (.dT ws) → some a ∉ μ → ks = ws.map (·.1) → RAs K H μ xs (ws.map (·.2)) → RA K H μ (.it ks xs) (.ref a)
  | xv0 {a : Addr} {c : Str} : H a = some (xo a (.ref (ga K c)) none) → some a ∉ μ → RA K H μ (.xv c [] []) (.ref a)
  | xv {a dx : Addr} {c : Str} {ns : List Str} {gs : List (Str × V)} {xs : List AV} : H a = some (xo a (.ref (ga K c)) (some dx)) → some a ∉ μ → H dx = some (.xd gs) → some dx ∉ μ → ns = gs.map (·.1) → RAs K H μ xs (gs.map (·.2)) → RA K H μ (.xv c ns xs) (.ref a)
  | fd {a : Addr} {o : Obj} {ks : List Key} {ws : List (Key × V)} {xs : List AV} : H a = some (.frz o (.dK ws)) → ks = ws.map (·.1) → RAs K H μ xs (ws.map (·.2)) → RA K H μ (.fd ks xs) (.ref a)
  | ref {n : Nat} {a : Addr} : Num μ n a → RA K H μ (.ref n) (.ref a)
inductive RAs (K : PySem.W.Frag) (H : Hp) (μ : Mu) : List AV → List V → Prop where
  | nil : RAs K H μ [] []
  | cons {x : AV} {v : V} {xs : List AV} {vs : List V} : RA K H μ x v → RAs K H μ xs vs → RAs K H μ (x :: xs) (v :: vs)
end
/-- what was a tuple, or is not numbered, stays so; what is numbered keeps its number, or loses it -/
structure Gr (H : Hp) (μ : Mu) (H' : Hp) (μ' : Mu) : Prop where
  le : μ.length ≤ μ'.length
  pre : ∀ (n : Nat) (a : Addr), n < μ.length → μ'[n]? = some (some a) → μ[n]? = some (some a)
  fre : ∀ (n : Nat) (a : Addr), μ.length ≤ n → μ'[n]? = some (some a) → H a = none
  keep : ∀ a u, H a = some u → some a ∉ μ → H' a = some u
  tup : ∀ a vs, H a = some (.tup vs) → H' a = some (.tup vs)
  frz : ∀ a o u, H a = some (.frz o u) → H' a = some (.frz o u)
  ex : ∀ a, H' a = none → H a = none
theorem Gr.refl (H : Hp) (μ : Mu) : Gr H μ H μ := ⟨Nat.le_refl _, fun _ _ _ h => h, fun n a h e => (by rw [List.getElem?_eq_none h] at e; cases e), fun _ _ h _ => h, fun _ _ h => h, fun _ _ _ h => h, fun _ h => h⟩
theorem Gr.fr {H H' : Hp} {μ μ' : Mu} (g : Gr H μ H' μ') {a : Addr} {u : HO} (h : H a = some u) (n : some a ∉ μ) : some a ∉ μ' := fun m => by
  obtain ⟨k, hk⟩ := List.mem_iff_getElem?.mp m
  by_cases l : k < μ.length
  · exact n (List.mem_of_getElem? (g.pre k a l hk))
  · have := g.fre k a (by omega) hk
    rw [h] at this
    cases this
theorem Gr.trans {H H1 H2 : Hp} {μ μ1 μ2 : Mu} (a : Gr H μ H1 μ1) (b : Gr H1 μ1 H2 μ2) : Gr H μ H2 μ2 where
  le := Nat.le_trans a.le b.le
  pre := fun n p l e => a.pre n p l (b.pre n p (Nat.lt_of_lt_of_le l a.le) e)
  fre := fun n p l e => by
    by_cases h : n < μ1.length
    · exact a.fre n p l (b.pre n p h e)
    · exact a.ex p (b.fre n p (by omega) e)
  keep := fun p u h n => b.keep p u (a.keep p u h n) (a.fr h n)
  tup := fun p vs h => b.tup p vs (a.tup p vs h)
  frz := fun p o u h => b.frz p o u (a.frz p o u h)
  ex := fun p h => a.ex p (b.ex p h)
theorem Num.gr {H H' : Hp} {μ μ' : Mu} (g : Gr H μ H' μ') {n : Nat} {a : Addr} (h : Num μ n a) : Num μ' n a := ⟨Nat.lt_of_lt_of_le h.1 g.le, fun a' e => h.2 a' (g.pre n a' h.1 e)⟩
theorem KLst.gr {K : PySem.W.Frag} {H H' : Hp} {μ μ' : Mu} (g : Gr H μ H' μ') {a : Addr} {xs : List V} (h : KLst K H a xs) : KLst K H' a xs := by
  rcases h with ⟨o, h⟩ | h
  · exact .inl ⟨o, g.frz _ _ _ h⟩
  · exact .inr h
theorem LsF.gr {H H' : Hp} {μ μ' : Mu} (g : Gr H μ H' μ') {a : Addr} {xs : List V} (h : LsF H μ a xs) : LsF H' μ' a xs := ⟨g.keep _ _ h.1 h.2, g.fr h.1 h.2⟩
theorem LsF.sq {K : PySem.W.Frag} {H : Hp} {μ : Mu} {a : Addr} {xs : List V} (h : LsF H μ a xs) : SqL K H a xs := .inl (.inl h.1)
theorem KLst.sq {K : PySem.W.Frag} {H : Hp} {a : Addr} {xs : List V} (h : KLst K H a xs) : SqL K H a xs := by
  rcases h with ⟨o, h⟩ | h
  · exact .inl (.inr ⟨o, h⟩)
  · exact .inr h
theorem KTup.sq {K : PySem.W.Frag} {H : Hp} {a : Addr} {xs : List V} (h : KTup K a xs) : SqT K H a xs := .inr h
mutual
theorem RA.gr {K : PySem.W.Frag} {H H' : Hp} {μ μ' : Mu} (g : Gr H μ H' μ') : ∀ {x : AV} {v : V}, RA K H μ x v → RA K H' μ' x v
  | _, _, .non => .non
  | _, _, .bl b => .bl b
  | _, _, .int b => .int b
  | _, _, .str b => .str b
  | _, _, .tup h r => .tup (g.tup _ _ h) (RAs.gr g r)
  | _, _, .con h r => .con h (RAs.gr g r)
  | _, _, .lk h r => .lk (h.gr g) (RAs.gr g r)
  | _, _, .ls h r => .ls (h.gr g) (RAs.gr g r)
  | _, _, .iv h n e r => .iv (g.keep _ _ h n) (g.fr h n) e (RAs.gr g r)
  | _, _, .id h n e r => .id (g.keep _ _ h n) (g.fr h n) e (RAs.gr g r)
  | _, _, .it h n e r => .it (g.keep _ _ h n) (g.fr h n) e (RAs.gr g r)
  | _, _, .xv0 h n => .xv0 (g.keep _ _ h n) (g.fr h n)
  | _, _, .xv h n h2 n2 e r => .xv (g.keep _ _ h n) (g.fr h n) (g.keep _ _ h2 n2) (g.fr h2 n2) e (RAs.gr g r)
  | _, _, .fd h e r => .fd (g.frz _ _ _ h) e (RAs.gr g r)
  | _, _, .ref h => .ref (h.gr g)
theorem RAs.gr {K : PySem.W.Frag} {H H' : Hp} {μ μ' : Mu} (g : Gr H μ H' μ') : ∀ {xs : List AV} {vs : List V}, RAs K H μ xs vs → RAs K H' μ' xs vs
  | _, _, .nil => .nil
  | _, _, .cons r rs => .cons (RA.gr g r) (RAs.gr g rs)
end
section
variable {K : PySem.W.Frag} {H H' : Hp} {μ μ' : Mu}
theorem RAs.length : ∀ {xs : List AV} {vs : List V}, RAs K H μ xs vs → xs.length = vs.length
  | _, _, .nil => rfl
  | _, _, .cons _ r => congrArg Nat.succ r.length
theorem RAs.get : ∀ {xs : List AV} {vs : List V} {i : Nat} {v : V}, RAs K H μ xs vs → vs[i]? = some v → ∃ x, xs[i]? = some x ∧ RA K H μ x v
  | _, _, _, _, .nil, e => by simp at e
  | _, _, 0, _, .cons r _, e => by simp at e; subst e; exact ⟨_, rfl, r⟩
  | _, _, i + 1, v, .cons _ t, e => by
    obtain ⟨x, h1, h2⟩ := RAs.get (i := i) (v := v) t (by simpa using e)
    exact ⟨x, by simpa using h1, h2⟩
theorem RAs.get' : ∀ {xs : List AV} {vs : List V} {i : Nat} {x : AV}, RAs K H μ xs vs → xs[i]? = some x → ∃ v, vs[i]? = some v ∧ RA K H μ x v
  | _, _, _, _, .nil, e => by simp at e
  | _, _, 0, _, .cons r _, e => by simp at e; subst e; exact ⟨_, rfl, r⟩
  | _, _, i + 1, v, .cons _ t, e => by
    obtain ⟨x, h1, h2⟩ := RAs.get' (i := i) (x := v) t (by simpa using e)
    exact ⟨x, by simpa using h1, h2⟩
theorem RAs.app : ∀ {xs ys : List AV} {vs ws : List V}, RAs K H μ xs vs → RAs K H μ ys ws → RAs K H μ (xs ++ ys) (vs ++ ws)
  | _, _, _, _, .nil, s => s
  | _, _, _, _, .cons r t, s => .cons r (RAs.app t s)
theorem RAs.take : ∀ {xs : List AV} {vs : List V} (n : Nat), RAs K H μ xs vs → RAs K H μ (xs.take n) (vs.take n)
  | _, _, 0, _ => .nil
  | _, _, _ + 1, .nil => .nil
  | _, _, n + 1, .cons r t => .cons r (RAs.take n t)
theorem RAs.drop : ∀ {xs : List AV} {vs : List V} (n : Nat), RAs K H μ xs vs → RAs K H μ (xs.drop n) (vs.drop n)
  | _, _, 0, r => r
  | _, _, _ + 1, .nil => .nil
  | _, _, n + 1, .cons _ t => RAs.drop n t
theorem RAs.set {x : AV} {v : V} (r : RA K H μ x v) : ∀ {xs : List AV} {vs : List V} (i : Nat), RAs K H μ xs vs → RAs K H μ (xs.set i x) (vs.set i v)
  | _, _, _, .nil => .nil
  | _, _, 0, .cons _ t => .cons r t
  | _, _, i + 1, .cons q t => .cons q (RAs.set r i t)
theorem RAs.rev {xs : List AV} {vs : List V} (h : RAs K H μ xs vs) : RAs K H μ xs.reverse vs.reverse := by
  induction h using RAs.rec (motive_1 := fun _ _ _ => True) with
  | nil => exact .nil
  | cons r t _ ih =>
    rw [List.reverse_cons, List.reverse_cons]
    exact ih.app (.cons r .nil)
  | _ => trivial
theorem RAs.erase : ∀ {xs : List AV} {vs : List V} (i : Nat), RAs K H μ xs vs → RAs K H μ (xs.eraseIdx i) (vs.eraseIdx i)
  | _, _, _, .nil => .nil
  | _, _, 0, .cons _ t => t
  | _, _, i + 1, .cons q t => .cons q (RAs.erase i t)
/-- named values -/
def RF (K : PySem.W.Frag) (H : Hp) (μ : Mu) {κ : Type} (fs : List (κ × AV)) (gs : List (κ × V)) : Prop := fs.map (·.1) = gs.map (·.1) ∧ RAs K H μ (fs.map (·.2)) (gs.map (·.2))
theorem RF.gr {κ : Type} {fs : List (κ × AV)} {gs : List (κ × V)} (g : Gr H μ H' μ') (h : RF K H μ fs gs) : RF K H' μ' fs gs := ⟨h.1, h.2.gr g⟩
/-- an object as it stands -/
def RO (K : PySem.W.Frag) (H : Hp) (μ : Mu) (a : Addr) : AO → Prop
  | .lst xs => ∃ vs, H a = some (.lst vs) ∧ RAs K H μ xs vs
  | .dk kvs => ∃ ws, H a = some (.dK ws) ∧ RF K H μ kvs ws
  | .dt kvs => ∃ ws, H a = some (.dT ws) ∧ RF K H μ kvs ws
  | .ins c fs => ∃ dx gs, H a = some (.ins (ga K c) dx gs) ∧ RF K H μ fs gs
  | .xd fs => ∃ gs, H a = some (.xd gs) ∧ RF K H μ fs gs
  | .gone => True
/-- the objects as they stand -/
structure RH (K : PySem.W.Frag) (H : Hp) (μ : Mu) (G : Hs) : Prop where
  len : μ.length = G.length
  nd : ∀ (n m : Nat) (a : Addr), μ[n]? = some (some a) → μ[m]? = some (some a) → n = m
  of : ∀ (n : Nat) (a : Addr) (o : AO), μ[n]? = some (some a) → G[n]? = some o → o ≠ AO.gone ∧ RO K H μ a o
  no : ∀ n : Nat, μ[n]? = some none → G[n]? = some AO.gone
theorem RO.gr {o : AO} {a : Addr} (g : Gr H μ H' μ') (e : H' a = H a) (h : RO K H μ a o) : RO K H' μ' a o := by
  cases o with
  | lst xs => obtain ⟨vs, h1, h2⟩ := h; exact ⟨vs, e.trans h1, h2.gr g⟩
  | dk xs => obtain ⟨vs, h1, h2⟩ := h; exact ⟨vs, e.trans h1, h2.gr g⟩
  | dt xs => obtain ⟨vs, h1, h2⟩ := h; exact ⟨vs, e.trans h1, h2.gr g⟩
  | ins c fs => obtain ⟨dx, gs, h1, h2⟩ := h; exact ⟨dx, gs, e.trans h1, h2.gr g⟩
  | xd fs => obtain ⟨gs, h1, h2⟩ := h; exact ⟨gs, e.trans h1, h2.gr g⟩
  | gone => trivial
theorem RO.there {o : AO} {a : Addr} (h : RO K H μ a o) (l : o ≠ .gone) : ∃ u, H a = some u ∧ (∀ vs, u ≠ .tup vs) ∧ (∀ o v, u ≠ .frz o v) := by
  cases o with
  | lst xs => obtain ⟨vs, h1, _⟩ := h; exact ⟨_, h1, fun _ z => (by cases z), fun _ _ z => (by cases z)⟩
  | dk xs => obtain ⟨vs, h1, _⟩ := h; exact ⟨_, h1, fun _ z => (by cases z), fun _ _ z => (by cases z)⟩
  | dt xs => obtain ⟨vs, h1, _⟩ := h; exact ⟨_, h1, fun _ z => (by cases z), fun _ _ z => (by cases z)⟩
  | ins c fs => obtain ⟨dx, gs, h1, _⟩ := h; exact ⟨_, h1, fun _ z => (by cases z), fun _ _ z => (by cases z)⟩
  | xd fs => obtain ⟨gs, h1, _⟩ := h; exact ⟨_, h1, fun _ z => (by cases z), fun _ _ z => (by cases z)⟩
  | gone => exact absurd rfl l
/-- a number with an object: it numbers -/
theorem RH.live {G : Hs} (h : RH K H μ G) {n : Nat} {o : AO} (e : G[n]? = some o) (l : o ≠ .gone) : ∃ a, μ[n]? = some (some a) ∧ RO K H μ a o := by
  have hn : n < μ.length := by
    rw [h.len]
    exact (List.getElem?_eq_some_iff.mp e).1
  have q : μ[n]? = some μ[n] := List.getElem?_eq_getElem hn
  cases k : μ[n] with
  | none =>
    rw [k] at q
    rw [h.no n q] at e
    exact absurd (Option.some.inj e).symm l
  | some a =>
    rw [k] at q
    exact ⟨a, q, (h.of n a o q e).2⟩
theorem RH.num {G : Hs} (h : RH K H μ G) {n : Nat} {a : Addr} (q : μ[n]? = some (some a)) : Num μ n a := ⟨(List.getElem?_eq_some_iff.mp q).1, fun a' e => by rw [q] at e; cases e; rfl⟩
theorem RH.at_ {G : Hs} (h : RH K H μ G) (n : Nat) (a : Addr) (o : AO) (e : Num μ n a) (q : G[n]? = some o) : RO K H μ a o := by
  by_cases l : o = .gone
  · subst l; trivial
  · obtain ⟨a', e1, r⟩ := h.live q l
    rw [← e.2 a' e1]
    exact r
/-- as it is numbered -/
theorem RH.lv {G : Hs} (h : RH K H μ G) {n : Nat} {a : Addr} {o : AO} (e : Num μ n a) (q : G[n]? = some o) (l : o ≠ .gone) : μ[n]? = some (some a) := by
  obtain ⟨a', e1, r⟩ := h.live q l
  rw [← e.2 a' e1]
  exact e1
theorem RH.obj {G : Hs} (h : RH K H μ G) {n : Nat} {a : Addr} (e : Num μ n a) : ∃ o, G[n]? = some o ∧ RO K H μ a o := by
  have hn : n < G.length := by
    rw [← h.len]
    exact e.1
  exact ⟨G[n], List.getElem?_eq_getElem hn, h.at_ n a _ e (List.getElem?_eq_getElem hn)⟩
theorem RH.mem {G : Hs} (h : RH K H μ G) {a : Addr} (e : some a ∈ μ) : ∃ u, H a = some u ∧ (∀ vs, u ≠ .tup vs) ∧ (∀ o v, u ≠ .frz o v) := by
  obtain ⟨n, hn⟩ := List.mem_iff_getElem?.mp e
  have l : n < G.length := by
    rw [← h.len]
    exact (List.getElem?_eq_some_iff.mp hn).1
  obtain ⟨l1, r⟩ := h.of n a _ hn (List.getElem?_eq_getElem l)
  exact r.there l1
theorem RH.nmem {G : Hs} (h : RH K H μ G) {p : Addr} (hp : H p = none) : some p ∉ μ := fun z => by
  obtain ⟨u, hu, _⟩ := h.mem z
  rw [hp] at hu
  cases hu
/-- something new that the numbers do not tell -/
theorem upd_ex {p a : Addr} {ho : HO} (h : upd H p ho a = none) : H a = none := by
  by_cases z : a = p
  · subst z; rw [upd_same] at h; cases h
  · rw [upd_ne z] at h; exact h
theorem Gr.new {p : Addr} {ho : HO} (hp : H p = none) : Gr H μ (upd H p ho) μ :=
  ⟨Nat.le_refl _, fun _ _ _ e => e, fun n a l e => (by rw [List.getElem?_eq_none l] at e; cases e), fun b u e _ => (by rw [upd_ne (ne_of_none e hp)]; exact e), fun b vs e => (by rw [upd_ne (ne_of_none e hp)]; exact e), fun b o u e => (by rw [upd_ne (ne_of_none e hp)]; exact e), fun a => upd_ex⟩
theorem RH.new {G : Hs} (h : RH K H μ G) {p : Addr} {ho : HO} (hp : H p = none) : RH K (upd H p ho) μ G := by
  refine ⟨h.len, h.nd, fun n a o e1 e2 => ?_, h.no⟩
  obtain ⟨l, r⟩ := h.of n a o e1 e2
  obtain ⟨u, hu, _⟩ := r.there l
  exact ⟨l, r.gr (Gr.new hp) (upd_ne (ne_of_none hu hp))⟩
/-- a new numbered object -/
theorem Gr.alloc {p : Addr} {ho : HO} (hp : H p = none) : Gr H μ (upd H p ho) (μ ++ [some p]) :=
  ⟨by simp, fun n a l e => (by rw [List.getElem?_append_left l] at e; exact e), fun n a l e => (by
    rw [List.getElem?_append_right l] at e
    cases k : n - μ.length with
    | zero => rw [k] at e; simp at e; rw [← e]; exact hp
    | succ m => rw [k] at e; simp at e), (Gr.new (μ := μ) hp).keep, (Gr.new (μ := μ) hp).tup, (Gr.new (μ := μ) hp).frz, (Gr.new (μ := μ) hp).ex⟩
theorem get_app1 {α : Type} {l : List α} {x y : α} {n : Nat} (e : (l ++ [x])[n]? = some y) : l[n]? = some y ∨ (n = l.length ∧ y = x) := by
  by_cases h : n < l.length
  · rw [List.getElem?_append_left h] at e
    exact .inl e
  · rw [List.getElem?_append_right (by omega)] at e
    cases k : n - l.length with
    | zero => rw [k] at e; simp at e; exact .inr ⟨by omega, e.symm⟩
    | succ m => rw [k] at e; simp at e
theorem RH.alloc {G : Hs} (h : RH K H μ G) {p : Addr} {ho : HO} {o : AO} (hp : H p = none) (r : RO K (upd H p ho) (μ ++ [some p]) p o) (l : o ≠ .gone := by intro h; cases h) : RH K (upd H p ho) (μ ++ [some p]) (G ++ [o]) := by
  have hpm := h.nmem hp
  have hpn : ∀ n, μ[n]? ≠ some (some p) := fun n e => hpm (List.mem_of_getElem? e)
  have hl := h.len
  refine ⟨by simp [h.len], fun n m a e1 e2 => ?_, fun n a o' e1 e2 => ?_, fun n e => ?_⟩
  · rcases get_app1 e1 with e1 | ⟨e1, z1⟩ <;> rcases get_app1 e2 with e2 | ⟨e2, z2⟩
    · exact h.nd n m a e1 e2
    · cases z2; exact absurd e1 (hpn n)
    · cases z1; exact absurd e2 (hpn m)
    · omega
  · rcases get_app1 e1 with e1 | ⟨e1, z1⟩
    · have hn : n < μ.length := (List.getElem?_eq_some_iff.mp e1).1
      rw [List.getElem?_append_left (by omega)] at e2
      obtain ⟨l', r'⟩ := h.of n a o' e1 e2
      obtain ⟨u, hu, _⟩ := r'.there l'
      exact ⟨l', r'.gr (Gr.alloc hp) (upd_ne (ne_of_none hu hp))⟩
    · cases z1
      rename_i e1n
      rw [e1n, hl] at e2
      simp at e2
      subst e2
      exact ⟨l, r⟩
  · rcases get_app1 e with e | ⟨e, z⟩
    · have := h.no n e
      rw [List.getElem?_append_left (List.getElem?_eq_some_iff.mp this).1]
      exact this
    · cases z
theorem RH.fresh {G : Hs} (h : RH K H μ G) (p : Addr) : Num (μ ++ [some p]) G.length p := by
  refine ⟨by simp [h.len], fun a' e => ?_⟩
  rw [← h.len] at e
  simp at e
  exact e.symm
/-- a numbered object is changed -/
theorem Gr.put {G : Hs} (h : RH K H μ G) {n : Nat} {a : Addr} {ho : HO} {o0 : AO} (e0 : Num μ n a) (q0 : G[n]? = some o0) (l0 : o0 ≠ .gone := by intro h; cases h) : Gr H μ (upd H a ho) μ := by
  have e := h.lv e0 q0 l0
  obtain ⟨u, hu, nt, nf⟩ := h.mem (List.mem_of_getElem? e)
  refine ⟨Nat.le_refl _, fun _ _ _ e => e, fun n a l e => (by rw [List.getElem?_eq_none l] at e; cases e), fun b u' q nm => ?_, fun b vs q => ?_, fun b o v q => ?_, fun a => upd_ex⟩
  · by_cases z : b = a
    · subst z
      exact absurd (List.mem_of_getElem? e) nm
    · rw [upd_ne z]
      exact q
  · by_cases z : b = a
    · subst z
      rw [hu] at q
      exact absurd (Option.some.inj q) (nt vs)
    · rw [upd_ne z]
      exact q
  · by_cases z : b = a
    · subst z
      rw [hu] at q
      exact absurd (Option.some.inj q) (nf o v)
    · rw [upd_ne z]
      exact q
theorem RH.put {G : Hs} (h : RH K H μ G) {n : Nat} {a : Addr} {ho : HO} {o o0 : AO} (e0 : Num μ n a) (q0 : G[n]? = some o0) (r : RO K (upd H a ho) μ a o) (l0 : o0 ≠ .gone := by intro h; cases h) (l : o ≠ .gone := by intro h; cases h) : RH K (upd H a ho) μ (G.set n o) := by
  have e := h.lv e0 q0 l0
  refine ⟨by simp [h.len], h.nd, fun m b o' e1 e2 => ?_, fun m e1 => ?_⟩
  · by_cases hm : n = m
    · subst hm
      rw [e] at e1
      cases e1
      rw [List.getElem?_set_self (List.getElem?_eq_some_iff.mp q0).1] at e2
      cases e2
      exact ⟨l, r⟩
    · rw [List.getElem?_set_ne hm] at e2
      obtain ⟨l', r'⟩ := h.of m b o' e1 e2
      refine ⟨l', r'.gr (Gr.put h e0 q0 l0) (upd_ne fun z => hm ?_)⟩
      subst z
      exact h.nd n m b e e1
  · have hm : n ≠ m := fun z => by subst z; rw [e] at e1; cases e1
    rw [List.getElem?_set_ne hm]
    exact h.no m e1
/-- a number goes: what it numbered stays as it is -/
theorem Gr.fz {n : Nat} : Gr H μ H (μ.set n none) := by
  refine ⟨by simp, fun m a l e => ?_, fun m a l e => ?_, fun _ _ h _ => h, fun _ _ h => h, fun _ _ _ h => h, fun _ h => h⟩
  · by_cases z : n = m
    · subst z; rw [List.getElem?_set_self l] at e; cases e
    · rw [List.getElem?_set_ne z] at e; exact e
  · rw [List.getElem?_eq_none (by simpa using l)] at e; cases e
theorem RH.fz {G : Hs} (h : RH K H μ G) {n : Nat} : RH K H (μ.set n none) (G.set n .gone) := by
  have hl := h.len
  refine ⟨by simp [h.len], fun i j a e1 e2 => ?_, fun i a o e1 e2 => ?_, fun i e => ?_⟩
  · have k : ∀ i, (μ.set n none)[i]? = some (some a) → μ[i]? = some (some a) := fun i e => by
      by_cases z : n = i
      · subst z
        by_cases q : n < μ.length
        · rw [List.getElem?_set_self q] at e; cases e
        · rw [List.getElem?_eq_none (by simp; omega)] at e; cases e
      · rw [List.getElem?_set_ne z] at e; exact e
    exact h.nd i j a (k i e1) (k j e2)
  · by_cases z : n = i
    · subst z
      by_cases q : n < μ.length
      · rw [List.getElem?_set_self q] at e1; cases e1
      · rw [List.getElem?_eq_none (by simp; omega)] at e1; cases e1
    · rw [List.getElem?_set_ne z] at e1 e2
      obtain ⟨l, r⟩ := h.of i a o e1 e2
      exact ⟨l, r.gr Gr.fz rfl⟩
  · by_cases z : n = i
    · subst z
      by_cases q : n < μ.length
      · rw [List.getElem?_set_self (by omega)]
      · rw [List.getElem?_eq_none (by simp; omega)] at e; cases e
    · rw [List.getElem?_set_ne z] at e
      rw [List.getElem?_set_ne z]
      exact h.no i e
theorem RH.fr {G : Hs} (h : RH K H μ G) {n : Nat} {a : Addr} (e : μ[n]? = some (some a)) : some a ∉ μ.set n none := fun m => by
  obtain ⟨i, hi⟩ := List.mem_iff_getElem?.mp m
  by_cases z : n = i
  · subst z
    rw [List.getElem?_set_self (List.getElem?_eq_some_iff.mp e).1] at hi
    cases hi
  · rw [List.getElem?_set_ne z] at hi
    exact z (h.nd n i a e hi)
/-- the value that a thing is from when its number goes -/
def fzV : AO → Option AV
  | .lst xs => some (.ls xs)
  | .ins c fs => some (.iv c (fs.map (·.1)) (fs.map (·.2)))
  | .dk kvs => some (.id (kvs.map (·.1)) (kvs.map (·.2)))
  | .dt kvs => some (.it (kvs.map (·.1)) (kvs.map (·.2)))
  | _ => none
theorem RO.fz {G : Hs} (h : RH K H μ G) {n : Nat} {a : Addr} {o : AO} {v : AV} (e0 : Num μ n a) (q : G[n]? = some o) (e : fzV o = some v) : RA K H (μ.set n none) v (.ref a) := by
  have l : o ≠ .gone := fun z => by subst z; cases e
  have ea := h.lv e0 q l
  have r := h.at_ n a o e0 q
  have f := h.fr ea
  cases o with
  | lst xs => cases e; obtain ⟨vs, h1, h2⟩ := r; exact .ls ⟨h1, f⟩ (h2.gr Gr.fz)
  | ins c fs => cases e; obtain ⟨dx, gs, h1, h2⟩ := r; exact .iv h1 f h2.1 (h2.2.gr Gr.fz)
  | dk kvs => cases e; obtain ⟨gs, h1, h2⟩ := r; exact .id h1 f h2.1 (h2.2.gr Gr.fz)
  | dt kvs => cases e; obtain ⟨gs, h1, h2⟩ := r; exact .it h1 f h2.1 (h2.2.gr Gr.fz)
  | xd fs => cases e
  | gone => cases e
end
end Vz
namespace Vz
open PySem L2
/-- the names' values as they stand -/
structure RS (K : PySem.W.Frag) (H : Hp) (μ : Mu) (ρ : En) (σ : St) : Prop where
  len : ρ.length = σ.length
  at_ : ∀ (i : Nat) (v : AV), ρ[i]? = some (some v) → ∃ x, σ[i]? = some (some x) ∧ RA K H μ v x
theorem RS.gr {K : PySem.W.Frag} {H H' : Hp} {μ μ' : Mu} {ρ : En} {σ : St} (g : Gr H μ H' μ') (h : RS K H μ ρ σ) : RS K H' μ' ρ σ :=
  ⟨h.len, fun i v e => let ⟨x, e1, r⟩ := h.at_ i v e; ⟨x, e1, r.gr g⟩⟩
theorem RS.set {K : PySem.W.Frag} {H : Hp} {μ : Mu} {ρ : En} {σ : St} (h : RS K H μ ρ σ) {i : Nat} {v : AV} {x : V} (r : RA K H μ v x) : RS K H μ (ρ.set i (some v)) (σ.set i (some x)) := by
  refine ⟨by simp [h.len], fun j w e => ?_⟩
  by_cases hj : i = j
  · subst hj
    by_cases hi : i < ρ.length
    · rw [List.getElem?_set_self hi] at e
      cases e
      exact ⟨x, by rw [List.getElem?_set_self (by rw [← h.len]; exact hi)], r⟩
    · rw [List.getElem?_eq_none (by simp; omega)] at e
      cases e
  · rw [List.getElem?_set_ne hj] at e
    obtain ⟨y, e1, r1⟩ := h.at_ j w e
    exact ⟨y, by rw [List.getElem?_set_ne hj]; exact e1, r1⟩
theorem RS.unset {K : PySem.W.Frag} {H : Hp} {μ : Mu} {ρ : En} {σ : St} (h : RS K H μ ρ σ) {i : Nat} {x : Option V} : RS K H μ (ρ.set i none) (σ.set i x) := by
  refine ⟨by simp [h.len], fun j w e => ?_⟩
  by_cases hj : i = j
  · subst hj
    by_cases hi : i < ρ.length
    · rw [List.getElem?_set_self hi] at e
      cases e
    · rw [List.getElem?_eq_none (by simp; omega)] at e
      cases e
  · rw [List.getElem?_set_ne hj] at e
    obtain ⟨y, e1, r1⟩ := h.at_ j w e
    exact ⟨y, by rw [List.getElem?_set_ne hj]; exact e1, r1⟩
/-- fewer are known -/
theorem RS.less {K : PySem.W.Frag} {H : Hp} {μ : Mu} {ρ : En} {σ σ' : St} (h : RS K H μ ρ σ) {i : Nat} (e : σ'.set i none = σ.set i none) (hn : σ'.length = σ.length) : RS K H μ (ρ.set i none) σ' := by
  refine ⟨by simp [h.len, hn], fun j w q => ?_⟩
  by_cases hj : i = j
  · subst hj
    by_cases hi : i < ρ.length
    · rw [List.getElem?_set_self hi] at q
      cases q
    · rw [List.getElem?_eq_none (by simp; omega)] at q
      cases q
  · rw [List.getElem?_set_ne hj] at q
    obtain ⟨y, e1, r1⟩ := h.at_ j w q
    refine ⟨y, ?_, r1⟩
    have e2 : (σ'.set i none)[j]? = (σ.set i none)[j]? := by rw [e]
    rw [List.getElem?_set_ne hj, List.getElem?_set_ne hj] at e2
    rw [e2]
    exact e1
abbrev Rel (α β : Type) := Hp → Mu → α → β → Prop
/-- where an exception's own dict stands -/
def RD (K : PySem.W.Frag) (H : Hp) (μ : Mu) (d : XP) : Option Addr → Prop
  | none => d = ([], [])
  | some a => ∃ gs : List (Str × V), H a = some (.xd gs) ∧ some a ∉ μ ∧ d.1 = gs.map (·.1) ∧ RAs K H μ d.2 (gs.map (·.2))
theorem RD.gr {K : PySem.W.Frag} {H H' : Hp} {μ μ' : Mu} (g : Gr H μ H' μ') {d : XP} : ∀ {a : Option Addr}, RD K H μ d a → RD K H' μ' d a
  | none, h => h
  | some _, ⟨gs, h, n, e, r⟩ => ⟨gs, g.keep _ _ h n, g.fr h n, e, r.gr g⟩
/-- the wish of an exception -/
def Exw (K : PySem.W.Frag) (W : WX) (σ : St) (H : Hp) (μ : Mu) (c : Str) (d : XP) (G : Hs) : Prop :=
  ∀ H' μ' dd, Gr H μ H' μ' → RH K H' μ' G → RD K H' μ' d dd → W (.ref (ga K c)) dd σ H'
def Aft {α β : Type} (K : PySem.W.Frag) (rel : Rel α β) (H : Hp) (μ : Mu) (v : α) (G : Hs) (Q : β → Hp → Prop) : Prop :=
  ∀ H' μ' x, Gr H μ H' μ' → RH K H' μ' G → rel H' μ' v x → Q x H'
def Po {α β : Type} (K : PySem.W.Frag) (rel : Rel α β) (W : WX) (σ : St) (H : Hp) (μ : Mu) (r : R α) (Q : β → Hp → Prop) : Prop :=
  match r with
  | .ok v G => Aft K rel H μ v G Q
  | .exc c d G => Exw K W σ H μ c d G
  | .stuck => False
def tG {α β : Type} (K : PySem.W.Frag) (rel : Rel α β) (W : WX) (m : En → Hs → R α) : St → Hp → (β → Hp → Prop) → Prop :=
  fun σ H Q => ∃ ρ μ G, RS K H μ ρ σ ∧ RH K H μ G ∧ Po K rel W σ H μ (m ρ G) Q
section
variable {α β γ δ : Type} {K : PySem.W.Frag} {rel : Rel α β} {rel' : Rel γ δ} {W : WX} {σ : St} {H H1 : Hp} {μ μ1 : Mu} {G : Hs} {ρ : En}
theorem Exw.gr {c : Str} {d : XP} (g : Gr H μ H1 μ1) (h : Exw K W σ H μ c d G) : Exw K W σ H1 μ1 c d G := fun H' μ' dd g' hr hd => h H' μ' dd (g.trans g') hr hd
theorem Po.gr {r : R α} {Q : β → Hp → Prop} (g : Gr H μ H1 μ1) (h : Po K rel W σ H μ r Q) : Po K rel W σ H1 μ1 r Q := by
  cases r with
  | ok v G => exact fun H' μ' x g' hr hv => h H' μ' x (g.trans g') hr hv
  | exc c d G => exact Exw.gr g h
  | stuck => exact h
/-- one behind the other -/
def R.bind (r : R α) (k : α → Hs → R γ) : R γ := match r with
  | .ok v G => k v G
  | .exc c d G => .exc c d G
  | .stuck => .stuck
@[simp] theorem R.bind_ok (v : α) (G : Hs) (k : α → Hs → R γ) : (R.ok v G).bind k = k v G := rfl
@[simp] theorem R.bind_exc (c : Str) (d : XP) (G : Hs) (k : α → Hs → R γ) : (R.exc c d G).bind k = .exc c d G := rfl
@[simp] theorem R.bind_stuck (k : α → Hs → R γ) : (R.stuck).bind k = .stuck := rfl
theorem tG.bind {m : En → Hs → R α} {k : α → Hs → R γ} {Q : δ → Hp → Prop} {Q1 : β → Hp → Prop} (hσ : RS K H μ ρ σ) (hG : RH K H μ G) (h : Po K rel' W σ H μ ((m ρ G).bind k) Q)
    (n : ∀ v G1 H1 μ1 x, Gr H μ H1 μ1 → RS K H1 μ1 ρ σ → RH K H1 μ1 G1 → rel H1 μ1 v x → Po K rel' W σ H1 μ1 (k v G1) Q → Q1 x H1) : tG K rel W m σ H Q1 := by
  refine ⟨ρ, μ, G, hσ, hG, ?_⟩
  cases e : m ρ G with
  | stuck => rw [e] at h; exact h
  | exc c d G' => rw [e] at h; exact h
  | ok v G1 =>
    rw [e] at h
    exact fun H1 μ1 x g hr hv => n v G1 H1 μ1 x g (hσ.gr g) hr hv (h.gr g)
theorem tG.of {m : En → Hs → R α} {Q : β → Hp → Prop} (hσ : RS K H μ ρ σ) (hG : RH K H μ G) (h : Po K rel W σ H μ (m ρ G) Q) : tG K rel W m σ H Q := ⟨ρ, μ, G, hσ, hG, h⟩
end
abbrev rA (K : PySem.W.Frag) : Rel AV V := RA K
abbrev rAs (K : PySem.W.Frag) : Rel (List AV) (List V) := RAs K
abbrev rB : Rel Bool Bool := fun _ _ a b => a = b
abbrev ME := En → Hs → R AV
abbrev MEs := En → Hs → R (List AV)
abbrev MB := En → Hs → R Bool
abbrev MS := En → Hs → SR
/-- the expression e computes m -/
def SE (X : Cx) (W : WX) (e : Expr) (m : ME) : Prop := PE X e (tG X.K (rA X.K) W m)
def SA (X : Cx) (W : WX) (es : List Expr) (m : MEs) : Prop := PA X es (tG X.K (rAs X.K) W m)
def ST (X : Cx) (W : WX) (e : Expr) (m : MB) : Prop := PT X e (tG X.K rB W m)
def SW (X : Cx) (W : WX) (e : Expr) (m : MB) : Prop := PW X e (tG X.K rB W m)
def PoS (K : PySem.W.Frag) (W : WX) (D : Ends) (H : Hp) (μ : Mu) (r : SR) : Prop :=
  match r with
  | .nx ρ G => ∀ H' μ' σ', Gr H μ H' μ' → RH K H' μ' G → RS K H' μ' ρ σ' → D.nx σ' H'
  | .rt v G => ∀ H' μ' x, Gr H μ H' μ' → RH K H' μ' G → RA K H' μ' v x → D.rt x H'
  | .bk ρ G => ∀ H' μ' σ', Gr H μ H' μ' → RH K H' μ' G → RS K H' μ' ρ σ' → D.bk σ' H'
  | .ct ρ G => ∀ H' μ' σ', Gr H μ H' μ' → RH K H' μ' G → RS K H' μ' ρ σ' → D.ct σ' H'
  | .exc c d ρ G => ∀ H' μ' σ' dd, Gr H μ H' μ' → RH K H' μ' G → RS K H' μ' ρ σ' → RD K H' μ' d dd → W (.ref (ga K c)) dd σ' H'
  | .stuck => False
def tS (K : PySem.W.Frag) (W : WX) (m : MS) : TS := fun D σ H => ∃ ρ μ G, RS K H μ ρ σ ∧ RH K H μ G ∧ PoS K W D H μ (m ρ G)
def SS (X : Cx) (W : WX) (s : Stmt) (m : MS) : Prop := PS X s (tS X.K W m)
def SSs (X : Cx) (W : WX) (s : List Stmt) (m : MS) : Prop := PSs X s (tS X.K W m)
theorem PE.imp {X : Cx} {e : Expr} {t t' : TE} (h : PE X e t) (i : ∀ σ H Q, t' σ H Q → t σ H Q) : PE X e t' := ⟨fun pins s σ H Q I w => h.run pins s σ H Q I (i σ H Q w)⟩
theorem PT.imp {X : Cx} {e : Expr} {t t' : TT} (h : PT X e t) (i : ∀ σ H Q, t' σ H Q → t σ H Q) : PT X e t' := ⟨fun pins s σ H Q I w => h.run pins s σ H Q I (i σ H Q w)⟩
theorem PW.imp {X : Cx} {e : Expr} {t t' : TT} (h : PW X e t) (i : ∀ σ H Q, t' σ H Q → t σ H Q) : PW X e t' := ⟨fun wh pins s σ H Q I w => h.run wh pins s σ H Q I (i σ H Q w)⟩
theorem PA.imp {X : Cx} {e : List Expr} {t t' : TA} (h : PA X e t) (i : ∀ σ H Q, t' σ H Q → t σ H Q) : PA X e t' := ⟨fun p pins s σ H Q I w => h.run p pins s σ H Q I (i σ H Q w)⟩
theorem PS.imp {X : Cx} {e : Stmt} {t t' : TS} (h : PS X e t) (i : ∀ D σ H, t' D σ H → t D σ H) : PS X e t' := ⟨fun pins s σ H D I w => h.run pins s σ H D I (i D σ H w)⟩
theorem PSs.imp {X : Cx} {e : List Stmt} {t t' : TS} (h : PSs X e t) (i : ∀ D σ H, t' D σ H → t D σ H) : PSs X e t' := ⟨fun pins s σ H D I w => h.run pins s σ H D I (i D σ H w)⟩
section
variable {X : Cx} {W : WX} {a b c e : Expr} {es : List Expr} {ma mb mc : ME} {ms : MEs} {pos : Pos}
def mVar (i : Nat) : ME := fun ρ G => match ρ[i]? with
  | some (some v) => .ok v G
  | _ => .stuck
def mC (v : AV) : ME := fun _ G => .ok v G
theorem Po.now {α β : Type} {K : PySem.W.Frag} {rel : Rel α β} {σ : St} {H : Hp} {μ : Mu} {G : Hs} {v : α} {x : β} {Q : β → Hp → Prop} (h : Po K rel W σ H μ (.ok v G) Q) (hG : RH K H μ G) (r : rel H μ v x) : Q x H :=
  h H μ x (Gr.refl _ _) hG r
theorem se_var {i : Nat} {x : Str} (h : PE X (.Name x pos) (tVar i)) : SE X W (.Name x pos) (mVar i) := by
  refine PE.imp h fun σ H Q ⟨ρ, μ, G, hσ, hG, h⟩ => ?_
  unfold mVar at h
  cases e : ρ[i]? with
  | none => rw [e] at h; exact h.elim
  | some o =>
    cases o with
    | none => rw [e] at h; exact h.elim
    | some v =>
      rw [e] at h
      obtain ⟨y, e1, r⟩ := hσ.at_ i v e
      exact ⟨y, e1, h.now hG r⟩
theorem se_c {v : AV} {x : V} (h : PE X e (tC x)) (r : ∀ H μ, RA X.K H μ v x) : SE X W e (mC v) :=
  PE.imp h fun σ H Q ⟨ρ, μ, G, hσ, hG, h⟩ => h.now hG (r H μ)
theorem se_int {i : Int} {j : Nat} : SE X W (.Constant (.int i) j pos) (mC (.int i)) := se_c pe_int fun _ _ => .int i
theorem se_bl {i : Bool} {j : Nat} : SE X W (.Constant (.bool i) j pos) (mC (.bl i)) := se_c pe_bl fun _ _ => .bl i
theorem se_non {j : Nat} : SE X W (.Constant .none j pos) (mC .non) := se_c pe_non fun _ _ => .non
theorem se_str {i : Str} {j : Nat} : SE X W (.Constant (.str i) j pos) (mC (.str i)) := se_c pe_str fun _ _ => .str i
def Op2 (K : PySem.W.Frag) (r : R2) (f : AV → AV → Hs → R AV) : Prop := ∀ (W : WX) σ H μ G v w x y Q, RH K H μ G → RA K H μ v x → RA K H μ w y → Po K (rA K) W σ H μ (f v w G) Q → r x y H Q
def m2 (f : AV → AV → Hs → R AV) (ma mb : ME) : ME := fun ρ G => (ma ρ G).bind fun v G1 => (mb ρ G1).bind fun w G2 => f v w G2
theorem op2_go {r : R2} {f : AV → AV → Hs → R AV} (hf : Op2 X.K r f) {σ : St} {H : Hp} {Q : VK} (h : tG X.K (rA X.K) W (m2 f ma mb) σ H Q) : tOp r (tG X.K (rA X.K) W ma) (tG X.K (rA X.K) W mb) σ H Q := by
  obtain ⟨ρ, μ, G, hσ, hG, h⟩ := h
  exact tG.bind hσ hG h fun v G1 H1 μ1 x g1 hσ1 hG1 rv h1 => tG.bind hσ1 hG1 h1 fun w G2 H2 μ2 y g2 hσ2 hG2 rw' h2 => hf W σ H2 μ2 G2 v w x y Q hG2 (rv.gr g2) rw' h2
theorem se_bin {op : Operator} {r : R2} {f : AV → AV → Hs → R AV} (ho : OpR X (binaryOp op) r) (hf : Op2 X.K r f) (ha : SE X W a ma) (hb : SE X W b mb) : SE X W (.BinOp a op b pos) (m2 f ma mb) :=
  PE.imp (pe_op ho ha hb) fun σ H Q h => op2_go hf h
theorem se_cmp {op : CmpOp} {r : R2} {f : AV → AV → Hs → R AV} (ho : OpR X (compareOp op) r) (hf : Op2 X.K r f) (ha : SE X W a ma) (hb : SE X W b mb) (hm : behindInMarks op b = false) : SE X W (.Compare a [op] [b] pos) (m2 f ma mb) :=
  PE.imp (pe_cmpR ho ha hb hm) fun σ H Q h => op2_go hf h
/-- a bool's own value -/
def asB (r : R AV) : R Bool := match r with
  | .ok (.bl b) G => .ok b G
  | .ok _ _ => .stuck
  | .exc c d G => .exc c d G
  | .stuck => .stuck
@[simp] theorem asB_ok (b : Bool) (G : Hs) : asB (.ok (.bl b) G) = .ok b G := rfl
def mTest (m : ME) : MB := fun ρ G => asB (m ρ G)
theorem test_po {K : PySem.W.Frag} {σ : St} {H : Hp} {μ : Mu} {r : R AV} {Q : Bool → Hp → Prop} (h : Po K rB W σ H μ (asB r) Q) : Po K (rA K) W σ H μ r (fun x H' => ∃ k, x = .bl k ∧ Q k H') := by
  cases r with
  | stuck => exact h
  | exc c d G => exact h
  | ok v G =>
    cases v with
    | bl b =>
      intro H' μ' x g hG r
      cases r
      exact ⟨b, rfl, h H' μ' b g hG rfl⟩
    | _ => exact h.elim
theorem test_go {m : ME} {σ : St} {H : Hp} {Q : Bool → Hp → Prop} (h : tG X.K rB W (mTest m) σ H Q) : tTest (tG X.K (rA X.K) W m) σ H Q := by
  obtain ⟨ρ, μ, G, hσ, hG, h⟩ := h
  exact ⟨ρ, μ, G, hσ, hG, test_po h⟩
theorem st_cmp {op : CmpOp} {r : R2} {f : AV → AV → Hs → R AV} (ho : OpR X (compareOp op) r) (hf : Op2 X.K r f) (ha : SE X W a ma) (hb : SE X W b mb) (hm : behindInMarks op b = false) : ST X W (.Compare a [op] [b] pos) (mTest (m2 f ma mb)) :=
  PT.imp (pt_cmpR ho ha hb hm) fun σ H Q h => by
    have h1 := test_go h
    exact op2_go hf h1
/-- a op1 b op2 c -/
def mChain (f g : AV → AV → Hs → R AV) (ma mb mc : ME) : ME := fun ρ G => (ma ρ G).bind fun v G1 => (mb ρ G1).bind fun w G2 => (asB (f v w G2)).bind fun k G3 => if k = true then (mc ρ G3).bind fun u G4 => g w u G4 else .ok (.bl false) G3
theorem chain_go {r r' : R2} {f g : AV → AV → Hs → R AV} (hf : Op2 X.K r f) (hg : Op2 X.K r' g) {σ : St} {H : Hp} {Q : VK} (h : tG X.K (rA X.K) W (mChain f g ma mb mc) σ H Q) : tChain r r' (tG X.K (rA X.K) W ma) (tG X.K (rA X.K) W mb) (tG X.K (rA X.K) W mc) σ H Q := by
  obtain ⟨ρ, μ, G, hσ, hG, h⟩ := h
  refine tG.bind hσ hG h fun v G1 H1 μ1 x g1 hσ1 hG1 rv h1 => tG.bind hσ1 hG1 h1 fun w G2 H2 μ2 y g2 hσ2 hG2 rw' h2 => ?_
  refine hf W σ H2 μ2 G2 v w x y _ hG2 (rv.gr g2) rw' (test_po ?_)
  cases e : asB (f v w G2) with
  | stuck => rw [e] at h2; exact h2
  | exc c d G' => rw [e] at h2; exact h2
  | ok k G3 =>
    rw [e] at h2
    intro H3 μ3 k' g3 hG3 ek
    have ek : k = k' := ek
    subst ek
    have h3 := Po.gr g3 h2
    cases k with
    | false =>
      refine iteF ?_
      have h3 : Po X.K (rA X.K) W σ H3 μ3 (.ok (.bl false) G3) Q := h3
      exact h3.now hG3 (.bl false)
    | true =>
      refine iteT ?_
      have h3 : Po X.K (rA X.K) W σ H3 μ3 ((mc ρ G3).bind fun u G4 => g w u G4) Q := h3
      exact tG.bind (hσ2.gr g3) hG3 h3 fun u G4 H4 μ4 z g4 hσ4 hG4 rz h4 => hg W σ H4 μ4 G4 w u y z Q hG4 ((rw'.gr g3).gr g4) rz h4
theorem se_chain {op op' : CmpOp} {r r' : R2} {f g : AV → AV → Hs → R AV} (ho : OpR X (compareOp op) r) (ho' : OpR X (compareOp op') r') (hf : Op2 X.K r f) (hg : Op2 X.K r' g) (ha : SE X W a ma) (hb : SE X W b mb) (hc : SE X W c mc)
    (hm : lastMarks [op, op'] [b, c] = false) : SE X W (.Compare a [op, op'] [b, c] pos) (mChain f g ma mb mc) :=
  PE.imp (pe_chain ho ho' ha hb hc hm) fun σ H Q h => chain_go hf hg h
end
end Vz
namespace Vz
open PySem L2
abbrev szl : Nat := sizeLine
/-- a list's items; a tuple's -/
def lstOf (G : Hs) : AV → Option (List AV)
  | .lk xs => some xs
  | .ls xs => some xs
  | .ref n => match G[n]? with
    | some (.lst xs) => some xs
    | _ => none
  | _ => none
def tupOf : AV → Option (List AV)
  | .tup xs => some xs
  | .con xs => some xs
  | _ => none
def seqOf (G : Hs) (v : AV) : Option (List AV) := match tupOf v with
  | some xs => some xs
  | none => lstOf G v
section
variable {K : PySem.W.Frag} {H : Hp} {μ : Mu} {G : Hs} {v w : AV} {x y : V} {xs ys : List AV}
theorem lstOf_ok (hG : RH K H μ G) (r : RA K H μ v x) (e : lstOf G v = some xs) : ∃ a vs, x = .ref a ∧ SqL K H a vs ∧ RAs K H μ xs vs := by
  cases r with
  | lk h rs =>
    cases e
    exact ⟨_, _, rfl, h.sq, rs⟩
  | ls h rs =>
    cases e
    exact ⟨_, _, rfl, h.sq, rs⟩
  | ref h =>
    rename_i n a
    obtain ⟨o, ho, ro⟩ := hG.obj h
    simp only [lstOf, ho] at e
    cases o with
    | lst zs =>
      cases e
      obtain ⟨vs, h1, h2⟩ := ro
      exact ⟨_, vs, rfl, SqL.of h1, h2⟩
    | _ => cases e
  | _ => cases e
theorem tupOf_ok (r : RA K H μ v x) (e : tupOf v = some xs) : ∃ a vs, x = .ref a ∧ SqT K H a vs ∧ RAs K H μ xs vs := by
  cases r with
  | tup h rs =>
    cases e
    exact ⟨_, _, rfl, SqT.of h, rs⟩
  | con h rs =>
    cases e
    exact ⟨_, _, rfl, h.sq, rs⟩
  | _ => cases e
theorem seqOf_ok (hG : RH K H μ G) (r : RA K H μ v x) (e : seqOf G v = some xs) : ∃ a vs, x = .ref a ∧ (SqL K H a vs ∨ SqT K H a vs) ∧ RAs K H μ xs vs := by
  unfold seqOf at e
  cases h : tupOf v with
  | some zs =>
    rw [h] at e
    cases e
    obtain ⟨a, vs, h1, h2, h3⟩ := tupOf_ok r h
    exact ⟨a, vs, h1, .inr h2, h3⟩
  | none =>
    rw [h] at e
    obtain ⟨a, vs, h1, h2, h3⟩ := lstOf_ok hG r e
    exact ⟨a, vs, h1, .inl h2, h3⟩
end
def fI2 (g : Int → Int → Option Int) : AV → AV → Hs → R AV
  | .int i, .int j, G => match g i j with
    | some k => .ok (.int k) G
    | none => .stuck
  | _, _, _ => .stuck
/-- a rule for ints under a condition -/
theorem op2_int {K : PySem.W.Frag} {C : Int → Int → Prop} {g : Int → Int → V} {f : Int → Int → Option Int} (h : ∀ i j k, f i j = some k → C i j ∧ g i j = .int k) : Op2 K (rI C g) (fI2 f) := by
  intro W σ H μ G v w x y Q hG rv rw' q
  cases rv with
  | int i =>
    cases rw' with
    | int j =>
      simp only [fI2] at q
      cases e : f i j with
      | none => rw [e] at q; exact q.elim
      | some k =>
        rw [e] at q
        obtain ⟨c, eg⟩ := h i j k e
        exact ⟨i, j, rfl, rfl, c, by rw [eg]; exact q.now hG (.int k)⟩
    | _ => exact q.elim
  | _ => exact q.elim
theorem op2_int0 {K : PySem.W.Frag} {g : Int → Int → V} {f : Int → Int → Int} (h : ∀ i j, g i j = .int (f i j)) : Op2 K (rI0 g) (fI2 fun i j => some (f i j)) := by
  intro W σ H μ G v w x y Q hG rv rw' q
  cases rv with
  | int i =>
    cases rw' with
    | int j => exact ⟨i, j, rfl, rfl, by rw [h]; exact Po.now (v := AV.int (f i j)) q hG (.int _)⟩
    | _ => exact q.elim
  | _ => exact q.elim
abbrev fSub : AV → AV → Hs → R AV := fI2 fun i j => some (i - j)
theorem op2_sub {K : PySem.W.Frag} : Op2 K (rI0 fun i j => .int (i - j)) fSub := op2_int0 fun _ _ => rfl
abbrev fMod : AV → AV → Hs → R AV := fI2 fun i j => if 0 < j then some (i % j) else none
theorem op2_mod {K : PySem.W.Frag} : Op2 K (rI (fun _ j => 0 < j) fun i j => .int (i % j)) fMod := op2_int fun i j k e => by
  by_cases h : 0 < j
  · rw [if_pos h] at e
    cases e
    exact ⟨h, rfl⟩
  · rw [if_neg h] at e
    cases e
/-- // by a positive number below 2 ^ 9000 -/
abbrev fDiv : AV → AV → Hs → R AV := fI2 fun i j => if 0 < j ∧ j.natAbs.log2 < 9000 then some (i / j) else none
theorem op2_div {K : PySem.W.Frag} : Op2 K (rI CDivW fun i j => .int (i / j)) fDiv := op2_int fun i j k e => by
  by_cases h : 0 < j ∧ j.natAbs.log2 < 9000
  · rw [if_pos h] at e
    cases e
    exact ⟨h, rfl⟩
  · rw [if_neg h] at e
    cases e
abbrev fPow : AV → AV → Hs → R AV := fI2 fun i j => if 0 ≤ j ∧ j ≤ 1000000 ∧ i.natAbs < 2 ^ 64 then some (i ^ j.toNat) else none
theorem op2_pow {K : PySem.W.Frag} : Op2 K (rI CPow fun i j => .int (i ^ j.toNat)) fPow := op2_int fun i j k e => by
  by_cases h : 0 ≤ j ∧ j ≤ 1000000 ∧ i.natAbs < 2 ^ 64
  · rw [if_pos h] at e
    cases e
    exact ⟨h, rfl⟩
  · rw [if_neg h] at e
    cases e
/-- + -/
def fAdd : AV → AV → Hs → R AV
  | .int i, .int j, G => .ok (.int (i + j)) G
  | .str a, .str b, G => if a.length + b.length ≤ szl then .ok (.str (a ++ b)) G else .stuck
  | .ref m, .ref n, G => match G[m]?, G[n]? with
    | some (.lst xs), some (.lst ys) => if xs.length + ys.length ≤ szl then .ok (.ref G.length) (G ++ [.lst (xs ++ ys)]) else .stuck
    | _, _ => .stuck
  | v, w, G => match tupOf v, tupOf w with
    | some xs, some ys => if xs.length + ys.length ≤ szl then (if xs.isEmpty then .ok w G else if ys.isEmpty then .ok v G else .ok (.tup (xs ++ ys)) G) else .stuck
    | _, _ => .stuck
def rAddA (K : PySem.W.Frag) : R2 := fun x y H Q => (rI0 (fun i j => .int (i + j)) x y H Q ∨ (∃ i j, x = .str i ∧ y = .str j ∧ i.length + j.length ≤ sizeLine ∧ Q (.str (i ++ j)) H)) ∨ (rCat x y H Q ∨ rCatA K x y H Q)
theorem op_addA {X : Cx} : OpR X (binaryOp .Add) (rAddA X.K) := (op_add.or op_add_str).or (op_cat.or op_catA)
theorem fAdd_tup {v w : AV} {xs ys : List AV} (hv : tupOf v = some xs) (hw : tupOf w = some ys) (G : Hs) : fAdd v w G = if xs.length + ys.length ≤ szl then (if xs.isEmpty then .ok w G else if ys.isEmpty then .ok v G else .ok (.tup (xs ++ ys)) G) else .stuck := by
  cases v <;> first | (cases hv; done) | (cases hv; cases w <;> first | (cases hw; done) | (cases hw; rfl))
theorem fAdd_no {v w : AV} {xs : List AV} (hv : tupOf v = some xs) (hw : tupOf w = none) (G : Hs) : fAdd v w G = .stuck := by
  cases v <;> first | (cases hv; done) | (cases hv; cases w <;> first | (cases hw; done) | (cases hw; rfl))
theorem op2_tup {K : PySem.W.Frag} {W : WX} {σ : St} {H : Hp} {μ : Mu} {G : Hs} {v w : AV} {x y : V} {xs ys : List AV} {Q : VK} (hG : RH K H μ G) (rv : RA K H μ v x) (rw' : RA K H μ w y) (hv : tupOf v = some xs) (hw : tupOf w = some ys)
    (q : Po K (rA K) W σ H μ (fAdd v w G) Q) : rCatA K x y H Q := by
  rw [fAdd_tup hv hw] at q
  obtain ⟨a, vs, rfl, hs, rs⟩ := tupOf_ok rv hv
  obtain ⟨b, ws, rfl, hs2, rs2⟩ := tupOf_ok rw' hw
  by_cases hz : xs.length + ys.length ≤ szl
  · rw [if_pos hz] at q
    refine ⟨a, b, vs, ws, rfl, rfl, hs, hs2, by rw [← rs.length, ← rs2.length]; exact hz, fun e => ?_, fun e1 e2 => ?_, fun e1 e2 p hp => ?_⟩
    · subst e
      cases rs
      exact Po.now (v := w) q hG rw'
    · subst e2
      cases rs2
      cases rs with
      | nil => exact absurd rfl e1
      | cons r t => exact Po.now (v := v) q hG rv
    · cases rs with
      | nil => exact absurd rfl e1
      | cons r t =>
        cases rs2 with
        | nil => exact absurd rfl e2
        | cons r' t' =>
          exact q _ μ _ (Gr.new hp) (hG.new hp) (.tup upd_same (((RAs.cons r t).app (.cons r' t')).gr (Gr.new hp)))
  · rw [if_neg hz] at q
    exact q.elim
theorem op2_add {K : PySem.W.Frag} : Op2 K (rAddA K) fAdd := by
  intro W σ H μ G v w x y Q hG rv rw' q
  cases h1 : tupOf v with
  | some xs =>
    cases h2 : tupOf w with
    | some ys => exact .inr (.inr (op2_tup hG rv rw' h1 h2 q))
    | none =>
      rw [fAdd_no h1 h2] at q
      exact q.elim
  | none =>
    cases rv with
    | int i =>
      cases rw' with
      | int j => exact .inl (.inl ⟨i, j, rfl, rfl, Po.now (v := AV.int (i + j)) q hG (.int _)⟩)
      | _ => exact q.elim
    | str i =>
      cases rw' with
      | str j =>
        simp only [fAdd] at q
        by_cases hz : i.length + j.length ≤ szl
        · rw [if_pos hz] at q
          exact .inl (.inr ⟨i, j, rfl, rfl, hz, Po.now (v := AV.str (i ++ j)) q hG (.str _)⟩)
        · rw [if_neg hz] at q
          exact q.elim
      | _ => exact q.elim
    | ref h =>
      rename_i m a
      cases rw' with
      | ref h' =>
        rename_i n b
        obtain ⟨o, ho, ro⟩ := hG.obj h
        obtain ⟨o', ho', ro'⟩ := hG.obj h'
        simp only [fAdd, ho, ho'] at q
        cases o with
        | lst xs =>
          cases o' with
          | lst ys =>
            simp only at q
            obtain ⟨vs, h1, h2⟩ := ro
            obtain ⟨ws, h3, h4⟩ := ro'
            by_cases hz : xs.length + ys.length ≤ szl
            · rw [if_pos hz] at q
              refine .inr (.inl ⟨a, b, vs, ws, rfl, rfl, h1, h3, by rw [← h2.length, ← h4.length]; exact hz, fun p hp => ?_⟩)
              have g : Gr H μ (upd H p (.lst (vs ++ ws))) (μ ++ [some p]) := Gr.alloc hp
              exact q _ _ _ g (hG.alloc hp ⟨_, upd_same, (h2.app h4).gr g⟩) (.ref (hG.fresh p))
            · rw [if_neg hz] at q
              exact q.elim
          | _ => exact q.elim
        | _ => exact q.elim
      | _ => exact q.elim
    | tup h r => cases h1
    | con h r => cases h1
    | _ => cases w <;> exact q.elim
/-- * -/
def fMul : AV → AV → Hs → R AV
  | .int i, .int j, G => if i.natAbs.log2 + j.natAbs.log2 < 1000000 then .ok (.int (i * j)) G else .stuck
  | .ref m, .int k, G => match G[m]? with
    | some (.lst xs) => if -(2 ^ 63) ≤ k ∧ k < 2 ^ 63 ∧ xs.length * k.toNat ≤ szl then .ok (.ref G.length) (G ++ [.lst (List.replicate k.toNat xs).flatten]) else .stuck
    | _ => .stuck
  | _, _, _ => .stuck
theorem RAs.rep {K : PySem.W.Frag} {H : Hp} {μ : Mu} {xs : List AV} {vs : List V} (h : RAs K H μ xs vs) : ∀ k : Nat, RAs K H μ (List.replicate k xs).flatten (List.replicate k vs).flatten
  | 0 => .nil
  | k + 1 => by
    rw [List.replicate_succ, List.replicate_succ, List.flatten_cons, List.flatten_cons]
    exact h.app (RAs.rep h k)
def rMulA (K : PySem.W.Frag) : R2 := fun x y H Q => rI CMulW (fun i j => .int (i * j)) x y H Q ∨ rRep x y H Q
theorem op_mulA {X : Cx} : OpR X (binaryOp .Mult) (rMulA X.K) := op_mulW.or op_rep
theorem op2_mul {K : PySem.W.Frag} : Op2 K (rMulA K) fMul := by
  intro W σ H μ G v w x y Q hG rv rw' q
  cases rv with
  | int i =>
    cases rw' with
    | int j =>
      simp only [fMul] at q
      by_cases hz : i.natAbs.log2 + j.natAbs.log2 < 1000000
      · rw [if_pos hz] at q
        exact .inl ⟨i, j, rfl, rfl, hz, Po.now (v := AV.int (i * j)) q hG (.int _)⟩
      · rw [if_neg hz] at q
        exact q.elim
    | _ => exact q.elim
  | ref h =>
    rename_i m a
    cases rw' with
    | int k =>
      obtain ⟨o, ho, ro⟩ := hG.obj h
      simp only [fMul, ho] at q
      cases o with
      | lst xs =>
        simp only at q
        obtain ⟨vs, h1, h2⟩ := ro
        by_cases hz : -(2 ^ 63) ≤ k ∧ k < 2 ^ 63 ∧ xs.length * k.toNat ≤ szl
        · rw [if_pos hz] at q
          refine .inr ⟨a, k, vs, rfl, rfl, h1, hz.1, hz.2.1, by rw [← h2.length]; exact hz.2.2, fun p hp => ?_⟩
          have g : Gr H μ (upd H p (.lst (List.replicate k.toNat vs).flatten)) (μ ++ [some p]) := Gr.alloc hp
          exact q _ _ _ g (hG.alloc hp ⟨_, upd_same, (h2.rep _).gr g⟩) (.ref (hG.fresh p))
        · rw [if_neg hz] at q
          exact q.elim
      | _ => exact q.elim
    | _ => exact q.elim
  | _ => exact q.elim
def fCmpI (g : Int → Int → Bool) : AV → AV → Hs → R AV
  | .int i, .int j, G => .ok (.bl (g i j)) G
  | _, _, _ => .stuck
theorem op2_cmpI {K : PySem.W.Frag} {g : Int → Int → Bool} : Op2 K (rI0 fun i j => .bl (g i j)) (fCmpI g) := by
  intro W σ H μ G v w x y Q hG rv rw' q
  cases rv with
  | int i =>
    cases rw' with
    | int j => exact ⟨i, j, rfl, rfl, Po.now (v := AV.bl (g i j)) q hG (.bl _)⟩
    | _ => exact q.elim
  | _ => exact q.elim
abbrev fLt := fCmpI fun i j => decide (i < j)
abbrev fLe := fCmpI fun i j => decide (i ≤ j)
abbrev fGt := fCmpI fun i j => decide (j < i)
abbrev fGe := fCmpI fun i j => decide (j ≤ i)
def fIsN : AV → AV → Hs → R AV
  | .non, .non, G => .ok (.bl true) G
  | _, .non, G => .ok (.bl false) G
  | _, _, _ => .stuck
def fNotN : AV → AV → Hs → R AV
  | .non, .non, G => .ok (.bl false) G
  | _, .non, G => .ok (.bl true) G
  | _, _, _ => .stuck
theorem op2_isN {K : PySem.W.Frag} : Op2 K (fun x y H Q => y = .non ∧ Q (.bl (decide (x = .non))) H) fIsN := by
  intro W σ H μ G v w x y Q hG rv rw' q
  cases rw' with
  | non =>
    refine ⟨rfl, ?_⟩
    cases rv with
    | non => exact Po.now (v := AV.bl true) q hG (.bl _)
    | _ => exact Po.now (v := AV.bl false) q hG (.bl _)
  | _ => cases v <;> exact q.elim
theorem op2_notN {K : PySem.W.Frag} : Op2 K (fun x y H Q => y = .non ∧ Q (.bl (!decide (x = .non))) H) fNotN := by
  intro W σ H μ G v w x y Q hG rv rw' q
  cases rw' with
  | non =>
    refine ⟨rfl, ?_⟩
    cases rv with
    | non => exact Po.now (v := AV.bl false) q hG (.bl _)
    | _ => exact Po.now (v := AV.bl true) q hG (.bl _)
  | _ => cases v <;> exact q.elim
end Vz
namespace Vz
open PySem L2
def allS {α : Type} : List (Option α) → Option (List α)
  | [] => some []
  | none :: _ => none
  | some a :: r => match allS r with
    | some l => some (a :: l)
    | none => none
def dat : Nat → Hs → AV → Option PyData
  | 0, _, _ => none
  | n + 1, G, v => match v with
    | .non => some .none
    | .bl b => some (.bool b)
    | .int i => some (.int i)
    | .str s => some (.str s)
    | .tup xs => match allS (xs.map (dat n G)) with
      | some ds => some (.tuple ds)
      | none => none
    | .con xs => match allS (xs.map (dat n G)) with
      | some ds => some (.tuple ds)
      | none => none
    | .lk xs => match allS (xs.map (dat n G)) with
      | some ds => some (.list ds)
      | none => none
    | .ls xs => match allS (xs.map (dat n G)) with
      | some ds => some (.list ds)
      | none => none
    | .iv _ _ _ => none
    | .id _ _ => none
    | .it _ _ => none
    | .xv _ _ _ => none
    | .fd _ _ => none
    | .ref m => match G[m]? with
      | some (.lst xs) => match allS (xs.map (dat n G)) with
        | some ds => some (.list ds)
        | none => none
      | _ => none
section
variable {K : PySem.W.Frag} {H : Hp} {μ : Mu} {G : Hs}
theorem dats_ok {f : AV → Option PyData} (hf : ∀ v x d, RA K H μ v x → f v = some d → Dp K H x d) : ∀ {xs : List AV} {vs : List V} {ds : List PyData}, RAs K H μ xs vs → allS (xs.map f) = some ds → DpAll K H vs ds
  | _, _, _, .nil, e => by cases e; exact .nil
  | _, _, ds, .cons (x := x) (xs := xs) r t, e => by
    rw [List.map_cons] at e
    cases h : f x with
    | none => rw [h] at e; cases e
    | some d =>
      rw [h] at e
      cases h2 : allS (xs.map f) with
      | none => simp only [allS, h2] at e; cases e
      | some l =>
        simp only [allS, h2] at e
        cases e
        exact .cons (hf _ _ _ r h) (dats_ok hf t h2)
theorem dat_ok (hG : RH K H μ G) : ∀ (n : Nat) (v : AV) (x : V) (d : PyData), RA K H μ v x → dat n G v = some d → Dp K H x d
  | 0, _, _, _, _, e => by cases e
  | n + 1, v, x, d, r, e => by
    have ih := fun v x d => dat_ok hG n v x d
    cases r with
    | non => cases e; exact .non
    | bl b => cases e; exact .bl b
    | int b => cases e; exact .int b
    | str b => cases e; exact .str b
    | tup h rs =>
      rename_i a vs xs
      simp only [dat] at e
      cases h2 : allS (xs.map (dat n G)) with
      | none => rw [h2] at e; cases e
      | some l => rw [h2] at e; cases e; exact .tup (SqT.of h) (dats_ok ih rs h2)
    | con h rs =>
      rename_i a vs xs
      simp only [dat] at e
      cases h2 : allS (xs.map (dat n G)) with
      | none => rw [h2] at e; cases e
      | some l => rw [h2] at e; cases e; exact .tup h.sq (dats_ok ih rs h2)
    | lk h rs =>
      rename_i a vs xs
      simp only [dat] at e
      cases h2 : allS (xs.map (dat n G)) with
      | none => rw [h2] at e; cases e
      | some l => rw [h2] at e; cases e; exact .lst h.sq (dats_ok ih rs h2)
    | ls h rs =>
      rename_i a vs xs
      simp only [dat] at e
      cases h2 : allS (xs.map (dat n G)) with
      | none => rw [h2] at e; cases e
      | some l => rw [h2] at e; cases e; exact .lst h.sq (dats_ok ih rs h2)
    | iv _ _ _ _ => cases e
    | id _ _ _ _ => cases e
    | it _ _ _ _ => cases e
    | xv0 _ _ => cases e
    | xv _ _ _ _ _ _ => cases e
    | fd _ _ _ => cases e
    | ref h =>
      rename_i m a
      obtain ⟨o, ho, ro⟩ := hG.obj h
      simp only [dat, ho] at e
      cases o with
      | lst xs =>
        obtain ⟨vs, h1, rs⟩ := ro
        simp only at e
        cases h2 : allS (xs.map (dat n G)) with
        | none => rw [h2] at e; cases e
        | some l => rw [h2] at e; cases e; exact .lst (SqL.of h1) (dats_ok ih rs h2)
      | _ => cases e
end
def eqF (G : Hs) (v w : AV) : Option Bool := match dat 12 G v, dat 12 G w with
  | some d, some e => if SeqAt.shaped d = true ∧ SeqAt.shaped e = true then some (PyData.eqv d e) else none
  | _, _ => none
def eqB (G : Hs) : AV → AV → Option Bool
  | .int i, .int j => some (decide (i = j))
  | .str a, .str b => some (decide (a = b))
  | .bl a, .bl b => some (decide (a = b))
  | .non, .non => some true
  | v, w => eqF G v w
def fEq (v w : AV) (G : Hs) : R AV := match eqB G v w with
  | some b => .ok (.bl b) G
  | none => .stuck
def fNe (v w : AV) (G : Hs) : R AV := match eqB G v w with
  | some b => .ok (.bl (!b)) G
  | none => .stuck
theorem eqB_ok {K : PySem.W.Frag} {H : Hp} {μ : Mu} {G : Hs} {v w : AV} {x y : V} {b : Bool} (hG : RH K H μ G) (rv : RA K H μ v x) (rw' : RA K H μ w y) (e : eqB G v w = some b) :
    (scal x y = true ∧ b = decide (x = y)) ∨ ∃ d e, Dp K H x d ∧ Dp K H y e ∧ SeqAt.shaped d = true ∧ SeqAt.shaped e = true ∧ b = PyData.eqv d e := by
  have far : eqF G v w = some b → (scal x y = true ∧ b = decide (x = y)) ∨ ∃ d e, Dp K H x d ∧ Dp K H y e ∧ SeqAt.shaped d = true ∧ SeqAt.shaped e = true ∧ b = PyData.eqv d e := fun e => by
    unfold eqF at e
    cases h1 : dat 12 G v with
    | none => rw [h1] at e; cases e
    | some d =>
      cases h2 : dat 12 G w with
      | none => rw [h1, h2] at e; cases e
      | some d' =>
        rw [h1, h2] at e
        simp only at e
        by_cases hs : SeqAt.shaped d = true ∧ SeqAt.shaped d' = true
        · rw [if_pos hs] at e
          cases e
          exact .inr ⟨d, d', dat_ok hG 12 v x d rv h1, dat_ok hG 12 w y d' rw' h2, hs.1, hs.2, rfl⟩
        · rw [if_neg hs] at e
          cases e
  cases rv with
  | int i =>
    cases rw' with
    | int j =>
      cases e
      exact .inl ⟨rfl, by simp⟩
    | _ => exact far e
  | str i =>
    cases rw' with
    | str j =>
      cases e
      exact .inl ⟨rfl, by simp⟩
    | _ => exact far e
  | bl i =>
    cases rw' with
    | bl j =>
      cases e
      exact .inl ⟨rfl, by simp⟩
    | _ => exact far e
  | non =>
    cases rw' with
    | non =>
      cases e
      exact .inl ⟨rfl, by simp⟩
    | _ => exact far e
  | _ => cases rw' <;> exact far e
def rEqA (K : PySem.W.Frag) : R2 := fun x y H Q => rEq x y H Q ∨ rEqD K x y H Q
def rNeA (K : PySem.W.Frag) : R2 := fun x y H Q => rNe x y H Q ∨ rNeD K x y H Q
theorem op_eqA {X : Cx} (hu : X.A.units + 64 < cLine) : OpR X (compareOp .Eq) (rEqA X.K) := op_eq.or (op_eqD hu)
theorem op_neA {X : Cx} (hu : X.A.units + 64 < cLine) : OpR X (compareOp .NotEq) (rNeA X.K) := op_ne.or (op_neD hu)
theorem op2_eq {K : PySem.W.Frag} : Op2 K (rEqA K) fEq := by
  intro W σ H μ G v w x y Q hG rv rw' q
  unfold fEq at q
  cases e : eqB G v w with
  | none => rw [e] at q; exact q.elim
  | some b =>
    rw [e] at q
    have q' := Po.now (v := AV.bl b) q hG (.bl b)
    rcases eqB_ok hG rv rw' e with ⟨h1, h2⟩ | ⟨d, d', h1, h2, h3, h4, h5⟩
    · exact .inl ⟨h1, by rw [← h2]; exact q'⟩
    · exact .inr ⟨d, d', h1, h2, h3, h4, by rw [← h5]; exact q'⟩
theorem op2_ne {K : PySem.W.Frag} : Op2 K (rNeA K) fNe := by
  intro W σ H μ G v w x y Q hG rv rw' q
  unfold fNe at q
  cases e : eqB G v w with
  | none => rw [e] at q; exact q.elim
  | some b =>
    rw [e] at q
    have q' := Po.now (v := AV.bl (!b)) q hG (.bl _)
    rcases eqB_ok hG rv rw' e with ⟨h1, h2⟩ | ⟨d, d', h1, h2, h3, h4, h5⟩
    · exact .inl ⟨h1, by rw [← h2]; exact q'⟩
    · exact .inr ⟨d, d', h1, h2, h3, h4, by rw [← h5]; exact q'⟩
def flatA : AV → Bool
  | .non => true
  | .bl _ => true
  | .int _ => true
  | .str _ => true
  | _ => false
def eqA : AV → AV → Bool
  | .non, .non => true
  | .bl a, .bl b => a == b
  | .bl a, .int b => (if a then 1 else 0) == b
  | .int a, .bl b => a == (if b then 1 else 0)
  | .int a, .int b => a == b
  | .str a, .str b => a == b
  | _, _ => false
theorem flat_ok {K : PySem.W.Frag} {H : Hp} {μ : Mu} {v : AV} {x : V} (r : RA K H μ v x) : flatA v = flatV x := by cases r <;> rfl
theorem flats_ok {K : PySem.W.Frag} {H : Hp} {μ : Mu} : ∀ {xs : List AV} {vs : List V}, RAs K H μ xs vs → xs.all flatA = vs.all flatV
  | _, _, .nil => rfl
  | _, _, .cons r t => by rw [List.all_cons, List.all_cons, flat_ok r, flats_ok t]
theorem eqA_ok {K : PySem.W.Frag} {H : Hp} {μ : Mu} {v w : AV} {x y : V} (r : RA K H μ v x) (r' : RA K H μ w y) : eqA v w = eqV x y := by cases r <;> cases r' <;> rfl
theorem any_ok {K : PySem.W.Frag} {H : Hp} {μ : Mu} {v : AV} {x : V} (r : RA K H μ v x) : ∀ {xs : List AV} {vs : List V}, RAs K H μ xs vs → (xs.any fun y => eqA y v) = inV x vs
  | _, _, .nil => rfl
  | _, _, .cons r' t => by
    unfold inV
    rw [List.any_cons, List.any_cons, eqA_ok r' r, any_ok r t]
    rfl
/-- the answer of v in w -/
def inB (G : Hs) (v w : AV) : Option Bool := match w with
  | .str z => match v with
    | .str s => if s.cps.size = 1 then some (decide (s.cps.toList.headD 0 ∈ z.cps.toList)) else some (!(Builtin.Str.occurrences z s 0 z.length 1).isEmpty)
    | _ => none
  | w => match seqOf G w with
    | some xs => if flatA v = true ∧ xs.all flatA = true then some (xs.any fun y => eqA y v) else
      match lstOf G w, dat 12 G v, allS (xs.map (dat 12 G)) with
      | some _, some d, some ds => if SeqAt.shaped d = true ∧ SeqAt.shaped (.list ds) = true then some (ds.any fun z => PyData.eqv z d) else none
      | _, _, _ => none
    | none => none
def fIn (v w : AV) (G : Hs) : R AV := match inB G v w with
  | some b => .ok (.bl b) G
  | none => .stuck
def fNin (v w : AV) (G : Hs) : R AV := match inB G v w with
  | some b => .ok (.bl (!b)) G
  | none => .stuck
abbrev rNinS : R2 := fun x y H Q => ∃ i j, x = .str i ∧ y = .str j ∧ Q (.bl (!(!(Builtin.Str.occurrences j i 0 j.length 1).isEmpty))) H
abbrev rNinC : R2 := fun x y H Q => ∃ (c : Nat) (z : Str), x = .str ⟨#[c]⟩ ∧ y = .str z ∧ Q (.bl (!decide (c ∈ z.cps.toList))) H
def rNinA (K : PySem.W.Frag) : R2 := fun x y H Q => (rNinS x y H Q ∨ rNinC x y H Q) ∨ (rIn K true x y H Q ∨ rNotInD K x y H Q)
theorem op_ninA {X : Cx} (hu : X.A.units + 65 < cLine) : OpR X (compareOp .NotIn) (rNinA X.K) := (op_notin_str.or op_notIn_sign).or (op_notIn_seq.or (op_notInD hu))
theorem str1 {s : Str} (h : s.cps.size = 1) : s = ⟨#[s.cps.toList.headD 0]⟩ := by
  obtain ⟨⟨l⟩⟩ := s
  cases l with
  | nil => cases h
  | cons c r =>
    cases r with
    | nil => rfl
    | cons d r =>
      have h' : (c :: d :: r).length = 1 := h
      simp at h'
theorem inB_ok {K : PySem.W.Frag} {H : Hp} {μ : Mu} {G : Hs} {v w : AV} {x y : V} {b : Bool} (hG : RH K H μ G) (rv : RA K H μ v x) (rw' : RA K H μ w y) (e : inB G v w = some b) :
    ((∃ i j, x = .str i ∧ y = .str j ∧ b = !(Builtin.Str.occurrences j i 0 j.length 1).isEmpty) ∨ ∃ (c : Nat) (z : Str), x = .str ⟨#[c]⟩ ∧ y = .str z ∧ b = decide (c ∈ z.cps.toList)) ∨
    ((∃ p xs, y = .ref p ∧ (SqL K H p xs ∨ SqT K H p xs) ∧ flatV x = true ∧ xs.all flatV = true ∧ b = inV x xs) ∨ ∃ d ds, Dp K H x d ∧ Dp K H y (.list ds) ∧ SeqAt.shaped d = true ∧ SeqAt.shaped (.list ds) = true ∧ b = ds.any fun z => PyData.eqv z d) := by
  have far : (match seqOf G w with
    | some xs => if flatA v = true ∧ xs.all flatA = true then some (xs.any fun y => eqA y v) else
      match lstOf G w, dat 12 G v, allS (xs.map (dat 12 G)) with
      | some _, some d, some ds => if SeqAt.shaped d = true ∧ SeqAt.shaped (.list ds) = true then some (ds.any fun z => PyData.eqv z d) else none
      | _, _, _ => none
    | none => none) = some b → ((∃ p xs, y = .ref p ∧ (SqL K H p xs ∨ SqT K H p xs) ∧ flatV x = true ∧ xs.all flatV = true ∧ b = inV x xs) ∨ ∃ d ds, Dp K H x d ∧ Dp K H y (.list ds) ∧ SeqAt.shaped d = true ∧ SeqAt.shaped (.list ds) = true ∧ b = ds.any fun z => PyData.eqv z d) := fun e => by
    cases h : seqOf G w with
    | none => rw [h] at e; cases e
    | some xs =>
      rw [h] at e
      simp only at e
      by_cases hf : flatA v = true ∧ xs.all flatA = true
      · rw [if_pos hf] at e
        cases e
        obtain ⟨a, vs, rfl, hs, rs⟩ := seqOf_ok hG rw' h
        exact .inl ⟨a, vs, rfl, hs, by rw [← flat_ok rv]; exact hf.1, by rw [← flats_ok rs]; exact hf.2, any_ok rv rs⟩
      · rw [if_neg hf] at e
        cases h1 : lstOf G w with
        | none => rw [h1] at e; cases e
        | some ys =>
          cases h2 : dat 12 G v with
          | none => rw [h1, h2] at e; cases e
          | some d =>
            cases h3 : allS (xs.map (dat 12 G)) with
            | none => rw [h1, h2, h3] at e; cases e
            | some ds =>
              rw [h1, h2, h3] at e
              simp only at e
              by_cases hs : SeqAt.shaped d = true ∧ SeqAt.shaped (.list ds) = true
              · rw [if_pos hs] at e
                cases e
                obtain ⟨a, vs, rfl, hq, rs⟩ := lstOf_ok hG rw' h1
                have exy : xs = ys := by
                  unfold seqOf at h
                  cases ht : tupOf w with
                  | some zs => cases w <;> first | (cases ht; done) | (cases h1; done)
                  | none =>
                    rw [ht] at h
                    exact Option.some.inj (h.symm.trans h1)
                subst exy
                exact .inr ⟨d, ds, dat_ok hG 12 v x d rv h2, .lst hq (dats_ok (fun v x d => dat_ok hG 12 v x d) rs h3), hs.1, hs.2, rfl⟩
              · rw [if_neg hs] at e
                cases e
  cases rw' with
  | str z =>
    cases rv with
    | str s =>
      simp only [inB] at e
      by_cases h1 : s.cps.size = 1
      · rw [if_pos h1] at e
        cases e
        exact .inl (.inr ⟨_, z, congrArg V.str (str1 h1), rfl, rfl⟩)
      · rw [if_neg h1] at e
        cases e
        exact .inl (.inl ⟨s, z, rfl, rfl, rfl⟩)
    | _ => cases e
  | _ => exact .inr (far e)
theorem op2_nin {K : PySem.W.Frag} : Op2 K (rNinA K) fNin := by
  intro W σ H μ G v w x y Q hG rv rw' q
  unfold fNin at q
  cases e : inB G v w with
  | none => rw [e] at q; exact q.elim
  | some b =>
    rw [e] at q
    have q' := Po.now (v := AV.bl (!b)) q hG (.bl _)
    rcases inB_ok hG rv rw' e with (⟨i, j, h1, h2, h3⟩ | ⟨i, j, h1, h2, h3⟩) | (⟨i, j, h1, h2, h3, h4, h5⟩ | ⟨i, j, h1, h2, h3, h4, h5⟩)
    · exact .inl (.inl ⟨i, j, h1, h2, by rw [← h3]; exact q'⟩)
    · exact .inl (.inr ⟨i, j, h1, h2, by rw [← h3]; exact q'⟩)
    · exact .inr (.inl ⟨i, j, h1, h2, h3, h4, by rw [if_pos rfl, ← h5]; exact q'⟩)
    · exact .inr (.inr ⟨i, j, h1, h2, h3, h4, by rw [← h5]; exact q'⟩)
end Vz
namespace Vz
open PySem L2
section
variable {X : Cx} {W : WX} {a b c e : Expr} {es rest : List Expr} {ma mb mc : ME} {ta tb tc : MB} {ms : MEs} {pos : Pos}
/-- a value's truth -/
def truB (G : Hs) : AV → Option Bool
  | .non => some false
  | .bl b => some b
  | .int i => some (i != 0)
  | .str s => if s.length ≤ szl then some ((s.length : Int) != 0) else none
  | .tup xs => some (!xs.isEmpty)
  | .con xs => some (!xs.isEmpty)
  | .lk xs => some (!xs.isEmpty)
  | .ls xs => some (!xs.isEmpty)
  | .iv _ _ _ => none
  | .id _ xs => some (!xs.isEmpty)
  | .it _ _ => none
  | .xv _ _ _ => none
  | .fd _ _ => none
  | .ref n => match G[n]? with
    | some (.lst xs) => some (!xs.isEmpty)
    | some (.dk xs) => some (!xs.isEmpty)
    | _ => none
def asT (r : R AV) : R Bool := match r with
  | .ok v G => match truB G v with
    | some b => .ok b G
    | none => .stuck
  | .exc c d G => .exc c d G
  | .stuck => .stuck
def mTru (m : ME) : MB := fun ρ G => asT (m ρ G)
theorem isEmpty_RAs {K : PySem.W.Frag} {H : Hp} {μ : Mu} : ∀ {xs : List AV} {vs : List V}, RAs K H μ xs vs → (!xs.isEmpty) = !vs.isEmpty
  | _, _, .nil => rfl
  | _, _, .cons _ _ => rfl
theorem isEmpty_RF {K : PySem.W.Frag} {H : Hp} {μ : Mu} {κ : Type} {xs : List (κ × AV)} {vs : List (κ × V)} (h : RF K H μ xs vs) : (!xs.isEmpty) = !vs.isEmpty := by
  have h1 := h.1
  cases xs <;> cases vs <;> first | rfl | (simp at h1)
theorem truB_ok {K : PySem.W.Frag} {H : Hp} {μ : Mu} {G : Hs} {v : AV} {x : V} {b : Bool} (hG : RH K H μ G) (r : RA K H μ v x) (e : truB G v = some b) : TruV K x H b := by
  cases r with
  | non => cases e; rfl
  | bl k => cases e; rfl
  | int i => cases e; rfl
  | str s =>
    simp only [truB] at e
    by_cases h : s.length ≤ szl
    · rw [if_pos h] at e
      cases e
      exact ⟨h, rfl⟩
    · rw [if_neg h] at e
      cases e
  | tup h rs => cases e; exact .inr (.inl ⟨_, SqT.of h, isEmpty_RAs rs⟩)
  | con h rs => cases e; exact .inr (.inl ⟨_, h.sq, isEmpty_RAs rs⟩)
  | lk h rs => cases e; exact .inl ⟨_, h.sq, isEmpty_RAs rs⟩
  | ls h rs => cases e; exact .inl ⟨_, h.sq, isEmpty_RAs rs⟩
  | iv _ _ _ _ => cases e
  | id h _ _ rs => cases e; exact .inr (.inr ⟨_, h, by rw [isEmpty_RAs rs]; cases (by assumption : List (Key × V)) <;> rfl⟩)
  | it _ _ _ _ => cases e
  | xv0 _ _ => cases e
  | xv _ _ _ _ _ _ => cases e
  | fd _ _ _ => cases e
  | ref h =>
    obtain ⟨o, ho, ro⟩ := hG.obj h
    simp only [truB, ho] at e
    cases o with
    | lst xs => cases e; obtain ⟨vs, h1, rs⟩ := ro; exact .inl ⟨vs, SqL.of h1, isEmpty_RAs rs⟩
    | dk xs => cases e; obtain ⟨ws, h1, rs⟩ := ro; exact .inr (.inr ⟨ws, h1, isEmpty_RF rs⟩)
    | _ => cases e
theorem st_tru (ha : SE X W a ma) (he : ∀ whole, isTrue a X.env whole = (do let v ← whole; standAt a.pos; holding [v] (truthy v))) : ST X W a (mTru ma) := by
  refine PT.imp (pt_truth ha he) fun σ H Q ⟨ρ, μ, G, hσ, hG, h⟩ => ⟨ρ, μ, G, hσ, hG, ?_⟩
  unfold mTru at h
  cases e : ma ρ G with
  | stuck => rw [e] at h; exact h
  | exc c d G' => rw [e] at h; exact h
  | ok v G1 =>
    rw [e] at h
    intro H1 μ1 x g hG1 r
    cases e2 : truB G1 v with
    | none => simp only [asT, e2] at h; exact h.elim
    | some b =>
      simp only [asT, e2] at h
      exact ⟨b, truB_ok hG1 r e2, h H1 μ1 b g hG1 rfl⟩
def mAnd (ta tb : MB) : MB := fun ρ G => (ta ρ G).bind fun k G1 => if k = true then tb ρ G1 else .ok false G1
def mOr (ta tb : MB) : MB := fun ρ G => (ta ρ G).bind fun k G1 => if k = true then .ok true G1 else tb ρ G1
def mNot (ta : MB) : MB := fun ρ G => (ta ρ G).bind fun k G1 => .ok (!k) G1
theorem sw_and1 (ha : ST X W a ta) : SW X W (.BoolOp .And [a] pos) ta := pw_and1 ha
theorem sw_or1 (ha : ST X W a ta) : SW X W (.BoolOp .Or [a] pos) ta := pw_or1 ha
theorem sw_and (ha : ST X W a ta) (hb : SW X W (.BoolOp .And (b :: rest) pos) tb) : SW X W (.BoolOp .And (a :: b :: rest) pos) (mAnd ta tb) := by
  refine PW.imp (pw_and ha hb) fun σ H Q ⟨ρ, μ, G, hσ, hG, h⟩ => tG.bind hσ hG h fun k G1 H1 μ1 k' g1 hσ1 hG1 ek h1 => ?_
  have ek : k = k' := ek
  subst ek
  cases k with
  | true => exact iteT ⟨ρ, μ1, G1, hσ1, hG1, h1⟩
  | false => exact iteF (Po.now (v := false) h1 hG1 rfl)
theorem sw_or (ha : ST X W a ta) (hb : SW X W (.BoolOp .Or (b :: rest) pos) tb) : SW X W (.BoolOp .Or (a :: b :: rest) pos) (mOr ta tb) := by
  refine PW.imp (pw_or ha hb) fun σ H Q ⟨ρ, μ, G, hσ, hG, h⟩ => tG.bind hσ hG h fun k G1 H1 μ1 k' g1 hσ1 hG1 ek h1 => ?_
  have ek : k = k' := ek
  subst ek
  cases k with
  | true => exact iteT (Po.now (v := true) h1 hG1 rfl)
  | false => exact iteF ⟨ρ, μ1, G1, hσ1, hG1, h1⟩
theorem sw_t (h : SW X W a ta) : ST X W a ta := PW.pt h
theorem st_not (ha : ST X W a ta) : ST X W (.UnaryOp .Not a pos) (mNot ta) := by
  refine PT.imp (pt_not ha) fun σ H Q ⟨ρ, μ, G, hσ, hG, h⟩ => tG.bind hσ hG h fun k G1 H1 μ1 k' g1 hσ1 hG1 ek h1 => ?_
  have ek : k = k' := ek
  subst ek
  exact Po.now (v := !k) h1 hG1 rfl
/-- and, or, not as values: of bools -/
def mAndV (ma mb : ME) : ME := fun ρ G => (asB (ma ρ G)).bind fun k G1 => if k = true then mb ρ G1 else .ok (.bl false) G1
def mOrV (ma mb : ME) : ME := fun ρ G => (asB (ma ρ G)).bind fun k G1 => if k = true then .ok (.bl true) G1 else mb ρ G1
def mNotV (ma : ME) : ME := fun ρ G => (asB (ma ρ G)).bind fun k G1 => .ok (.bl (!k)) G1
theorem tE_bool {K : PySem.W.Frag} {γ δ : Type} {rel' : Rel γ δ} {m : ME} {k : Bool → Hs → R γ} {ρ : En} {σ : St} {H : Hp} {μ : Mu} {G : Hs} {Q : δ → Hp → Prop} {Q1 : VK} (hσ : RS K H μ ρ σ) (hG : RH K H μ G)
    (h : Po K rel' W σ H μ ((asB (m ρ G)).bind k) Q) (n : ∀ b G1 H1 μ1, RS K H1 μ1 ρ σ → RH K H1 μ1 G1 → Po K rel' W σ H1 μ1 (k b G1) Q → Q1 (.bl b) H1) : tG K (rA K) W m σ H Q1 := by
  refine ⟨ρ, μ, G, hσ, hG, ?_⟩
  cases e : m ρ G with
  | stuck => rw [e] at h; exact h
  | exc c d G' => rw [e] at h; exact h
  | ok v G1 =>
    rw [e] at h
    cases v with
    | bl b =>
      intro H1 μ1 x g hG1 r
      cases r
      exact n b G1 H1 μ1 (hσ.gr g) hG1 (Po.gr g h)
    | _ => exact h.elim
theorem se_one {op : BoolOp} {m : ME} (h : SE X W a m) : SE X W (.BoolOp op [a] pos) m := pe_one h
theorem se_and (ha : SE X W a ma) (hb : SE X W (.BoolOp .And (b :: rest) pos) mb) : SE X W (.BoolOp .And (a :: b :: rest) pos) (mAndV ma mb) := by
  refine PE.imp (pe_and ha hb) fun σ H Q ⟨ρ, μ, G, hσ, hG, h⟩ => tE_bool hσ hG h fun k G1 H1 μ1 hσ1 hG1 h1 => ⟨k, rfl, ?_⟩
  cases k with
  | true => exact iteT ⟨ρ, μ1, G1, hσ1, hG1, h1⟩
  | false => exact iteF (Po.now (v := AV.bl false) h1 hG1 (.bl _))
def mIte (tc : MB) (ma mb : ME) : ME := fun ρ G => (tc ρ G).bind fun k G1 => if k = true then ma ρ G1 else mb ρ G1
theorem se_ite (hc : ST X W c tc) (ha : SE X W a ma) (hb : SE X W b mb) : SE X W (.IfExp c a b pos) (mIte tc ma mb) := by
  refine PE.imp (pe_ifExp hc ha hb) fun σ H Q ⟨ρ, μ, G, hσ, hG, h⟩ => tG.bind hσ hG h fun k G1 H1 μ1 k' g1 hσ1 hG1 ek h1 => ?_
  have ek : k = k' := ek
  subst ek
  cases k with
  | true => exact iteT ⟨ρ, μ1, G1, hσ1, hG1, h1⟩
  | false => exact iteF ⟨ρ, μ1, G1, hσ1, hG1, h1⟩
def m1 (f : AV → Hs → R AV) (ma : ME) : ME := fun ρ G => (ma ρ G).bind fun v G1 => f v G1
def mNil : MEs := fun _ G => .ok [] G
def mCons (m : ME) (ms : MEs) : MEs := fun ρ G => (m ρ G).bind fun v G1 => (ms ρ G1).bind fun vs G2 => .ok (v :: vs) G2
theorem sa_nil : SA X W [] mNil := PA.imp pa_nil fun σ H Q ⟨ρ, μ, G, hσ, hG, h⟩ => Po.now (v := ([] : List AV)) h hG .nil
theorem sa_cons (ha : SE X W e ma) (hr : SA X W es ms) (hs : starEach (e :: es) X.env = (false, eval e X.env) :: starEach es X.env := by rfl) : SA X W (e :: es) (mCons ma ms) :=
  PA.imp (pa_cons ha hr hs) fun σ H Q ⟨ρ, μ, G, hσ, hG, h⟩ => tG.bind hσ hG h fun v G1 H1 μ1 x g1 hσ1 hG1 r h1 => tG.bind hσ1 hG1 h1 fun vs G2 H2 μ2 xs g2 hσ2 hG2 rs h2 =>
    Po.now (v := v :: vs) h2 hG2 (.cons (r.gr g2) rs)
def mTup (ms : MEs) : ME := fun ρ G => (ms ρ G).bind fun vs G1 => if vs.length ≤ szl then .ok (.tup vs) G1 else .stuck
def mLst (ms : MEs) : ME := fun ρ G => (ms ρ G).bind fun vs G1 => if vs.length ≤ szl then .ok (.ref G1.length) (G1 ++ [.lst vs]) else .stuck
theorem se_tup {k : Nat} (h : SA X W es ms) : SE X W (.Tuple es k pos) (mTup ms) := by
  refine PE.imp (pe_tup h) fun σ H Q ⟨ρ, μ, G, hσ, hG, h⟩ => tG.bind hσ hG h fun vs G1 H1 μ1 xs g1 hσ1 hG1 rs h1 => ?_
  by_cases hz : vs.length ≤ szl
  · simp only [if_pos hz] at h1
    exact ⟨by rw [← rs.length]; exact hz, fun p hp => h1 _ _ _ (Gr.new hp) (hG1.new hp) (.tup upd_same (rs.gr (Gr.new hp)))⟩
  · simp only [if_neg hz] at h1
    exact h1.elim
theorem se_lst (h : SA X W es ms) : SE X W (.List es pos) (mLst ms) := by
  refine PE.imp (pe_lst h) fun σ H Q ⟨ρ, μ, G, hσ, hG, h⟩ => tG.bind hσ hG h fun vs G1 H1 μ1 xs g1 hσ1 hG1 rs h1 => ?_
  by_cases hz : vs.length ≤ szl
  · simp only [if_pos hz] at h1
    exact ⟨by rw [← rs.length]; exact hz, fun p hp => h1 _ _ _ (Gr.alloc hp) (hG1.alloc hp ⟨_, upd_same, rs.gr (Gr.alloc hp)⟩) (.ref (hG1.fresh p))⟩
  · simp only [if_neg hz] at h1
    exact h1.elim
def fIx : AV → AV → Hs → R AV
  | .str s, .int i, G => if s.length ≤ szl then match atI s.cps.toList i with
      | some c => .ok (.str ⟨#[c]⟩) G
      | none => .stuck
    else .stuck
  | v, .int i, G => match seqOf G v with
    | some xs => match atI xs i with
      | some w => .ok w G
      | none => .stuck
    | none => .stuck
  | _, _, _ => .stuck
theorem atI_ok {K : PySem.W.Frag} {H : Hp} {μ : Mu} {xs : List AV} {vs : List V} {i : Int} {w : AV} (rs : RAs K H μ xs vs) (h : atI xs i = some w) : ∃ y, atI vs i = some y ∧ RA K H μ w y := by
  unfold atI at h ⊢
  rw [← rs.length]
  cases e : ixN xs.length i with
  | none => rw [e] at h; cases h
  | some j =>
    rw [e] at h
    exact rs.get' h
theorem fIx_seq {v : AV} {i : Int} {G : Hs} (h : ∀ s, v ≠ .str s) : fIx v (.int i) G = (match seqOf G v with
    | some xs => match atI xs i with
      | some w => .ok w G
      | none => .stuck
    | none => .stuck) := by
  cases v <;> first | rfl | exact absurd rfl (h _)
theorem op2_ix {K : PySem.W.Frag} : Op2 K (rIx K) fIx := by
  intro W σ H μ G v w x y Q hG rv rw' q
  cases rw' with
  | int i =>
    by_cases hs : ∃ s, v = .str s
    · obtain ⟨s, rfl⟩ := hs
      cases rv
      simp only [fIx] at q
      by_cases hz : s.length ≤ szl
      · rw [if_pos hz] at q
        cases e : atI s.cps.toList i with
        | none => rw [e] at q; exact q.elim
        | some c => rw [e] at q; exact .inr (.inr ⟨s, i, c, rfl, rfl, hz, e, Po.now (v := AV.str ⟨#[c]⟩) q hG (.str _)⟩)
      · rw [if_neg hz] at q
        exact q.elim
    · rw [fIx_seq fun s e => hs ⟨s, e⟩] at q
      cases e : seqOf G v with
      | none => rw [e] at q; exact q.elim
      | some xs =>
        rw [e] at q
        cases e2 : atI xs i with
        | none => simp only [e2] at q; exact q.elim
        | some u =>
          simp only [e2] at q
          obtain ⟨a, vs, rfl, h, rs⟩ := seqOf_ok hG rv e
          obtain ⟨z, h2, rz⟩ := atI_ok rs e2
          rcases h with h | h
          · exact .inl ⟨a, vs, i, z, rfl, rfl, h, h2, Po.now (v := u) q hG rz⟩
          · exact .inr (.inl ⟨a, vs, i, z, rfl, rfl, h, h2, Po.now (v := u) q hG rz⟩)
  | _ => cases v <;> exact q.elim
theorem se_ix (ha : SE X W a ma) (hb : SE X W b mb) (hs : PlainIx b) : SE X W (.Subscript a b pos) (m2 fIx ma mb) :=
  PE.imp (pe_ix ix_seq ha hb hs) fun σ H Q h => op2_go op2_ix h
def cutA (xs : List AV) (lo hi : Option Int) : List AV := (xs.drop (HT.sIx xs.length 0 lo)).take (HT.sIx xs.length xs.length hi - HT.sIx xs.length 0 lo)
def fSl (v : AV) (lo hi : Option Int) (G : Hs) : R AV := match v with
  | .str s => if s.length ≤ szl then .ok (.str (cutS s lo hi)) G else .stuck
  | v => match tupOf v with
    | some xs => if HT.sIx xs.length 0 lo = 0 ∧ HT.sIx xs.length xs.length hi = xs.length then .ok v G else .ok (.tup (cutA xs lo hi)) G
    | none => match lstOf G v with
      | some xs => .ok (.ref G.length) (G ++ [.lst (cutA xs lo hi)])
      | none => .stuck
abbrev MO := En → Hs → R (Option Int)
abbrev rOp : Rel (Option Int) (Option Int) := fun _ _ a b => a = b
def SO (X : Cx) (W : WX) (e : Option Expr) (m : MO) : Prop := PO X e (tG X.K rOp W m)
def mNone : MO := fun _ G => .ok none G
def mSome (m : ME) : MO := fun ρ G => (m ρ G).bind fun v G1 => match v with
  | .int i => .ok (some i) G1
  | _ => .stuck
theorem PO.imp {X : Cx} {e : Option Expr} {t t' : TO} (h : PO X e t) (i : ∀ σ H Q, t' σ H Q → t σ H Q) : PO X e t' := ⟨fun pins s σ H Q I w => h.run pins s σ H Q I (i σ H Q w)⟩
theorem so_none : SO X W none mNone := PO.imp po_none fun σ H Q ⟨ρ, μ, G, hσ, hG, h⟩ => Po.now (v := (none : Option Int)) h hG rfl
theorem so_some (ha : SE X W a ma) : SO X W (some a) (mSome ma) := by
  refine PO.imp (po_some ha) fun σ H Q ⟨ρ, μ, G, hσ, hG, h⟩ => tG.bind hσ hG h fun v G1 H1 μ1 x g1 hσ1 hG1 r h1 => ?_
  cases r with
  | int i => exact ⟨i, rfl, Po.now (v := some i) h1 hG1 rfl⟩
  | _ => exact h1.elim
def mSl (ma : ME) (ml mh : MO) : ME := fun ρ G => (ma ρ G).bind fun v G1 => (ml ρ G1).bind fun lo G2 => (mh ρ G2).bind fun hi G3 => fSl v lo hi G3
theorem cut_ok {K : PySem.W.Frag} {H : Hp} {μ : Mu} {xs : List AV} {vs : List V} (rs : RAs K H μ xs vs) (lo hi : Option Int) : RAs K H μ (cutA xs lo hi) (cutV vs lo hi) := by
  unfold cutA cutV
  rw [rs.length]
  exact (rs.drop _).take _
theorem se_slice {lo hi : Option Expr} {ml mh : MO} {p2 : Pos} (ha : SE X W a ma) (hl : SO X W lo ml) (hh : SO X W hi mh) : SE X W (.Subscript a (.Slice lo hi none p2) pos) (mSl ma ml mh) := by
  refine PE.imp (pe_slice (sl_str.or (sl_tupA.or sl_list)) ha hl hh) fun σ H Q ⟨ρ, μ, G, hσ, hG, h⟩ => tG.bind hσ hG h fun v G1 H1 μ1 x g1 hσ1 hG1 r h1 =>
    tG.bind hσ1 hG1 h1 fun l G2 H2 μ2 l' g2 hσ2 hG2 el h2 => tG.bind hσ2 hG2 h2 fun u G3 H3 μ3 u' g3 hσ3 hG3 eu h3 => ?_
  have el : l = l' := el
  have eu : u = u' := eu
  subst el eu
  have r3 := (r.gr g2).gr g3
  have h3 : Po X.K (rA X.K) W σ H3 μ3 (fSl v l u G3) Q := h3
  have seq : (∀ s, v ≠ .str s) → rSlA X.K x l u H3 Q ∨ rSlL X.K x l u H3 Q := fun hs => by
    have e0 : fSl v l u G3 = (match tupOf v with
      | some xs => if HT.sIx xs.length 0 l = 0 ∧ HT.sIx xs.length xs.length u = xs.length then .ok v G3 else .ok (.tup (cutA xs l u)) G3
      | none => match lstOf G3 v with
        | some xs => .ok (.ref G3.length) (G3 ++ [.lst (cutA xs l u)])
        | none => .stuck) := by cases v <;> first | rfl | exact absurd rfl (hs _)
    rw [e0] at h3
    cases e : tupOf v with
    | some xs =>
      rw [e] at h3
      obtain ⟨p, vs, rfl, hq, rs⟩ := tupOf_ok r3 e
      refine .inl ⟨p, vs, rfl, hq, fun hw => ?_, fun hw q hqn => ?_⟩
      · rw [← rs.length] at hw
        simp only [if_pos hw] at h3
        exact Po.now (v := v) h3 hG3 r3
      · rw [← rs.length] at hw
        simp only [if_neg hw] at h3
        exact h3 _ _ _ (Gr.new hqn) (hG3.new hqn) (.tup upd_same ((cut_ok rs l u).gr (Gr.new hqn)))
    | none =>
      rw [e] at h3
      cases e2 : lstOf G3 v with
      | none => simp only [e2] at h3; exact h3.elim
      | some xs =>
        simp only [e2] at h3
        obtain ⟨p, vs, rfl, hq, rs⟩ := lstOf_ok hG3 r3 e2
        exact .inr ⟨p, vs, rfl, hq, fun q hqn => h3 _ _ _ (Gr.alloc hqn) (hG3.alloc hqn ⟨_, upd_same, (cut_ok rs l u).gr (Gr.alloc hqn)⟩) (.ref (hG3.fresh q))⟩
  by_cases hs : ∃ s, v = .str s
  · obtain ⟨s, rfl⟩ := hs
    cases r3
    simp only [fSl] at h3
    by_cases hz : s.length ≤ szl
    · rw [if_pos hz] at h3
      exact .inl ⟨s, rfl, hz, Po.now (v := AV.str (cutS s l u)) h3 hG3 (.str _)⟩
    · rw [if_neg hz] at h3
      exact h3.elim
  · exact .inr (seq fun s e => hs ⟨s, e⟩)
/-- the class c has no attribute f of its own, and is read as plain classes are -/
def attrOk (f : Str) (c : Str) (K : PySem.W.Frag) : Bool := (He.Fa.cls c).ok K && (He.Fa.noat c f).ok K
theorem attrOk_ok {K : PySem.W.Frag} {c f : Str} (h : attrOk f c K = true) : Cls K (ga K c) ∧ NoAttr K (ga K c) f := by
  obtain ⟨h1, h2⟩ := He.ba h
  exact ⟨He.cls_ok h1, He.noat_ok h2⟩
def fFld (cs : List Str) (f : Str) : AV → Hs → R AV
  | .ref n, G => match G[n]? with
    | some (.ins c fs) => if c ∈ cs then match fs.lookup f with
        | some v => .ok v G
        | none => .stuck
      else .stuck
    | _ => .stuck
  | .iv c ns xs, G => if c ∈ cs then match (ns.zip xs).lookup f with
    | some v => .ok v G
    | none => .stuck
    else .stuck
  | _, _ => .stuck
theorem RF.zip {K : PySem.W.Frag} {H : Hp} {μ : Mu} {κ : Type} {ns : List κ} {gs : List (κ × V)} {xs : List AV} (e : ns = gs.map (·.1)) (h : RAs K H μ xs (gs.map (·.2))) : RF K H μ (ns.zip xs) gs := by
  have hl : ns.length = xs.length := by
    rw [h.length, e, List.length_map, List.length_map]
  unfold RF
  rw [List.map_fst_zip (Nat.le_of_eq hl), List.map_snd_zip (Nat.le_of_eq hl.symm)]
  exact ⟨e, h⟩
theorem RF.look {K : PySem.W.Frag} {H : Hp} {μ : Mu} {κ : Type} [BEq κ] {f : κ} : ∀ {fs : List (κ × AV)} {gs : List (κ × V)}, RF K H μ fs gs → ∀ {v : AV}, fs.lookup f = some v → ∃ x, gs.lookup f = some x ∧ RA K H μ v x
  | [], _, _, _, e => by cases e
  | (k, v0) :: fs, [], h, _, _ => by cases h.1
  | (k, v0) :: fs, (k', x0) :: gs, h, v, e => by
    obtain ⟨h1, h2⟩ := h
    rw [List.map_cons, List.map_cons] at h1
    injection h1 with e1 e2
    have e1 : k = k' := e1
    subst e1
    cases h2 with
    | cons r t =>
      rw [List.lookup_cons] at e ⊢
      cases q : (f == k) with
      | true =>
        rw [q] at e
        cases e
        exact ⟨x0, rfl, r⟩
      | false =>
        rw [q] at e
        exact RF.look ⟨e2, t⟩ e
theorem se_fld {f : Str} (cs : List Str) (hc : (cs.all fun c => attrOk f c X.K) = true) (ha : SE X W a ma) (hb : attributeBase a f X.env (eval a X.env) = eval a X.env) : SE X W (.Attribute a f pos) (m1 (fFld cs f) ma) := by
  refine PE.imp (pe_fld ha hb) fun σ H Q ⟨ρ, μ, G, hσ, hG, h⟩ => tG.bind hσ hG h fun v G1 H1 μ1 x g1 hσ1 hG1 r h1 => ?_
  cases r with
  | ref h2 =>
    obtain ⟨o, ho, ro⟩ := hG1.obj h2
    simp only [fFld, ho] at h1
    cases o with
    | ins c fs =>
      simp only at h1
      by_cases hm : c ∈ cs
      · rw [if_pos hm] at h1
        cases e : fs.lookup f with
        | none => rw [e] at h1; exact h1.elim
        | some u =>
          rw [e] at h1
          obtain ⟨dx, gs, h3, h4⟩ := ro
          obtain ⟨z, h5, rz⟩ := h4.look e
          obtain ⟨k1, k2⟩ := attrOk_ok (List.all_eq_true.mp hc c hm)
          exact ⟨_, _, dx, gs, z, rfl, h3, k1, k2, h5, Po.now (v := u) h1 hG1 rz⟩
      · rw [if_neg hm] at h1
        exact h1.elim
    | _ => exact h1.elim
  | iv h3 h3n en rs =>
    rename_i a dx c ns gs xs
    simp only [fFld] at h1
    by_cases hm : c ∈ cs
    · rw [if_pos hm] at h1
      cases e : (ns.zip xs).lookup f with
      | none => rw [e] at h1; exact h1.elim
      | some u =>
        rw [e] at h1
        obtain ⟨z, h5, rz⟩ := (RF.zip en rs).look e
        obtain ⟨k1, k2⟩ := attrOk_ok (List.all_eq_true.mp hc c hm)
        exact ⟨_, _, dx, gs, z, rfl, h3, k1, k2, h5, Po.now (v := u) h1 hG1 rz⟩
    · rw [if_neg hm] at h1
      exact h1.elim
  | _ => exact h1.elim
end
end Vz
namespace Vz
open PySem PySem.Spec L2 PyProof.Rows
/-- room, and no repr under way -/
structure Rm (k : Nat) (A : Around) : Prop where
  rm : Room k A
  gd : A.guards = some []
section
variable {k j : Nat} {A : Around}
theorem Rm.mono (r : Rm k A) (h : j ≤ k) : Rm j A := ⟨r.rm.mono h, r.gd⟩
theorem Rm.deeper (r : Rm (k + 1) A) (env : Env) : Rm k (A.deeper env) := ⟨r.rm.deeper env, r.gd⟩
theorem Rm.in1 (r : Rm (k + 1) A) : Rm k A.in1 := ⟨r.rm.in1, r.gd⟩
theorem Rm.make (r : Rm (k + 1) A) (C : Addr) (us : List Value) (kw : List (Str × Value)) : Rm k (A.under (.builtin "type.__call__" ⟨.ref C :: us, kw⟩)) :=
  ⟨r.rm.make C us kw, by first | exact r.gd | (show pushGuards _ A.guards = _; rw [pushGuards_eq, r.gd]; rfl)⟩
theorem Rm.uu (r : Rm k A) (n : Nat) (hn : n ≤ 199) : A.units + n < cLine := by
  have := r.rm.un
  omega
end
/-- a def keeps its promise, at every such place -/
structure FnG (P : Program) (w : World) (K : PySem.W.Frag) (mg : Str → Option Value) (base : Heap) (CX : CXT) (k : Nat) (f : Addr) (fd : FuncData) (ps : List Str) (sp : Sp) : Prop where
  len : ∀ vs H Q E, sp vs H Q E → vs.length = ps.length
  run : ∀ (A : Around) (out : List Env) (s : Shared) (H : Hp) (ar : Args) (us : List Value) (vs : List V) (Q : VK) (E : XK), Rm k A → Env0 P w K mg base A out s H → BindsTo s fd ar (ps.zip us) → Vals vs us → sp vs H Q E →
    codeAny (model P w) A (.call (.ref f) ar) (CR CX out P w H s Q E) s
section
variable {CX : CXT} {P : Program} {w : World} {K : PySem.W.Frag} {mg : Str → Option Value} {base : Heap} {k : Nat} {f : Addr} {fd : FuncData} {N ps : List Str} {sp : Sp}
theorem FnG.mono {j : Nat} (F : FnG P w K mg base CX j f fd ps sp) (h : j ≤ k) : FnG P w K mg base CX k f fd ps sp :=
  ⟨F.len, fun A out s H ar us vs Q E hr => F.run A out s H ar us vs Q E (hr.mono h)⟩
theorem fnG_of {x qual : Str} {params : Arguments} {body : List Stmt} {scope : Scope} {dvs : List V} {kws : List (Str × V)} (D : FunD K x qual params body scope dvs kws f fd) (S : FnScope N ps scope) (len : ∀ vs H Q E, sp vs H Q E → vs.length = ps.length)
    (go : ∀ (cdv : Value) (A : Around) (out : List Env) (s : Shared) (H : Hp) (vs : List V) (Q : VK) (E : XK), Rm k (A.deeper (envOfC qual scope s.heap.objs.size f cdv)) → sp vs H Q E →
      ∃ t, PSs (cxOf CX P w K mg base N qual scope f cdv A out s H E) body t ∧ t { nx := fun _ H1 => Q .non H1, rt := Q } (start N vs) H) : FnG P w K mg base CX (k + 1) f fd ps sp := by
  obtain ⟨oc, od, dV, kV, doc, pm, an, cdv, ct, osl, rfl, lk, hc, _, _⟩ := D.ex
  refine ⟨len, fun A out s H ar us vs Q E hr e hb rv hs => ?_⟩
  have inK : K.In s.heap := e.mod.kin.keeps fun b o q => (e.bs b o q).1
  have noL : s.heap.NoLimit := e.mod.nolimit.keeps fun b o q => (e.bs b o q).1
  refine codeAny_call_function hr.rm.depth (inK _ _ lk) rfl S.co S.gen rfl (PySem.W.codeRec_of inK hc) (hb _ _ _ _ ?_)
  refine wpAny_newFunctionEnv_cells S.kind (fun ⟨y, v⟩ hy => ?_) fun en q s1 inC => ?_
  · cases S.par y (List.of_mem_zip hy).1 with
    | inl q => exact Or.inl q
    | inr q => exact Or.inr ⟨q, PySem.W.cellsFrom_some _ _ _ (Or.inl q)⟩
  cases q
  refine ⟨noL.keeps inC.toInCall.keep, codeAny_func ?_⟩
  obtain ⟨t, pt, wt⟩ := go cdv A out s H vs Q E (hr.deeper _) hs
  have I := inv_start (CX := CX) (E := E) (N := N) S hr.rm.hd e (len _ _ _ _ hs) rv inC
  refine wpAny_mono (pt.run [] s1 (start N vs) H _ I wt) (fun fl s2 z => ?_) fun _ _ z => z
  match fl, z with
  | .ret u, ⟨v, _, H1, J, rv1, q⟩ => exact ⟨v, H1, J.os, J.bare, J.base, J.hok, rv1, q⟩
  | .next, ⟨_, H1, J, q⟩ => exact ⟨V.non, H1, J.os, J.bare, J.base, J.hok, (rfl : RelV V.non Value.none), q⟩
  | .brk, ⟨_, _, _, q⟩ => exact q.elim
  | .cont, ⟨_, _, _, q⟩ => exact q.elim
end
section
variable {P : Program} {w : World} {K : PySem.W.Frag} {mg mb : Str → Option Value} {CX : CXT} {k : Nat} {fa a : Addr} {fd : FuncData} {x : Str} {sp : Sp} {s1 : Shared} {vs : List Value} {ns : List Int}
abbrev EndsTrue (s1 : Shared) (r : Result) (s2 : Shared) : Prop := r = .ok (.ret (.bool true)) ∧ OldK s1.heap s2.heap ∧ s2.os = s1.os ∧ AllBare s2.gens
theorem lawG_at (H : Hp) (only : Only H) (seen : SqL K H a (ns.map V.int)) (hok : HOk P w H s1.heap) (alone : ∀ b, H b ≠ none → b = a) (apart : H a ≠ none → K.lookup a = none)
    (inK : K.In s1.heap) (nsg : s1.heap.Ns mainGlobals mg) (nsb : s1.heap.Ns builtinsNs mb) (boot : ∀ y : Str, y ≠ "__name__" → mb y = bootBuiltins y) (noL : s1.heap.NoLimit) (gens : s1.gens = #[])
    (at_ : s1.heap.get? a = some { cls := .type "list", data := .seq vs.toArray }) (room : Rm k callerA)
    (F : ∀ base : Heap, K.In base → base.Ns mainGlobals mg → FnG P w K mg base CX k fa fd [x] sp) (binds : ∀ (s : Shared) (u : Value), BindsTo s fd ⟨[u], []⟩ [(x, u)])
    (wish : sp [.ref a] H (fun v _ => v = .bl true) fun _ _ _ => False) (noX : ∀ H e s2, CX [] H s1 (fun _ _ _ => False) e s2 → False) :
    codeAny (model P w) callerA (.call (.ref fa) ⟨[.ref a], []⟩) (EndsTrue s1) s1 := by
  have free : ∀ {b : Addr}, b ≠ a → H b = none := fun {b} ne => Classical.byContradiction fun z => ne (alone b z)
  have low : ∀ {b : Addr} {o : Obj}, s1.heap.get? b = some o → H b = none → (hidT s1.heap H).get? b = some o := fun q z => hidT_get q z
  have isNs : ∀ {b : Addr} {m : Str → Option Value}, s1.heap.Ns b m → (hidT s1.heap H).Ns b m := fun {b m} ⟨o, es, ep, q, d, z⟩ =>
    ⟨o, es, ep, low q (free fun ba => by rw [ba, at_] at q; cases q; exact absurd (show Data.seq vs.toArray _ = Data.dict es ep from d) (by intro h; cases h)), d, z⟩
  have inB : K.In (hidT s1.heap H) := fun b o q => low (inK b o q) (Classical.byContradiction fun z => by
    have ba := alone b z
    rw [ba] at q z
    rw [apart z] at q
    cases q)
  have modB : Mod K mg (hidT s1.heap H) := ⟨inB, isNs nsg, ⟨mb, isNs nsb, boot⟩, noL.elim fun mc z => ⟨mc, isNs z.1, z.2⟩⟩
  have start0 : Env0 P w K mg (hidT s1.heap H) callerA [] s1 H := ⟨rfl, modB, fun b o q => of_hidT q, Nat.le_of_eq (hidT_size _ _), True.intro, fun b z => (List.not_mem_nil z).elim, hok, AllBare.of_eq gens⟩
  have ran := (F _ inB (isNs nsg)).run callerA [] s1 H ⟨[.ref a], []⟩ [.ref a] [.ref a] _ _ room start0 (binds s1 (.ref a)) (Paired.cons rfl Paired.nil) wish
  refine codeAny_mono ran fun r s2 z => ?_
  match r, z with
  | .error e, z => exact (noX H e s2 z).elim
  | .ok .next, z => exact z.elim
  | .ok .brk, z => exact z.elim
  | .ok .cont, z => exact z.elim
  | .ok (.ret u), ⟨v, H2, os, bare, un, hok2, rv, q⟩ =>
    cases (show v = .bl true from q)
    cases (show u = Value.bool true from rv)
    refine ⟨rfl, OldK.of_keep fun b o q => ?_, os, bare⟩
    cases hb : H b with
    | none => exact un.keep b o q hb (fun z => (List.not_mem_nil z).elim) List.not_mem_nil
    | some u =>
      cases only b with
      | inl z => rw [hb] at z; cases z
      | inr z =>
        obtain ⟨ob, xs, z⟩ := z
        have o1 := (hok b _ z).1
        have o2 := (hok2 b _ (un.frzs b ob _ z)).1
        rw [q] at o1
        cases o1
        exact o2
theorem lawG_call (inK : K.In s1.heap) (nsg : s1.heap.Ns mainGlobals mg) (nsb : s1.heap.Ns builtinsNs mb) (boot : ∀ y : Str, y ≠ "__name__" → mb y = bootBuiltins y) (noL : s1.heap.NoLimit) (gens : s1.gens = #[])
    (at_ : s1.heap.get? a = some { cls := .type "list", data := .seq vs.toArray }) (isI : IntsAre vs ns) (short : ns.length ≤ sizeLine) (room : Rm k callerA)
    (F : ∀ base : Heap, K.In base → base.Ns mainGlobals mg → FnG P w K mg base CX k fa fd [x] sp) (binds : ∀ (s : Shared) (u : Value), BindsTo s fd ⟨[u], []⟩ [(x, u)])
    (wish : ∀ H : Hp, Only H → SqL K H a (ns.map V.int) → sp [.ref a] H (fun v _ => v = .bl true) fun _ _ _ => False) (noX : ∀ H e s2, CX [] H s1 (fun _ _ _ => False) e s2 → False) :
    codeAny (model P w) callerA (.call (.ref fa) ⟨[.ref a], []⟩) (EndsTrue s1) s1 := by
  have rel := vals_ints isI
  cases hk : K.lookup a with
  | some o =>
    have q := inK a o hk
    rw [at_] at q
    cases q
    have only0 : Only (fun _ => none) := fun _ => Or.inl rfl
    have seen0 : SqL K (fun _ => none) a (ns.map V.int) := Or.inr ⟨_, vs.toArray, _, hk, rfl, rfl, rfl, by rw [List.size_toArray, isI.length]; exact short, by simpa using rel⟩
    exact lawG_at _ only0 seen0 (fun b u z => nomatch z) (fun b z => (z rfl).elim) (fun z => (z rfl).elim) inK nsg nsb boot noL gens at_ room F binds (wish _ only0 seen0) noX
  | none =>
    let ob : Obj := { cls := .type "list", data := .seq vs.toArray }
    let H1 : Hp := upd (fun _ => none) a (.frz ob (.lst (ns.map V.int)))
    have here : H1 a = some (.frz ob (.lst (ns.map V.int))) := upd_same
    have there : ∀ b, b ≠ a → H1 b = none := fun b ne => upd_ne ne
    have only1 : Only H1 := fun b => (Classical.em (b = a)).elim (fun e => Or.inr ⟨_, _, e ▸ here⟩) fun ne => Or.inl (there b ne)
    have seen1 : SqL K H1 a (ns.map V.int) := Or.inl (Or.inr ⟨ob, here⟩)
    have ok1 : HOk P w H1 s1.heap := fun b u z => by
      cases Classical.em (b = a) with
      | inl e =>
        subst e
        rw [here] at z
        cases z
        exact ⟨at_, by rw [List.length_map]; exact short, vs, _, rel, at_⟩
      | inr ne => rw [there b ne] at z; cases z
    exact lawG_at H1 only1 seen1 ok1 (fun b z => Classical.byContradiction fun ne => z (there b ne)) (fun _ => hk) inK nsg nsb boot noL gens at_ room F binds (wish _ only1 seen1) noX
end
end Vz
namespace Vz
open PySem PySem.Spec L2
open PyProof.Rows (envOfC)
section
variable {X : Cx} {W : WX} {a b c e o : Expr} {es rest : List Expr} {ma mb mc mo : ME} {ms : MEs} {pos p apos cpos : Pos} {x : Str}
def OpN (K : PySem.W.Frag) (r : List V → Hp → VK → Prop) (f : List AV → Hs → R AV) : Prop := ∀ (W : WX) σ H μ G vs xs Q, RH K H μ G → RAs K H μ vs xs → Po K (rA K) W σ H μ (f vs G) Q → r xs H Q
def mBlt (f : List AV → Hs → R AV) (ms : MEs) : ME := fun ρ G => (ms ρ G).bind fun vs G1 => f vs G1
theorem opN_go {r : List V → Hp → VK → Prop} {f : List AV → Hs → R AV} (hf : OpN X.K r f) {σ : St} {H : Hp} {Q : VK} (h : tG X.K (rA X.K) W (mBlt f ms) σ H Q) : tCB r (tG X.K (rAs X.K) W ms) σ H Q := by
  obtain ⟨ρ, μ, G, hσ, hG, h⟩ := h
  exact tG.bind hσ hG h fun vs G1 H1 μ1 xs g1 hσ1 hG1 rs h1 => hf W σ H1 μ1 G1 vs xs Q hG1 rs h1
theorem se_blt {id : String} {r : List V → Hp → VK → Prop} {f : List AV → Hs → R AV} (hc : CallR X (.builtin id) r) (hf : OpN X.K r f) (hg : Gl X x) (hm : X.mg x = none) (hv : bootBuiltins x = some (.builtin id)) (ha : SA X W (e :: es) ms)
    (hn : x ≠ "__name__" := by decide) (hdb : (x == ("__debug__" : Str)) = false := by decide)
    (he : starEach (e :: es) X.env = (false, eval e X.env) :: starEach es X.env := by rfl) (hpl : (backTo pos (starEach es X.env)).any (·.1) = false := by rfl) : SE X W (.Call (.Name x p) (e :: es) [] pos) (mBlt f ms) :=
  PE.imp (pe_callB hc hg hm hv ha hn hdb he hpl) fun σ H Q h => opN_go hf h
theorem se_blty {T : String} {r : List V → Hp → VK → Prop} {f : List AV → Hs → R AV} (hc : CallR X (.type T) r) (hf : OpN X.K r f) (hg : Gl X x) (hm : X.mg x = none) (hv : bootBuiltins x = some (.type T)) (ha : SA X W (e :: es) ms)
    (hn : x ≠ "__name__" := by decide) (hdb : (x == ("__debug__" : Str)) = false := by decide)
    (he : starEach (e :: es) X.env = (false, eval e X.env) :: starEach es X.env := by rfl) (hpl : (backTo pos (starEach es X.env)).any (·.1) = false := by rfl) : SE X W (.Call (.Name x p) (e :: es) [] pos) (mBlt f ms) :=
  PE.imp (pe_callTy hc hg hm hv ha hn hdb he hpl) fun σ H Q h => opN_go hf h
/-- len -/
def fLen : List AV → Hs → R AV
  | [.str s], G => if s.length ≤ szl then .ok (.int s.length) G else .stuck
  | [.ref n], G => match G[n]? with
    | some (.lst xs) => .ok (.int xs.length) G
    | some (.dk xs) => .ok (.int xs.length) G
    | _ => .stuck
  | [.id _ xs], G => .ok (.int xs.length) G
  | [v], G => match seqOf G v with
    | some xs => .ok (.int xs.length) G
    | none => .stuck
  | _, _ => .stuck
def rLenA (K : PySem.W.Frag) : List V → Hp → VK → Prop := fun xs H Q => (∃ y n, xs = [y] ∧ LenV K y H n ∧ Q (.int n) H) ∨ ∃ d kvs, xs = [.ref d] ∧ H d = some (.dK kvs) ∧ Q (.int (kvs.length : Int)) H
theorem RAs.one {K : PySem.W.Frag} {H : Hp} {μ : Mu} {v : AV} {xs : List V} (h : RAs K H μ [v] xs) : ∃ y, xs = [y] ∧ RA K H μ v y := by
  cases h with
  | cons r t => cases t; exact ⟨_, rfl, r⟩
theorem RAs.two {K : PySem.W.Frag} {H : Hp} {μ : Mu} {v w : AV} {xs : List V} (h : RAs K H μ [v, w] xs) : ∃ y z, xs = [y, z] ∧ RA K H μ v y ∧ RA K H μ w z := by
  cases h with
  | cons r t =>
    obtain ⟨z, rfl, r2⟩ := t.one
    exact ⟨_, z, rfl, r, r2⟩
theorem RF.length {K : PySem.W.Frag} {H : Hp} {μ : Mu} {κ : Type} {fs : List (κ × AV)} {gs : List (κ × V)} (h : RF K H μ fs gs) : fs.length = gs.length := by
  have := h.2.length
  rw [List.length_map, List.length_map] at this
  exact this
end
section
variable {P : Program} {w : World} {K : PySem.W.Frag} {mg : Str → Option Value} {base : Heap}
/-- the promise: n things, and what F computes of them -/
def fsp (K : PySem.W.Frag) (n : Nat) (F : List AV → Hs → R AV) : Sp := fun vs H Q E => vs.length = n ∧ ∃ xs μ G, RAs K H μ xs vs ∧ RH K H μ G ∧ Po K (rA K) (fun cls d _ H' => E cls d H') [] H μ (F xs G) Q
/-- how written values come to the parameters -/
structure Sh (K : PySem.W.Frag) (fd : FuncData) (ps : List Str) (n : Nat) (ks : List Str) (gA : List AV → List AV → List AV) : Prop where
  ex : ∃ g gV, KBn K fd ps n ks g gV ∧ ∀ H μ xs vs zs ws, RAs K H μ xs vs → RAs K H μ zs ws → RAs K H μ (gA xs zs) (gV vs ws)
/-- where all are written, in order -/
abbrev gAll : List AV → List AV → List AV := fun xs _ => xs
theorem sh_all {fd : FuncData} {ps : List Str} {n : Nat} (h : Binds K fd ps []) (hn : n = ps.length) : Sh K fd ps n [] gAll :=
  ⟨fun us _ => us, fun vs _ => vs, ⟨fun s us ws hK hl _ => by
    have := h s us hK (by rw [List.append_nil, hl, hn])
    rw [List.append_nil] at this
    exact this, fun r _ => r⟩, fun _ _ _ _ _ _ r _ => r⟩
end
section
variable {X : Cx} {W : WX} {a b c e o : Expr} {es rest : List Expr} {ma mb mc mo : ME} {ms mk : MEs} {pos p apos cpos : Pos} {x : Str} {k N n : Nat} {f : Addr} {fd : FuncData} {ps ks : List Str} {F : List AV → Hs → R AV} {gA : List AV → List AV → List AV} {kws : List Keyword}
theorem run_go {pins : List (Addr × Obj)} {σ : St} {H : Hp} {s : Shared} {Q : VK} {us ws : List Value} {vs zs : List V} {xs ys : List AV} {μ : Mu} {G : Hs} (D : FnG X.prog X.w X.K X.mg X.base (CX X.prog X.w) k f fd ps (fsp X.K ps.length F)) (hr : Rm k X.A) (sh : Sh X.K fd ps n ks gA) (tk : Takes X W)
    (I : Inv X pins σ H s) (r : Vals vs us) (rz : Vals zs ws) (l1 : xs.length = n) (l2 : ys.length = ks.length) (hG : RH X.K H μ G) (rx : RAs X.K H μ xs vs) (ry : RAs X.K H μ ys zs) (l3 : (gA xs ys).length = ps.length)
    (h : Po X.K (rA X.K) W σ H μ (F (gA xs ys) G) Q) : wpAny (model X.prog X.w) X.A (call (.ref f) us (ks.zip ws)) (EP X pins σ Q) X.xe s := by
  obtain ⟨g, gV, hb, hg⟩ := sh.ex
  have r2 := hb.rel r rz
  have rA2 := hg H μ xs vs ys zs rx ry
  refine wpAny_call (codeAny_mono (D.run X.A X.stack s H ⟨us, ks.zip ws⟩ (g us ws) (gV vs zs) Q (fun cls d H' => W cls d σ H') hr I.env0
    (hb.to s us ws I.kIn (r.length.symm.trans (rx.length.symm.trans l1)) (rz.length.symm.trans (ry.length.symm.trans l2))) r2 ⟨by rw [← rA2.length]; exact l3, _, μ, G, rA2, hG, ?_⟩) fun r s' hq => ?_)
  · cases e : F (gA xs ys) G with
    | stuck => rw [e] at h; exact h
    | exc c d G' => rw [e] at h; exact fun H' μ' dd g1 g2 g3 => h H' μ' dd g1 g2 g3
    | ok v G' => rw [e] at h; exact h
  · cases r with
    | error e => exact tk e s' (XE.of_call I (fun cls d H' h => h) hq)
    | ok fl =>
      cases fl with
      | ret u => exact I.after hq
      | next => exact False.elim hq
      | brk => exact False.elim hq
      | cont => exact False.elim hq
/-- f(e, .., k = v, ..) -/
def mCall (N n m : Nat) (gA : List AV → List AV → List AV) (F : List AV → Hs → R AV) (ms mk : MEs) : ME := fun ρ G => (ms ρ G).bind fun xs G1 => (mk ρ G1).bind fun ys G2 => if xs.length = n ∧ ys.length = m ∧ (gA xs ys).length = N then F (gA xs ys) G2 else .stuck
theorem call_if {xs ys : List AV} {m : Nat} {K : PySem.W.Frag} {σ : St} {H : Hp} {μ : Mu} {G : Hs} {Q : VK} (h : Po K (rA K) W σ H μ (if xs.length = n ∧ ys.length = m ∧ (gA xs ys).length = N then F (gA xs ys) G else .stuck) Q) :
    (xs.length = n ∧ ys.length = m ∧ (gA xs ys).length = N) ∧ Po K (rA K) W σ H μ (F (gA xs ys) G) Q := by
  by_cases hc : xs.length = n ∧ ys.length = m ∧ (gA xs ys).length = N
  · rw [if_pos hc] at h
    exact ⟨hc, h⟩
  · rw [if_neg hc] at h
    exact h.elim
theorem se_call (D : FnG X.prog X.w X.K X.mg X.base (CX X.prog X.w) k f fd ps (fsp X.K ps.length F)) (hr : Rm k X.A) (sh : Sh X.K fd ps n [] gA) (tk : Takes X W) (hg : Gl X x) (hm : X.mg x = some (.ref f)) (hk : PySem.W.keepIn X.K (.ref f) = true)
    (ha : SA X W (e :: es) ms) (hdb : (x == ("__debug__" : Str)) = false := by decide) (he : starEach (e :: es) X.env = (false, eval e X.env) :: starEach es X.env := by rfl) (hpl : (backTo pos (starEach es X.env)).any (·.1) = false := by rfl) :
    SE X W (.Call (.Name x p) (e :: es) [] pos) (mCall ps.length n 0 gA F ms mNil) := by
  refine ⟨fun pins s σ H Q I ⟨ρ, μ, G, hσ, hG, h⟩ => ?_⟩
  refine wpAny_Call_Name_kw (ld_glob I hg hm ?_ hdb)
  refine PySem.W.callWith_K (h₀ := X.base) I.ok.mod.kin hk (thn (ha.run pos pins s σ H _ I (tG.bind (Q1 := fun vs H1 => ∃ xs μ1 G1, RAs X.K H1 μ1 xs vs ∧ RH X.K H1 μ1 G1 ∧ xs.length = n ∧ (gA xs []).length = ps.length ∧ Po X.K (rA X.K) W σ H1 μ1 (F (gA xs []) G1) Q) hσ hG h
    fun xs G1 H1 μ1 vs g1 hσ1 hG1 rs h1 => ?_)) fun us s1 ⟨vs, H1, I1, r, xs, μ1, G1, rs, hG1, l1, l3, q⟩ => ⟨I1.kIn, ?_⟩) he hpl
  · obtain ⟨⟨c1, c2, c3⟩, h2⟩ := call_if h1
    exact ⟨xs, μ1, G1, rs, hG1, c1, c3, h2⟩
  · exact run_go (ks := []) (ws := []) (zs := []) D hr sh tk I1 r .nil l1 rfl hG1 rs .nil l3 q
def SK (X : Cx) (W : WX) (kws : List Keyword) (m : MEs) : Prop := PK X kws (tG X.K (rAs X.K) W m)
theorem PK.imp {X : Cx} {e : List Keyword} {t t' : TA} (h : PK X e t) (i : ∀ σ H Q, t' σ H Q → t σ H Q) : PK X e t' := ⟨fun p pins s σ H Q I w => h.run p pins s σ H Q I (i σ H Q w)⟩
theorem sk_nil : SK X W [] mNil := PK.imp pk_nil fun σ H Q ⟨ρ, μ, G, hσ, hG, h⟩ => Po.now (v := ([] : List AV)) h hG .nil
theorem sk_cons {nm : Option Str} {kpos : Pos} (ha : SE X W e ma) (hr : SK X W kws ms) : SK X W (⟨nm, e, kpos⟩ :: kws) (mCons ma ms) :=
  PK.imp (pk_cons ha hr) fun σ H Q ⟨ρ, μ, G, hσ, hG, h⟩ => tG.bind hσ hG h fun v G1 H1 μ1 x g1 hσ1 hG1 r h1 => tG.bind hσ1 hG1 h1 fun vs G2 H2 μ2 xs g2 hσ2 hG2 rs h2 =>
    Po.now (v := v :: vs) h2 hG2 (.cons (r.gr g2) rs)
theorem se_callk (D : FnG X.prog X.w X.K X.mg X.base (CX X.prog X.w) k f fd ps (fsp X.K ps.length F)) (hr : Rm k X.A) (sh : Sh X.K fd ps n ks gA) (tk : Takes X W) (hg : Gl X x) (hm : X.mg x = some (.ref f)) (hk : PySem.W.keepIn X.K (.ref f) = true)
    (ha : SA X W (e :: es) ms) (hkw : SK X W kws mk) (hall : (backToKw pos (keywordEach kws X.env)).all (·.1.isSome) = true := by rfl) (hks : (backToKw pos (keywordEach kws X.env)).filterMap (·.1) = ks := by rfl)
    (hdb : (x == ("__debug__" : Str)) = false := by decide) (he : starEach (e :: es) X.env = (false, eval e X.env) :: starEach es X.env := by rfl)
    (hpl : ((backTo pos (starEach (e :: es) X.env)).any (·.1) || (backToKw pos (keywordEach kws X.env)).any (·.1.isNone)) = false := by rfl) :
    SE X W (.Call (.Name x p) (e :: es) kws pos) (mCall ps.length n ks.length gA F ms mk) := by
  refine ⟨fun pins s σ H Q I ⟨ρ, μ, G, hσ, hG, h⟩ => ?_⟩
  refine wpAny_Call_Name_kw (ld_glob I hg hm ?_ hdb)
  refine PySem.W.callWith_KW (h₀ := X.base) I.ok.mod.kin hk hall (thn (ha.run pos pins s σ H _ I (tG.bind (Q1 := fun vs H1 => ∃ xs μ1 G1, RS X.K H1 μ1 ρ σ ∧ RAs X.K H1 μ1 xs vs ∧ RH X.K H1 μ1 G1 ∧ Po X.K (rA X.K) W σ H1 μ1 ((mk ρ G1).bind fun ys G2 => if xs.length = n ∧ ys.length = ks.length ∧ (gA xs ys).length = ps.length then F (gA xs ys) G2 else .stuck) Q) hσ hG h
    fun xs G1 H1 μ1 vs g1 hσ1 hG1 rs h1 => ⟨xs, μ1, G1, hσ1, rs, hG1, h1⟩)) fun us s1 ⟨vs, H1, I1, r, xs, μ1, G1, hσ1, rs, hG1, q⟩ => ?_) hpl he
  refine thn (hkw.run pos pins s1 σ H1 _ I1 (tG.bind (Q1 := fun zs H2 => ∃ ys μ2 G2, RAs X.K H2 μ2 xs vs ∧ RAs X.K H2 μ2 ys zs ∧ RH X.K H2 μ2 G2 ∧ xs.length = n ∧ ys.length = ks.length ∧ (gA xs ys).length = ps.length ∧ Po X.K (rA X.K) W σ H2 μ2 (F (gA xs ys) G2) Q) hσ1 hG1 q
    fun ys G2 H2 μ2 zs g2 hσ2 hG2 rz h2 => ?_)) fun ws s2 ⟨zs, H2, I2, rzv, ys, μ2, G2, rs2, rz, hG2, l1, l2, l3, q2⟩ => ⟨I2.kIn, ?_⟩
  · obtain ⟨⟨c1, c2, c3⟩, h3⟩ := call_if h2
    exact ⟨ys, μ2, G2, rs.gr g2, rz, hG2, c1, c2, c3, h3⟩
  · rw [hks]
    exact run_go D hr sh tk I2 r rzv l1 l2 hG2 rs2 rz l3 q2
def startA (n : Nat) (xs : List AV) : En := xs.map some ++ List.replicate (n - xs.length) none
theorem RS.begins {K : PySem.W.Frag} {H : Hp} {μ : Mu} {xs : List AV} {vs : List V} (h : RAs K H μ xs vs) (N : List Str) : RS K H μ (startA N.length xs) (L2.start N vs) := by
  unfold startA L2.start
  refine ⟨by simp [h.length], fun i v e => ?_⟩
  by_cases hi : i < xs.length
  · rw [List.getElem?_append_left (by simpa using hi), List.getElem?_map] at e
    cases q : xs[i]? with
    | none => rw [q] at e; cases e
    | some u =>
      rw [q] at e
      cases e
      obtain ⟨y, h1, r⟩ := h.get' q
      exact ⟨y, by rw [List.getElem?_append_left (by rw [List.length_map, ← h.length]; exact hi), List.getElem?_map, h1]; rfl, r⟩
  · rw [List.getElem?_append_right (by simpa using hi), List.getElem?_replicate] at e
    split at e <;> cases e
def mFn (n : Nat) (b : MS) : List AV → Hs → R AV := fun xs G => match b (startA n xs) G with
  | .nx _ G' => .ok .non G'
  | .rt v G' => .ok v G'
  | .exc c d _ G' => .exc c d G'
  | _ => .stuck
theorem fn_body {P : Program} {w : World} {K : PySem.W.Frag} {mg : Str → Option Value} {base : Heap} {x qual : Str} {params : Arguments} {body : List Stmt} {scope : Scope} {dvs : List V} {kws : List (Str × V)} {f : Addr} {fd : FuncData} {N ps : List Str} {k : Nat} {b : MS}
    (Fn : FunD K x qual params body scope dvs kws f fd) (S : FnScope N ps scope)
    (hb : ∀ (cdv : Value) (A : Around) (outer : List Env) (s : Shared) (H : Hp) (E : XK), Rm k (A.deeper (envOfC qual scope s.heap.objs.size f cdv)) →
      Takes (cxOf (CX P w) P w K mg base N qual scope f cdv A outer s H E) (fun cls d _ H' => E cls d H') →
      SSs (cxOf (CX P w) P w K mg base N qual scope f cdv A outer s H E) (fun cls d _ H' => E cls d H') body b) :
    FnG P w K mg base (CX P w) (k + 1) f fd ps (fsp K ps.length (mFn N.length b)) := by
  refine fnG_of Fn S (fun vs H Q E h => h.1) fun cdv A outer s H vs Q E hr h => ?_
  obtain ⟨hl, xs, μ, G, rs, hG, h⟩ := h
  refine ⟨_, hb cdv A outer s H E hr (takes_of rfl rfl rfl rfl), startA N.length xs, μ, G, RS.begins rs N, hG, ?_⟩
  unfold mFn at h
  cases e : b (startA N.length xs) G with
  | stuck => rw [e] at h; exact h
  | nx ρ G' =>
    rw [e] at h
    exact fun H' μ' σ' g hG' _ => h H' μ' .non g hG' .non
  | rt v G' =>
    rw [e] at h
    exact fun H' μ' y g hG' r => h H' μ' y g hG' r
  | bk ρ G' => rw [e] at h; exact h.elim
  | ct ρ G' => rw [e] at h; exact h.elim
  | exc c d ρ G' =>
    rw [e] at h
    exact fun H' μ' σ' dd g hG' _ hd => h H' μ' dd g hG' hd
end
end Vz
namespace Vz
open PySem L2
theorem PoS.gr {K : PySem.W.Frag} {W : WX} {D : Ends} {H H1 : Hp} {μ μ1 : Mu} {r : SR} (g : Gr H μ H1 μ1) (h : PoS K W D H μ r) : PoS K W D H1 μ1 r := by
  cases r with
  | nx ρ G => exact fun H' μ' σ' g' => h H' μ' σ' (g.trans g')
  | rt ρ G => exact fun H' μ' σ' g' => h H' μ' σ' (g.trans g')
  | bk ρ G => exact fun H' μ' σ' g' => h H' μ' σ' (g.trans g')
  | ct ρ G => exact fun H' μ' σ' g' => h H' μ' σ' (g.trans g')
  | exc c d ρ G => exact fun H' μ' σ' dd g' => h H' μ' σ' dd (g.trans g')
  | stuck => exact h
def R.toS {α : Type} (r : R α) (ρ : En) (k : α → Hs → SR) : SR := match r with
  | .ok v G => k v G
  | .exc c d G => .exc c d ρ G
  | .stuck => .stuck
@[simp] theorem R.toS_ok {α : Type} (v : α) (G : Hs) (ρ : En) (k : α → Hs → SR) : (R.ok v G).toS ρ k = k v G := rfl
@[simp] theorem R.toS_exc {α : Type} (c : Str) (d : XP) (G : Hs) (ρ : En) (k : α → Hs → SR) : (R.exc c d G : R α).toS ρ k = .exc c d ρ G := rfl
@[simp] theorem R.toS_stuck {α : Type} (ρ : En) (k : α → Hs → SR) : (R.stuck : R α).toS ρ k = .stuck := rfl
theorem tG.toS {α β : Type} {K : PySem.W.Frag} {rel : Rel α β} {W : WX} {D : Ends} {m : En → Hs → R α} {k : α → Hs → SR} {ρ : En} {σ : St} {H : Hp} {μ : Mu} {G : Hs} {Q1 : β → Hp → Prop} (hσ : RS K H μ ρ σ) (hG : RH K H μ G)
    (h : PoS K W D H μ ((m ρ G).toS ρ k)) (n : ∀ v G1 H1 μ1 x, Gr H μ H1 μ1 → RS K H1 μ1 ρ σ → RH K H1 μ1 G1 → rel H1 μ1 v x → PoS K W D H1 μ1 (k v G1) → Q1 x H1) : tG K rel W m σ H Q1 := by
  refine ⟨ρ, μ, G, hσ, hG, ?_⟩
  cases e : m ρ G with
  | stuck => rw [e] at h; exact h
  | exc c d G' => rw [e] at h; exact fun H' μ' dd g hG' hd => h H' μ' σ dd g hG' (hσ.gr g) hd
  | ok v G1 =>
    rw [e] at h
    exact fun H1 μ1 x g hr hv => n v G1 H1 μ1 x g (hσ.gr g) hr hv (PoS.gr g h)
section
variable {X : Cx} {W : WX} {a b c e o tg iter : Expr} {es rest : List Expr} {m ma mb mc mo : ME} {t : MB} {ms mk : MEs} {pos p apos cpos : Pos} {x : Str} {st : Stmt} {sts : List Stmt} {s1 s2 : MS} {body other : List Stmt}
def mNx : MS := fun ρ G => .nx ρ G
def mSeq (s1 s2 : MS) : MS := fun ρ G => match s1 ρ G with
  | .nx ρ1 G1 => s2 ρ1 G1
  | r => r
theorem sss_nil : SSs X W [] mNx := PSs.imp pss_nil fun D σ H ⟨ρ, μ, G, hσ, hG, h⟩ => h H μ σ (Gr.refl _ _) hG hσ
theorem sss_cons (h1 : SS X W st s1) (h2 : SSs X W sts s2) : SSs X W (st :: sts) (mSeq s1 s2) := by
  refine PSs.imp (pss_cons h1 h2) fun D σ H ⟨ρ, μ, G, hσ, hG, h⟩ => ⟨ρ, μ, G, hσ, hG, ?_⟩
  unfold mSeq at h
  cases e : s1 ρ G with
  | nx ρ1 G1 =>
    rw [e] at h
    exact fun H' μ' σ' g hG' hσ' => ⟨ρ1, μ', G1, hσ', hG', PoS.gr g h⟩
  | rt v G1 => rw [e] at h; exact h
  | bk ρ1 G1 => rw [e] at h; exact h
  | ct ρ1 G1 => rw [e] at h; exact h
  | exc c d ρ1 G1 => rw [e] at h; exact h
  | stuck => rw [e] at h; exact h
theorem sss_one (h1 : SS X W st s1) : SSs X W [st] s1 := pss_one h1
def mBk : MS := fun ρ G => .bk ρ G
def mCt : MS := fun ρ G => .ct ρ G
def mDrop (m : ME) : MS := fun ρ G => (m ρ G).toS ρ fun _ G1 => .nx ρ G1
theorem ss_expr (he : SE X W e m) (hs : swapsWith e none pos.line X.env = pure false := by rfl) : SS X W (.Expr e pos) (mDrop m) :=
  PS.imp (ps_expr he hs) fun D σ H ⟨ρ, μ, G, hσ, hG, h⟩ => tG.toS hσ hG h fun v G1 H1 μ1 x g hσ1 hG1 r h1 => h1 H1 μ1 σ (Gr.refl _ _) hG1 hσ1
def mRet (m : ME) : MS := fun ρ G => (m ρ G).toS ρ fun v G1 => .rt v G1
theorem ss_ret (he : SE X W e m) : SS X W (.Return (some e) pos) (mRet m) :=
  PS.imp (ps_ret he) fun D σ H ⟨ρ, μ, G, hσ, hG, h⟩ => tG.toS hσ hG h fun v G1 H1 μ1 x g hσ1 hG1 r h1 => h1 H1 μ1 x (Gr.refl _ _) hG1 r
def mRetN : MS := fun _ G => .rt .non G
def mIf (t : MB) (s1 s2 : MS) : MS := fun ρ G => (t ρ G).toS ρ fun k G1 => if k = true then s1 ρ G1 else s2 ρ G1
theorem ss_if (hc : ST X W c t) (h1 : SSs X W body s1) (h2 : SSs X W other s2) : SS X W (.If c body other pos) (mIf t s1 s2) := by
  refine PS.imp (ps_if hc h1 h2) fun D σ H ⟨ρ, μ, G, hσ, hG, h⟩ => tG.toS hσ hG h fun k G1 H1 μ1 k' g hσ1 hG1 ek h1 => ?_
  have ek : k = k' := ek
  subst ek
  cases k with
  | true => exact iteT ⟨ρ, μ1, G1, hσ1, hG1, h1⟩
  | false => exact iteF ⟨ρ, μ1, G1, hσ1, hG1, h1⟩
abbrev MG := AV → En → Hs → R En
/-- a target stores into the slots S alone -/
def tT (K : PySem.W.Frag) (W : WX) (S : List Nat) (g : MG) : TG := fun v σ H Q => ∃ av ρ μ G, RA K H μ av v ∧ RS K H μ ρ σ ∧ RH K H μ G ∧ match g av ρ G with
  | .ok ρ' G' => ∀ H' μ' σ', Gr H μ H' μ' → RH K H' μ' G' → RS K H' μ' ρ' σ' → σ'.length = σ.length → (∀ j, j ∉ S → σ'[j]? = σ[j]?) → Q σ' H'
  | .exc _ _ _ => False
  | .stuck => False
def SG (X : Cx) (W : WX) (S : List Nat) (tg : Expr) (g : MG) : Prop := PG X tg (tT X.K W S g)
theorem PG.imp {X : Cx} {e : Expr} {t t' : TG} (h : PG X e t) (i : ∀ v σ H Q, t' v σ H Q → t v σ H Q) : PG X e t' := ⟨fun pins s σ H v u Q I r w => h.run pins s σ H v u Q I r (i v σ H Q w)⟩
theorem PGs.imp {X : Cx} {e : List Expr} {t t' : TGs} (h : PGs X e t) (i : ∀ v σ H Q, t' v σ H Q → t v σ H Q) : PGs X e t' := ⟨fun pins s σ H v u Q I r w => h.run pins s σ H v u Q I r (i v σ H Q w)⟩
def gNm (i : Nat) : MG := fun v ρ G => .ok (ρ.set i (some v)) G
theorem sg_name {i : Nat} (hN : X.N.Nodup) (hi : X.N[i]? = some x) (hx : Loc X.env.scope x) (hf : X.fn x = true ∨ X.env.scope.names.lookup x = some .local := by first | exact .inl rfl | exact .inr rfl | assumption) : SG X W [i] (.Name x pos) (gNm i) :=
  PG.imp (pg_name hN hi hx hf) fun v σ H Q ⟨av, ρ, μ, G, r, hσ, hG, h⟩ => h H μ _ (Gr.refl _ _) hG (hσ.set r) (List.length_set ..) fun j hj => List.getElem?_set_ne fun e => hj (by rw [e]; exact List.mem_singleton.mpr rfl)
/-- several targets, from a row of values -/
abbrev MGs := List AV → En → Hs → R En
def tTs (K : PySem.W.Frag) (W : WX) (S : List Nat) (g : MGs) : TGs := fun vs σ H Q => ∃ avs ρ μ G, RAs K H μ avs vs ∧ RS K H μ ρ σ ∧ RH K H μ G ∧ match g avs ρ G with
  | .ok ρ' G' => ∀ H' μ' σ', Gr H μ H' μ' → RH K H' μ' G' → RS K H' μ' ρ' σ' → σ'.length = σ.length → (∀ j, j ∉ S → σ'[j]? = σ[j]?) → Q σ' H'
  | .exc _ _ _ => False
  | .stuck => False
def SGs (X : Cx) (W : WX) (S : List Nat) (tg : List Expr) (g : MGs) : Prop := PGs X tg (tTs X.K W S g)
def gNi : MGs := fun vs ρ G => match vs with
  | [] => .ok ρ G
  | _ => .stuck
def gCo (g : MG) (gs : MGs) : MGs := fun vs ρ G => match vs with
  | v :: r => (g v ρ G).bind fun ρ1 G1 => gs r ρ1 G1
  | [] => .stuck
theorem sgs_nil : SGs X W [] [] gNi := by
  refine PGs.imp pgs_nil fun vs σ H Q ⟨avs, ρ, μ, G, r, hσ, hG, h⟩ => ?_
  cases r with
  | nil => exact ⟨rfl, h H μ σ (Gr.refl _ _) hG hσ rfl fun _ _ => rfl⟩
  | cons r t => exact h.elim
theorem sgs_cons {S S' : List Nat} {g : MG} {gs : MGs} (h1 : SG X W S e g) (h2 : SGs X W S' es gs) (hs : (assignEach (e :: es) X.env).map (·.2) = assign e X.env :: (assignEach es X.env).map (·.2) := by rfl) : SGs X W (S ++ S') (e :: es) (gCo g gs) := by
  refine PGs.imp (pgs_cons h1 h2 hs) fun vs σ H Q ⟨avs, ρ, μ, G, r, hσ, hG, h⟩ => ?_
  match avs, vs, r, h with
  | _, _, .nil, h => exact h.elim
  | _, _, .cons (x := av) (v := v) (xs := avs) (vs := vs) r t, h =>
    refine ⟨_, _, rfl, av, ρ, μ, G, r, hσ, hG, ?_⟩
    simp only [gCo] at h
    cases e1 : g av ρ G with
    | stuck => rw [e1] at h; exact h
    | exc c d G' => rw [e1] at h; exact h
    | ok ρ1 G1 =>
      rw [e1] at h
      simp only [R.bind_ok] at h
      intro H1 μ1 σ1 g1 hG1 hσ1 l1 j1
      refine ⟨avs, ρ1, μ1, G1, t.gr g1, hσ1, hG1, ?_⟩
      cases e2 : gs avs ρ1 G1 with
      | stuck => rw [e2] at h; exact h
      | exc c d G' => rw [e2] at h; exact h
      | ok ρ2 G2 =>
        rw [e2] at h
        exact fun H2 μ2 σ2 g2 hG2 hσ2 l2 j2 => h H2 μ2 σ2 (g1.trans g2) hG2 hσ2 (l2.trans l1) fun j hj =>
          (j2 j fun z => hj (List.mem_append_right _ z)).trans (j1 j fun z => hj (List.mem_append_left _ z))
def gTp (n : Nat) (gs : MGs) : MG := fun v ρ G => match tupOf v with
  | some xs => if xs.length = n then gs xs ρ G else .stuck
  | none => .stuck
theorem sg_tup {S : List Nat} {k n : Nat} {gs : MGs} (hc : X.calm = true) (h : SGs X W S es gs) (hn : (assignEach es X.env).length = n := by rfl) (hst : (assignEach es X.env).findIdx? (·.1) = none := by rfl) : SG X W S (.Tuple es k pos) (gTp n gs) := by
  refine PG.imp (pg_tup hc h hn hst) fun v σ H Q ⟨av, ρ, μ, G, r, hσ, hG, h⟩ => ?_
  unfold gTp at h
  cases e : tupOf av with
  | none => rw [e] at h; exact h.elim
  | some xs =>
    rw [e] at h
    simp only at h
    obtain ⟨q, vs, rfl, hq, rs⟩ := tupOf_ok r e
    by_cases hl : xs.length = n
    · rw [if_pos hl] at h
      exact ⟨q, vs, rfl, hq, by rw [← rs.length]; exact hl, xs, ρ, μ, G, rs, hσ, hG, h⟩
    · rw [if_neg hl] at h
      exact h.elim
/-- target = value -/
def mAsg (m : ME) (g : MG) : MS := fun ρ G => (m ρ G).toS ρ fun v G1 => match g v ρ G1 with
  | .ok ρ' G' => .nx ρ' G'
  | _ => .stuck
theorem asg_go {S : List Nat} {g : MG} {D : Ends} {σ : St} {H : Hp} (h : tS X.K W (mAsg m g) D σ H) : tAsg (tG X.K (rA X.K) W m) (tT X.K W S g) D σ H := by
  obtain ⟨ρ, μ, G, hσ, hG, h⟩ := h
  refine tG.toS hσ hG h fun v G1 H1 μ1 x g1 hσ1 hG1 r h1 => ⟨v, ρ, μ1, G1, r, hσ1, hG1, ?_⟩
  cases e : g v ρ G1 with
  | stuck => rw [e] at h1; exact h1
  | exc c d G' => rw [e] at h1; exact h1
  | ok ρ2 G2 =>
    rw [e] at h1
    exact fun H2 μ2 σ2 g2 hG2 hσ2 _ _ => h1 H2 μ2 σ2 g2 hG2 hσ2
theorem ss_asg {S : List Nat} {g : MG} (he : SE X W e m) (hg : SG X W S tg g) (hs : swapsWithSole [tg] e pos.line X.env = pure false := by rfl) (hw : swappedStores [tg] e X.env = pure none := by rfl)
    (h1 : (assignEach [tg] X.env).map (·.2) = [assign tg X.env] := by rfl) : SS X W (.Assign [tg] e pos) (mAsg m g) := PS.imp (ps_asg he hg hs hw h1) fun D σ H h => asg_go h
theorem ss_set {i : Nat} {pos' : Pos} (hN : X.N.Nodup) (hi : X.N[i]? = some x) (hx : Loc X.env.scope x) (he : SE X W e m) (hs : swapsWith e (some (.Name x pos')) pos.line X.env = pure false := by rfl)
    (hf : X.fn x = true ∨ X.env.scope.names.lookup x = some .local := by first | exact .inl rfl | exact .inr rfl | assumption) : SS X W (.Assign [.Name x pos'] e pos) (mAsg m (gNm i)) := by
  refine PS.imp (ps_set hN hi hx he hs hf) fun D σ H ⟨ρ, μ, G, hσ, hG, h⟩ => tG.toS hσ hG h fun v G1 H1 μ1 x g1 hσ1 hG1 r h1 => ?_
  exact h1 H1 μ1 _ (Gr.refl _ _) hG1 (hσ1.set r)
/-- a, b = e1, e2 : two names -/
def mPar (i j : Nat) (ms : MEs) : MS := fun ρ G => (ms ρ G).toS ρ fun vs G1 => match vs with
  | [v, w] => .nx ((ρ.set i (some v)).set j (some w)) G1
  | _ => .stuck
theorem ss_par {i j : Nat} {x y : Str} {px py pt pt2 : Pos} {kt k2 : Nat} (hc : X.calm = true) (hN : X.N.Nodup) (hi : X.N[i]? = some x) (hj : X.N[j]? = some y) (hij : i ≠ j)
    (hx : X.env.scope.names.lookup x = some .local) (hy : X.env.scope.names.lookup y = some .local) (ha : SA X W [a, b] ms)
    (hw : swappedStores [.Tuple [.Name x px, .Name y py] kt pt] (.Tuple [a, b] k2 pt2) X.env = pure (some [x, y]))
    (hs : swapsWithSole [.Tuple [.Name x px, .Name y py] kt pt] (.Tuple [a, b] k2 pt2) pos.line X.env = pure false := by rfl) :
    SS X W (.Assign [.Tuple [.Name x px, .Name y py] kt pt] (.Tuple [a, b] k2 pt2) pos) (mPar i j ms) := by
  refine PS.imp (ps_par hc hN hi hj hij hx hy ha hw hs) fun D σ H ⟨ρ, μ, G, hσ, hG, h⟩ => tG.toS hσ hG h fun vs G1 H1 μ1 xs g1 hσ1 hG1 r h1 => ?_
  cases r with
  | nil => exact h1.elim
  | cons r1 t1 =>
    cases t1 with
    | nil => exact h1.elim
    | cons r2 t2 =>
      cases t2 with
      | cons _ _ => exact h1.elim
      | nil => exact ⟨_, _, rfl, h1 H1 μ1 _ (Gr.refl _ _) hG1 ((hσ1.set r1).set r2)⟩
/-- a name, op= -/
def mAug (i : Nat) (f : AV → AV → Hs → R AV) (m : ME) : MS := fun ρ G => match ρ[i]? with
  | some (some v) => (m ρ G).toS ρ fun w G1 => (f v w G1).toS ρ fun u G2 => .nx (ρ.set i (some u)) G2
  | _ => .stuck
/-- its items, and the list that is to stay as it is -/
abbrev Wk := List AV × Option (Nat × List AV)
def gdOk : Option (Nat × List AV) → Hs → Prop
  | none, _ => True
  | some (n, xs), G => G[n]? = some (.lst xs)
def ItOk (K : PySem.W.Frag) (J : It) (k : Wk) (H1 : Hp) (μ1 : Mu) : Prop := ∀ i H μ G, Gr H1 μ1 H μ → RH K H μ G → gdOk k.2 G →
  (∀ v, k.1[i]? = some v → J.go i H ∧ ∀ x H', J.yld i H x H' → Gr H μ H' μ ∧ RH K H' μ G ∧ RA K H' μ v x) ∧ (k.1.length ≤ i → J.stop i H)
abbrev MI := En → Hs → R Wk
def tI (K : PySem.W.Frag) (W : WX) (m : MI) : TI := fun σ H Q => ∃ ρ μ G, RS K H μ ρ σ ∧ RH K H μ G ∧ match m ρ G with
  | .ok k G1 => ∀ H1 μ1 J, Gr H μ H1 μ1 → RH K H1 μ1 G1 → ItOk K J k H1 μ1 → Q J H1
  | .exc c d G1 => Exw K W σ H μ c d G1
  | .stuck => False
def SI (X : Cx) (W : WX) (tg iter : Expr) (m : MI) : Prop := PI X tg iter (tI X.K W m)
theorem PI.imp {X : Cx} {e i : Expr} {t t' : TI} (h : PI X e i t) (hi : ∀ σ H Q, t' σ H Q → t σ H Q) : PI X e i t' := ⟨fun pins s σ H Q I w => h.run pins s σ H Q I (hi σ H Q w)⟩
open Classical in
noncomputable def forF (gd : Option (Nat × List AV)) (g : MG) (b : MS) : List AV → MS
  | [], ρ, G => if gdOk gd G then .nx ρ G else .stuck
  | v :: vs, ρ, G => if gdOk gd G then match g v ρ G with
      | .ok ρ1 G1 => match b ρ1 G1 with
        | .nx ρ2 G2 => forF gd g b vs ρ2 G2
        | .ct ρ2 G2 => forF gd g b vs ρ2 G2
        | .bk ρ2 G2 => .nx ρ2 G2
        | r => r
      | _ => .stuck
    else .stuck
noncomputable def mFor (mi : MI) (g : MG) (b : MS) : MS := fun ρ G => (mi ρ G).toS ρ fun k G1 => forF k.2 g b k.1 ρ G1
theorem ss_for {S : List Nat} {mi : MI} {g : MG} (hp : PassesOwn (model X.prog X.w) X.A X.env X.xe) (hc : X.calm = true) (hi : SI X W tg iter mi) (hg : SG X W S tg g) (hb : SSs X W body s1)
    (hs : ∀ x, foldedSetIterable iter X.env x = pure x := by intro _; rfl) : SS X W (.For tg iter body [] pos) (mFor mi g s1) := by
  refine PS.imp (ps_for hp hc hi hg hb hs) fun D σ H ⟨ρ, μ, G, hσ, hG, h⟩ => ⟨ρ, μ, G, hσ, hG, ?_⟩
  unfold mFor at h
  cases e : mi ρ G with
  | stuck => rw [e] at h; exact h
  | exc c d G1 => rw [e] at h; exact fun H' μ' dd g hG' hd => h H' μ' σ dd g hG' (hσ.gr g) hd
  | ok k G1 =>
    rw [e] at h
    intro H1 μ1 J g1 hG1 ok
    have h1 := PoS.gr g1 h
    refine ⟨fun i m σ H => m = k.1.length - i ∧ i ≤ k.1.length ∧ ∃ ρ μ G, Gr H1 μ1 H μ ∧ RS X.K H μ ρ σ ∧ RH X.K H μ G ∧ PoS X.K W D H μ (forF k.2 g s1 (k.1.drop i) ρ G),
      ⟨k.1.length, rfl, Nat.zero_le _, ρ, μ1, G1, Gr.refl _ _, hσ.gr g1, hG1, h1⟩, ?_⟩
    rintro i m σ2 H2 ⟨rfl, hi2, ρ2, μ2, G2, g2, hσ2, hG2, h2⟩
    by_cases hlt : i < k.1.length
    · rw [List.drop_eq_getElem_cons hlt] at h2
      simp only [forF] at h2
      by_cases hgd : gdOk k.2 G2
      · rw [if_pos hgd] at h2
        obtain ⟨go, yl⟩ := (ok i H2 μ2 G2 g2 hG2 hgd).1 _ (List.getElem?_eq_getElem hlt)
        refine .inr ⟨go, fun σ' H' => ∃ ρ μ G, Gr H1 μ1 H' μ ∧ RS X.K H' μ ρ σ' ∧ RH X.K H' μ G ∧ PoS X.K W D H' μ (forF k.2 g s1 (k.1.drop (i + 1)) ρ G), fun σ' H' z => ⟨k.1.length - (i + 1), by omega, rfl, hlt, z⟩, fun x H' y => ?_⟩
        obtain ⟨g3, hG3, rx⟩ := yl x H' y
        refine ⟨_, ρ2, μ2, G2, rx, hσ2.gr g3, hG3, ?_⟩
        have h3 := PoS.gr g3 h2
        cases e3 : g k.1[i] ρ2 G2 with
        | stuck => rw [e3] at h3; exact h3
        | exc c d G' => rw [e3] at h3; exact h3
        | ok ρ4 G4 =>
          rw [e3] at h3
          simp only at h3
          intro H4 μ4 σ4 g4 hG4 hσ4 _ _
          have h4 := PoS.gr g4 h3
          have g14 := (g2.trans g3).trans g4
          refine ⟨ρ4, μ4, G4, hσ4, hG4, ?_⟩
          cases e4 : s1 ρ4 G4 with
          | nx ρ5 G5 => rw [e4] at h4; exact fun H' μ' σ' g hG' hσ' => ⟨ρ5, μ', G5, g14.trans g, hσ', hG', PoS.gr g h4⟩
          | ct ρ5 G5 => rw [e4] at h4; exact fun H' μ' σ' g hG' hσ' => ⟨ρ5, μ', G5, g14.trans g, hσ', hG', PoS.gr g h4⟩
          | bk ρ5 G5 => rw [e4] at h4; exact h4
          | rt v G5 => rw [e4] at h4; exact h4
          | exc c d ρ5 G5 => rw [e4] at h4; exact h4
          | stuck => rw [e4] at h4; exact h4
      · rw [if_neg hgd] at h2
        exact h2.elim
    · have ei : i = k.1.length := by omega
      rw [List.drop_eq_nil_of_le (by omega)] at h2
      simp only [forF] at h2
      by_cases hgd : gdOk k.2 G2
      · rw [if_pos hgd] at h2
        exact .inl ⟨(ok i H2 μ2 G2 g2 hG2 hgd).2 (by omega), h2 H2 μ2 σ2 (Gr.refl _ _) hG2 hσ2⟩
      · rw [if_neg hgd] at h2
        exact h2.elim
end
end Vz
namespace Vz
open PySem L2
section
variable {X : Cx} {W : WX} {a b c e o tg iter : Expr} {es rest : List Expr} {m ma mb mc mo : ME} {t : MB} {ms mk : MEs} {pos p apos cpos : Pos} {x : Str}
def wkOf (G : Hs) : AV → Option Wk
  | .tup xs => some (xs, none)
  | .con xs => some (xs, none)
  | .lk xs => some (xs, none)
  | .ls xs => some (xs, none)
  | .str s => some (s.cps.toList.map fun c => .str ⟨#[c]⟩, none)
  | .ref n => match G[n]? with
    | some (.lst xs) => some (xs, some (n, xs))
    | _ => none
  | _ => none
def mWk (m : ME) : MI := fun ρ G => (m ρ G).bind fun v G1 => match wkOf G1 v with
  | some k => .ok k G1
  | none => .stuck
theorem itOk_l {K : PySem.W.Frag} {H1 : Hp} {μ1 : Mu} {a : Addr} {k : Wk} (h : ∀ H μ G, Gr H1 μ1 H μ → RH K H μ G → gdOk k.2 G → ∃ vs, SqL K H a vs ∧ RAs K H μ k.1 vs) : ItOk K (Itl K a) k H1 μ1 := fun i H μ G g hG hgd => by
  obtain ⟨vs, hs, rs⟩ := h H μ G g hG hgd
  refine ⟨fun v hv => ?_, fun hi => ⟨vs, hs, by rw [← rs.length]; exact hi⟩⟩
  obtain ⟨y, hy, r⟩ := rs.get' hv
  refine ⟨⟨vs, y, hs, hy⟩, fun x H' ⟨e, q⟩ => ?_⟩
  subst e
  have := q vs hs
  rw [hy] at this
  cases this
  exact ⟨Gr.refl _ _, hG, r⟩
theorem itOk_t {K : PySem.W.Frag} {H1 : Hp} {μ1 : Mu} {a : Addr} {k : Wk} (h : ∀ H μ G, Gr H1 μ1 H μ → RH K H μ G → gdOk k.2 G → ∃ vs, SqT K H a vs ∧ RAs K H μ k.1 vs) : ItOk K (Itt K a) k H1 μ1 := fun i H μ G g hG hgd => by
  obtain ⟨vs, hs, rs⟩ := h H μ G g hG hgd
  refine ⟨fun v hv => ?_, fun hi => ⟨vs, hs, by rw [← rs.length]; exact hi⟩⟩
  obtain ⟨y, hy, r⟩ := rs.get' hv
  refine ⟨⟨vs, y, hs, hy⟩, fun x H' ⟨e, q⟩ => ?_⟩
  subst e
  have := q vs hs
  rw [hy] at this
  cases this
  exact ⟨Gr.refl _ _, hG, r⟩
theorem itOk_s {K : PySem.W.Frag} {H1 : Hp} {μ1 : Mu} {s : Str} : ItOk K (Its s) (s.cps.toList.map fun c => .str ⟨#[c]⟩, none) H1 μ1 := fun i H μ G g hG _ => by
  refine ⟨fun v hv => ?_, fun hi => ?_⟩
  · rw [List.getElem?_map] at hv
    cases q : s.cps.toList[i]? with
    | none => rw [q] at hv; cases hv
    | some c =>
      rw [q] at hv
      cases hv
      have hc : s.cps[i]? = some c := by rw [← Array.getElem?_toList]; exact q
      refine ⟨(Array.getElem?_eq_some_iff.mp hc).1, fun x H' ⟨e, c', hc', ex⟩ => ?_⟩
      subst e ex
      rw [hc] at hc'
      cases hc'
      exact ⟨Gr.refl _ _, hG, .str _⟩
  · show s.cps.size ≤ i
    have h2 : (s.cps.toList.map fun c => AV.str ⟨#[c]⟩).length ≤ i := hi
    simpa using h2
/-- an iterator over any of these -/
theorem pi_any {l : Expr} {tl : TE} (hl : PE X l tl) : PI X tg l (fun σ H R => tl σ H fun x H1 => (∃ a, x = .ref a ∧ (∃ xs, SqL X.K H1 a xs) ∧ R (Itl X.K a) H1) ∨ (∃ a, x = .ref a ∧ (∃ xs, SqT X.K H1 a xs) ∧ R (Itt X.K a) H1) ∨ ∃ s, x = .str s ∧ R (Its s) H1) := by
  refine ⟨fun pins s σ H R I h => thn (hl.run pins s σ H _ I h) fun v s1 ⟨x, H1, I1, r1, q1⟩ => ?_⟩
  rcases q1 with ⟨a, rfl, ⟨xs, hq⟩, q⟩ | ⟨a, rfl, ⟨xs, hq⟩, q⟩ | ⟨z, rfl, q⟩
  · cases r1
    obtain ⟨its, _, pl, _⟩ := I1.list hq
    exact wpAny_pyIter_list pl.isList (pi_one (tk := s1.toks) I1 _ (turn_list a _) ⟨_, Heap.get?_push_size _ rfl, rfl, rfl⟩ q)
  · cases r1
    obtain ⟨its, _, pt, _⟩ := I1.tuple hq
    exact wpAny_pyIter_tuple (show s1.heap.IsTuple a its.toArray from pt) (pi_one (tk := s1.toks) I1 _ (turn_tuple a _) ⟨_, Heap.get?_push_size _ rfl, rfl, rfl⟩ q)
  · obtain ⟨tk, rfl⟩ := r1
    cases ha : z.cps.all (· < 128) with
    | false => exact wpAny_pyIter_wide ha (pi_one (tk := s1.toks) I1 _ (turn_str _ z tk "str_iterator" (.inr rfl)) ⟨_, Heap.get?_push_size _ rfl, rfl, rfl⟩ q)
    | true => exact wpAny_pyIter_ascii ha (pi_one (tk := s1.toks) I1 _ (turn_str _ z tk "str_ascii_iterator" (.inl rfl)) ⟨_, Heap.get?_push_size _ rfl, rfl, rfl⟩ q)
theorem tI.of {K : PySem.W.Frag} {m : ME} {f : AV → Hs → R Wk} {ρ : En} {σ : St} {H : Hp} {μ : Mu} {G : Hs} {Q : It → Hp → Prop} {Q1 : VK} (hσ : RS K H μ ρ σ) (hG : RH K H μ G)
    (h : match (m ρ G).bind f with
      | .ok k G1 => ∀ H1 μ1 J, Gr H μ H1 μ1 → RH K H1 μ1 G1 → ItOk K J k H1 μ1 → Q J H1
      | .exc c d G1 => Exw K W σ H μ c d G1
      | .stuck => False)
    (n : ∀ v G1 H1 μ1 x k, Gr H μ H1 μ1 → RH K H1 μ1 G1 → RA K H1 μ1 v x → f v G1 = .ok k G1 → (∀ J, ItOk K J k H1 μ1 → Q J H1) → Q1 x H1) (hf : ∀ v G1, (∃ k, f v G1 = .ok k G1) ∨ f v G1 = .stuck) : tG K (rA K) W m σ H Q1 := by
  refine ⟨ρ, μ, G, hσ, hG, ?_⟩
  cases e : m ρ G with
  | stuck => rw [e] at h; exact h
  | exc c d G1 => rw [e] at h; exact h
  | ok v G1 =>
    rw [e] at h
    simp only [R.bind_ok] at h
    rcases hf v G1 with ⟨k, hk⟩ | hk
    · rw [hk] at h
      exact fun H1 μ1 x g hG1 r => n v G1 H1 μ1 x k g hG1 r hk fun J ok => h H1 μ1 J g hG1 ok
    · rw [hk] at h
      exact h.elim
theorem si_any (ha : SE X W a m) : SI X W tg a (mWk m) := by
  refine PI.imp (pi_any ha) fun σ H Q ⟨ρ, μ, G, hσ, hG, h⟩ => tI.of hσ hG h (fun v G1 H1 μ1 x k g hG1 r hk q => ?_) fun v G1 => ?_
  · cases e : wkOf G1 v with
    | none => simp only [e] at hk; cases hk
    | some k' =>
      simp only [e] at hk
      cases hk
      cases r with
      | tup h rs => cases e; exact .inr (.inl ⟨_, rfl, ⟨_, SqT.of h⟩, q _ (itOk_t fun H μ G g _ _ => ⟨_, SqT.of (g.tup _ _ h), rs.gr g⟩)⟩)
      | con h rs => cases e; exact .inr (.inl ⟨_, rfl, ⟨_, h.sq⟩, q _ (itOk_t fun H μ G g _ _ => ⟨_, h.sq, rs.gr g⟩)⟩)
      | lk h rs => cases e; exact .inl ⟨_, rfl, ⟨_, h.sq⟩, q _ (itOk_l fun H μ G g _ _ => ⟨_, (h.gr g).sq, rs.gr g⟩)⟩
      | ls h rs => cases e; exact .inl ⟨_, rfl, ⟨_, h.sq⟩, q _ (itOk_l fun H μ G g _ _ => ⟨_, (h.gr g).sq, rs.gr g⟩)⟩
      | str s => cases e; exact .inr (.inr ⟨s, rfl, q _ itOk_s⟩)
      | ref h =>
        rename_i n a'
        obtain ⟨o, ho, ro⟩ := hG1.obj h
        simp only [wkOf, ho] at e
        cases o with
        | lst xs =>
          cases e
          obtain ⟨vs, h1, rs⟩ := ro
          refine .inl ⟨_, rfl, ⟨_, SqL.of h1⟩, q _ (itOk_l fun H μ G g hG hgd => ?_)⟩
          obtain ⟨vs', h2, rs'⟩ := hG.at_ n a' _ (h.gr g) hgd
          exact ⟨vs', SqL.of h2, rs'⟩
        | _ => cases e
      | _ => cases e
  · cases e : wkOf G1 v with
    | none => exact .inr rfl
    | some k => exact .inl ⟨k, rfl⟩
/-- range(n), range(a, b) -/
def rgA (lo hi : Int) : List AV := (List.range (hi - lo).toNat).map fun i => .int (lo + (i : Nat))
@[irreducible] def mRg1 (m : ME) : MI := fun ρ G => (m ρ G).bind fun v G1 => match v with
  | .int j => if -(2 ^ 62) ≤ j ∧ j < 2 ^ 62 then .ok (rgA 0 j, none) G1 else .stuck
  | _ => .stuck
@[irreducible] def mRg2 (ma mb : ME) : MI := fun ρ G => (ma ρ G).bind fun v G1 => (mb ρ G1).bind fun w G2 => match v, w with
  | .int i, .int j => if -(2 ^ 62) ≤ i ∧ i < 2 ^ 62 ∧ -(2 ^ 62) ≤ j ∧ j < 2 ^ 62 then .ok (rgA i j, none) G2 else .stuck
  | _, _ => .stuck
theorem itOk_r {K : PySem.W.Frag} {H1 : Hp} {μ1 : Mu} {lo hi : Int} : ItOk K (Itr lo (hi - lo).toNat) (rgA lo hi, none) H1 μ1 := fun i H μ G g hG _ => by
  unfold rgA
  refine ⟨fun v hv => ?_, fun h => by
    have h2 : (hi - lo).toNat ≤ i := by simpa using h
    exact h2⟩
  rw [List.getElem?_map] at hv
  by_cases hi' : i < (hi - lo).toNat
  · rw [List.getElem?_range hi'] at hv
    cases hv
    refine ⟨hi', fun x H' ⟨e, ex⟩ => ?_⟩
    subst e ex
    exact ⟨Gr.refl _ _, hG, .int _⟩
  · rw [List.getElem?_eq_none (by simp; omega)] at hv
    cases hv
theorem si_range1 (hg : Gl X "range") (hm : X.mg "range" = none) (ha : SE X W a m) (hs : starEach [a] X.env = [(false, eval a X.env)] := by rfl) : SI X W tg (.Call (.Name "range" p) [a] [] pos) (mRg1 m) := by
  refine PI.imp (pi_range1 hg hm (pa_cons ha pa_nil hs) hs) fun σ H Q ⟨ρ, μ, G, hσ, hG, h⟩ => ?_
  unfold mRg1 at h
  refine tI.of hσ hG h (fun v G1 H1 μ1 x k g hG1 r hk q => ?_) fun v G1 => ?_
  · cases r with
    | int j =>
      simp only at hk
      by_cases hz : -(2 ^ 62) ≤ j ∧ j < 2 ^ 62
      · rw [if_pos hz] at hk
        cases hk
        refine ⟨j, rfl, hz.1, hz.2, ?_⟩
        have := q (Itr 0 (j - 0).toNat) itOk_r
        rw [Int.sub_zero] at this
        exact this
      · rw [if_neg hz] at hk
        cases hk
    | _ => cases hk
  · cases v with
    | int j =>
      simp only
      by_cases hz : -(2 ^ 62) ≤ j ∧ j < 2 ^ 62
      · rw [if_pos hz]; exact .inl ⟨_, rfl⟩
      · rw [if_neg hz]; exact .inr rfl
    | _ => exact .inr rfl
def wipeA (ρ : En) : List Nat → En
  | [] => ρ
  | v :: vs => (wipeA ρ vs).set v none
theorem RS.wipe {K : PySem.W.Frag} {H : Hp} {μ : Mu} {ρ : En} {σ : St} (h : RS K H μ ρ σ) : ∀ vs : List Nat, RS K H μ (wipeA ρ vs) (L2.wipe σ vs)
  | [] => h
  | v :: vs => (RS.wipe h vs).unset
theorem wipe_out' {σ : St} : ∀ {vs : List Nat} {i : Nat}, i ∉ vs → (L2.wipe σ vs)[i]? = σ[i]?
  | [], _, _ => rfl
  | v :: vs, i, h => by
    show ((L2.wipe σ vs).set v none)[i]? = _
    rw [List.getElem?_set_ne fun e => h (by rw [e]; exact List.mem_cons_self ..)]
    exact wipe_out' fun z => h (List.mem_cons_of_mem _ z)
theorem wipe_len {σ : St} : ∀ vs : List Nat, (L2.wipe σ vs).length = σ.length
  | [] => rfl
  | v :: vs => by
    show ((L2.wipe σ vs).set v none).length = _
    rw [List.length_set, wipe_len vs]
theorem wipe_in {σ : St} : ∀ {vs : List Nat} {i : Nat}, i ∈ vs → (L2.wipe σ vs)[i]? = if i < σ.length then some none else none
  | v :: vs, i, h => by
    show ((L2.wipe σ vs).set v none)[i]? = _
    by_cases e : v = i
    · subst e
      by_cases hl : v < σ.length
      · rw [List.getElem?_set_self (by rw [wipe_len]; exact hl), if_pos hl]
      · rw [List.getElem?_eq_none (by rw [List.length_set, wipe_len]; omega), if_neg hl]
    · rw [List.getElem?_set_ne e]
      exact wipe_in ((List.mem_cons.mp h).resolve_left fun z => e z.symm)
theorem wipe_eq {σ σ' : St} {vs S : List Nat} (hS : ∀ j ∈ S, j ∈ vs) (hl : σ'.length = σ.length) (h : ∀ j, j ∉ S → σ'[j]? = σ[j]?) : L2.wipe σ' vs = L2.wipe σ vs := by
  refine List.ext_getElem? fun i => ?_
  by_cases hi : i ∈ vs
  · rw [wipe_in hi, wipe_in hi, hl]
  · rw [wipe_out' hi, wipe_out' hi]
    exact h i fun z => hi (hS i z)
theorem wipe_wipe {σ : St} {vs : List Nat} : L2.wipe (L2.wipe σ vs) vs = L2.wipe σ vs := by
  refine List.ext_getElem? fun i => ?_
  by_cases hi : i ∈ vs
  · rw [wipe_in hi, wipe_in hi, wipe_len]
  · rw [wipe_out' hi]
abbrev WN : WX := fun _ _ _ _ => False
theorem takesN {X : Cx} : Takes X WN := fun _ _ ⟨_, _, _, _, _, _, _, _, _, _, _, _, _, _, _, _, w⟩ => w.elim
abbrev mYes : MB := fun _ G => .ok true G
def STs (X : Cx) (W : WX) (ifs : List Expr) (m : MB) : Prop := PTs X ifs (tG X.K rB W m)
theorem sts_nil : STs X W [] mYes := ⟨fun pins s σ H Q I ⟨ρ, μ, G, hσ, hG, h⟩ => pts_nil.run pins s σ H Q I (Po.now (v := true) h hG rfl)⟩
theorem sts_one (h : ST X W c t) : STs X W [c] t := pts_one h
open Classical in
/-- the turns of a list comprehension: the new list is the object D -/
noncomputable def lcF (gd : Option (Nat × List AV)) (g : MG) (t : MB) (m : ME) (D : Nat) (ρ : En) : List AV → Hs → R Unit
  | [], G => if gdOk gd G then .ok () G else .stuck
  | v :: vs, G => if gdOk gd G then match g v ρ G with
      | .ok ρ1 G1 => match t ρ1 G1 with
        | .ok true G2 => match m ρ1 G2 with
          | .ok y G3 => match G3[D]? with
            | some (.lst acc) => if acc.length < szl then lcF gd g t m D ρ vs (G3.set D (.lst (acc ++ [y]))) else .stuck
            | _ => .stuck
          | _ => .stuck
        | .ok false G2 => lcF gd g t m D ρ vs G2
        | _ => .stuck
      | _ => .stuck
    else .stuck
noncomputable def mLc (mi : MI) (g : MG) (t : MB) (m : ME) (own : List Nat) : ME := fun ρ G => (mi ρ G).bind fun k G1 => (lcF k.2 g t m G1.length (wipeA ρ own) k.1 (G1 ++ [.lst []])).bind fun _ G2 => .ok (.ref G1.length) G2
theorem lc_go {S own : List Nat} {mi : MI} {g : MG} (hS : ∀ j ∈ S, j ∈ own) {K : PySem.W.Frag} {σ : St} {H : Hp} {Q : VK} (h : tG K (rA K) W (mLc mi g t m own) σ H Q) :
    tLc (tI K W mi) (tT K WN S g) (tG K rB WN t) (tG K (rA K) WN m) own σ H Q := by
  obtain ⟨ρ, μ, G, hσ, hG, h⟩ := h
  refine ⟨ρ, μ, G, hσ, hG, ?_⟩
  unfold mLc at h
  cases e : mi ρ G with
  | stuck => rw [e] at h; exact h
  | exc c d G1 => rw [e] at h; exact h
  | ok k G1 =>
    rw [e] at h
    simp only [R.bind_ok] at h
    intro H1 μ1 J g1 hG1 ok D hD
    have gD : Gr H1 μ1 (upd H1 D (.lst [])) (μ1 ++ [some D]) := Gr.alloc hD
    have hGD : RH K (upd H1 D (.lst [])) (μ1 ++ [some D]) (G1 ++ [.lst []]) := hG1.alloc hD ⟨[], upd_same, .nil⟩
    have hDn : Num (μ1 ++ [some D]) G1.length D := hG1.fresh D
    have hw := (hσ.gr (g1.trans gD)).wipe own
    have h0 : Po K (rA K) W σ (upd H1 D (.lst [])) (μ1 ++ [some D]) ((lcF k.2 g t m G1.length (wipeA ρ own) k.1 (G1 ++ [.lst []])).bind fun _ G2 => .ok (.ref G1.length) G2) Q := Po.gr (g1.trans gD) h
    refine ⟨fun i mm H => mm = k.1.length - i ∧ i ≤ k.1.length ∧ ∃ μ G, Gr (upd H1 D (.lst [])) (μ1 ++ [some D]) H μ ∧ RH K H μ G ∧ Po K (rA K) W σ H μ ((lcF k.2 g t m G1.length (wipeA ρ own) (k.1.drop i) G).bind fun _ G2 => .ok (.ref G1.length) G2) Q,
      ⟨k.1.length, rfl, Nat.zero_le _, _, _, Gr.refl _ _, hGD, h0⟩, ?_⟩
    rintro i mm H2 ⟨rfl, hi2, μ2, G2, g2, hG2, h2⟩
    have hDn2 : Num μ2 (G1.length) D := hDn.gr g2
    by_cases hlt : i < k.1.length
    · rw [List.drop_eq_getElem_cons hlt] at h2
      simp only [lcF] at h2
      by_cases hgd : gdOk k.2 G2
      · rw [if_pos hgd] at h2
        obtain ⟨go, yl⟩ := (ok i H2 μ2 G2 (gD.trans g2) hG2 hgd).1 _ (List.getElem?_eq_getElem hlt)
        refine .inr ⟨go, fun H' => ∃ μ G, Gr (upd H1 D (.lst [])) (μ1 ++ [some D]) H' μ ∧ RH K H' μ G ∧ Po K (rA K) W σ H' μ ((lcF k.2 g t m G1.length (wipeA ρ own) (k.1.drop (i + 1)) G).bind fun _ G2 => .ok (.ref G1.length) G2) Q,
          fun H' z => ⟨k.1.length - (i + 1), by omega, rfl, hlt, z⟩, fun x H' y => ?_⟩
        obtain ⟨g3, hG3, rx⟩ := yl x H' y
        have g13 := g2.trans g3
        refine ⟨_, wipeA ρ own, μ2, G2, rx, hw.gr g13, hG3, ?_⟩
        have h3 := Po.gr g3 h2
        cases e3 : g k.1[i] (wipeA ρ own) G2 with
        | stuck => rw [e3] at h3; exact h3
        | exc c d G' => rw [e3] at h3; exact h3
        | ok ρ4 G4 =>
          rw [e3] at h3
          simp only at h3
          intro H4 μ4 σ4 g4 hG4 hσ4 l4 j4
          have h4 := Po.gr g4 h3
          have g14 := g13.trans g4
          refine ⟨(wipe_eq hS l4 j4).trans wipe_wipe, ρ4, μ4, G4, hσ4, hG4, ?_⟩
          cases e4 : t ρ4 G4 with
          | stuck => rw [e4] at h4; exact h4
          | exc c d G' => rw [e4] at h4; exact h4.elim
          | ok b G5 =>
            rw [e4] at h4
            intro H5 μ5 b' g5 hG5 eb
            have eb : b = b' := eb
            subst eb
            have h5 := Po.gr g5 h4
            have g15 := g14.trans g5
            cases b with
            | false => exact iteF ⟨μ5, G5, g15, hG5, h5⟩
            | true =>
              refine iteT ⟨ρ4, μ5, G5, hσ4.gr g5, hG5, ?_⟩
              simp only at h5
              cases e6 : m ρ4 G5 with
              | stuck => rw [e6] at h5; exact h5
              | exc c d G' => rw [e6] at h5; exact h5.elim
              | ok y G6 =>
                rw [e6] at h5
                simp only at h5
                intro H6 μ6 y' g6 hG6 ry
                have h6 := Po.gr g6 h5
                have g16 := g15.trans g6
                have hDn6 : Num μ6 (G1.length) D := hDn.gr g16
                obtain ⟨o, ho, ro⟩ := hG6.obj hDn6
                rw [ho] at h6
                cases o with
                | lst acc =>
                  simp only at h6
                  obtain ⟨vs, hv, rs⟩ := ro
                  by_cases hz : acc.length < szl
                  · rw [if_pos hz] at h6
                    have gp : Gr H6 μ6 (upd H6 D (.lst (vs ++ [y']))) μ6 := Gr.put hG6 hDn6 ho
                    refine ⟨vs, hv, by rw [← rs.length]; exact hz, μ6, _, g16.trans gp, hG6.put (o := .lst (acc ++ [y])) hDn6 ho ⟨_, upd_same, (rs.app (.cons ry .nil)).gr gp⟩, Po.gr gp h6⟩
                  · rw [if_neg hz] at h6
                    exact h6.elim
                | _ => exact h6.elim
      · rw [if_neg hgd] at h2
        exact h2.elim
    · have ei : i = k.1.length := by omega
      rw [List.drop_eq_nil_of_le (by omega)] at h2
      simp only [lcF] at h2
      by_cases hgd : gdOk k.2 G2
      · rw [if_pos hgd] at h2
        exact .inl ⟨(ok i H2 μ2 G2 (gD.trans g2) hG2 hgd).2 (by omega), Po.now (v := AV.ref G1.length) h2 hG2 (.ref hDn2)⟩
      · rw [if_neg hgd] at h2
        exact h2.elim
theorem se_lc {S : List Nat} {elt : Expr} {ifs : List Expr} {scope : Scope} {own : List (Str × Nat)} {mi : MI} {g : MG} (hc : X.calm = true) (hN : X.N.Nodup) (hi : SI X W tg iter mi) (ok : BlkOk X.N X.env.scope scope own) (hS : ∀ j ∈ S, j ∈ own.map (·.2))
    (hg : ∀ (s : Shared) (H : Hp) (C : Addr) (cl : List (Str × Addr)) (fp : List Addr), SG (X.blk s H scope (compEnvC scope cl C X.env) fp) WN S tg g)
    (ht : ∀ (s : Shared) (H : Hp) (C : Addr) (cl : List (Str × Addr)) (fp : List Addr), STs (X.blk s H scope (compEnvC scope cl C X.env) fp) WN ifs t)
    (he : ∀ (s : Shared) (H : Hp) (C : Addr) (cl : List (Str × Addr)) (fp : List Addr), SE (X.blk s H scope (compEnvC scope cl C X.env) fp) WN elt m) (hs : ∀ x, foldedSetIterable iter X.env x = pure x := by intro _; rfl) :
    SE X W (.ListComp elt [⟨tg, iter, ifs, 0⟩] scope pos) (mLc mi g t m (own.map (·.2))) :=
  PE.imp (pe_lc (g := tT X.K WN S g) (tt := tG X.K rB WN t) (te := tG X.K (rA X.K) WN m) hc hN hi ok hg ht he hs) fun σ H Q h => lc_go hS h
theorem ss_setLc {S : List Nat} {i : Nat} {y : Str} {py spos : Pos} {elt : Expr} {ifs : List Expr} {scope : Scope} {own : List (Str × Nat)} {mi : MI} {g : MG} (hc : X.calm = true) (hN : X.N.Nodup) (hy : X.N[i]? = some y) (hyl : X.env.scope.names.lookup y = some .local)
    (hsw : swapsWith (.ListComp elt [⟨tg, iter, ifs, 0⟩] scope pos) (some (.Name y py)) spos.line X.env = pure true) (hi : SI X W tg iter mi) (ok : BlkOk X.N X.env.scope scope own) (hS : ∀ j ∈ S, j ∈ own.map (·.2))
    (hg : ∀ (s : Shared) (H : Hp) (C : Addr) (cl : List (Str × Addr)) (fp : List Addr), SG (X.blk s H scope (compEnvC scope cl C X.env) fp) WN S tg g)
    (ht : ∀ (s : Shared) (H : Hp) (C : Addr) (cl : List (Str × Addr)) (fp : List Addr), STs (X.blk s H scope (compEnvC scope cl C X.env) fp) WN ifs t)
    (he : ∀ (s : Shared) (H : Hp) (C : Addr) (cl : List (Str × Addr)) (fp : List Addr), SE (X.blk s H scope (compEnvC scope cl C X.env) fp) WN elt m) (hs : ∀ x, foldedSetIterable iter X.env x = pure x := by intro _; rfl) :
    SS X W (.Assign [.Name y py] (.ListComp elt [⟨tg, iter, ifs, 0⟩] scope pos) spos) (mAsg (mLc mi g t m (own.map (·.2))) (gNm i)) := by
  refine PS.imp (ps_setLc (g := tT X.K WN S g) (tt := tG X.K rB WN t) (te := tG X.K (rA X.K) WN m) hc hN hy hyl hsw hi ok hg ht he hs) fun D σ H ⟨ρ, μ, G, hσ, hG, h⟩ => lc_go hS (W := W) ⟨ρ, μ, G, hσ, hG, ?_⟩
  unfold mAsg at h
  cases e : mLc mi g t m (own.map (·.2)) ρ G with
  | stuck => rw [e] at h; exact h
  | exc c d G' => rw [e] at h; exact fun H' μ' dd g hG' hd => h H' μ' σ dd g hG' (hσ.gr g) hd
  | ok v G1 =>
    rw [e] at h
    exact fun H1 μ1 z g1 hG1 r => h H1 μ1 _ g1 hG1 ((hσ.gr g1).set r)
end
end Vz
namespace Vz
open PySem L2
def kOf : AV → Option Key
  | .int i => some (.inl i)
  | .str s => some (.inr s)
  | _ => none
theorem kOf_ok {K : PySem.W.Frag} {H : Hp} {μ : Mu} {v : AV} {x : V} {k : Key} (r : RA K H μ v x) (e : kOf v = some k) : x = kV k := by
  cases r with
  | int i => cases e; rfl
  | str s => cases e; rfl
  | _ => cases e
section
variable {κ : Type} [DecidableEq κ]
def getA : List (κ × AV) → κ → Option AV
  | [], _ => none
  | (k, v) :: r, j => if k = j then some v else getA r j
def putA (kvs : List (κ × AV)) (k : κ) (v : AV) : List (κ × AV) := if (kvs.any fun kv => decide (kv.1 = k)) = true then kvs.map (fun kv => if kv.1 = k then (kv.1, v) else kv) else kvs ++ [(k, v)]
variable {K : PySem.W.Frag} {H : Hp} {μ : Mu}
theorem RF.cons_inv {k : κ} {v : AV} {fs : List (κ × AV)} {gs : List (κ × V)} (h : RF K H μ ((k, v) :: fs) gs) : ∃ x gs', gs = (k, x) :: gs' ∧ RA K H μ v x ∧ RF K H μ fs gs' := by
  obtain ⟨h1, h2⟩ := h
  cases gs with
  | nil => cases h1
  | cons g gs =>
    obtain ⟨k', x⟩ := g
    rw [List.map_cons, List.map_cons] at h1
    injection h1 with e1 e2
    have e1 : k = k' := e1
    subst e1
    cases h2 with
    | cons r t => exact ⟨x, gs, rfl, r, e2, t⟩
theorem RF.cons {k : κ} {v : AV} {x : V} {fs : List (κ × AV)} {gs : List (κ × V)} (r : RA K H μ v x) (h : RF K H μ fs gs) : RF K H μ ((k, v) :: fs) ((k, x) :: gs) :=
  ⟨by rw [List.map_cons, List.map_cons, h.1], .cons r h.2⟩
theorem RF.nil' : RF K H μ ([] : List (κ × AV)) ([] : List (κ × V)) := ⟨rfl, .nil⟩
/-- what is there, or not -/
def RAo (K : PySem.W.Frag) (H : Hp) (μ : Mu) : Option AV → Option V → Prop
  | some v, some x => RA K H μ v x
  | none, none => True
  | _, _ => False
theorem RF.get (k : κ) : ∀ {fs : List (κ × AV)} {gs : List (κ × V)}, RF K H μ fs gs → RAo K H μ (getA fs k) (valV gs k)
  | [], gs, h => by
    cases gs with
    | nil => exact True.intro
    | cons g gs => cases h.1
  | (j, v) :: fs, gs, h => by
    obtain ⟨x, gs', rfl, r, t⟩ := h.cons_inv
    unfold getA
    by_cases e : j = k
    · rw [if_pos e, valV_pos (p := (j, x)) e]
      exact r
    · rw [if_neg e, valV_neg (p := (j, x)) e]
      exact RF.get k t
theorem RF.any (k : κ) : ∀ {fs : List (κ × AV)} {gs : List (κ × V)}, RF K H μ fs gs → (fs.any fun kv => decide (kv.1 = k)) = gs.any fun kv => decide (kv.1 = k)
  | [], gs, h => by
    cases gs with
    | nil => rfl
    | cons g gs => cases h.1
  | (j, v) :: fs, gs, h => by
    obtain ⟨x, gs', rfl, r, t⟩ := h.cons_inv
    rw [List.any_cons, List.any_cons, RF.any k t]
theorem RF.mapSet {k : κ} {v : AV} {x : V} (r : RA K H μ v x) : ∀ {fs : List (κ × AV)} {gs : List (κ × V)}, RF K H μ fs gs → RF K H μ (fs.map fun kv => if kv.1 = k then (kv.1, v) else kv) (gs.map fun kv => if kv.1 = k then (kv.1, x) else kv)
  | [], gs, h => by
    cases gs with
    | nil => exact .nil'
    | cons g gs => cases h.1
  | (j, u) :: fs, gs, h => by
    obtain ⟨y, gs', rfl, r', t⟩ := h.cons_inv
    rw [List.map_cons, List.map_cons]
    by_cases e : j = k
    · rw [if_pos (show (j, u).1 = k from e), if_pos (show (j, y).1 = k from e)]
      exact .cons r (RF.mapSet r t)
    · rw [if_neg (show ¬ (j, u).1 = k from e), if_neg (show ¬ (j, y).1 = k from e)]
      exact .cons r' (RF.mapSet r t)
theorem RF.app {fs fs' : List (κ × AV)} {gs gs' : List (κ × V)} (h : RF K H μ fs gs) (h' : RF K H μ fs' gs') : RF K H μ (fs ++ fs') (gs ++ gs') :=
  ⟨by rw [List.map_append, List.map_append, h.1, h'.1], by rw [List.map_append, List.map_append]; exact h.2.app h'.2⟩
theorem RF.put (k : κ) {v : AV} {x : V} (r : RA K H μ v x) {fs : List (κ × AV)} {gs : List (κ × V)} (h : RF K H μ fs gs) : RF K H μ (putA fs k v) (putK gs k x) := by
  unfold putA putK
  rw [RF.any k h]
  split
  · exact h.mapSet r
  · exact h.app (.cons r .nil')
end
def dkOf (G : Hs) : AV → Option (Nat × List (Key × AV))
  | .ref n => match G[n]? with
    | some (.dk kvs) => some (n, kvs)
    | _ => none
  | _ => none
theorem dkOf_ok {K : PySem.W.Frag} {H : Hp} {μ : Mu} {G : Hs} {v : AV} {x : V} {n : Nat} {kvs : List (Key × AV)} (hG : RH K H μ G) (r : RA K H μ v x) (e : dkOf G v = some (n, kvs)) :
    ∃ a ws, v = .ref n ∧ x = .ref a ∧ Num μ (n) a ∧ G[n]? = some (.dk kvs) ∧ H a = some (.dK ws) ∧ RF K H μ kvs ws := by
  cases r with
  | ref h =>
    obtain ⟨o, ho, ro⟩ := hG.obj h
    simp only [dkOf, ho] at e
    cases o with
    | dk zs =>
      cases e
      obtain ⟨ws, h1, h2⟩ := ro
      exact ⟨_, ws, rfl, rfl, h, ho, h1, h2⟩
    | _ => cases e
  | _ => cases e
/-- a dict, as it is read -/
def dkR (G : Hs) : AV → Option (List (Key × AV))
  | .ref n => match G[n]? with
    | some (.dk kvs) => some kvs
    | _ => none
  | .id ks xs => some (ks.zip xs)
  | _ => none
theorem dkR_ok {K : PySem.W.Frag} {H : Hp} {μ : Mu} {G : Hs} {v : AV} {x : V} {kvs : List (Key × AV)} (hG : RH K H μ G) (r : RA K H μ v x) (e : dkR G v = some kvs) :
    ∃ a ws, x = .ref a ∧ H a = some (.dK ws) ∧ RF K H μ kvs ws := by
  cases r with
  | ref h =>
    obtain ⟨o, ho, ro⟩ := hG.obj h
    simp only [dkR, ho] at e
    cases o with
    | dk zs =>
      cases e
      obtain ⟨ws, h1, h2⟩ := ro
      exact ⟨_, ws, rfl, h1, h2⟩
    | _ => cases e
  | id h _ en rs => cases e; exact ⟨_, _, rfl, h, RF.zip en rs⟩
  | _ => cases e
section
variable {X : Cx} {W : WX} {a b c e o i value : Expr} {es rest : List Expr} {m ma mb mc mo mi mv : ME} {t : MB} {ms mk : MEs} {pos pos' p apos cpos tpos : Pos} {x : Str}
/-- d[k] -/
def fDg (v w : AV) (G : Hs) : R AV := match dkR G v, kOf w with
  | some kvs, some k => match getA kvs k with
    | some u => .ok u G
    | none => .stuck
  | _, _ => .stuck
theorem RAo.some_of {K : PySem.W.Frag} {H : Hp} {μ : Mu} {v : AV} {o : Option V} (h : RAo K H μ (some v) o) : ∃ x, o = some x ∧ RA K H μ v x := by
  cases o with
  | none => exact h.elim
  | some x => exact ⟨x, rfl, h⟩
theorem RAo.isSome {K : PySem.W.Frag} {H : Hp} {μ : Mu} {u : Option AV} {o : Option V} (h : RAo K H μ u o) : u.isSome = o.isSome := by
  cases u <;> cases o <;> first | rfl | exact h.elim
theorem se_dget (hu : X.A.units + 1 < cLine) (ha : SE X W o mo) (hb : SE X W i mi) (hs : NoSl i) : SE X W (.Subscript o i pos) (m2 fDg mo mi) := by
  refine PE.imp (pe_dget hu ha hb hs) fun σ H Q ⟨ρ, μ, G, hσ, hG, h⟩ => tG.bind hσ hG h fun v G1 H1 μ1 x g1 hσ1 hG1 rv h1 => tG.bind hσ1 hG1 h1 fun w G2 H2 μ2 y g2 hσ2 hG2 rw' h2 => ?_
  unfold fDg at h2
  cases e1 : dkR G2 v with
  | none => rw [e1] at h2; exact h2.elim
  | some kvs =>
    cases e2 : kOf w with
    | none => rw [e1, e2] at h2; exact h2.elim
    | some k =>
      rw [e1, e2] at h2
      simp only at h2
      cases e3 : getA kvs k with
      | none => rw [e3] at h2; exact h2.elim
      | some u =>
        rw [e3] at h2
        obtain ⟨p, ws, rfl, hp, rf⟩ := dkR_ok hG2 (rv.gr g2) e1
        have hr := rf.get k
        rw [e3] at hr
        obtain ⟨z, hz, rz⟩ := hr.some_of
        exact ⟨p, z, rfl, .inl ⟨ws, k, .inl hp, kOf_ok rw' e2, hz.symm⟩, Po.now (v := u) h2 hG2 rz⟩
/-- d[k] = v -/
def fDp (v w u : AV) (G : Hs) : R Unit := match dkOf G v, kOf w with
  | some (n, kvs), some k => if kvs.length < szl then .ok () (G.set n (.dk (putA kvs k u))) else .stuck
  | _, _ => .stuck
def mDput (mo mi mv : ME) : MS := fun ρ G => (mv ρ G).toS ρ fun u G1 => (mo ρ G1).toS ρ fun v G2 => (mi ρ G2).toS ρ fun w G3 => (fDp v w u G3).toS ρ fun _ G4 => .nx ρ G4
theorem ss_dput (hu : X.A.units + 1 < cLine) (ha : SE X W o mo) (hb : SE X W i mi) (hv : SE X W value mv) (hs : swapsWith value (some (.Subscript o i pos')) pos.line X.env = pure false) :
    SS X W (.Assign [.Subscript o i pos'] value pos) (mDput mo mi mv) := by
  refine PS.imp (ps_dput hu ha hb hv hs) fun D σ H ⟨ρ, μ, G, hσ, hG, h⟩ => tG.toS hσ hG h fun u G1 H1 μ1 x1 g1 hσ1 hG1 ru h1 => tG.toS hσ1 hG1 h1 fun v G2 H2 μ2 x2 g2 hσ2 hG2 rv h2 => tG.toS hσ2 hG2 h2 fun w G3 H3 μ3 x3 g3 hσ3 hG3 rw' h3 => ?_
  unfold fDp at h3
  cases e1 : dkOf G3 v with
  | none => rw [e1] at h3; exact h3.elim
  | some q =>
    obtain ⟨n, kvs⟩ := q
    cases e2 : kOf w with
    | none => rw [e1, e2] at h3; exact h3.elim
    | some k =>
      rw [e1, e2] at h3
      simp only at h3
      by_cases hz : kvs.length < szl
      · rw [if_pos hz] at h3
        obtain ⟨q, ws, rfl, rfl, hn, hGn, hp, rf⟩ := dkOf_ok hG3 (rv.gr g3) e1
        have gp : Gr H3 μ3 (upd H3 q (.dK (putK ws k x1))) μ3 := Gr.put hG3 hn hGn
        refine ⟨q, _, rfl, .inl ⟨ws, k, hp, kOf_ok rw' e2, by rw [← rf.length]; exact hz, rfl⟩, ?_⟩
        exact h3 _ μ3 σ gp (hG3.put (o := .dk (putA kvs k u)) hn hGn ⟨_, upd_same, (rf.put k ((ru.gr g2).gr g3)).gr gp⟩) (hσ3.gr gp)
      · rw [if_neg hz] at h3
        exact h3.elim
/-- {k: v, ..} -/
def mPairs : List (ME × ME) → En → Hs → R (List (Key × AV))
  | [], _, G => .ok [] G
  | (mk, mv) :: r, ρ, G => (mk ρ G).bind fun w G1 => (mv ρ G1).bind fun u G2 => match kOf w with
    | some k => (mPairs r ρ G2).bind fun kvs G3 => .ok ((k, u) :: kvs) G3
    | none => .stuck
def mergeA (more : List (Key × AV)) : List (Key × AV) := more.foldl (fun acc kv => putA acc kv.1 kv.2) []
open Classical in
noncomputable def mDict (trs : List (ME × ME)) : ME := fun ρ G => (mPairs trs ρ (G ++ [.dk []])).bind fun kvs G1 => if kvs.length ≤ 15 ∧ G1[G.length]? = some (.dk []) then .ok (.ref G.length) (G1.set G.length (.dk (mergeA kvs))) else .stuck
inductive SPs (X : Cx) (W : WX) (pos : Pos) : List (Option Expr) → List Expr → List (ME × ME) → Prop where
  | nil : SPs X W pos [] [] []
  | cons {k v : Expr} {ks : List (Option Expr)} {vs : List Expr} {mk mv : ME} {r : List (ME × ME)} : SE X W k mk → SE X W v mv → SPs X W pos ks vs r → SPs X W pos (some k :: ks) (v :: vs) ((mk, mv) :: r)
def tPs (K : PySem.W.Frag) (W : WX) (trs : List (ME × ME)) : List (TE × TE) := trs.map fun q => (tG K (rA K) W q.1, tG K (rA K) W q.2)
theorem SPs.pps {ks : List (Option Expr)} {vs : List Expr} {trs : List (ME × ME)} (h : SPs X W pos ks vs trs) : PPs X pos ks vs (tPs X.K W trs) := by
  induction h with
  | nil => exact pps_nil
  | cons h1 h2 _ ih => exact pps_cons h1 h2 ih
theorem pairs_go {K : PySem.W.Frag} {γ δ : Type} {rel' : Rel γ δ} {ρ : En} {σ : St} : ∀ {trs : List (ME × ME)} {H : Hp} {μ : Mu} {G : Hs} {k : List (Key × AV) → Hs → R γ} {Q : δ → Hp → Prop} {Q1 : List (V × V) → Hp → Prop}, RS K H μ ρ σ → RH K H μ G → Po K rel' W σ H μ ((mPairs trs ρ G).bind k) Q →
    (∀ kvs G1 H1 μ1 ws, Gr H μ H1 μ1 → RS K H1 μ1 ρ σ → RH K H1 μ1 G1 → RF K H1 μ1 kvs ws → Po K rel' W σ H1 μ1 (k kvs G1) Q → Q1 (ws.map fun kv => (kV kv.1, kv.2)) H1) → tPairs (tPs K W trs) σ H Q1
  | [], H, μ, G, k, Q, Q1, hσ, hG, h, n => n [] G H μ [] (Gr.refl _ _) hσ hG .nil' h
  | (mk, mv) :: r, H, μ, G, k, Q, Q1, hσ, hG, h, n => by
    have h : Po K rel' W σ H μ ((mk ρ G).bind fun w G1 => (((mv ρ G1).bind fun u G2 => match kOf w with
      | some k => (mPairs r ρ G2).bind fun kvs G3 => .ok ((k, u) :: kvs) G3
      | none => .stuck).bind k)) Q := by
      have e : (mPairs ((mk, mv) :: r) ρ G).bind k = (mk ρ G).bind fun w G1 => (((mv ρ G1).bind fun u G2 => match kOf w with
        | some k => (mPairs r ρ G2).bind fun kvs G3 => .ok ((k, u) :: kvs) G3
        | none => .stuck).bind k) := by
        show ((mk ρ G).bind _).bind k = _
        cases mk ρ G <;> rfl
      rw [← e]
      exact h
    refine tG.bind hσ hG h fun w G1 H1 μ1 y g1 hσ1 hG1 rw' h1 => ?_
    have h1 : Po K rel' W σ H1 μ1 ((mv ρ G1).bind fun u G2 => ((match kOf w with
      | some k => (mPairs r ρ G2).bind fun kvs G3 => .ok ((k, u) :: kvs) G3
      | none => .stuck : R (List (Key × AV))).bind k)) Q := by
      cases e : mv ρ G1 with
      | stuck => rw [e] at h1; exact h1
      | exc c d G' => rw [e] at h1; exact h1
      | ok u G2 => rw [e] at h1; exact h1
    refine tG.bind hσ1 hG1 h1 fun u G2 H2 μ2 z g2 hσ2 hG2 ru h2 => ?_
    cases e2 : kOf w with
    | none => rw [e2] at h2; exact h2.elim
    | some k0 =>
      rw [e2] at h2
      have h2 : Po K rel' W σ H2 μ2 ((mPairs r ρ G2).bind fun kvs G3 => k ((k0, u) :: kvs) G3) Q := by
        cases e : mPairs r ρ G2 with
        | stuck => rw [e] at h2; exact h2
        | exc c d G' => rw [e] at h2; exact h2
        | ok kvs G3 => rw [e] at h2; exact h2
      refine pairs_go hσ2 hG2 h2 fun kvs G3 H3 μ3 ws g3 hσ3 hG3 rf h3 => ?_
      have := n ((k0, u) :: kvs) G3 H3 μ3 ((k0, z) :: ws) ((g1.trans g2).trans g3) hσ3 hG3 (.cons (ru.gr g3) rf) h3
      rw [List.map_cons] at this
      rw [kOf_ok rw' e2]
      exact this
theorem merge_ok {K : PySem.W.Frag} {H : Hp} {μ : Mu} : ∀ {more : List (Key × AV)} {ws : List (Key × V)} {fs : List (Key × AV)} {gs : List (Key × V)}, RF K H μ more ws → RF K H μ fs gs → RF K H μ (more.foldl (fun acc kv => putA acc kv.1 kv.2) fs) (mergeK gs ws)
  | [], ws, fs, gs, h, h' => by
    cases ws with
    | nil => exact h'
    | cons g ws => cases h.1
  | (k, v) :: more, ws, fs, gs, h, h' => by
    obtain ⟨y, ws', rfl, r, t⟩ := h.cons_inv
    have q := merge_ok (more := more) (ws := ws') (fs := putA fs k v) (gs := putK gs k y) t (h'.put k r)
    exact q
theorem se_dict {ks : List (Option Expr)} {vs : List Expr} {trs : List (ME × ME)} (h : SPs X W pos ks vs trs) (hall : ks.all (·.isSome) = true) (hl : ks.length = vs.length) (h0 : ks ≠ []) (h15 : ks.length ≤ 15) : SE X W (.Dict ks vs pos) (mDict trs) := by
  refine PE.imp (pe_disp h.pps hall hl h0 h15) fun σ H Q ⟨ρ, μ, G, hσ, hG, h⟩ p hp => ?_
  have g0 : Gr H μ (upd H p (.dK [])) (μ ++ [some p]) := Gr.alloc hp
  have hG0 : RH X.K (upd H p (.dK [])) (μ ++ [some p]) (G ++ [.dk []]) := hG.alloc hp ⟨[], upd_same, .nil'⟩
  refine pairs_go (hσ.gr g0) hG0 (Po.gr g0 h) fun kvs G1 H1 μ1 ws g1 hσ1 hG1 rf h1 => ?_
  by_cases hz : kvs.length ≤ 15 ∧ G1[G.length]? = some (.dk [])
  · rw [if_pos hz] at h1
    have hn : Num μ1 (G.length) p := (hG.fresh p).gr g1
    obtain ⟨ws0, hw0, rf0⟩ := hG1.at_ _ _ _ hn hz.2
    have e0 : ws0 = [] := List.length_eq_zero_iff.mp rf0.length.symm
    subst e0
    have gp : Gr H1 μ1 (upd H1 p (.dK (mergeK [] ws))) μ1 := Gr.put hG1 hn hz.2
    exact ⟨hw0, ws, rfl, by rw [← rf.length]; exact hz.1, h1 _ μ1 _ gp (hG1.put (o := .dk (mergeA kvs)) hn hz.2 ⟨_, upd_same, (merge_ok rf .nil').gr gp⟩) (.ref (hn.gr gp))⟩
  · rw [if_neg hz] at h1
    exact h1.elim
def OpM (K : PySem.W.Frag) (r : V → List V → Hp → VK → Prop) (f : AV → List AV → Hs → R AV) : Prop := ∀ (W : WX) σ H μ G v vs x xs Q, RH K H μ G → RA K H μ v x → RAs K H μ vs xs → Po K (rA K) W σ H μ (f v vs G) Q → r x xs H Q
/-- of that type -/
def isL (v : AV) (G : Hs) : Bool := (lstOf G v).isSome
def isS (v : AV) (G : Hs) : Bool := match v with
  | .str _ => true
  | _ => false
def TyM (K : PySem.W.Frag) (T : String) (q : AV → Hs → Bool) : Prop := ∀ H μ G v x, RH K H μ G → RA K H μ v x → q v G = true → tyV K T x H
theorem tyM_l {K : PySem.W.Frag} : TyM K "list" isL := fun H μ G v x hG r h => by
  unfold isL at h
  cases e : lstOf G v with
  | none => rw [e] at h; cases h
  | some xs =>
    obtain ⟨a, vs, rfl, hs, _⟩ := lstOf_ok hG r e
    exact .inl ⟨rfl, vs, hs⟩
def mBm (q : AV → Hs → Bool) (f : AV → List AV → Hs → R AV) (mo : ME) (ms : MEs) : ME := fun ρ G => (mo ρ G).bind fun v G1 => if q v G1 = true then (ms ρ G1).bind fun vs G2 => f v vs G2 else .stuck
theorem se_bm {name : Str} {T id : String} {r : V → List V → Hp → VK → Prop} {q : AV → Hs → Bool} {f : AV → List AV → Hs → R AV} (ty : TyM X.K T q) (hf : OpM X.K r f) (pa : PlainAttrs T) (slot : Slot T name id) (hty : typeOf (.builtin id) = pure (.type "method_descriptor")) (hm : MtR X id r) (ho : SE X W o mo)
    (ha : SA X W (e :: es) ms) (hbase : attributeBase o name X.env (eval o X.env) = eval o X.env := by rfl)
    (hfew : ((backTo cpos (starEach (e :: es) X.env)).all (fun x => !x.1) && (backToKw cpos (keywordEach [] X.env)).all (fun x => x.1.isSome)
      && decide ((e :: es).length + ([] : List Keyword).length + (if ([] : List Keyword).isEmpty then 0 else 1) < 30)) = true := by rfl)
    (hline : (apos.endLine == cpos.line) = true := by rfl) (hs : starEach (e :: es) X.env = (false, eval e X.env) :: starEach es X.env := by rfl) (hplain : (backTo cpos (starEach es X.env)).any (·.1) = false := by rfl) :
    SE X W (.Call (.Attribute o name apos) (e :: es) [] cpos) (mBm q f mo ms) := by
  refine PE.imp (pe_bm pa slot hty hm ho ha hbase hfew hline hs hplain) fun σ H Q ⟨ρ, μ, G, hσ, hG, h⟩ => tG.bind hσ hG h fun v G1 H1 μ1 x g1 hσ1 hG1 rv h1 => ?_
  by_cases hq : q v G1 = true
  · rw [if_pos hq] at h1
    exact ⟨ty _ _ _ _ _ hG1 rv hq, tG.bind hσ1 hG1 h1 fun vs G2 H2 μ2 xs g2 hσ2 hG2 rs h2 => hf W σ H2 μ2 G2 v vs x xs Q hG2 (rv.gr g2) rs h2⟩
  · rw [if_neg hq] at h1
    exact h1.elim
theorem se_bm0 {name : Str} {T id : String} {r : V → List V → Hp → VK → Prop} {q : AV → Hs → Bool} {f : AV → List AV → Hs → R AV} (ty : TyM X.K T q) (hf : OpM X.K r f) (pa : PlainAttrs T) (slot : Slot T name id) (hty : typeOf (.builtin id) = pure (.type "method_descriptor")) (hm : MtR X id r) (ho : SE X W o mo)
    (hbase : attributeBase o name X.env (eval o X.env) = eval o X.env := by rfl) (hline : (apos.endLine == cpos.line) = true := by rfl) : SE X W (.Call (.Attribute o name apos) [] [] cpos) (mBm q f mo mNil) := by
  refine PE.imp (pe_bm0 pa slot hty hm ho hbase hline) fun σ H Q ⟨ρ, μ, G, hσ, hG, h⟩ => tG.bind hσ hG h fun v G1 H1 μ1 x g1 hσ1 hG1 rv h1 => ?_
  by_cases hq : q v G1 = true
  · rw [if_pos hq] at h1
    exact ⟨ty _ _ _ _ _ hG1 rv hq, hf W σ H1 μ1 G1 v [] x [] Q hG1 rv .nil h1⟩
  · rw [if_neg hq] at h1
    exact h1.elim
/-- a list that may be changed -/
theorem mut_ok {K : PySem.W.Frag} {H : Hp} {μ : Mu} {G : Hs} {n : Nat} {x : V} {xs : List AV} (hG : RH K H μ G) (r : RA K H μ (.ref n) x) (e : G[n]? = some (.lst xs)) : ∃ a vs, x = .ref a ∧ Num μ (n) a ∧ H a = some (.lst vs) ∧ RAs K H μ xs vs := by
  cases r with
  | ref h =>
    obtain ⟨vs, h1, h2⟩ := hG.at_ _ _ _ h e
    exact ⟨_, vs, rfl, h, h1, h2⟩
def fApp : AV → List AV → Hs → R AV
  | .ref n, [y], G => match G[n]? with
    | some (.lst xs) => if xs.length < szl then .ok .non (G.set n (.lst (xs ++ [y]))) else .stuck
    | _ => .stuck
  | _, _, _ => .stuck
theorem opM_app {K : PySem.W.Frag} : OpM K rAppend fApp := by
  intro W σ H μ G v vs x xs Q hG rv rs q
  match v, vs, rv, rs, q with
  | .ref n, [y], rv, rs, q =>
    simp only [fApp] at q
    cases e : G[n]? with
    | none => rw [e] at q; exact q.elim
    | some ob =>
      rw [e] at q
      cases ob with
      | lst zs =>
        simp only at q
        obtain ⟨a, ws, rfl, hn, hH, rz⟩ := mut_ok hG rv e
        obtain ⟨y', rfl, ry⟩ := rs.one
        by_cases hz : zs.length < szl
        · rw [if_pos hz] at q
          have gp : Gr H μ (upd H a (.lst (ws ++ [y']))) μ := Gr.put hG hn e
          exact ⟨a, ws, y', rfl, rfl, hH, by rw [← rz.length]; exact hz, q _ μ _ gp (hG.put (o := .lst (zs ++ [y])) hn e ⟨_, upd_same, (rz.app (.cons ry .nil)).gr gp⟩) .non⟩
        · rw [if_neg hz] at q
          exact q.elim
      | _ => exact q.elim
def fPopAt : AV → List AV → Hs → R AV
  | .ref n, [.int i], G => match G[n]? with
    | some (.lst xs) => if -(2 ^ 63) ≤ i ∧ i < 2 ^ 63 then match seqIndex? i xs.length with
      | some k => match xs[k]? with
        | some y => .ok y (G.set n (.lst (xs.eraseIdx k)))
        | none => .stuck
      | none => .stuck
      else .stuck
    | _ => .stuck
  | _, _, _ => .stuck
theorem opM_popAt {K : PySem.W.Frag} : OpM K rPopAt fPopAt := by
  intro W σ H μ G v vs x xs Q hG rv rs q
  match v, vs, rv, rs, q with
  | .ref n, [.int i], rv, rs, q =>
    obtain ⟨i', rfl, ri⟩ := rs.one
    cases ri
    simp only [fPopAt] at q
    cases e : G[n]? with
    | none => rw [e] at q; exact q.elim
    | some ob =>
      rw [e] at q
      cases ob with
      | lst zs =>
        simp only at q
        obtain ⟨a, ws, rfl, hn, hH, rz⟩ := mut_ok hG rv e
        by_cases hz : -(2 ^ 63) ≤ i ∧ i < 2 ^ 63
        · rw [if_pos hz] at q
          cases e1 : seqIndex? i zs.length with
          | none => rw [e1] at q; exact q.elim
          | some k =>
            rw [e1] at q
            simp only at q
            cases e2 : zs[k]? with
            | none => rw [e2] at q; exact q.elim
            | some y =>
              rw [e2] at q
              obtain ⟨y', hy, ry⟩ := rz.get' e2
              have gp : Gr H μ (upd H a (.lst (ws.eraseIdx k))) μ := Gr.put hG hn e
              exact ⟨a, ws, i, k, y', rfl, rfl, hH, hz.1, hz.2, by rw [← rz.length]; exact e1, hy, q _ μ _ gp (hG.put (o := .lst (zs.eraseIdx k)) hn e ⟨_, upd_same, (rz.erase k).gr gp⟩) (ry.gr gp)⟩
        · rw [if_neg hz] at q
          exact q.elim
      | _ => exact q.elim
end
end Vz
namespace Vz
open PySem L2
section
variable {K : PySem.W.Frag}
theorem op_lenA {X : Cx} : CallR X (.builtin "len") (rLenA X.K) := call_len.or call_lenD
theorem opN_len : OpN K (rLenA K) fLen := by
  intro W σ H μ G vs xs Q hG rs q
  match vs, rs, q with
  | [v], rs, q =>
    obtain ⟨y, rfl, r⟩ := rs.one
    cases r with
    | str s =>
      simp only [fLen] at q
      by_cases hz : s.length ≤ szl
      · rw [if_pos hz] at q
        exact .inl ⟨.str s, s.length, rfl, ⟨hz, rfl⟩, Po.now (v := AV.int s.length) q hG (.int _)⟩
      · rw [if_neg hz] at q
        exact q.elim
    | tup h rt =>
      refine .inl ⟨_, _, rfl, .inr ⟨_, SqT.of h, rfl⟩, ?_⟩
      rw [← rt.length]
      exact Po.now (v := AV.int _) q hG (.int _)
    | con h rt =>
      refine .inl ⟨_, _, rfl, .inr ⟨_, h.sq, rfl⟩, ?_⟩
      rw [← rt.length]
      exact Po.now (v := AV.int _) q hG (.int _)
    | lk h rt =>
      refine .inl ⟨_, _, rfl, .inl ⟨_, h.sq, rfl⟩, ?_⟩
      rw [← rt.length]
      exact Po.now (v := AV.int _) q hG (.int _)
    | ls h rt =>
      refine .inl ⟨_, _, rfl, .inl ⟨_, h.sq, rfl⟩, ?_⟩
      rw [← rt.length]
      exact Po.now (v := AV.int _) q hG (.int _)
    | ref h =>
      obtain ⟨ob, ho, ro⟩ := hG.obj h
      simp only [fLen, ho] at q
      cases ob with
      | lst zs =>
        obtain ⟨ws, h1, rt⟩ := ro
        refine .inl ⟨_, _, rfl, .inl ⟨_, SqL.of h1, rfl⟩, ?_⟩
        rw [← rt.length]
        exact Po.now (v := AV.int _) q hG (.int _)
      | dk zs =>
        obtain ⟨ws, h1, rf⟩ := ro
        refine .inr ⟨_, ws, rfl, h1, ?_⟩
        rw [← rf.length]
        exact Po.now (v := AV.int _) q hG (.int _)
      | _ => exact q.elim
    | id h hn en rt =>
      refine .inr ⟨_, _, rfl, h, ?_⟩
      rw [← List.length_map (f := (·.2)), ← rt.length]
      exact Po.now (v := AV.int _) q hG (.int _)
    | _ => exact q.elim
  | [], rs, q => exact q.elim
  | v :: _ :: _, rs, q => cases v <;> exact q.elim
def fMax2 : List AV → Hs → R AV
  | [.int i, .int j], G => .ok (.int (if j > i then j else i)) G
  | _, _ => .stuck
def fMin2 : List AV → Hs → R AV
  | [.int i, .int j], G => .ok (.int (if j < i then j else i)) G
  | _, _ => .stuck
theorem opN_max2 : OpN K (fun xs H Q => ∃ i j, xs = [.int i, .int j] ∧ Q (.int (if j > i then j else i)) H) fMax2 := by
  intro W σ H μ G vs xs Q hG rs q
  match vs, rs, q with
  | [.int i, .int j], rs, q =>
    obtain ⟨y, z, rfl, r1, r2⟩ := rs.two
    cases r1
    cases r2
    exact ⟨i, j, rfl, Po.now (v := AV.int _) q hG (.int _)⟩
theorem opN_min2 : OpN K (fun xs H Q => ∃ i j, xs = [.int i, .int j] ∧ Q (.int (if j < i then j else i)) H) fMin2 := by
  intro W σ H μ G vs xs Q hG rs q
  match vs, rs, q with
  | [.int i, .int j], rs, q =>
    obtain ⟨y, z, rfl, r1, r2⟩ := rs.two
    cases r1
    cases r2
    exact ⟨i, j, rfl, Po.now (v := AV.int _) q hG (.int _)⟩
def fInt : List AV → Hs → R AV
  | [.int i], G => .ok (.int i) G
  | [.bl k], G => .ok (.int (if k then 1 else 0)) G
  | _, _ => .stuck
theorem opN_int : OpN K (fun xs H Q => (∃ i, xs = [.int i] ∧ Q (.int i) H) ∨ ∃ k, xs = [.bl k] ∧ Q (.int (if k then 1 else 0)) H) fInt := by
  intro W σ H μ G vs xs Q hG rs q
  match vs, rs, q with
  | [.int i], rs, q =>
    obtain ⟨y, rfl, r⟩ := rs.one
    cases r
    exact .inl ⟨i, rfl, Po.now (v := AV.int _) q hG (.int _)⟩
  | [.bl k], rs, q =>
    obtain ⟨y, rfl, r⟩ := rs.one
    cases r
    exact .inr ⟨k, rfl, Po.now (v := AV.int _) q hG (.int _)⟩
/-- list(xs), tuple(xs) of lists and tuples -/
def fList : List AV → Hs → R AV
  | [v], G => match seqOf G v with
    | some xs => .ok (.ref G.length) (G ++ [.lst xs])
    | none => .stuck
  | _, _ => .stuck
theorem opN_list : OpN K (fun xs H Q => ∃ p ys, xs = [.ref p] ∧ (SqL K H p ys ∨ SqT K H p ys) ∧ ∀ l, H l = none → Q (.ref l) (upd H l (.lst ys))) fList := by
  intro W σ H μ G vs xs Q hG rs q
  match vs, rs, q with
  | [v], rs, q =>
    obtain ⟨y, rfl, r⟩ := rs.one
    simp only [fList] at q
    cases e : seqOf G v with
    | none => rw [e] at q; exact q.elim
    | some zs =>
      rw [e] at q
      obtain ⟨a, ws, rfl, hs, rt⟩ := seqOf_ok hG r e
      exact ⟨a, ws, rfl, hs, fun l hl => q _ _ _ (Gr.alloc hl) (hG.alloc hl ⟨_, upd_same, rt.gr (Gr.alloc hl)⟩) (.ref (hG.fresh l))⟩
def fTuple : List AV → Hs → R AV
  | [v], G => match tupOf v with
    | some _ => .ok v G
    | none => match lstOf G v with
      | some xs => .ok (.tup xs) G
      | none => .stuck
  | _, _ => .stuck
theorem opN_tuple : OpN K (fun xs H Q => ∃ p ys, xs = [.ref p] ∧ ((SqL K H p ys ∧ ∀ l, H l = none → Q (.ref l) (upd H l (.tup ys))) ∨ (SqT K H p ys ∧ Q (.ref p) H))) fTuple := by
  intro W σ H μ G vs xs Q hG rs q
  match vs, rs, q with
  | [v], rs, q =>
    obtain ⟨y, rfl, r⟩ := rs.one
    simp only [fTuple] at q
    cases e : tupOf v with
    | some zs =>
      rw [e] at q
      obtain ⟨a, ws, rfl, hs, rt⟩ := tupOf_ok r e
      exact ⟨a, ws, rfl, .inr ⟨hs, Po.now (v := v) q hG r⟩⟩
    | none =>
      rw [e] at q
      simp only at q
      cases e2 : lstOf G v with
      | none => rw [e2] at q; exact q.elim
      | some zs =>
        rw [e2] at q
        obtain ⟨a, ws, rfl, hs, rt⟩ := lstOf_ok hG r e2
        exact ⟨a, ws, rfl, .inl ⟨hs, fun l hl => q _ _ _ (Gr.new hl) (hG.new hl) (.tup upd_same (rt.gr (Gr.new hl)))⟩⟩
/-- all, any of a list of bools -/
def blsOf : List AV → Option (List Bool)
  | [] => some []
  | .bl b :: r => match blsOf r with
    | some l => some (b :: l)
    | none => none
  | _ => none
theorem blsOf_ok {H : Hp} {μ : Mu} : ∀ {xs : List AV} {vs : List V} {bs : List Bool}, RAs K H μ xs vs → blsOf xs = some bs → vs = bs.map V.bl
  | _, _, _, .nil, e => by cases e; rfl
  | _, _, bs, .cons (x := x) (xs := xs) r t, e => by
    cases r with
    | bl b =>
      simp only [blsOf] at e
      cases h : blsOf xs with
      | none => rw [h] at e; cases e
      | some l =>
        rw [h] at e
        cases e
        rw [List.map_cons, blsOf_ok t h]
    | _ => cases e
def fAll : List AV → Hs → R AV
  | [v], G => match lstOf G v with
    | some xs => match blsOf xs with
      | some bs => .ok (.bl (bs.all id)) G
      | none => .stuck
    | none => .stuck
  | _, _ => .stuck
theorem opN_all : OpN K (rAll K) fAll := by
  intro W σ H μ G vs xs Q hG rs q
  match vs, rs, q with
  | [v], rs, q =>
    obtain ⟨y, rfl, r⟩ := rs.one
    simp only [fAll] at q
    cases e : lstOf G v with
    | none => rw [e] at q; exact q.elim
    | some zs =>
      rw [e] at q
      simp only at q
      cases e2 : blsOf zs with
      | none => rw [e2] at q; exact q.elim
      | some bs =>
        rw [e2] at q
        obtain ⟨a, ws, rfl, hs, rt⟩ := lstOf_ok hG r e
        have ew := blsOf_ok rt e2
        subst ew
        exact ⟨a, bs, rfl, hs, Po.now (v := AV.bl _) q hG (.bl _)⟩
end
theorem xo_at {P : Program} {w : World} {H : Hp} {h : Heap} {e : Addr} {C : Value} {d : Option Addr} (hok : HOk P w H h) (he : H e = some (xo e C d)) : ∃ (oe : Obj) (vs : Array Value), h.get? e = some oe ∧ Zc C d oe ∧ oe.data = .fields vs := by
  have x : ObjOk P w H h e (.ext fun h => ∃ (oe : Obj) (vs : Array Value), h.get? e = some oe ∧ Zc C d oe ∧ oe.data = .fields vs) := hok e _ he
  exact x.1
def xcOk (c : Str) (K : PySem.W.Frag) : Bool := (PySem.W.clsIn K (ga K c)).isSome && (decide (PySem.W.findIn K (.ref (ga K c)) "__getattribute__" = some (some (.builtin "BaseException.__getattribute__"))) && (decide (PySem.W.findIn K (.ref (ga K c)) "__getattr__" = some none) &&
  (decide (PySem.W.subIn K (.ref (ga K c)) (.type "BaseException") = some true) && (decide (PySem.W.findIn K (.ref (ga K c)) "__class__" = some (some (.builtin "object.__class__"))) &&
  (decide (PySem.W.specialIn K (.builtin "object.__class__") "__get__" = some (some (.builtin "getset_descriptor.__get__"))) && (decide (PySem.W.takesIn K (.builtin "object.__class__") = some true) && (decide (PySem.W.mroIn K (ga K c) (.type "object") = some true) && PySem.W.hasDictIn K (ga K c))))))))
structure XcOk (c : Str) (K : PySem.W.Frag) : Prop where
  cl : (PySem.W.clsIn K (ga K c)).isSome = true
  hga : PySem.W.findIn K (.ref (ga K c)) "__getattribute__" = some (some (.builtin "BaseException.__getattribute__"))
  hgt : PySem.W.findIn K (.ref (ga K c)) "__getattr__" = some none
  hs : PySem.W.subIn K (.ref (ga K c)) (.type "BaseException") = some true
  ha : PySem.W.findIn K (.ref (ga K c)) "__class__" = some (some (.builtin "object.__class__"))
  hn : PySem.W.specialIn K (.builtin "object.__class__") "__get__" = some (some (.builtin "getset_descriptor.__get__"))
  ht : PySem.W.takesIn K (.builtin "object.__class__") = some true
  hm : PySem.W.mroIn K (ga K c) (.type "object") = some true
  hd : PySem.W.hasDictIn K (ga K c) = true
theorem xcOk_ok {c : Str} {K : PySem.W.Frag} (h : xcOk c K = true) : XcOk c K := by
  obtain ⟨h1, h⟩ := He.ba h
  obtain ⟨h2, h⟩ := He.ba h
  obtain ⟨h3, h⟩ := He.ba h
  obtain ⟨h4, h⟩ := He.ba h
  obtain ⟨h5, h⟩ := He.ba h
  obtain ⟨h6, h⟩ := He.ba h
  obtain ⟨h7, h⟩ := He.ba h
  obtain ⟨h8, h9⟩ := He.ba h
  exact ⟨h1, of_decide_eq_true h2, of_decide_eq_true h3, of_decide_eq_true h4, of_decide_eq_true h5, of_decide_eq_true h6, of_decide_eq_true h7, of_decide_eq_true h8, h9⟩
/-- isinstance(e, c), e a tracked exception -/
def rIsX (K : PySem.W.Frag) : List V → Hp → VK → Prop := fun xs H Q => ∃ (a : Addr) (n : Str) (d : Option Addr) (c : V) (u : Value) (b : Bool), xs = [.ref a, c] ∧ ClsV c u ∧ H a = some (xo a (.ref (ga K n)) d) ∧ (∀ dx, d = some dx → ∃ gs, H dx = some (.xd gs)) ∧ xcOk n K = true ∧
  PySem.W.kitOne K (.ref (ga K n)) u = some b ∧ Q (.bl b) H
def rIsA (K : PySem.W.Frag) : List V → Hp → VK → Prop := fun xs H Q => rIsi K xs H Q ∨ rIsX K xs H Q
theorem instAt_xo {X : Cx} {pins : List (Addr × Obj)} {σ : St} {H : Hp} {s : Shared} {a C : Addr} {d : Option Addr} (I : Inv X pins σ H s) (hx : H a = some (xo a (.ref C) d)) (hd : ∀ dx, d = some dx → ∃ gs, H dx = some (.xd gs)) :
    ∃ (oe : Obj) (od : Option Obj), PySem.W.InstAt s.heap a oe C od := by
  obtain ⟨oe, vs, ha, hz, hf⟩ := xo_at I.hok hx
  cases d with
  | none => exact ⟨oe, none, ha, hz.1, by unfold PySem.W.notCls; rw [hf] <;> rfl, by rw [hz.2]; trivial⟩
  | some dx =>
    obtain ⟨gs, hg⟩ := hd dx rfl
    have hx : ObjOk X.prog X.w H s.heap dx (.xd gs) := I.hok dx _ hg
    obtain ⟨mA, hns, hr⟩ := hx
    obtain ⟨od, ho, hl⟩ := lookIn_ns hns
    exact ⟨oe, some od, ha, hz.1, by unfold PySem.W.notCls; rw [hf] <;> rfl, by rw [hz.2]; exact ho⟩
theorem call_isX {X : Cx} : CallR X (.builtin "isinstance") (rIsX X.K) := by
  intro pins s σ H xs us Q I r h
  obtain ⟨a, n, d, c, u, b, rfl, k, hx, hd, hc, e, q⟩ := h
  obtain ⟨u1, u2, rfl, r1, r2⟩ := vals2 r
  have e2 := k.eq r2
  subst e2
  obtain rfl : u1 = Value.ref a := r1
  obtain ⟨oe, od, J⟩ := instAt_xo I hx hd
  have C := xcOk_ok hc
  exact PySem.W.kia_one (PySem.W.kitx_exc C.cl C.hga C.hgt C.hs C.ha C.hn C.ht C.hm) I.kIn J e (fun z => nomatch z) fun tk => ⟨.bl b, H, I.kept (t' := tk) fun _ _ z => z, rfl, q⟩
theorem call_isA {X : Cx} : CallR X (.builtin "isinstance") (rIsA X.K) := by
  intro pins s σ H xs us Q I r h
  rcases h with h | h
  · exact call_isi pins s σ H xs us Q I r h
  · exact call_isX pins s σ H xs us Q I r h
section
variable {X : Cx} {W : WX} {a b c e o i value : Expr} {es rest : List Expr} {m ma mb mc mo mi mv : ME} {t : MB} {ms mk : MEs} {pos pos' p q' apos cpos tpos : Pos} {x y : Str} {k N n : Nat} {f : Addr} {fd : FuncData} {ps ks : List Str} {F : List AV → Hs → R AV} {gA : List AV → List AV → List AV} {kws : List Keyword}
/-- the type of a value -/
inductive Ty where
  | b (n : String) | c (n : Str) | x (n : Str)
  deriving DecidableEq
def tyA (G : Hs) : AV → Option Ty
  | .non => some (.b "NoneType")
  | .bl _ => some (.b "bool")
  | .int _ => some (.b "int")
  | .str _ => some (.b "str")
  | .tup _ => some (.b "tuple")
  | .con _ => some (.b "tuple")
  | .lk _ => some (.b "list")
  | .ls _ => some (.b "list")
  | .iv c _ _ => some (.c c)
  | .id _ _ => some (.b "dict")
  | .it _ _ => some (.b "dict")
  | .xv c _ _ => some (.x c)
  | .fd _ _ => none
  | .ref n => match G[n]? with
    | some (.lst _) => some (.b "list")
    | some (.dk _) => some (.b "dict")
    | some (.dt _) => some (.b "dict")
    | some (.ins c _) => some (.c c)
    | _ => none
def Ty.v (K : PySem.W.Frag) : Ty → Value
  | .b n => .type n
  | .c n => .ref (ga K n)
  | .x n => .ref (ga K n)
def clsOk (c : Str) (K : PySem.W.Frag) : Bool := (He.Fa.cls c).ok K && (decide (PySem.W.findIn K (.ref (ga K c)) "__class__" = some (some (.builtin "object.__class__"))) &&
  (decide (PySem.W.specialIn K (.builtin "object.__class__") "__get__" = some (some (.builtin "getset_descriptor.__get__"))) && (decide (PySem.W.takesIn K (.builtin "object.__class__") = some true) && decide (PySem.W.mroIn K (ga K c) (.type "object") = some true))))
/-- the table of answers: of a type, whether it is one of T -/
def isTab (tab : List (Ty × Bool)) (t : Value) (K : PySem.W.Frag) : Bool := tab.all fun q => decide (PySem.W.kitOne K (q.1.v K) t = some q.2) && match q.1 with
  | .b _ => true
  | .c n => clsOk n K
  | .x n => xcOk n K
def fIsi (tab : List (Ty × Bool)) (v : AV) (G : Hs) : R AV := match tyA G v with
  | some t => match tab.lookup t with
    | some b => .ok (.bl b) G
    | none => .stuck
  | none => .stuck
theorem lookup_mem' {α β : Type} [BEq α] [LawfulBEq α] {k : α} {v : β} : ∀ {l : List (α × β)}, l.lookup k = some v → (k, v) ∈ l
  | [], h => by cases h
  | (a, b) :: r, h => by
    rw [List.lookup_cons] at h
    cases e : (k == a) with
    | true =>
      rw [e] at h
      cases h
      rw [eq_of_beq e]
      exact List.mem_cons_self ..
    | false =>
      rw [e] at h
      exact List.mem_cons_of_mem _ (lookup_mem' h)
theorem isi_ok {K : PySem.W.Frag} {H : Hp} {μ : Mu} {G : Hs} {v : AV} {x c : V} {u : Value} {Q : VK} {tab : List (Ty × Bool)} (W : WX) (σ : St) (hG : RH K H μ G) (r : RA K H μ v x) (hT : isTab tab u K = true) (hc : ClsV c u) (q : Po K (rA K) W σ H μ (fIsi tab v G) Q) : rIsA K [x, c] H Q := by
  unfold fIsi at q
  cases e : tyA G v with
  | none => rw [e] at q; exact q.elim
  | some ty =>
    rw [e] at q
    simp only at q
    cases e2 : tab.lookup ty with
    | none => rw [e2] at q; exact q.elim
    | some b =>
      rw [e2] at q
      have hm := List.all_eq_true.mp hT _ (lookup_mem' e2)
      obtain ⟨h1, h2⟩ := He.ba hm
      have q' := Po.now (v := AV.bl b) q hG (.bl b)
      have ini : TyX K H x (ty.v K) → rIsA K [x, c] H Q := fun z => .inl ⟨x, c, ty.v K, u, b, rfl, hc, z, of_decide_eq_true h1, q'⟩
      cases r with
      | xv0 h3 _ => cases e; exact .inr ⟨_, _, none, c, u, b, rfl, hc, h3, (fun _ z => by cases z), h2, of_decide_eq_true h1, q'⟩
      | xv h3 _ h4 _ _ _ => cases e; exact .inr ⟨_, _, some _, c, u, b, rfl, hc, h3, (fun _ z => by cases z; exact ⟨_, h4⟩), h2, of_decide_eq_true h1, q'⟩
      | fd _ _ _ => cases e
      | non => cases e; exact ini (.base .non)
      | bl b => cases e; exact ini (.base (.bl b))
      | int b => cases e; exact ini (.base (.int b))
      | str b => cases e; exact ini (.base (.str b))
      | tup h rt => cases e; exact ini (.base (.tup h))
      | con h rt =>
        cases e
        obtain ⟨o, its, n, h3, h4, _⟩ := h
        exact ini (.kTuple h3 h4)
      | lk h rt =>
        cases e
        rcases h with ⟨o, h⟩ | ⟨o, its, n, h3, h4, _⟩
        · exact ini (.base (.frz h))
        · exact ini (.kList h3 h4)
      | ls h rt => cases e; exact ini (.base (.lst h.1))
      | iv h3 _ _ _ =>
        cases e
        have h2 : clsOk _ K = true := h2
        obtain ⟨k1, k2⟩ := He.ba h2
        obtain ⟨k2, k3⟩ := He.ba k2
        obtain ⟨k3, k4⟩ := He.ba k3
        obtain ⟨k4, k5⟩ := He.ba k4
        exact ini (.base (.ins h3 (He.cls_ok k1) (of_decide_eq_true k2) (of_decide_eq_true k3) (of_decide_eq_true k4) (of_decide_eq_true k5)))
      | id h3 _ _ _ => cases e; exact ini (.base (.dK h3))
      | it h3 _ _ _ => cases e; exact ini (.base (.dT h3))
      | ref h =>
        obtain ⟨ob, ho, ro⟩ := hG.obj h
        simp only [tyA, ho] at e
        cases ob with
        | lst zs => cases e; obtain ⟨ws, h3, _⟩ := ro; exact ini (.base (.lst h3))
        | dk zs => cases e; obtain ⟨ws, h3, _⟩ := ro; exact ini (.base (.dK h3))
        | dt zs => cases e; obtain ⟨ws, h3, _⟩ := ro; exact ini (.base (.dT h3))
        | ins cn zs =>
          cases e
          obtain ⟨dx, gs, h3, _⟩ := ro
          have h2 : clsOk cn K = true := h2
          obtain ⟨k1, k2⟩ := He.ba h2
          obtain ⟨k2, k3⟩ := He.ba k2
          obtain ⟨k3, k4⟩ := He.ba k3
          obtain ⟨k4, k5⟩ := He.ba k4
          exact ini (.base (.ins h3 (He.cls_ok k1) (of_decide_eq_true k2) (of_decide_eq_true k3) (of_decide_eq_true k4) (of_decide_eq_true k5)))
        | xd zs => cases e
        | gone => cases e
theorem se_isi {cv : V} {u : Value} {tab : List (Ty × Bool)} (hT : isTab tab u X.K = true) (hc : ClsV cv u) (hg : Gl X "isinstance") (hm : X.mg "isinstance" = none) (ha : SE X W a m) (hb : PE X b (tC cv))
    (he : starEach [a, b] X.env = (false, eval a X.env) :: starEach [b] X.env := by rfl) (hs2 : starEach [b] X.env = (false, eval b X.env) :: starEach [] X.env := by rfl) (hpl : (backTo pos (starEach [b] X.env)).any (·.1) = false := by rfl) :
    SE X W (.Call (.Name "isinstance" p) [a, b] [] pos) (m1 (fIsi tab) m) := by
  refine PE.imp (pe_callB call_isA hg hm PyProof.Rows.boot_isinstance (pa_cons ha (pa_cons hb pa_nil hs2) he) (by decide) (by decide) he hpl) fun σ H Q ⟨ρ, μ, G, hσ, hG, h⟩ => tG.bind hσ hG h fun v G1 H1 μ1 x g1 hσ1 hG1 r h1 => ?_
  exact isi_ok W σ hG1 r hT hc h1
theorem pe_ty {n : String} (hg : Gl X x) (hm : X.mg x = none) (hv : bootBuiltins x = some (.type n)) (hn : x ≠ "__name__" := by decide) (hd : (x == ("__debug__" : Str)) = false := by decide) : PE X (.Name x pos) (tC (.ty n)) := pe_bltn hg hm hv rfl hn hd
def putFA (f : Str) (v : AV) : List (Str × AV) → List (Str × AV)
  | [] => [(f, v)]
  | (g, u) :: r => if g = f then (g, v) :: r else (g, u) :: putFA f v r
theorem putF_ok {K : PySem.W.Frag} {H : Hp} {μ : Mu} {f : Str} {v : AV} {x : V} (r : RA K H μ v x) : ∀ {fs : List (Str × AV)} {gs : List (Str × V)}, RF K H μ fs gs → RF K H μ (putFA f v fs) (putF f x gs)
  | [], gs, h => by
    cases gs with
    | nil => exact .cons r .nil'
    | cons g gs => cases h.1
  | (g, u) :: fs, gs, h => by
    obtain ⟨z, gs', rfl, r', t⟩ := h.cons_inv
    show RF K H μ (if g = f then (g, v) :: fs else (g, u) :: putFA f v fs) (if g = f then (g, x) :: gs' else (g, z) :: putF f x gs')
    by_cases e : g = f
    · rw [if_pos e, if_pos e]
      exact .cons r t
    · rw [if_neg e, if_neg e]
      exact .cons r' (putF_ok r t)
def fSt (cs : List Str) (f : Str) (v u : AV) (G : Hs) : R Unit := match v with
  | .ref n => match G[n]? with
    | some (.ins c fs) => if c ∈ cs ∧ fs.length < 1000 then .ok () (G.set n (.ins c (putFA f u fs))) else .stuck
    | _ => .stuck
  | _ => .stuck
def mFst (cs : List Str) (f : Str) (mo mv : ME) : MS := fun ρ G => (mv ρ G).toS ρ fun u G1 => (mo ρ G1).toS ρ fun v G2 => (fSt cs f v u G2).toS ρ fun _ G3 => .nx ρ G3
theorem ss_fld {f : Str} (cs : List Str) (hc : (cs.all fun c => attrOk f c X.K) = true) (ho : SE X W o mo) (hv : SE X W value mv) (hs : swapsWith value (some (.Attribute o f pos')) pos.line X.env = pure false) : SS X W (.Assign [.Attribute o f pos'] value pos) (mFst cs f mo mv) := by
  refine PS.imp (ps_fld ho hv hs) fun D σ H ⟨ρ, μ, G, hσ, hG, h⟩ => tG.toS hσ hG h fun u G1 H1 μ1 x1 g1 hσ1 hG1 ru h1 => tG.toS hσ1 hG1 h1 fun v G2 H2 μ2 x2 g2 hσ2 hG2 rv h2 => ?_
  cases rv with
  | ref hn =>
    obtain ⟨ob, hob, ro⟩ := hG2.obj hn
    simp only [fSt, hob] at h2
    cases ob with
    | ins c fs =>
      simp only at h2
      by_cases hz : c ∈ cs ∧ fs.length < 1000
      · rw [if_pos hz] at h2
        obtain ⟨dx, gs, h3, rf⟩ := ro
        obtain ⟨k1, k2⟩ := attrOk_ok (List.all_eq_true.mp hc c hz.1)
        have gp : Gr H2 μ2 (upd H2 _ (.ins (ga X.K c) dx (putF f x1 gs))) μ2 := Gr.put hG2 hn hob
        exact ⟨_, _, dx, gs, rfl, h3, k1, k2, by rw [← rf.length]; exact hz.2, h2 _ μ2 σ gp (hG2.put (o := .ins c (putFA f u fs)) hn hob ⟨dx, _, upd_same, (putF_ok (ru.gr g2) rf).gr gp⟩) (hσ2.gr gp)⟩
      · rw [if_neg hz] at h2
        exact h2.elim
    | _ => exact h2.elim
  | _ => exact h2.elim
end
end Vz
namespace Vz
open PySem L2
section
variable {X : Cx} {W : WX} {a b c e o : Expr} {es rest : List Expr} {m ma mb mc mo : ME} {ms mk : MEs} {pos p apos cpos : Pos} {x : Str}
/-- x stands for v in the text's own names -/
def conI (x : Str) (i : Int) (K : PySem.W.Frag) : Bool := (He.Fa.int x i).ok K
def conS (x z : Str) (K : PySem.W.Frag) : Bool := (He.Fa.str x z).ok K
theorem se_glI {i : Int} (hg : Gl X x) (hm : ∃ t, X.mg x = some (.int i t)) (hd : (x == ("__debug__" : Str)) = false := by decide) : SE X W (.Name x pos) (mC (.int i)) :=
  let ⟨t, h⟩ := hm
  se_c (pe_glob (v := .int i) hg h ⟨t, rfl⟩ hd) fun _ _ => .int i
theorem se_glS {i : Str} (hg : Gl X x) (hm : ∃ t, X.mg x = some (.str i t)) (hd : (x == ("__debug__" : Str)) = false := by decide) : SE X W (.Name x pos) (mC (.str i)) :=
  let ⟨t, h⟩ := hm
  se_c (pe_glob (v := .str i) hg h ⟨t, rfl⟩ hd) fun _ _ => .str i
/-- a flat value -/
def fl : AV → Option V
  | .non => some .non
  | .bl b => some (.bl b)
  | .int i => some (.int i)
  | .str s => some (.str s)
  | _ => none
theorem fl_ok {K : PySem.W.Frag} {H : Hp} {μ : Mu} {v : AV} {y : V} (e : fl v = some y) : RA K H μ v y := by
  cases v with
  | non => cases e; exact .non
  | bl b => cases e; exact .bl b
  | int b => cases e; exact .int b
  | str b => cases e; exact .str b
  | _ => cases e
def dvOf : AV → He.Dv
  | .bl b => .bl b
  | .int i => .int i
  | .str s => .str s
  | _ => .non
def flB (v : AV) : Bool := (fl v).isSome
end
inductive Arg where
  | p (i : Nat) | k (j : Nat) | d (j : Nat)
def gP {α : Type} (ds : List α) (π : List Arg) (us ws : List α) : List α := π.filterMap fun q => match q with
  | .p i => us[i]?
  | .k j => ws[j]?
  | .d j => ds[j]?
theorem Vals.get? : ∀ {vs : List V} {us : List Value} (r : Vals vs us) (i : Nat), (vs[i]? = none ∧ us[i]? = none) ∨ ∃ v u, vs[i]? = some v ∧ us[i]? = some u ∧ RelV v u
  | _, _, .nil, i => .inl ⟨rfl, rfl⟩
  | _, _, .cons r t, 0 => .inr ⟨_, _, rfl, rfl, r⟩
  | _, _, .cons r t, i + 1 => by
    rw [List.getElem?_cons_succ, List.getElem?_cons_succ]
    exact Vals.get? t i
theorem RAs.get? {K : PySem.W.Frag} {H : Hp} {μ : Mu} : ∀ {vs : List AV} {us : List V} (r : RAs K H μ vs us) (i : Nat), (vs[i]? = none ∧ us[i]? = none) ∨ ∃ v u, vs[i]? = some v ∧ us[i]? = some u ∧ RA K H μ v u
  | _, _, .nil, i => .inl ⟨rfl, rfl⟩
  | _, _, .cons r t, 0 => .inr ⟨_, _, rfl, rfl, r⟩
  | _, _, .cons r t, i + 1 => by
    rw [List.getElem?_cons_succ, List.getElem?_cons_succ]
    exact RAs.get? t i
theorem gP_vals {ds : List V} {es : List Value} {vs : List V} {us : List Value} {zs : List V} {ws : List Value} (rd : Vals ds es) (r : Vals vs us) (rz : Vals zs ws) : ∀ π : List Arg, Vals (gP ds π vs zs) (gP es π us ws)
  | [] => .nil
  | q :: π => by
    have ih := gP_vals rd r rz π
    unfold gP at ih ⊢
    have h : ∃ o1 o2, (match q with | .p i => vs[i]? | .k j => zs[j]? | .d j => ds[j]?) = o1 ∧ (match q with | .p i => us[i]? | .k j => ws[j]? | .d j => es[j]?) = o2 ∧ ((o1 = none ∧ o2 = none) ∨ ∃ v u, o1 = some v ∧ o2 = some u ∧ RelV v u) := by
      cases q with
      | p i => exact ⟨_, _, rfl, rfl, Vals.get? r i⟩
      | k i => exact ⟨_, _, rfl, rfl, Vals.get? rz i⟩
      | d i => exact ⟨_, _, rfl, rfl, Vals.get? rd i⟩
    obtain ⟨o1, o2, e1, e2, h⟩ := h
    rw [List.filterMap_cons, List.filterMap_cons, e1, e2]
    rcases h with ⟨rfl, rfl⟩ | ⟨v, u, rfl, rfl, h⟩
    · exact ih
    · exact .cons h ih
theorem gP_ras {K : PySem.W.Frag} {H : Hp} {μ : Mu} {ds : List AV} {es : List V} {vs : List AV} {us : List V} {zs : List AV} {ws : List V} (rd : RAs K H μ ds es) (r : RAs K H μ vs us) (rz : RAs K H μ zs ws) : ∀ π : List Arg, RAs K H μ (gP ds π vs zs) (gP es π us ws)
  | [] => .nil
  | q :: π => by
    have ih := gP_ras rd r rz π
    unfold gP at ih ⊢
    have h : ∃ o1 o2, (match q with | .p i => vs[i]? | .k j => zs[j]? | .d j => ds[j]?) = o1 ∧ (match q with | .p i => us[i]? | .k j => ws[j]? | .d j => es[j]?) = o2 ∧ ((o1 = none ∧ o2 = none) ∨ ∃ v u, o1 = some v ∧ o2 = some u ∧ RA K H μ v u) := by
      cases q with
      | p i => exact ⟨_, _, rfl, rfl, RAs.get? r i⟩
      | k i => exact ⟨_, _, rfl, rfl, RAs.get? rz i⟩
      | d i => exact ⟨_, _, rfl, rfl, RAs.get? rd i⟩
    obtain ⟨o1, o2, e1, e2, h⟩ := h
    rw [List.filterMap_cons, List.filterMap_cons, e1, e2]
    rcases h with ⟨rfl, rfl⟩ | ⟨v, u, rfl, rfl, h⟩
    · exact ih
    · exact .cons h ih
section
variable {K : PySem.W.Frag} {x qual : Str} {params : Arguments} {body : List Stmt} {scope : Scope} {dvs : List V} {kws : List (Str × V)} {f : Addr} {fd : FuncData} {ps : List Str}
theorem sh_n (F : FunD K x qual params body scope [] kws f fd) (n : Nat) (ks : List Str) (π : List Arg)
    (h : ∀ (kV doc pm : Value) (an : Option Addr) (cdv ct : Value) (us ws : List Value), us.length = n → ws.length = ks.length → bindArgs (PySem.W.fnOf x qual params body scope .none kV doc pm an cdv ct) ⟨us, ks.zip ws⟩ = pure (ps.zip (gP [] π us ws))) :
    Sh K fd ps n ks (gP [] π) := by
  obtain ⟨oc, od, dV, kV, doc, pm, an, cdv, ct, osl, rfl, lk, hcd, hD, hK⟩ := F.ex
  rcases hD with ⟨_, rfl⟩ | ⟨e, _⟩
  · exact ⟨gP [] π, gP [] π, ⟨fun s us ws _ l1 l2 => .of_eq (h kV doc pm an cdv ct us ws l1 l2), fun r rz => gP_vals .nil r rz π⟩, fun H μ xs vs zs ws r rz => gP_ras .nil r rz π⟩
  · exact absurd rfl e
end
abbrev Shp := Nat × List Str × (List AV → List AV → List AV)
structure Fk (P : Program) (w : World) (K : PySem.W.Frag) (mg : Str → Option Value) (base : Heap) (k : Nat) (x : Str) (ps : List Str) (F : List AV → Hs → R AV) (shs : List Shp) : Prop where
  at_ : mg x = some (.ref (ga K x))
  kp : PySem.W.keepIn K (.ref (ga K x)) = true
  ex : ∃ fd, FnG P w K mg base (CX P w) k (ga K x) fd ps (fsp K ps.length F) ∧ ∀ s ∈ shs, Sh K fd ps s.1 s.2.1 s.2.2
section
variable {X : Cx} {W : WX} {a b c e o : Expr} {es rest : List Expr} {m ma mb mc mo : ME} {ms mk : MEs} {pos p apos cpos : Pos} {x : Str} {kws : List Keyword} {ps : List Str} {F : List AV → Hs → R AV} {shs : List Shp} {k n : Nat} {ks : List Str} {gA : List AV → List AV → List AV}
theorem se_fk (D : Fk X.prog X.w X.K X.mg X.base k x ps F shs) (i : Nat) (hr : Rm k X.A) (tk : Takes X W) (hg : Gl X x) (ha : SA X W (e :: es) ms) (hi : shs[i]? = some (n, [], gA) := by rfl)
    (hdb : (x == ("__debug__" : Str)) = false := by decide) (he : starEach (e :: es) X.env = (false, eval e X.env) :: starEach es X.env := by rfl) (hpl : (backTo pos (starEach es X.env)).any (·.1) = false := by rfl) :
    SE X W (.Call (.Name x p) (e :: es) [] pos) (mCall ps.length n 0 gA F ms mNil) :=
  let ⟨_, h, hs⟩ := D.ex
  se_call h hr (hs _ (List.mem_of_getElem? hi)) tk hg D.at_ D.kp ha hdb he hpl
theorem se_fkk (D : Fk X.prog X.w X.K X.mg X.base k x ps F shs) (i : Nat) (hr : Rm k X.A) (tk : Takes X W) (hg : Gl X x) (ha : SA X W (e :: es) ms) (hkw : SK X W kws mk) (hi : shs[i]? = some (n, ks, gA) := by rfl)
    (hall : (backToKw pos (keywordEach kws X.env)).all (·.1.isSome) = true := by rfl) (hks : (backToKw pos (keywordEach kws X.env)).filterMap (·.1) = ks := by rfl)
    (hdb : (x == ("__debug__" : Str)) = false := by decide) (he : starEach (e :: es) X.env = (false, eval e X.env) :: starEach es X.env := by rfl)
    (hpl : ((backTo pos (starEach (e :: es) X.env)).any (·.1) || (backToKw pos (keywordEach kws X.env)).any (·.1.isNone)) = false := by rfl) :
    SE X W (.Call (.Name x p) (e :: es) kws pos) (mCall ps.length n ks.length gA F ms mk) :=
  let ⟨_, h, hs⟩ := D.ex
  se_callk h hr (hs _ (List.mem_of_getElem? hi)) tk hg D.at_ D.kp ha hkw hall hks hdb he hpl
end
end Vz
namespace Vz
open PySem L2
abbrev Fx : Type := PySem.W.Frag → Bool
def lookX (fx : List Fx) (fn : List He.DefD) (K : PySem.W.Frag) : He.AlD := (fx.all (fun f => f K) && fn.all (fun d => d.ok K), fn.map fun d => He.fnW K d.at_)
structure Told (fx : List Fx) (fn : List He.DefD) (K : PySem.W.Frag) : Prop where
  eq : lookX fx fn K = He.valD fn
section
variable {fx : List Fx} {fn : List He.DefD} {K : PySem.W.Frag}
theorem Told.f_ (t : Told fx fn K) (i : Nat) {f : Fx} (q : fx[i]? = some f := by rfl) : f K = true :=
  List.all_eq_true.mp (He.ba (congrArg Prod.fst t.eq)).1 f (List.mem_of_getElem? q)
theorem Told.d_ (t : Told fx fn K) (i : Nat) {d : He.DefD} (q : fn[i]? = some d := by rfl) : ∃ fd, FunD K d.name d.qual d.params d.body d.scope (d.dvs K) (d.kws K) (He.fAd K d.at_) fd := by
  have k1 := List.all_eq_true.mp (He.ba (congrArg Prod.fst t.eq)).2 d (List.mem_of_getElem? q)
  have k2 := congrArg (fun l : List He.FnW => l[i]?) (congrArg Prod.snd t.eq)
  simp only [lookX, He.valD, List.getElem?_map, q, Option.map_some, Option.some.injEq] at k2
  exact He.DefD.funD k2 k1
end
/-- the module's names stand as the text's own part has them -/
def Mg (K : PySem.W.Frag) (mg : Str → Option Value) : Prop := ∃ hp : Heap, K.In hp ∧ hp.Ns mainGlobals mg
def glo (x : Str) : Fx := fun K => (He.Fa.glo x).ok K
def free (x : Str) : Fx := fun K => (He.Fa.free x).ok K
section
variable {K : PySem.W.Frag} {mg : Str → Option Value} {x : Str}
theorem Mg.glo (m : Mg K mg) (q : glo x K = true) : mg x = some (.ref (ga K x)) := let ⟨_, i, g⟩ := m; He.glo_ok i g q
theorem Mg.free (m : Mg K mg) (q : free x K = true) : mg x = none := let ⟨_, i, g⟩ := m; He.free_ok i g q
theorem Mg.int (m : Mg K mg) {z : Int} (q : conI x z K = true) : ∃ t, mg x = some (.int z t) := let ⟨_, i, g⟩ := m; He.int_ok i g q
theorem Mg.str (m : Mg K mg) {z : Str} (q : conS x z K = true) : ∃ t, mg x = some (.str z t) := let ⟨_, i, g⟩ := m; He.str_ok i g q
end
theorem cx_none {P : Program} {w : World} {H : Hp} {s : Shared} {e : Value} {s' : Shared} : CX P w [] H s (fun _ _ _ => False) e s' → False := fun ⟨_, _, _, _, _, _, _, _, _, _, _, _, z⟩ => z
def scriptAV (ns : List Int) : AV := .lk (ns.map AV.int)
theorem ints_ra {K : PySem.W.Frag} {H : Hp} {μ : Mu} : ∀ ns : List Int, RAs K H μ (ns.map AV.int) (ns.map V.int)
  | [] => .nil
  | n :: ns => .cons (.int n) (ints_ra ns)
theorem begins {K : PySem.W.Frag} {H : Hp} (ho : Only H) : RH K H [] [] := by
  exact ⟨rfl, fun n m a e => by simp at e, fun n a o e => (by simp at e), fun n e => by simp at e⟩
theorem walkX {l : PySem.W.OpenLaw} {n k : Nat} {q : Program} {loose : List Str} {XP : (Str → Option Value) → Heap → Prop} {YP : World → Heap → Prop} {d : DefRec} {x : Str}
    (hn : l.most = some n) (hz : n ≤ sizeLine) (hd : d.params.defaults = []) (room : Rm k callerA)
    (F : ∀ (w : World) (mg : Str → Option Value) (fa : Addr) (hp : Heap), YP w hp → hp.Ns mainGlobals mg → mg d.name = some (.ref fa) →
      ∃ (K : PySem.W.Frag) (fd : FuncData) (b : List AV → Hs → R AV), K.In hp ∧ (∀ (s : Shared) (u : Value), BindsTo s fd ⟨[u], []⟩ [(x, u)]) ∧
        (∀ ns : List Int, ns.length ≤ n → ∃ G, b [scriptAV ns] [] = .ok (.bl true) G) ∧
        ∀ base : Heap, K.In base → base.Ns mainGlobals mg → FnG l.prog w K mg base (CX l.prog w) k fa fd [x] (fsp K 1 b)) :
    PySem.W.WalkO q loose XP YP l.row.toRowW d [] (fun f vs => PySem.call f vs) := by
  refine Att.attach_call hn hd fun w s0 s1 mg mb fa o pm cd doc a vs ns G Y ho hdt hcr hmg hob hin hlen hge => ?_
  obtain ⟨K, fd, b, KX, hb, hp, hF⟩ := F w mg fa _ Y G.T.g hmg
  refine lawG_call KX G.T.g G.T.b G.T.builtins G.T.nolimit hge hob hin (Nat.le_trans hlen hz) room hF hb (fun H hO hS => ?_) fun H e s' => cx_none
  obtain ⟨G', e⟩ := hp ns hlen
  have hk : KLst K H a (ns.map V.int) := by
    rcases hS with (h | h) | h
    · rcases hO a with z | ⟨o, xs, z⟩
      · rw [z] at h; cases h
      · rw [z] at h; cases h
    · obtain ⟨o, h⟩ := h
      exact .inl ⟨o, h⟩
    · exact .inr h
  refine ⟨rfl, [scriptAV ns], [], [], .cons (.lk hk (ints_ra ns)) .nil, begins hO, ?_⟩
  rw [e]
  intro H' μ' v g hG r
  cases r
  rfl
end Vz
namespace Vz
open PySem L2
def AllSh (K : PySem.W.Frag) (fd : FuncData) (ps : List Str) : List Shp → Prop
  | [] => True
  | s :: r => Sh K fd ps s.1 s.2.1 s.2.2 ∧ AllSh K fd ps r
theorem shs_all {K : PySem.W.Frag} {fd : FuncData} {ps : List Str} : ∀ {l : List Shp}, AllSh K fd ps l → ∀ s ∈ l, Sh K fd ps s.1 s.2.1 s.2.2
  | [], _, _, h => nomatch h
  | a :: r, ⟨h1, h2⟩, s, h => by
    rcases List.mem_cons.mp h with e | h
    · rw [e]; exact h1
    · exact shs_all h2 s h
def blkB (N : List Str) (sc scope : Scope) (own : List (Str × Nat)) : Bool :=
  decide (scope.kind = .function) && (scope.names.all (fun y => decide (scope.names.lookup y.1 = some y.2)) && (own.all (fun p => decide (N[p.2]? = some p.1)) &&
    (scope.names.all (fun y => decide (y.2 ≠ .free) || (decide (sc.names.lookup y.1 = some .cell) || decide (sc.names.lookup y.1 = some .free))) &&
      scope.names.all fun y => (decide (y.2 ≠ .local) && decide (y.2 ≠ .cell)) || (decide (y.1 ∈ own.map (·.1)) || decide (y.1 ∉ N)))))
theorem blk_of {N : List Str} {sc scope : Scope} {own : List (Str × Nat)} (h : blkB N sc scope own = true) : BlkOk N sc scope own := by
  unfold blkB at h
  obtain ⟨h1, h⟩ := He.ba h
  obtain ⟨h2, h⟩ := He.ba h
  obtain ⟨h3, h⟩ := He.ba h
  obtain ⟨h4, h5⟩ := He.ba h
  refine ⟨of_decide_eq_true h1, fun y hy => of_decide_eq_true (List.all_eq_true.mp h2 y hy), fun p hp => of_decide_eq_true (List.all_eq_true.mp h3 p hp), fun y hy e => ?_, fun y hy e => ?_⟩
  · have := List.all_eq_true.mp h4 y hy
    simp only [Bool.or_eq_true, decide_eq_true_eq] at this
    rcases this with h | h
    · exact absurd e h
    · exact h
  · have := List.all_eq_true.mp h5 y hy
    simp only [Bool.or_eq_true, Bool.and_eq_true, decide_eq_true_eq] at this
    rcases this with ⟨ha, hb⟩ | h
    · rcases e with e | e
      · exact absurd e ha
      · exact absurd e hb
    · exact h
end Vz
namespace Vz
open PySem
theorem bo_len : bootBuiltins "len" = some (.builtin "len") := by decide +kernel
theorem bo_all : bootBuiltins "all" = some (.builtin "all") := by decide +kernel
theorem bo_max : bootBuiltins "max" = some (.builtin "max") := by decide +kernel
theorem bo_min : bootBuiltins "min" = some (.builtin "min") := by decide +kernel
theorem bo_int : bootBuiltins "int" = some (.type "int") := by decide +kernel
theorem bo_list : bootBuiltins "list" = some (.type "list") := by decide +kernel
theorem bo_tuple : bootBuiltins "tuple" = some (.type "tuple") := by decide +kernel
theorem bo_dict : bootBuiltins "dict" = some (.type "dict") := by decide +kernel
end Vz
namespace Vz
open PySem L2
abbrev XQ := Str → XP → Hs → Prop
abbrev noX : XQ := fun _ _ _ => False
def R.wp {α : Type} (r : R α) (Q : α → Hs → Prop) (E : XQ) : Prop := match r with
  | .ok v G => Q v G
  | .exc c d G => E c d G
  | .stuck => False
structure SP where
  nx : En → Hs → Prop
  rt : AV → Hs → Prop
  bk : En → Hs → Prop
  ct : En → Hs → Prop
  ex : XQ
def SR.wp (r : SR) (D : SP) : Prop := match r with
  | .nx ρ G => D.nx ρ G
  | .rt v G => D.rt v G
  | .bk ρ G => D.bk ρ G
  | .ct ρ G => D.ct ρ G
  | .exc c d _ G => D.ex c d G
  | .stuck => False
section
variable {α β : Type} {Q Q' : α → Hs → Prop} {P : β → Hs → Prop} {E E' : XQ} {D : SP} {ρ : En} {G : Hs}
@[simp] theorem wp_ok (v : α) : (R.ok v G).wp Q E = Q v G := rfl
@[simp] theorem wp_exc (c : Str) (d : XP) : (R.exc c d G : R α).wp Q E = E c d G := rfl
@[simp] theorem wp_bind (r : R α) (k : α → Hs → R β) : (r.bind k).wp P E = r.wp (fun v G => (k v G).wp P E) E := by cases r <;> rfl
@[simp] theorem wp_toS (r : R α) (k : α → Hs → SR) : (r.toS ρ k).wp D = r.wp (fun v G => (k v G).wp D) D.ex := by cases r <;> rfl
theorem R.wp.mono {r : R α} (h : r.wp Q E) (hq : ∀ v G, Q v G → Q' v G) (he : ∀ c d G, E c d G → E' c d G) : r.wp Q' E' := by
  cases r with
  | ok v G => exact hq v G h
  | exc c d G => exact he c d G h
  | stuck => exact h
theorem R.wp.to {r : R α} (h : r.wp Q noX) (hq : ∀ v G, Q v G → Q' v G) : r.wp Q' E' := h.mono hq fun _ _ _ => False.elim
theorem R.wp.ex {r : R α} (h : r.wp Q noX) : ∃ v G, r = .ok v G ∧ Q v G := by
  cases r with
  | ok v G => exact ⟨v, G, rfl, h⟩
  | exc c d G => exact h.elim
  | stuck => exact h.elim
theorem wp_ite {c : Prop} [Decidable c] (a b : R α) : (if c then a else b).wp Q E = if c then a.wp Q E else b.wp Q E := by split <;> rfl
theorem swp_ite {c : Prop} [Decidable c] (a b : SR) : (if c then a else b).wp D = if c then a.wp D else b.wp D := by split <;> rfl
@[simp] theorem wp_guard {c : Prop} [Decidable c] (a : R α) : (if c then a else .stuck).wp Q E = (c ∧ a.wp Q E) := by
  by_cases h : c
  · rw [if_pos h]
    exact propext ⟨fun x => ⟨h, x⟩, fun x => x.2⟩
  · rw [if_neg h]
    exact propext ⟨fun x => x.elim, fun x => h x.1⟩
structure SP.le (D D' : SP) : Prop where
  nx : ∀ ρ G, D.nx ρ G → D'.nx ρ G
  rt : ∀ v G, D.rt v G → D'.rt v G
  bk : ∀ ρ G, D.bk ρ G → D'.bk ρ G
  ct : ∀ ρ G, D.ct ρ G → D'.ct ρ G
  ex : ∀ c d G, D.ex c d G → D'.ex c d G
theorem SR.wp.mono {r : SR} {D D' : SP} (h : r.wp D) (l : D.le D') : r.wp D' := by
  cases r with
  | nx ρ G => exact l.nx _ _ h
  | rt ρ G => exact l.rt _ _ h
  | bk ρ G => exact l.bk _ _ h
  | ct ρ G => exact l.ct _ _ h
  | exc c d ρ G => exact l.ex _ _ _ h
  | stuck => exact h
@[simp] theorem wp_seq (s1 s2 : MS) : (mSeq s1 s2 ρ G).wp D = (s1 ρ G).wp { D with nx := fun ρ G => (s2 ρ G).wp D } := by
  unfold mSeq
  cases s1 ρ G <;> rfl
@[simp] theorem wp_nx : (mNx ρ G).wp D = D.nx ρ G := rfl
@[simp] theorem wp_brk : (mBk ρ G).wp D = D.bk ρ G := rfl
@[simp] theorem wp_cont : (mCt ρ G).wp D = D.ct ρ G := rfl
@[simp] theorem wp_drop (m : ME) : (mDrop m ρ G).wp D = (m ρ G).wp (fun _ G => D.nx ρ G) D.ex := wp_toS _ _
@[simp] theorem wp_ret (m : ME) : (mRet m ρ G).wp D = (m ρ G).wp (fun v G => D.rt v G) D.ex := wp_toS _ _
@[simp] theorem wp_retN : (mRetN ρ G).wp D = D.rt .non G := rfl
@[simp] theorem wp_if (t : MB) (s1 s2 : MS) : (mIf t s1 s2 ρ G).wp D = (t ρ G).wp (fun k G => if k = true then (s1 ρ G).wp D else (s2 ρ G).wp D) D.ex := by
  unfold mIf
  rw [wp_toS]
  congr 1
  funext k G
  exact swp_ite _ _
@[simp] theorem wp_asg (m : ME) (i : Nat) : (mAsg m (gNm i) ρ G).wp D = (m ρ G).wp (fun v G => D.nx (ρ.set i (some v)) G) D.ex := wp_toS _ _
def MG.wp (r : R En) (D : SP) : Prop := match r with
  | .ok ρ G => D.nx ρ G
  | _ => False
@[simp] theorem wp_asgT (m : ME) (g : MG) : (mAsg m g ρ G).wp D = (m ρ G).wp (fun v G => MG.wp (g v ρ G) D) D.ex := by
  unfold mAsg
  rw [wp_toS]
  congr 1
  funext v G
  cases g v ρ G <;> rfl
@[simp] theorem wp_par (i j : Nat) (ms : MEs) : (mPar i j ms ρ G).wp D = (ms ρ G).wp (fun vs G => match vs with
  | [v, w] => D.nx ((ρ.set i (some v)).set j (some w)) G
  | _ => False) D.ex := by
  unfold mPar
  rw [wp_toS]
  congr 1
  funext vs G
  match vs with
  | [] => rfl
  | [_] => rfl
  | [_, _] => rfl
  | _ :: _ :: _ :: _ => rfl
@[simp] theorem wp_dput (mo mi mv : ME) : (mDput mo mi mv ρ G).wp D = (mv ρ G).wp (fun u G => (mo ρ G).wp (fun v G => (mi ρ G).wp (fun w G => (fDp v w u G).wp (fun _ G => D.nx ρ G) D.ex) D.ex) D.ex) D.ex := by
  unfold mDput
  simp only [wp_toS]
  rfl
@[simp] theorem wp_mFn {QV : AV → Hs → Prop} (n : Nat) (b : MS) (xs : List AV) : (mFn n b xs G).wp QV E = (b (startA n xs) G).wp ⟨fun _ G => QV .non G, QV, fun _ _ => False, fun _ _ => False, E⟩ := by
  unfold mFn
  cases b (startA n xs) G <;> rfl
section
variable {QV : AV → Hs → Prop} {QVs : List AV → Hs → Prop} {QB : Bool → Hs → Prop}
@[simp] theorem wp_var (i : Nat) : (mVar i ρ G).wp QV E = (match ρ[i]? with
  | some (some v) => QV v G
  | _ => False) := by
  unfold mVar
  cases ρ[i]? with
  | none => rfl
  | some o => cases o <;> rfl
@[simp] theorem wp_c (v : AV) : (mC v ρ G).wp QV E = QV v G := rfl
@[simp] theorem wp_m2 (f : AV → AV → Hs → R AV) (ma mb : ME) : (m2 f ma mb ρ G).wp QV E = (ma ρ G).wp (fun v G => (mb ρ G).wp (fun w G => (f v w G).wp QV E) E) E := by
  unfold m2
  simp only [wp_bind]
@[simp] theorem wp_m1 (f : AV → Hs → R AV) (ma : ME) : (m1 f ma ρ G).wp QV E = (ma ρ G).wp (fun v G => (f v G).wp QV E) E := by
  unfold m1
  simp only [wp_bind]
theorem wp_asB (r : R AV) : (asB r).wp QB E = r.wp (fun v G => match v with
  | .bl b => QB b G
  | _ => False) E := by
  cases r with
  | ok v G => cases v <;> rfl
  | _ => rfl
@[simp] theorem wp_test (m : ME) : (mTest m ρ G).wp QB E = (m ρ G).wp (fun v G => match v with
  | .bl b => QB b G
  | _ => False) E := wp_asB _
@[simp] theorem wp_tru (m : ME) : (mTru m ρ G).wp QB E = (m ρ G).wp (fun v G => match truB G v with
  | some b => QB b G
  | none => False) E := by
  unfold mTru asT
  cases m ρ G with
  | ok v G => simp only [R.wp]; cases truB G v <;> rfl
  | _ => rfl
@[simp] theorem wp_and (ta tb : MB) : (mAnd ta tb ρ G).wp QB E = (ta ρ G).wp (fun k G => if k = true then (tb ρ G).wp QB E else QB false G) E := by
  unfold mAnd
  rw [wp_bind]
  congr 1
  funext k G
  exact wp_ite _ _
@[simp] theorem wp_or (ta tb : MB) : (mOr ta tb ρ G).wp QB E = (ta ρ G).wp (fun k G => if k = true then QB true G else (tb ρ G).wp QB E) E := by
  unfold mOr
  rw [wp_bind]
  congr 1
  funext k G
  exact wp_ite _ _
@[simp] theorem wp_not (ta : MB) : (mNot ta ρ G).wp QB E = (ta ρ G).wp (fun k G => QB (!k) G) E := by
  unfold mNot
  rw [wp_bind]
  rfl
@[simp] theorem wp_andV (ma mb : ME) : (mAndV ma mb ρ G).wp QV E = (ma ρ G).wp (fun v G => match v with
  | .bl k => if k = true then (mb ρ G).wp QV E else QV (.bl false) G
  | _ => False) E := by
  unfold mAndV
  rw [wp_bind, wp_asB]
  congr 1
  funext v G
  cases v <;> first | rfl | exact wp_ite _ _
@[simp] theorem wp_orV (ma mb : ME) : (mOrV ma mb ρ G).wp QV E = (ma ρ G).wp (fun v G => match v with
  | .bl k => if k = true then QV (.bl true) G else (mb ρ G).wp QV E
  | _ => False) E := by
  unfold mOrV
  rw [wp_bind, wp_asB]
  congr 1
  funext v G
  cases v <;> first | rfl | exact wp_ite _ _
@[simp] theorem wp_notV (ma : ME) : (mNotV ma ρ G).wp QV E = (ma ρ G).wp (fun v G => match v with
  | .bl k => QV (.bl (!k)) G
  | _ => False) E := by
  unfold mNotV
  rw [wp_bind, wp_asB]
  rfl
theorem wp_iteE (tc : MB) (ma mb : ME) : (mIte tc ma mb ρ G).wp QV E = (tc ρ G).wp (fun k G => if k = true then (ma ρ G).wp QV E else (mb ρ G).wp QV E) E := by
  unfold mIte
  rw [wp_bind]
  congr 1
  funext k G
  exact wp_ite _ _
@[simp] theorem wp_chain (f g : AV → AV → Hs → R AV) (ma mb mc : ME) : (mChain f g ma mb mc ρ G).wp QV E = (ma ρ G).wp (fun v G => (mb ρ G).wp (fun w G => (f v w G).wp (fun z G => match z with
  | .bl k => if k = true then (mc ρ G).wp (fun u G => (g w u G).wp QV E) E else QV (.bl false) G
  | _ => False) E) E) E := by
  unfold mChain
  simp only [wp_bind, wp_asB]
  congr 1
  funext v G
  congr 1
  funext w G
  congr 1
  funext z G
  cases z <;> first | rfl | (simp only [wp_ite, wp_bind, wp_ok])
@[simp] theorem wp_nil : (mNil ρ G).wp QVs E = QVs [] G := rfl
@[simp] theorem wp_cons (m : ME) (ms : MEs) : (mCons m ms ρ G).wp QVs E = (m ρ G).wp (fun v G => (ms ρ G).wp (fun vs G => QVs (v :: vs) G) E) E := by
  unfold mCons
  simp only [wp_bind, wp_ok]
@[simp] theorem wp_tup (ms : MEs) : (mTup ms ρ G).wp QV E = (ms ρ G).wp (fun vs G => vs.length ≤ szl ∧ QV (.tup vs) G) E := by
  unfold mTup
  rw [wp_bind]
  congr 1
  funext vs G
  exact wp_guard _
@[simp] theorem wp_lst (ms : MEs) : (mLst ms ρ G).wp QV E = (ms ρ G).wp (fun vs G => vs.length ≤ szl ∧ QV (.ref G.length) (G ++ [.lst vs])) E := by
  unfold mLst
  rw [wp_bind]
  congr 1
  funext vs G
  exact wp_guard _
@[simp] theorem wp_blt (f : List AV → Hs → R AV) (ms : MEs) : (mBlt f ms ρ G).wp QV E = (ms ρ G).wp (fun vs G => (f vs G).wp QV E) E := wp_bind _ _
@[simp] theorem wp_bm (q : AV → Hs → Bool) (f : AV → List AV → Hs → R AV) (mo : ME) (ms : MEs) : (mBm q f mo ms ρ G).wp QV E = (mo ρ G).wp (fun v G => q v G = true ∧ (ms ρ G).wp (fun vs G => (f v vs G).wp QV E) E) E := by
  unfold mBm
  rw [wp_bind]
  congr 1
  funext v G
  rw [wp_guard, wp_bind]
@[simp] theorem wp_call (N n m : Nat) (gA : List AV → List AV → List AV) (F : List AV → Hs → R AV) (ms mk : MEs) : (mCall N n m gA F ms mk ρ G).wp QV E =
    (ms ρ G).wp (fun xs G => (mk ρ G).wp (fun ys G => (xs.length = n ∧ ys.length = m ∧ (gA xs ys).length = N) ∧ (F (gA xs ys) G).wp QV E) E) E := by
  unfold mCall
  simp only [wp_bind]
  congr 1
  funext xs G
  congr 1
  funext ys G
  exact wp_guard _
@[simp] theorem wp_sl (ma : ME) (ml mh : MO) : (mSl ma ml mh ρ G).wp QV E = (ma ρ G).wp (fun v G => (ml ρ G).wp (fun lo G => (mh ρ G).wp (fun hi G => (fSl v lo hi G).wp QV E) E) E) E := by
  unfold mSl
  simp only [wp_bind]
@[simp] theorem wp_oN {QO : Option Int → Hs → Prop} : (mNone ρ G).wp QO E = QO none G := rfl
@[simp] theorem wp_oS {QO : Option Int → Hs → Prop} (m : ME) : (mSome m ρ G).wp QO E = (m ρ G).wp (fun v G => match v with
  | .int i => QO (some i) G
  | _ => False) E := by
  unfold mSome
  rw [wp_bind]
  congr 1
  funext v G
  cases v <;> rfl
end
end
end Vz
namespace Vz
open PySem L2
theorem ofS_inj (a b : String) : (Str.ofString a = Str.ofString b) = (a = b) := by
  refine propext ⟨fun h => ?_, fun h => by rw [h]⟩
  rw [Str.ofString_eq_toList, Str.ofString_eq_toList] at h
  injection h with h
  have h2 : a.toList.map Char.toNat = b.toList.map Char.toNat := by
    have := congrArg Array.toList h
    exact this
  have h3 : a.toList = b.toList := by
    refine List.map_inj_right (f := Char.toNat) (fun x y e => ?_) |>.mp h2
    exact Char.ext (UInt32.toNat_inj.mp e)
  exact String.toList_inj.mp h3
/-- the objects from b on stand as they stood -/
structure Kp (b : Nat) (G G' : Hs) : Prop where
  le : G.length ≤ G'.length
  at_ : ∀ n, b ≤ n → n < G.length → G'[n]? = G[n]?
theorem Kp.refl (b : Nat) (G : Hs) : Kp b G G := ⟨Nat.le_refl _, fun _ _ _ => rfl⟩
theorem Kp.trans {b : Nat} {G G1 G2 : Hs} (h : Kp b G G1) (k : Kp b G1 G2) : Kp b G G2 :=
  ⟨Nat.le_trans h.le k.le, fun n hb hn => (k.at_ n hb (Nat.lt_of_lt_of_le hn h.le)).trans (h.at_ n hb hn)⟩
theorem Kp.mono {b c : Nat} {G G1 : Hs} (h : Kp b G G1) (l : b ≤ c) : Kp c G G1 := ⟨h.le, fun n hb hn => h.at_ n (Nat.le_trans l hb) hn⟩
theorem Kp.app (b : Nat) (G G1 : Hs) : Kp b G (G ++ G1) := ⟨by simp, fun n _ hn => List.getElem?_append_left hn⟩
theorem Kp.set (G : Hs) {n b : Nat} (o : AO) (h : n < b) : Kp b G (G.set n o) := ⟨by simp, fun m hb hn => List.getElem?_set_ne (by omega)⟩
theorem Kp.get {b : Nat} {G G1 : Hs} (h : Kp b G G1) {n : Nat} {o : AO} (hb : b ≤ n) (e : G[n]? = some o) : G1[n]? = some o :=
  (h.at_ n hb (List.getElem?_eq_some_iff.mp e).1).trans e
def zAV (xs : List Int) : List AV := xs.map AV.int
theorem zAV_get (xs : List Int) (i : Nat) : (zAV xs)[i]? = xs[i]?.map AV.int := List.getElem?_map
theorem zAV_len (xs : List Int) : (zAV xs).length = xs.length := List.length_map ..
def drK (gl cl : Nat) (rest turn seed : Int) : List (Key × AV) :=
  [(.inr "great", .ref gl), (.inr "rest", .int rest), (.inr "turn", .int turn), (.inr "seed", .int seed), (.inr "cells", .ref cl)]
structure DrS (b t s : Nat) (G : Hs) (gl cl : Nat) (gs cells : List Int) (rest turn seed : Int) : Prop where
  sb : s < b
  glb : gl < b
  clb : cl < b
  sg : s ≠ gl
  sc : s ≠ cl
  gc : gl ≠ cl
  bl : b ≤ G.length
  at_s : G[s]? = some (.dk (drK gl cl rest turn seed))
  at_g : G[gl]? = some (.lst (zAV gs))
  at_c : G[cl]? = some (.lst (zAV cells))
  g0 : ∀ g ∈ gs, 0 ≤ g
  ne : cells ≠ []
  cb : ∀ c ∈ cells, 0 ≤ c ∧ c < 2147483629
  r0 : 0 ≤ rest
  t0 : 0 ≤ turn
  tt : turn ≤ t
  s0 : 0 ≤ seed
  s1 : seed < 2147483647
def Dr (b t s : Nat) (G : Hs) : Prop := ∃ gl cl gs cells rest turn seed, DrS b t s G gl cl gs cells rest turn seed
theorem DrS.kp {b t s : Nat} {G G' : Hs} {gl cl : Nat} {gs cells : List Int} {rest turn seed : Int} (h : DrS b t s G gl cl gs cells rest turn seed) (k : G.length ≤ G'.length) (e : ∀ n, n < b → G'[n]? = G[n]?) : DrS b t s G' gl cl gs cells rest turn seed :=
  ⟨h.sb, h.glb, h.clb, h.sg, h.sc, h.gc, Nat.le_trans h.bl k, (e _ h.sb).trans h.at_s, (e _ h.glb).trans h.at_g, (e _ h.clb).trans h.at_c, h.g0, h.ne, h.cb, h.r0, h.t0, h.tt, h.s0, h.s1⟩
theorem Dr.kp {b t s : Nat} {G G' : Hs} (h : Dr b t s G) (k : Kp 0 G G') : Dr b t s G' := by
  obtain ⟨gl, cl, gs, cells, rest, turn, seed, h⟩ := h
  exact ⟨gl, cl, gs, cells, rest, turn, seed, h.kp k.le fun n hn => k.at_ n (Nat.zero_le _) (Nat.lt_of_lt_of_le hn h.bl)⟩
theorem Dr.mono {b t t' s : Nat} {G : Hs} (h : Dr b t s G) (l : t ≤ t') : Dr b t' s G := by
  obtain ⟨gl, cl, gs, cells, rest, turn, seed, h⟩ := h
  exact ⟨gl, cl, gs, cells, rest, turn, seed, { h with tt := by have := h.tt; omega }⟩
theorem Dr.bl {b t s : Nat} {G : Hs} (h : Dr b t s G) : b ≤ G.length := let ⟨_, _, _, _, _, _, _, h⟩ := h; DrS.bl h
theorem log2_le {n k : Nat} (h : n < 2 ^ k) : n.log2 ≤ k := by
  by_cases h0 : n = 0
  · subst h0; simp
  · exact Nat.le_of_lt ((Nat.log2_lt h0).mpr h)
section
variable {gl cl : Nat} {rest turn seed v : Int}
theorem drK_great : getA (drK gl cl rest turn seed) (.inr "great") = some (.ref gl) := by simp [drK, getA, ofS_inj]
theorem drK_rest : getA (drK gl cl rest turn seed) (.inr "rest") = some (.int rest) := by simp [drK, getA, ofS_inj]
theorem drK_turn : getA (drK gl cl rest turn seed) (.inr "turn") = some (.int turn) := by simp [drK, getA, ofS_inj]
theorem drK_seed : getA (drK gl cl rest turn seed) (.inr "seed") = some (.int seed) := by simp [drK, getA, ofS_inj]
theorem drK_cells : getA (drK gl cl rest turn seed) (.inr "cells") = some (.ref cl) := by simp [drK, getA, ofS_inj]
theorem drK_prest : putA (drK gl cl rest turn seed) (.inr "rest") (.int v) = drK gl cl v turn seed := by simp [drK, putA, ofS_inj]
theorem drK_pturn : putA (drK gl cl rest turn seed) (.inr "turn") (.int v) = drK gl cl rest v seed := by simp [drK, putA, ofS_inj]
theorem drK_pseed : putA (drK gl cl rest turn seed) (.inr "seed") (.int v) = drK gl cl rest turn v := by simp [drK, putA, ofS_inj]
theorem drK_len : (drK gl cl rest turn seed).length < szl := by
  show 5 < szl
  decide
end
end Vz
namespace Vz
open PySem L2
theorem allS_map {α β : Type} {f : α → Option β} {g : α → β} : ∀ {xs : List α}, (∀ x ∈ xs, f x = some (g x)) → allS (xs.map f) = some (xs.map g)
  | [], _ => rfl
  | x :: xs, h => by
    rw [List.map_cons, List.map_cons, h x (List.mem_cons_self ..)]
    simp only [allS]
    rw [allS_map fun y hy => h y (List.mem_cons_of_mem _ hy)]
theorem datZ {n : Nat} {G : Hs} {gs : List Int} : allS ((zAV gs).map (dat (n + 1) G)) = some (gs.map PyData.int) := by
  unfold zAV
  rw [List.map_map]
  exact allS_map fun x _ => rfl
theorem canLayZ : ∀ gs : List Int, PyData.canLayAll0 (gs.map PyData.int) = true
  | [] => rfl
  | g :: gs => by
    rw [List.map_cons, PyData.canLayAll0, canLayZ gs]
    rfl
theorem depthZ : ∀ gs : List Int, PyData.depthAll (gs.map PyData.int) ≤ 1
  | [] => by simp [PyData.depthAll]
  | g :: gs => by
    have := depthZ gs
    rw [List.map_cons, PyData.depthAll]
    have h : PyData.depth (.int g) ≤ 1 := by simp [PyData.depth]
    omega
theorem shapedZ (gs : List Int) : SeqAt.shaped (.list (gs.map PyData.int)) = true := by
  unfold SeqAt.shaped
  have h1 := canLayZ gs
  have h2 := depthZ gs
  rw [PyData.canLay0, h1, PyData.depth]
  simp
  omega
theorem dat_lst {G : Hs} {n k : Nat} {xs : List AV} {ds : List PyData} (h : G[n]? = some (.lst xs)) (e : allS (xs.map (dat k G)) = some ds) : dat (k + 1) G (.ref n) = some (.list ds) := by
  show (match G[n]? with
    | some (.lst xs) => (match allS (xs.map (dat k G)) with
      | some ds => some (.list ds)
      | none => none)
    | _ => none : Option PyData) = _
  rw [h]
  show (match allS (xs.map (dat k G)) with
      | some ds => some (.list ds)
      | none => none : Option PyData) = _
  rw [e]
theorem ne_nil {G : Hs} {n m : Nat} {gs : List Int} (h : G[n]? = some (.lst (zAV gs))) (h' : G[m]? = some (.lst [])) : fNe (.ref n) (.ref m) G = .ok (.bl (!gs.isEmpty)) G := by
  have e1 : dat 12 G (.ref n) = some (.list (gs.map PyData.int)) := dat_lst h datZ
  have e2 : dat 12 G (.ref m) = some (.list (([] : List Int).map PyData.int)) := dat_lst h' rfl
  have e3 : PyData.eqv (.list (gs.map PyData.int)) (.list (([] : List Int).map PyData.int)) = gs.isEmpty := by
    cases gs <;> rfl
  have e4 : eqB G (.ref n) (.ref m) = some gs.isEmpty := by
    show eqF G (.ref n) (.ref m) = _
    unfold eqF
    rw [e1, e2]
    show (if _ then some _ else none) = _
    rw [if_pos ⟨shapedZ _, shapedZ _⟩, e3]
  unfold fNe
  rw [e4]
end Vz
namespace Vz
open PySem L2
section
variable {QV : AV → Hs → Prop} {E : XQ} {G : Hs} {i j : Int}
theorem wp_addI : (fAdd (.int i) (.int j) G).wp QV E = QV (.int (i + j)) G := rfl
theorem wp_mulI : (fMul (.int i) (.int j) G).wp QV E = (i.natAbs.log2 + j.natAbs.log2 < 1000000 ∧ QV (.int (i * j)) G) := wp_guard _
theorem wp_I2 {f : Int → Int → Option Int} {c : Prop} [Decidable c] {k : Int} (h : f i j = if c then some k else none) : (fI2 f (.int i) (.int j) G).wp QV E = (c ∧ QV (.int k) G) := by
  show (match f i j with
    | some k => R.ok (.int k) G
    | none => .stuck : R AV).wp QV E = _
  rw [h]
  by_cases hc : c
  · rw [if_pos hc]
    exact propext ⟨fun x => ⟨hc, x⟩, fun x => x.2⟩
  · rw [if_neg hc]
    exact propext ⟨fun x => x.elim, fun x => hc x.1⟩
theorem wp_modI : (fMod (.int i) (.int j) G).wp QV E = (0 < j ∧ QV (.int (i % j)) G) := wp_I2 rfl
theorem wp_divI : (fDiv (.int i) (.int j) G).wp QV E = ((0 < j ∧ j.natAbs.log2 < 9000) ∧ QV (.int (i / j)) G) := wp_I2 rfl
theorem wp_powI : (fPow (.int i) (.int j) G).wp QV E = ((0 ≤ j ∧ j ≤ 1000000 ∧ i.natAbs < 2 ^ 64) ∧ QV (.int (i ^ j.toNat)) G) := wp_I2 rfl
theorem log2_b {i : Int} {k : Nat} (h : i.natAbs < 2 ^ k) : i.natAbs.log2 ≤ k := log2_le h
theorem mul_room {i j : Int} (h : i.natAbs < 2 ^ 250) (h' : j.natAbs < 2 ^ 250) : i.natAbs.log2 + j.natAbs.log2 < 1000000 := by
  have := log2_b h
  have := log2_b h'
  omega
theorem atI_in {α : Type} {xs : List α} {i : Int} (h0 : 0 ≤ i) (h1 : i < xs.length) : atI xs i = xs[i.toNat]? := by
  have e : ixN xs.length i = some i.toNat := by
    unfold ixN
    rw [if_pos h0, if_pos (by omega)]
  unfold atI
  rw [e]
  rfl
/-- an item of a list -/
theorem wp_ixL {n : Nat} {xs : List AV} {w : AV} (h : G[n]? = some (.lst xs)) (h0 : 0 ≤ i) (h1 : i < xs.length) (e : xs[i.toNat]? = some w) : (fIx (.ref n) (.int i) G).wp QV E = QV w G := by
  have e1 : seqOf G (.ref n) = some xs := by
    unfold seqOf
    simp only [tupOf, lstOf, h]
  simp only [fIx, e1, atI_in h0 h1, e, wp_ok]
end
end Vz
namespace Vz
open PySem L2
def b_take3 : MS := (mSeq (mAsg (m2 fDg (mVar 0) (mC (.str "turn"))) (gNm 3))
  (mSeq (mDput (mVar 0) (mC (.str "turn")) (m2 fAdd (mVar 3) (mC (.int 1))))
  (mSeq (mAsg (m2 fIx (m2 fDg (mVar 0) (mC (.str "cells"))) (m2 fMod (mVar 3) (mBlt fLen (mCons (m2 fDg (mVar 0) (mC (.str "cells"))) mNil)))) (gNm 4))
  (mSeq (mAsg (m2 fMod (m2 fAdd (m2 fAdd (m2 fMul (m2 fDg (mVar 0) (mC (.str "seed"))) (mC (.int 48271))) (m2 fMul (mVar 4) (m2 fAdd (m2 fMul (mC (.int 2)) (mVar 3)) (mC (.int 3))))) (m2 fPow (mVar 3) (mC (.int 3)))) (mC (.int 2147483647))) (gNm 5))
  (mSeq (mDput (mVar 0) (mC (.str "seed")) (mVar 5))
  (mSeq (mAsg (m2 fAdd (m2 fMul (m2 fMod (m2 fPow (mVar 5) (mC (.int 2))) (mC (.int 2147483629))) (mC (.int 2147483587))) (m2 fMod (m2 fPow (mVar 5) (mC (.int 3))) (mC (.int 2147483579)))) (gNm 6))
  (mRet (m2 fMod (m2 fDiv (mVar 6) (mC (.int 7))) (mVar 1)))))))))
def b_take2 : MS := (mSeq (mIf (mTest (m2 fGt (m2 fDg (mVar 0) (mC (.str "rest"))) (mC (.int 0)))) (mSeq (mAsg (m2 fMod (m2 fDg (mVar 0) (mC (.str "rest"))) (mVar 1)) (gNm 2))
  (mSeq (mDput (mVar 0) (mC (.str "rest")) (m2 fDiv (m2 fDg (mVar 0) (mC (.str "rest"))) (mVar 1)))
  (mRet (mVar 2)))) mNx) b_take3)
def b_take : MS := (mSeq (mIf (mAnd (mTest (m2 fEq (m2 fDg (mVar 0) (mC (.str "rest"))) (mC (.int 0)))) (mTest (m2 fNe (m2 fDg (mVar 0) (mC (.str "great"))) (mLst mNil)))) (mDput (mVar 0) (mC (.str "rest")) (mBm isL fPopAt (m2 fDg (mVar 0) (mC (.str "great"))) (mCons (mC (.int 0)) mNil))) mNx) b_take2)
def f_take : List AV → Hs → R AV := mFn 7 b_take
section
variable {b t s : Nat} {G : Hs} {QV : AV → Hs → Prop} {E : XQ}
theorem wp_dgS {k : Str} {n : Nat} {kvs : List (Key × AV)} {u : AV} (h : G[n]? = some (.dk kvs)) (e : getA kvs (.inr k) = some u) : (fDg (.ref n) (.str k) G).wp QV E = QV u G := by
  simp only [fDg, dkR, h, kOf, e, wp_ok]
theorem wp_dpS {k : Str} {n : Nat} {kvs kvs' : List (Key × AV)} {u : AV} {QU : Unit → Hs → Prop} (h : G[n]? = some (.dk kvs)) (hl : kvs.length < szl) (e : putA kvs (.inr k) u = kvs') : (fDp (.ref n) (.str k) u G).wp QU E = QU () (G.set n (.dk kvs')) := by
  simp only [fDp, dkOf, h, kOf, e, hl, if_true, wp_ok]
theorem mod_b {a m : Int} (hm : 0 < m) : 0 ≤ a % m ∧ a % m < m := ⟨Int.emod_nonneg _ (by omega), Int.emod_lt_of_pos _ hm⟩
/-- the state with another rest, turn or seed -/
theorem DrS.put {gl cl : Nat} {gs cells : List Int} {rest turn seed rest' turn' seed' : Int} {t' : Nat} (h : DrS b t s G gl cl gs cells rest turn seed) (hr : 0 ≤ rest') (h0 : 0 ≤ turn') (h1 : turn' ≤ t') (h2 : 0 ≤ seed') (h3 : seed' < 2147483647) :
    DrS b t' s (G.set s (.dk (drK gl cl rest' turn' seed'))) gl cl gs cells rest' turn' seed' :=
  have hs : s < G.length := Nat.lt_of_lt_of_le h.sb h.bl
  ⟨h.sb, h.glb, h.clb, h.sg, h.sc, h.gc, by rw [List.length_set]; exact h.bl, by rw [List.getElem?_set_self hs], by rw [List.getElem?_set_ne h.sg]; exact h.at_g, by rw [List.getElem?_set_ne h.sc]; exact h.at_c, h.g0, h.ne, h.cb, hr, h0, h1, h2, h3⟩
theorem DrS.gset {gl cl : Nat} {gs gs' cells : List Int} {rest turn seed : Int} (h : DrS b t s G gl cl gs cells rest turn seed) (hg : ∀ g ∈ gs', 0 ≤ g) : DrS b t s (G.set gl (.lst (zAV gs'))) gl cl gs' cells rest turn seed :=
  have hs : gl < G.length := Nat.lt_of_lt_of_le h.glb h.bl
  ⟨h.sb, h.glb, h.clb, h.sg, h.sc, h.gc, by rw [List.length_set]; exact h.bl, by rw [List.getElem?_set_ne fun e => h.sg e.symm]; exact h.at_s, by rw [List.getElem?_set_self hs], by rw [List.getElem?_set_ne h.gc]; exact h.at_c, hg, h.ne, h.cb, h.r0, h.t0, h.tt, h.s0, h.s1⟩
theorem DrS.app {gl cl : Nat} {gs cells : List Int} {rest turn seed : Int} (h : DrS b t s G gl cl gs cells rest turn seed) (o : List AO) : DrS b t s (G ++ o) gl cl gs cells rest turn seed :=
  h.kp (by simp) fun n hn => List.getElem?_append_left (Nat.lt_of_lt_of_le hn h.bl)
/-- the rest of it: no great number is left -/
theorem take_ok3 {m : Int} {gl cl : Nat} {gs cells : List Int} {rest turn seed : Int} {D : SP} {G0 : Hs} (h : DrS b t s G gl cl gs cells rest turn seed) (hm : 0 < m) (hm2 : m < 2 ^ 64) (ht : t < 2 ^ 60) (k0 : Kp b G0 G)
    (hD : ∀ (r : Int) G', 0 ≤ r → r < m → Dr b (t + 1) s G' → Kp b G0 G' → D.rt (.int r) G') :
    (b_take3 [some (.ref s), some (.int m), none, none, none, none, none] G).wp D := by
  have hs : s < G.length := Nat.lt_of_lt_of_le h.sb h.bl
  have hc : cl < G.length := Nat.lt_of_lt_of_le h.clb h.bl
  have t0 := h.t0; have tt := h.tt; have s0 := h.s0; have s1 := h.s1
  unfold b_take3
  rw [wp_seq, wp_asg]
  simp only [wp_m2, wp_var, wp_c, List.getElem?_cons_zero, List.getElem?_cons_succ, wp_dgS h.at_s drK_turn, List.set_cons_zero, List.set_cons_succ]
  rw [wp_seq, wp_dput]
  simp only [wp_m2, wp_var, wp_c, List.getElem?_cons_zero, List.getElem?_cons_succ, fAdd, wp_ok, wp_dpS h.at_s drK_len drK_pturn]
  have h2 := h.put (t' := t + 1) h.r0 (turn' := turn + 1) (by omega) (by omega) h.s0 h.s1
  have k2 : Kp b G0 (G.set s (.dk (drK gl cl rest (turn + 1) seed))) := k0.trans (Kp.set _ _ h.sb)
  generalize G.set s (.dk (drK gl cl rest (turn + 1) seed)) = G2 at h2 k2 ⊢
  rw [wp_seq, wp_asg]
  simp only [wp_m2, wp_var, wp_c, List.getElem?_cons_zero, List.getElem?_cons_succ, wp_dgS h2.at_s drK_cells, List.set_cons_zero, List.set_cons_succ, wp_blt, wp_cons, wp_nil, fLen, h2.at_c, wp_ok]
  have hlen : 0 < (zAV cells).length := by
    unfold zAV
    rw [List.length_map]
    exact List.length_pos_iff.mpr h.ne
  have hm4 := @mod_b turn (zAV cells).length (by omega)
  obtain ⟨cell, hcell, hcv⟩ : ∃ c : Int, (zAV cells)[(turn % ((zAV cells).length : Int)).toNat]? = some (.int c) ∧ 0 ≤ c ∧ c < 2147483629 := by
    have hi : (turn % ((zAV cells).length : Int)).toNat < cells.length := by
      have e : (zAV cells).length = cells.length := List.length_map ..
      omega
    refine ⟨cells[(turn % ((zAV cells).length : Int)).toNat], ?_, h.cb _ (List.getElem_mem hi)⟩
    rw [zAV_get, List.getElem?_eq_getElem hi]
    rfl
  simp only [wp_modI, wp_ixL h2.at_c hm4.1 hm4.2 hcell]
  refine ⟨by omega, ?_⟩
  have hp : (turn ^ Int.toNat 3).natAbs < 2 ^ 250 := by
    have e : turn ^ Int.toNat 3 = turn ^ 3 := rfl
    have h3 : turn.natAbs < 2 ^ 61 := by omega
    have h4 : turn.natAbs ^ 3 < (2 ^ 61) ^ 3 := Nat.pow_lt_pow_left h3 (by decide)
    rw [e, Int.natAbs_pow]
    exact Nat.lt_of_lt_of_le h4 (by decide)
  rw [wp_seq, wp_asg]
  simp only [wp_m2, wp_var, wp_c, List.getElem?_cons_zero, List.getElem?_cons_succ, wp_dgS h2.at_s drK_seed, List.set_cons_zero, List.set_cons_succ, wp_mulI, wp_addI, wp_powI, wp_modI]
  refine ⟨mul_room (by omega) (by omega), mul_room (by omega) (by omega), mul_room (by omega) (by omega), by omega, by omega, ?_⟩
  have hs' := @mod_b (seed * 48271 + cell * (2 * turn + 3) + turn ^ Int.toNat 3) 2147483647 (by omega)
  generalize (seed * 48271 + cell * (2 * turn + 3) + turn ^ Int.toNat 3) % 2147483647 = seed' at hs' ⊢
  rw [wp_seq, wp_dput]
  simp only [wp_m2, wp_var, wp_c, List.getElem?_cons_zero, List.getElem?_cons_succ, wp_dpS h2.at_s drK_len drK_pseed]
  have h3 := h2.put (t' := t + 1) h2.r0 h2.t0 h2.tt hs'.1 hs'.2
  have k3 : Kp b G0 (G2.set s (.dk (drK gl cl rest (turn + 1) seed'))) := k2.trans (Kp.set _ _ h.sb)
  generalize G2.set s (.dk (drK gl cl rest (turn + 1) seed')) = G3 at h3 k3 ⊢
  rw [wp_seq, wp_asg]
  simp only [wp_m2, wp_var, wp_c, List.getElem?_cons_zero, List.getElem?_cons_succ, List.set_cons_zero, List.set_cons_succ, wp_mulI, wp_addI, wp_powI, wp_modI, wp_ret, wp_divI]
  have m1 := @mod_b (seed' ^ Int.toNat 2) 2147483629 (by omega)
  refine ⟨by omega, by omega, mul_room (by omega) (by omega), by omega, by omega, ⟨by omega, ?_⟩, hm, ?_⟩
  · exact Nat.lt_of_le_of_lt (log2_b (k := 3) (by decide)) (by decide)
  · have hm5 := @mod_b ((seed' ^ Int.toNat 2 % 2147483629 * 2147483587 + seed' ^ Int.toNat 3 % 2147483579) / 7) m hm
    exact hD _ _ hm5.1 hm5.2 ⟨_, _, _, _, _, _, _, h3⟩ k3
theorem take_ok2 {m : Int} {gl cl : Nat} {gs cells : List Int} {rest turn seed : Int} {D : SP} {G0 : Hs} (h : DrS b t s G gl cl gs cells rest turn seed) (hm : 0 < m) (hm2 : m < 2 ^ 64) (ht : t < 2 ^ 60) (k0 : Kp b G0 G)
    (hD : ∀ (r : Int) G', 0 ≤ r → r < m → Dr b (t + 1) s G' → Kp b G0 G' → D.rt (.int r) G') :
    (b_take2 [some (.ref s), some (.int m), none, none, none, none, none] G).wp D := by
  unfold b_take2
  rw [wp_seq, wp_if]
  simp only [wp_test, wp_m2, wp_var, wp_c, List.getElem?_cons_zero, List.getElem?_cons_succ, wp_dgS h.at_s drK_rest, fGt, fCmpI, wp_ok, decide_eq_true_eq]
  by_cases hr : 0 < rest
  · rw [if_pos hr, wp_seq, wp_asg]
    simp only [wp_m2, wp_var, wp_c, List.getElem?_cons_zero, List.getElem?_cons_succ, wp_dgS h.at_s drK_rest, fMod, fI2, if_pos hm, wp_ok, List.set_cons_zero, List.set_cons_succ]
    rw [wp_seq, wp_dput]
    have hl : m.natAbs.log2 < 9000 := by
      have := log2_le (n := m.natAbs) (k := 64) (by omega)
      omega
    simp only [wp_m2, wp_var, wp_c, List.getElem?_cons_zero, List.getElem?_cons_succ, wp_dgS h.at_s drK_rest, fDiv, fI2, if_pos (And.intro hm hl), wp_ok, wp_dpS h.at_s drK_len drK_prest, wp_ret]
    have hm3 := @mod_b rest m hm
    refine hD _ _ hm3.1 hm3.2 ⟨_, _, _, _, _, _, _, h.put (Int.ediv_nonneg h.r0 (by omega)) h.t0 ?_ h.s0 h.s1⟩ (k0.trans (Kp.set _ _ h.sb))
    have := h.tt
    omega
  · rw [if_neg hr]
    exact take_ok3 h hm hm2 ht k0 hD
theorem take_ok {m : Int} (h : Dr b t s G) (hm : 0 < m) (hm2 : m < 2 ^ 64) (ht : t < 2 ^ 60) {D : SP}
    (hD : ∀ (r : Int) G', 0 ≤ r → r < m → Dr b (t + 1) s G' → Kp b G G' → D.rt (.int r) G') : (b_take [some (.ref s), some (.int m), none, none, none, none, none] G).wp D := by
  obtain ⟨gl, cl, gs, cells, rest, turn, seed, h⟩ := h
  have hs : s < G.length := Nat.lt_of_lt_of_le h.sb h.bl
  have hgl : gl < G.length := Nat.lt_of_lt_of_le h.glb h.bl
  show (mSeq _ b_take2 _ G).wp D
  rw [wp_seq, wp_if, wp_and]
  simp only [wp_test, wp_m2, wp_var, wp_c, List.getElem?_cons_zero, List.getElem?_cons_succ, wp_dgS h.at_s drK_rest, fEq, eqB, wp_ok, decide_eq_true_eq]
  by_cases hr : rest = 0
  · rw [if_pos hr]
    have e2 : (G ++ [AO.lst []])[gl]? = some (.lst (zAV gs)) := (List.getElem?_append_left hgl).trans h.at_g
    have e3 : (G ++ [AO.lst []])[G.length]? = some (.lst []) := by simp
    have h2 := h.app [AO.lst []]
    have k2 : Kp b G (G ++ [AO.lst []]) := Kp.app _ _ _
    have hgl2 : gl < (G ++ [AO.lst []]).length := by simp; omega
    simp only [wp_dgS h.at_s drK_great, wp_lst, wp_nil, List.length_nil, Nat.zero_le, true_and, ne_nil e2 e3, wp_ok]
    generalize G ++ [AO.lst []] = G2 at h2 k2 e2 hgl2 ⊢
    cases gs with
    | nil => exact take_ok2 h2 hm hm2 ht k2 hD
    | cons g gs =>
      rw [if_pos (by rfl), wp_dput]
      have e4 : seqIndex? 0 (zAV (g :: gs)).length = some 0 := by
        simp [seqIndex?, zAV]
      simp only [wp_bm, wp_m2, wp_var, wp_c, List.getElem?_cons_zero, List.getElem?_cons_succ, wp_dgS h2.at_s drK_great, wp_cons, wp_nil, isL, lstOf, h2.at_g, Option.isSome_some, true_and, fPopAt, e4, wp_guard]
      refine ⟨by decide, ?_⟩
      show ((fDp (.ref s) (.str "rest") (.int g) _).wp _ _ : Prop)
      have h3 : DrS b t s (G2.set gl (.lst (zAV gs))) gl cl gs cells rest turn seed := h2.gset fun x hx => h.g0 x (List.mem_cons_of_mem _ hx)
      have k3 : Kp b G (G2.set gl (.lst (zAV gs))) := k2.trans (Kp.set _ _ h.glb)
      show ((fDp (.ref s) (.str "rest") (.int g) (G2.set gl (.lst (zAV gs)))).wp _ _ : Prop)
      rw [wp_dpS h3.at_s drK_len drK_prest]
      exact take_ok2 (h3.put (h.g0 g (List.mem_cons_self ..)) h.t0 h.tt h.s0 h.s1) hm hm2 ht (k3.trans (Kp.set _ _ h.sb)) hD
  · rw [if_neg hr]
    exact take_ok2 h hm hm2 ht (Kp.refl _ _) hD
end
end Vz
namespace Vz
open PySem L2
section
variable {QV : AV → Hs → Prop} {E : XQ} {G : Hs} {ρ : En} {D : SP}
@[simp] theorem g_nm (i : Nat) (v : AV) : gNm i v ρ G = .ok (ρ.set i (some v)) G := rfl
/-- a walk with what holds ahead of each turn -/
theorem wp_forF {gd : Option (Nat × List AV)} {g : MG} {b : MS} (I : Nat → En → Hs → Prop) : ∀ (vs : List AV) (i : Nat) (ρ : En) (G : Hs), I i ρ G →
    (∀ j ρ G, i ≤ j → j ≤ i + vs.length → I j ρ G → gdOk gd G) →
    (∀ j v ρ G, vs[j]? = some v → I (i + j) ρ G → MG.wp (g v ρ G) { D with nx := fun ρ1 G1 => (b ρ1 G1).wp { nx := I (i + j + 1), rt := D.rt, bk := D.nx, ct := I (i + j + 1), ex := D.ex } }) →
    (∀ ρ G, I (i + vs.length) ρ G → D.nx ρ G) → (forF gd g b vs ρ G).wp D
  | [], i, ρ, G, h, hg, hs, he => by
    simp only [forF]
    rw [if_pos (hg i ρ G (Nat.le_refl _) (Nat.le_add_right ..) h)]
    exact he ρ G h
  | v :: vs, i, ρ, G, h, hg, hs, he => by
    simp only [forF]
    rw [if_pos (hg i ρ G (Nat.le_refl _) (Nat.le_add_right ..) h)]
    have h1 := hs 0 v ρ G rfl h
    have next : ∀ ρ2 G2, I (i + 1) ρ2 G2 → (forF gd g b vs ρ2 G2).wp D := fun ρ2 G2 h2 =>
      wp_forF I vs (i + 1) ρ2 G2 h2 (fun j ρ G l1 l2 => hg j ρ G (by omega) (by rw [List.length_cons]; omega)) (fun j v ρ G e hI => by
        have := hs (j + 1) v ρ G e (by rw [show i + (j + 1) = i + 1 + j by omega]; exact hI)
        rw [show i + (j + 1) = i + 1 + j by omega] at this
        exact this) (fun ρ G hI => he ρ G (by rw [List.length_cons, show i + (vs.length + 1) = i + 1 + vs.length by omega]; exact hI))
    cases e1 : g v ρ G with
    | stuck => rw [e1] at h1; exact h1.elim
    | exc c d G' => rw [e1] at h1; exact h1.elim
    | ok ρ1 G1 =>
      rw [e1] at h1
      have h1 : (b ρ1 G1).wp { nx := I (i + 1), rt := D.rt, bk := D.nx, ct := I (i + 1), ex := D.ex } := h1
      show (match b ρ1 G1 with
        | .nx ρ2 G2 => forF gd g b vs ρ2 G2
        | .ct ρ2 G2 => forF gd g b vs ρ2 G2
        | .bk ρ2 G2 => .nx ρ2 G2
        | r => r : SR).wp D
      cases e2 : b ρ1 G1 with
      | nx ρ2 G2 => rw [e2] at h1; exact next ρ2 G2 h1
      | ct ρ2 G2 => rw [e2] at h1; exact next ρ2 G2 h1
      | bk ρ2 G2 => rw [e2] at h1; exact h1
      | rt v G2 => rw [e2] at h1; exact h1
      | exc c d ρ2 G2 => rw [e2] at h1; exact h1
      | stuck => rw [e2] at h1; exact h1
theorem wp_for {mi : MI} {g : MG} {b : MS} (I : Nat → En → Hs → Prop) (h : (mi ρ G).wp (fun k G1 => I 0 ρ G1 ∧ (∀ j ρ G, j ≤ k.1.length → I j ρ G → gdOk k.2 G) ∧
      (∀ j v ρ G, k.1[j]? = some v → I j ρ G → MG.wp (g v ρ G) { D with nx := fun ρ1 G1 => (b ρ1 G1).wp { nx := I (j + 1), rt := D.rt, bk := D.nx, ct := I (j + 1), ex := D.ex } }) ∧
      ∀ ρ G, I k.1.length ρ G → D.nx ρ G) D.ex) : (mFor mi g b ρ G).wp D := by
  unfold mFor
  rw [wp_toS]
  refine h.mono (fun k G1 ⟨h0, hg, hs, he⟩ => ?_) fun _ _ _ x => x
  refine wp_forF I k.1 0 ρ G1 h0 (fun j ρ G _ l h => hg j ρ G (by omega) h) (fun j v ρ G e h => ?_) fun ρ G h => he ρ G (by rw [Nat.zero_add] at h; exact h)
  have := hs j v ρ G e (by rw [Nat.zero_add] at h; exact h)
  rw [Nat.zero_add]
  exact this
@[simp] theorem wp_wk {QW : Wk → Hs → Prop} (m : ME) : (mWk m ρ G).wp QW E = (m ρ G).wp (fun v G => match wkOf G v with
  | some k => QW k G
  | none => False) E := by
  unfold mWk
  rw [wp_bind]
  congr 1
  funext v G
  cases wkOf G v <;> rfl
@[simp] theorem wp_rg1 {QW : Wk → Hs → Prop} (m : ME) : (mRg1 m ρ G).wp QW E = (m ρ G).wp (fun v G => match v with
  | .int j => (-(2 ^ 62) ≤ j ∧ j < 2 ^ 62) ∧ QW (rgA 0 j, none) G
  | _ => False) E := by
  unfold mRg1
  rw [wp_bind]
  congr 1
  funext v G
  cases v <;> first | rfl | exact wp_guard _
@[simp] theorem wp_rg2 {QW : Wk → Hs → Prop} (ma mb : ME) : (mRg2 ma mb ρ G).wp QW E = (ma ρ G).wp (fun v G => (mb ρ G).wp (fun w G => match v, w with
  | .int i, .int j => (-(2 ^ 62) ≤ i ∧ i < 2 ^ 62 ∧ -(2 ^ 62) ≤ j ∧ j < 2 ^ 62) ∧ QW (rgA i j, none) G
  | _, _ => False) E) E := by
  unfold mRg2
  simp only [wp_bind]
  congr 1
  funext v G
  congr 1
  funext w G
  cases v <;> cases w <;> first | rfl | exact wp_guard _
theorem rgA_get {lo hi : Int} {i : Nat} {v : AV} (h : (rgA lo hi)[i]? = some v) : v = .int (lo + i) ∧ lo + i < hi := by
  unfold rgA at h
  rw [List.getElem?_map] at h
  by_cases hi' : i < (hi - lo).toNat
  · rw [List.getElem?_range hi'] at h
    cases h
    exact ⟨rfl, by omega⟩
  · rw [List.getElem?_eq_none (by simp; omega)] at h
    cases h
theorem rgA_len {lo hi : Int} : (rgA lo hi).length = (hi - lo).toNat := by simp [rgA]
/-- of items that change nothing -/
theorem lcF_pure {gd : Option (Nat × List AV)} {g : MG} {t : MB} {m : ME} {p : AV → Bool} {y : AV → AV} : ∀ (vs acc : List AV), (∀ acc, gdOk gd (G ++ [.lst acc])) → acc.length + vs.length ≤ szl →
    (∀ v ∈ vs, ∀ acc, ∃ ρ1, g v ρ (G ++ [.lst acc]) = .ok ρ1 (G ++ [.lst acc]) ∧ t ρ1 (G ++ [.lst acc]) = .ok (p v) (G ++ [.lst acc]) ∧ (p v = true → m ρ1 (G ++ [.lst acc]) = .ok (y v) (G ++ [.lst acc]))) →
    lcF gd g t m G.length ρ vs (G ++ [.lst acc]) = .ok () (G ++ [.lst (acc ++ (vs.filter p).map y)])
  | [], acc, hg, hl, hb => by
    simp only [lcF]
    rw [if_pos (hg acc)]
    simp
  | v :: vs, acc, hg, hl, hb => by
    obtain ⟨ρ1, e1, e2, e3⟩ := hb v (List.mem_cons_self ..) acc
    simp only [lcF]
    rw [if_pos (hg acc), e1]
    simp only [e2]
    rw [List.length_cons] at hl
    have ih := fun acc' (h : acc'.length + vs.length ≤ szl) => lcF_pure (gd := gd) (g := g) (t := t) (m := m) (p := p) (y := y) vs acc' hg h fun v hv => hb v (List.mem_cons_of_mem _ hv)
    cases hp : p v with
    | false =>
      simp only
      rw [ih acc (by omega), List.filter_cons_of_neg (by rw [hp]; decide)]
    | true =>
      have e3 := e3 hp
      simp only [e3, List.getElem?_concat_length]
      rw [if_pos (by omega)]
      have es : (G ++ [AO.lst acc]).set G.length (.lst (acc ++ [y v])) = G ++ [.lst (acc ++ [y v])] := by simp
      rw [es, ih (acc ++ [y v]) (by simp; omega), List.filter_cons_of_pos hp, List.map_cons, List.append_assoc]
      rfl
theorem wp_lcP {mi : MI} {g : MG} {t : MB} {m : ME} {own : List Nat} (p : AV → Bool) (y : AV → AV) (h : (mi ρ G).wp (fun k G => k.1.length ≤ szl ∧ gdOk k.2 G ∧
      (∀ v ∈ k.1, ∀ acc, ∃ ρ1, g v (wipeA ρ own) (G ++ [.lst acc]) = .ok ρ1 (G ++ [.lst acc]) ∧ t ρ1 (G ++ [.lst acc]) = .ok (p v) (G ++ [.lst acc]) ∧ (p v = true → m ρ1 (G ++ [.lst acc]) = .ok (y v) (G ++ [.lst acc]))) ∧
      QV (.ref G.length) (G ++ [.lst ((k.1.filter p).map y)])) E) : (mLc mi g t m own ρ G).wp QV E := by
  unfold mLc
  rw [wp_bind]
  refine h.mono (fun k G ⟨hl, hg, hb, hq⟩ => ?_) fun _ _ _ x => x
  have hg' : ∀ acc, gdOk k.2 (G ++ [.lst acc]) := fun acc => by
    cases e : k.2 with
    | none => exact True.intro
    | some q =>
      obtain ⟨n, xs⟩ := q
      rw [e] at hg
      exact (List.getElem?_append_left (List.getElem?_eq_some_iff.mp hg).1).trans hg
  rw [lcF_pure k.1 [] hg' (by simpa using hl) hb]
  exact hq
/-- with what holds ahead of each turn; acc: what is gathered -/
theorem lcF_inv {gd : Option (Nat × List AV)} {g : MG} {t : MB} {m : ME} {n : Nat} (I : Nat → List AV → Hs → Prop) : ∀ (vs : List AV) (i : Nat) (acc : List AV) (G : Hs), I i acc G → G[n]? = some (.lst acc) →
    (∀ j acc G, i ≤ j → j ≤ i + vs.length → I j acc G → gdOk gd G) →
    (∀ j v acc G, vs[j]? = some v → I (i + j) acc G → G[n]? = some (.lst acc) → ∃ ρ1 G1, g v ρ G = .ok ρ1 G1 ∧ (t ρ1 G1).wp (fun b G2 => if b = true then
      (m ρ1 G2).wp (fun y G3 => G3[n]? = some (.lst acc) ∧ acc.length < szl ∧ I (i + j + 1) (acc ++ [y]) (G3.set n (.lst (acc ++ [y])))) noX else G2[n]? = some (.lst acc) ∧ I (i + j + 1) acc G2) noX) →
    (lcF gd g t m n ρ vs G).wp (fun _ G => ∃ acc, G[n]? = some (.lst acc) ∧ I (i + vs.length) acc G) noX
  | [], i, acc, G, h, hn, hg, hs => by
    simp only [lcF]
    rw [if_pos (hg i acc G (Nat.le_refl _) (Nat.le_add_right ..) h)]
    exact ⟨acc, hn, h⟩
  | v :: vs, i, acc, G, h, hn, hg, hs => by
    simp only [lcF]
    rw [if_pos (hg i acc G (Nat.le_refl _) (Nat.le_add_right ..) h)]
    obtain ⟨ρ1, G1, e1, h1⟩ := hs 0 v acc G rfl h hn
    have next : ∀ acc2 G2, I (i + 1) acc2 G2 → G2[n]? = some (.lst acc2) → (lcF gd g t m n ρ vs G2).wp (fun _ G => ∃ acc, G[n]? = some (.lst acc) ∧ I (i + (v :: vs).length) acc G) noX := fun acc2 G2 h2 hn2 => by
      have := lcF_inv (gd := gd) (g := g) (t := t) (m := m) (n := n) I vs (i + 1) acc2 G2 h2 hn2 (fun j acc G l1 l2 => hg j acc G (by omega) (by rw [List.length_cons]; omega)) (fun j v acc G e hI hn => by
        have := hs (j + 1) v acc G e (by rw [show i + (j + 1) = i + 1 + j by omega]; exact hI) hn
        rw [show i + (j + 1) = i + 1 + j by omega] at this
        exact this)
      rw [List.length_cons, show i + (vs.length + 1) = i + 1 + vs.length by omega]
      exact this
    rw [e1]
    simp only
    cases e2 : t ρ1 G1 with
    | stuck => rw [e2] at h1; exact h1.elim
    | exc c d G' => rw [e2] at h1; exact h1.elim
    | ok b G2 =>
      rw [e2] at h1
      have h1 : (if b = true then (m ρ1 G2).wp (fun y G3 => G3[n]? = some (.lst acc) ∧ acc.length < szl ∧ I (i + 0 + 1) (acc ++ [y]) (G3.set n (.lst (acc ++ [y])))) noX else G2[n]? = some (.lst acc) ∧ I (i + 0 + 1) acc G2) := h1
      cases b with
      | false =>
        rw [if_neg Bool.false_ne_true] at h1
        exact next acc G2 h1.2 h1.1
      | true =>
        rw [if_pos rfl] at h1
        simp only
        cases e3 : m ρ1 G2 with
        | stuck => rw [e3] at h1; exact h1.elim
        | exc c d G' => rw [e3] at h1; exact h1.elim
        | ok y G3 =>
          rw [e3] at h1
          obtain ⟨h3, h4, h5⟩ := h1
          simp only [h3]
          rw [if_pos h4]
          exact next _ _ h5 (List.getElem?_set_self (List.getElem?_eq_some_iff.mp h3).1)
theorem wp_lc {mi : MI} {g : MG} {t : MB} {m : ME} {own : List Nat} (I : Nat → List AV → Hs → Prop) (h : (mi ρ G).wp (fun k G0 => I 0 [] (G0 ++ [.lst []]) ∧ (∀ j acc G, j ≤ k.1.length → I j acc G → gdOk k.2 G) ∧
      (∀ j v acc G, k.1[j]? = some v → I j acc G → G[G0.length]? = some (.lst acc) → ∃ ρ1 G1, g v (wipeA ρ own) G = .ok ρ1 G1 ∧ (t ρ1 G1).wp (fun b G2 => if b = true then
        (m ρ1 G2).wp (fun y G3 => G3[G0.length]? = some (.lst acc) ∧ acc.length < szl ∧ I (j + 1) (acc ++ [y]) (G3.set G0.length (.lst (acc ++ [y])))) noX else G2[G0.length]? = some (.lst acc) ∧ I (j + 1) acc G2) noX) ∧
      ∀ acc G, G[G0.length]? = some (.lst acc) → I k.1.length acc G → QV (.ref G0.length) G) E) : (mLc mi g t m own ρ G).wp QV E := by
  unfold mLc
  rw [wp_bind]
  refine h.mono (fun k G ⟨h0, hg, hs, he⟩ => ?_) fun _ _ _ x => x
  rw [wp_bind]
  have := lcF_inv (gd := k.2) (g := g) (t := t) (m := m) (n := G.length) (ρ := wipeA ρ own) I k.1 0 [] (G ++ [.lst []]) h0 (by simp) (fun j acc G _ l h => hg j acc G (by omega) h) (fun j v acc G e h hn => by
    rw [Nat.zero_add] at h ⊢
    exact hs j v acc G e h hn)
  refine this.to fun _ G2 ⟨acc, hn, hI⟩ => ?_
  rw [Nat.zero_add] at hI
  exact he acc G2 hn hI
end
end Vz
namespace Vz
open PySem L2
section
variable {QV : AV → Hs → Prop} {QP : List (Key × AV) → Hs → Prop} {E : XQ} {G : Hs} {ρ : En} {D : SP}
open Classical in
theorem wp_dict (trs : List (ME × ME)) : (mDict trs ρ G).wp QV E = (mPairs trs ρ (G ++ [.dk []])).wp (fun kvs G1 => (kvs.length ≤ 15 ∧ G1[G.length]? = some (.dk [])) ∧ QV (.ref G.length) (G1.set G.length (.dk (mergeA kvs)))) E := by
  unfold mDict
  rw [wp_bind]
  congr 1
  funext kvs G1
  exact wp_guard _
theorem wp_prs0 : (mPairs [] ρ G).wp QP E = QP [] G := rfl
theorem wp_prs (mk mv : ME) (r : List (ME × ME)) : (mPairs ((mk, mv) :: r) ρ G).wp QP E = (mk ρ G).wp (fun w G1 => (mv ρ G1).wp (fun u G2 => match kOf w with
  | some k => (mPairs r ρ G2).wp (fun kvs G3 => QP ((k, u) :: kvs) G3) E
  | none => False) E) E := by
  rw [mPairs, wp_bind]
  congr 1
  funext w G1
  rw [wp_bind]
  congr 1
  funext u G2
  cases kOf w with
  | none => rfl
  | some k =>
    show ((mPairs r ρ G2).bind _).wp _ _ = _
    rw [wp_bind]
    rfl
theorem fAdd_lst {m n : Nat} {xs ys : List AV} (h : G[m]? = some (.lst xs)) (h' : G[n]? = some (.lst ys)) : (fAdd (.ref m) (.ref n) G).wp QV E = (xs.length + ys.length ≤ szl ∧ QV (.ref G.length) (G ++ [.lst (xs ++ ys)])) := by
  show (match G[m]?, G[n]? with
    | some (.lst xs), some (.lst ys) => if xs.length + ys.length ≤ szl then .ok (.ref G.length) (G ++ [.lst (xs ++ ys)]) else .stuck
    | _, _ => .stuck : R AV).wp QV E = _
  rw [h, h']
  exact wp_guard _
noncomputable def b_begun (sd : Int) : MS := (mRet (mDict [((mC (.str "great")), (mLc (mWk (mVar 0)) (gNm 1) (mTest (m2 fGe (mVar 1) (m2 fPow (mC (.int 10)) (mC (.int 18))))) (mVar 1) [1])), ((mC (.str "rest")), (mC (.int 0))), ((mC (.str "turn")), (mC (.int 0))), ((mC (.str "seed")), (mC (.int sd))), ((mC (.str "cells")), (m2 fAdd (mLc (mWk (mVar 0)) (gNm 1) mYes (m2 fMod (mVar 1) (mC (.int 2147483629))) [1]) (mLst (mCons (mC (.int 77)) mNil))))]))
noncomputable def f_begun (sd : Int) : List AV → Hs → R AV := mFn 2 (b_begun sd)
def isGreat : AV → Bool
  | .int i => decide ((10 : Int) ^ 18 ≤ i)
  | _ => false
def ofCell : AV → AV
  | .int i => .int (i % 2147483629)
  | v => v
theorem filt_z : ∀ ns : List Int, (zAV ns).filter isGreat = zAV (ns.filter fun i => decide ((10 : Int) ^ 18 ≤ i))
  | [] => rfl
  | n :: ns => by
    have ih := filt_z ns
    unfold zAV at ih ⊢
    rw [List.map_cons]
    by_cases h : (10 : Int) ^ 18 ≤ n
    · rw [List.filter_cons_of_pos (by exact decide_eq_true h), List.filter_cons_of_pos (by exact decide_eq_true h), ih, List.map_cons]
    · rw [List.filter_cons_of_neg (by exact fun q => h (of_decide_eq_true q)), List.filter_cons_of_neg (by exact fun q => h (of_decide_eq_true q)), ih]
theorem begun_ok {sd : Int} (h0 : 0 ≤ sd) (h1 : sd < 2147483647) {ns : List Int} (hn : ns.length ≤ 63) : (f_begun sd [scriptAV ns] G).wp (fun v G' => ∃ s, v = .ref s ∧ Dr G'.length 0 s G' ∧ Kp 0 G G') noX := by
  have hz : (zAV ns).length ≤ szl := by
    rw [zAV_len]
    exact Nat.le_trans hn (by decide)
  unfold f_begun
  rw [wp_mFn]
  show (mRet _ [some (.lk (zAV ns)), none] G).wp _
  rw [wp_ret, wp_dict]
  simp only [wp_prs, wp_c, kOf]
  refine wp_lcP isGreat id ?_
  simp only [wp_wk, wp_var, List.getElem?_cons_zero, wkOf]
  refine ⟨hz, True.intro, fun v hv acc => ?_, ?_⟩
  · obtain ⟨i, _, rfl⟩ := List.mem_map.mp hv
    exact ⟨_, rfl, rfl, fun _ => rfl⟩
  simp only [wp_m2]
  refine wp_lcP (fun _ => true) ofCell ?_
  simp only [wp_wk, wp_var, List.getElem?_cons_zero, wkOf]
  refine ⟨hz, True.intro, fun v hv acc => ?_, ?_⟩
  · obtain ⟨i, _, rfl⟩ := List.mem_map.mp hv
    exact ⟨_, rfl, True.intro, fun _ => rfl⟩
  simp only [wp_lst, wp_cons, wp_c, wp_nil, List.map_id, filt_z]
  refine ⟨by decide, ?_⟩
  have hf : (zAV ns).filter (fun _ => true) = zAV ns := List.filter_eq_self.mpr fun _ _ => rfl
  rw [hf]
  have hmap : (zAV ns).map ofCell = zAV (ns.map fun i => i % 2147483629) := by
    unfold zAV
    rw [List.map_map, List.map_map]
    rfl
  rw [hmap]
  generalize hgs : ns.filter (fun i => decide ((10 : Int) ^ 18 ≤ i)) = gs
  have g0 : ∀ g ∈ gs, 0 ≤ g := fun g hg => by
    rw [← hgs] at hg
    have := of_decide_eq_true (List.mem_filter.mp hg).2
    omega
  generalize hcs : ns.map (fun i => i % 2147483629) = cs
  have c0 : ∀ c ∈ cs, 0 ≤ c ∧ c < 2147483629 := fun c hc => by
    rw [← hcs] at hc
    obtain ⟨i, _, rfl⟩ := List.mem_map.mp hc
    exact mod_b (by decide)
  have hcl : cs.length = ns.length := by rw [← hcs, List.length_map]
  have eG : (((G ++ [AO.dk []] ++ [AO.lst (zAV gs)] ++ [AO.lst (zAV cs)]) ++ [AO.lst [AV.int 77]]) : Hs) = G ++ [AO.dk [], .lst (zAV gs), .lst (zAV cs), .lst [.int 77]] := by simp
  have l1 : (G ++ [AO.dk []]).length = G.length + 1 := by simp
  have l2 : (G ++ [AO.dk []] ++ [AO.lst (zAV gs)]).length = G.length + 2 := by simp
  have l3 : (G ++ [AO.dk []] ++ [AO.lst (zAV gs)] ++ [AO.lst (zAV cs)]).length = G.length + 3 := by simp
  rw [l2, l3, eG]
  rw [fAdd_lst (xs := zAV cs) (ys := [.int 77]) (by simp) (by simp)]
  refine ⟨by rw [zAV_len, hcl]; exact Nat.le_trans (Nat.add_le_add_right hn 1) (by decide), ?_⟩
  rw [wp_prs0, l1]
  have l4 : (G ++ [AO.dk [], .lst (zAV gs), .lst (zAV cs), .lst [.int 77]]).length = G.length + 4 := by simp
  rw [l4]
  have hm : mergeA [(.inr "great", .ref (G.length + 1)), (.inr "rest", .int 0), (.inr "turn", .int 0), (.inr "seed", .int sd), (.inr "cells", .ref (G.length + 4))] = drK (G.length + 1) (G.length + 4) 0 0 sd := by
    simp [mergeA, putA, ofS_inj, drK]
  rw [hm]
  have eG2 : (G ++ [AO.dk [], .lst (zAV gs), .lst (zAV cs), .lst [.int 77]] ++ [AO.lst (zAV cs ++ [.int 77])]).set G.length (.dk (drK (G.length + 1) (G.length + 4) 0 0 sd)) =
      G ++ [AO.dk (drK (G.length + 1) (G.length + 4) 0 0 sd), .lst (zAV gs), .lst (zAV cs), .lst [.int 77], .lst (zAV (cs ++ [77]))] := by
    simp [zAV]
  rw [eG2]
  refine ⟨⟨by simp, by simp⟩, _, rfl, ?_, Kp.app _ _ _⟩
  refine ⟨G.length + 1, G.length + 4, gs, cs ++ [77], 0, 0, sd, ⟨by simp, by simp, by simp, by omega, by omega, by omega, by simp, by simp, by simp, by simp, g0, by simp, fun c hc => ?_, by decide, by decide, by decide, h0, h1⟩⟩
  rcases List.mem_append.mp hc with hc | hc
  · exact c0 c hc
  · rw [List.mem_singleton.mp hc]
    decide
end
end Vz
namespace Vz
open PySem L2
section
variable {QV : AV → Hs → Prop} {QB : Bool → Hs → Prop} {E : XQ} {G : Hs} {ρ : En} {D : SP} {b t s : Nat}
theorem take_wp {m : Int} (h : Dr b t s G) (hm : 0 < m) (hm2 : m < 2 ^ 64) (ht : t < 2 ^ 60) (hq : ∀ (r : Int) G', 0 ≤ r → r < m → Dr b (t + 1) s G' → Kp b G G' → QV (.int r) G') : (f_take [.ref s, .int m] G).wp QV E := by
  unfold f_take
  rw [wp_mFn]
  exact take_ok h hm hm2 ht hq
theorem begun_wp {sd : Int} (h0 : 0 ≤ sd) (h1 : sd < 2147483647) {ns : List Int} (hn : ns.length ≤ 63) (hq : ∀ s G', Dr G'.length 0 s G' → Kp 0 G G' → QV (.ref s) G') : (f_begun sd [scriptAV ns] G).wp QV E :=
  (begun_ok h0 h1 hn).mono (fun v G' ⟨s, e, h1, h2⟩ => by rw [e]; exact hq s G' h1 h2) fun _ _ _ => False.elim
theorem mg_nm (i : Nat) (v : AV) : MG.wp (gNm i v ρ G) D = D.nx (ρ.set i (some v)) G := rfl
theorem flat_S : ∀ xs : List Str, (xs.map AV.str).all flatA = true
  | [] => rfl
  | _ :: xs => by
    rw [List.map_cons, List.all_cons, flat_S xs]
    rfl
theorem any_S (w : Str) : ∀ xs : List Str, ((xs.map AV.str).any fun y => eqA y (.str w)) = xs.any fun y => y == w
  | [] => rfl
  | x :: xs => by
    rw [List.map_cons, List.any_cons, List.any_cons, any_S w xs]
    rfl
theorem inB_seq {w : Str} {v : AV} {xs : List Str} (h : seqOf G v = some (xs.map .str)) (hs : ∀ z, v ≠ .str z) : inB G (.str w) v = some (xs.any fun y => y == w) := by
  have e : inB G (.str w) v = (match seqOf G v with
    | some xs => if flatA (.str w) = true ∧ xs.all flatA = true then some (xs.any fun y => eqA y (.str w)) else
      match lstOf G v, dat 12 G (.str w), allS (xs.map (dat 12 G)) with
      | some _, some d, some ds => if SeqAt.shaped d = true ∧ SeqAt.shaped (.list ds) = true then some (ds.any fun z => PyData.eqv z d) else none
      | _, _, _ => none
    | none => none) := by
    cases v <;> first | rfl | exact absurd rfl (hs _)
  rw [e, h]
  show (if _ then _ else _) = _
  rw [if_pos ⟨rfl, flat_S xs⟩, any_S]
theorem bls_map : ∀ bs : List Bool, blsOf (bs.map AV.bl) = some bs
  | [] => rfl
  | b :: bs => by
    rw [List.map_cons, blsOf, bls_map bs]
/-- isinstance -/
theorem isi_wp {tab : List (Ty × Bool)} {v : AV} {ty : Ty} {r : Bool} (h1 : tyA G v = some ty) (h2 : tab.lookup ty = some r) : (fIsi tab v G).wp QV E = QV (.bl r) G := by
  unfold fIsi
  rw [h1]
  show (match tab.lookup ty with
    | some b => R.ok (.bl b) G
    | none => .stuck : R AV).wp QV E = _
  rw [h2]
  rfl
theorem tru_bl (b : Bool) : truB G (.bl b) = some b := rfl
theorem szl_eq : szl = 16777216 := rfl
end
end Vz
namespace Vz
open PySem PySem.Spec L2
section
variable {X : Cx} {W : WX} {a b c e o : Expr} {es rest : List Expr} {ma mb mc mo : ME} {ms mk : MEs} {pos p apos cpos : Pos} {x : Str} {k N n : Nat} {f C : Addr} {fd : FuncData} {ps ks : List Str} {F : List AV → Hs → R AV} {gA : List AV → List AV → List AV} {kws : List Keyword} {cn mn : Str}
/-- what __init__ gives is dropped -/
def mkR (r : R AV) (n : Nat) : R AV := match r with
  | .ok .non G => .ok (.ref n) G
  | .ok _ _ => .stuck
  | .exc c d G => .exc c d G
  | .stuck => .stuck
theorem mk_go {pins : List (Addr × Obj)} {σ : St} {H : Hp} {s : Shared} {Q : VK} {us ws : List Value} {vs zs : List V} {xs ys : List AV} {μ : Mu} {G : Hs} (M : Mk X.K (ga X.K cn) f)
    (D : FnG X.prog X.w X.K X.mg X.base (CX X.prog X.w) k f fd ps (fsp X.K ps.length F)) (hr : Rm (k + 1) X.A) (sh : Sh X.K fd ps (n + 1) ks gA) (tk : Takes X W)
    (I : Inv X pins σ H s) (r : Vals vs us) (rz : Vals zs ws) (l1 : xs.length = n) (l2 : ys.length = ks.length) (hG : RH X.K H μ G) (rx : RAs X.K H μ xs vs) (ry : RAs X.K H μ ys zs) (l3 : (gA (.ref G.length :: xs) ys).length = ps.length)
    (h : Po X.K (rA X.K) W σ H μ (mkR (F (gA (.ref G.length :: xs) ys) (G ++ [.ins cn []])) G.length) Q) : wpAny (model X.prog X.w) X.A (call (.ref (ga X.K cn)) us (ks.zip ws)) (EP X pins σ Q) X.xe s := by
  obtain ⟨g, gV, hb, hg⟩ := sh.ex
  have f1 : H s.heap.objs.size = none := I.hok.fresh (Nat.le_refl _)
  have f2 : H (s.heap.objs.size + 1) = none := I.hok.fresh (Nat.le_succ _)
  have ne : s.heap.objs.size + 1 ≠ s.heap.objs.size := Nat.succ_ne_self _
  have I2 := Inv.made (C := ga X.K cn) I
  have f3 : (upd H s.heap.objs.size (.own (s.heap.objs.size + 1))) (s.heap.objs.size + 1) = none := by rw [upd_ne ne]; exact f2
  have g1 : Gr H μ (upd H s.heap.objs.size (.own (s.heap.objs.size + 1))) μ := Gr.new f1
  have g2 := g1.trans (Gr.alloc (ho := .ins (ga X.K cn) s.heap.objs.size []) f3)
  have hG2 := (hG.new (ho := .own (s.heap.objs.size + 1)) f1).alloc (ho := .ins (ga X.K cn) s.heap.objs.size []) (o := .ins cn []) f3 ⟨_, [], upd_same, rfl, .nil⟩
  have r1 : Vals (V.ref (s.heap.objs.size + 1) :: vs) (Value.ref (s.heap.objs.size + 1) :: us) := .cons rfl r
  have r2 := hb.rel r1 rz
  have hfr := hG.fresh (s.heap.objs.size + 1)
  have rA2 := hg _ _ _ _ _ _ (RAs.cons (RA.ref (n := G.length) (a := s.heap.objs.size + 1) hfr) (rx.gr g2)) (ry.gr g2)
  have n1 : (Value.ref (s.heap.objs.size + 1) :: us).length = n + 1 := by
    rw [List.length_cons, ← r.length, ← rx.length, l1]
  refine wpAny_call (make_map (f := f) I.kIn M.makes M.init (beq_iff_eq.mp M.fn) (codeAny_mono (D.run _ X.stack _ _ ⟨Value.ref (s.heap.objs.size + 1) :: us, ks.zip ws⟩ (g (Value.ref (s.heap.objs.size + 1) :: us) ws) _
    (fun v H3 => v = .non ∧ Q (.ref (s.heap.objs.size + 1)) H3) (fun cls d H' => W cls d σ H') (hr.make _ us (ks.zip ws))
    (I2.env0.make _ us (ks.zip ws)) (hb.to _ (Value.ref (s.heap.objs.size + 1) :: us) ws I2.kIn n1 (rz.length.symm.trans (ry.length.symm.trans l2))) r2 ⟨by rw [← rA2.length]; exact l3, _, _, _, rA2, hG2, ?_⟩) fun r s' hq' => ?_))
  · cases q : F (gA (.ref G.length :: xs) ys) (G ++ [.ins cn []]) with
    | stuck => rw [q] at h; exact h.elim
    | exc c d G' =>
      rw [q] at h
      exact fun H' μ' dd g3 hr' hd => h H' μ' dd (g2.trans g3) hr' hd
    | ok v G' =>
      rw [q] at h
      cases v with
      | non =>
        intro H' μ' y g3 hG' ry'
        cases ry'
        exact ⟨rfl, h H' μ' (.ref (s.heap.objs.size + 1)) (g2.trans g3) hG' (.ref (hfr.gr g3))⟩
      | _ => exact h.elim
  · cases r with
    | error e => exact tk e s' (XE.of_call I2 (fun cls d H' h => h) hq')
    | ok fl =>
      cases fl with
      | ret u =>
        obtain ⟨v, H', I3, rv, ev, q3⟩ := I2.after hq'
        subst ev
        exact ⟨rv, ⟨V.ref (s.heap.objs.size + 1), H', I3, rfl, q3⟩⟩
      | next => exact False.elim hq'
      | brk => exact False.elim hq'
      | cont => exact False.elim hq'
def mMake (cn : Str) (N n m : Nat) (gA : List AV → List AV → List AV) (F : List AV → Hs → R AV) (ms mk : MEs) : ME := fun ρ G => (ms ρ G).bind fun xs G1 => (mk ρ G1).bind fun ys G2 =>
  if xs.length = n ∧ ys.length = m ∧ (gA (.ref G2.length :: xs) ys).length = N then mkR (F (gA (.ref G2.length :: xs) ys) (G2 ++ [.ins cn []])) G2.length else .stuck
theorem po_if {c : Prop} [Decidable c] {K : PySem.W.Frag} {σ : St} {H : Hp} {μ : Mu} {r : R AV} {Q : VK} (h : Po K (rA K) W σ H μ (if c then r else .stuck) Q) : c ∧ Po K (rA K) W σ H μ r Q := by
  by_cases hc : c
  · rw [if_pos hc] at h
    exact ⟨hc, h⟩
  · rw [if_neg hc] at h
    exact h.elim
/-- a class with all that its making leans on -/
structure Ck (P : Program) (w : World) (K : PySem.W.Frag) (mg : Str → Option Value) (base : Heap) (k : Nat) (cn : Str) (ps : List Str) (F : List AV → Hs → R AV) (shs : List Shp) : Prop where
  at_ : mg cn = some (.ref (ga K cn))
  mkr : Mk K (ga K cn) (He.ma K (ga K cn) "__init__")
  ex : ∃ fd, FnG P w K mg base (CX P w) k (He.ma K (ga K cn) "__init__") fd ps (fsp K ps.length F) ∧ ∀ s ∈ shs, Sh K fd ps (s.1 + 1) s.2.1 s.2.2
variable {shs : List Shp}
theorem se_mkk0 (D : Ck X.prog X.w X.K X.mg X.base k cn ps F shs) (i : Nat) (hr : Rm (k + 1) X.A) (tk : Takes X W) (hg : Gl X cn) (hkw : SK X W kws mk) (hi : shs[i]? = some (0, ks, gA) := by rfl)
    (hall : (backToKw pos (keywordEach kws X.env)).all (·.1.isSome) = true := by rfl) (hks : (backToKw pos (keywordEach kws X.env)).filterMap (·.1) = ks := by rfl)
    (hdb : (cn == ("__debug__" : Str)) = false := by decide) (hpl : ((backTo pos (starEach [] X.env)).any (·.1) || (backToKw pos (keywordEach kws X.env)).any (·.1.isNone)) = false := by rfl) :
    SE X W (.Call (.Name cn p) [] kws pos) (mMake cn ps.length 0 ks.length gA F mNil mk) := by
  obtain ⟨fd, hF, hs⟩ := D.ex
  have sh := hs _ (List.mem_of_getElem? hi)
  refine ⟨fun pins s σ H Q I ⟨ρ, μ, G, hσ, hG, h⟩ => ?_⟩
  refine wpAny_Call_Name_kw (ld_glob I hg D.at_ ?_ hdb)
  refine PySem.W.callWith_KW0 (h₀ := X.base) I.ok.mod.kin D.mkr.kp hall ?_ hpl
  have h : Po X.K (rA X.K) W σ H μ ((mk ρ G).bind fun ys G2 => if ([] : List AV).length = 0 ∧ ys.length = ks.length ∧ (gA (.ref G2.length :: []) ys).length = ps.length then mkR (F (gA (.ref G2.length :: []) ys) (G2 ++ [.ins cn []])) G2.length else .stuck) Q := h
  refine thn (hkw.run pos pins s σ H _ I (tG.bind (Q1 := fun zs H2 => ∃ ys μ2 G2, RAs X.K H2 μ2 ys zs ∧ RH X.K H2 μ2 G2 ∧ (([] : List AV).length = 0 ∧ ys.length = ks.length ∧ (gA (.ref G2.length :: []) ys).length = ps.length) ∧
    Po X.K (rA X.K) W σ H2 μ2 (mkR (F (gA (.ref G2.length :: []) ys) (G2 ++ [.ins cn []])) G2.length) Q) hσ hG h
    fun ys G2 H2 μ2 zs g2 hσ2 hG2 rz h2 => ⟨ys, μ2, G2, rz, hG2, po_if h2⟩)) fun ws s2 ⟨zs, H2, I2, rzv, ys, μ2, G2, rz, hG2, ⟨l1, l2, l3⟩, q2⟩ => ⟨I2.kIn, ?_⟩
  rw [hks]
  exact mk_go (us := []) (vs := []) D.mkr hF hr sh tk I2 .nil rzv rfl l2 hG2 .nil rz l3 q2
structure Tk (P : Program) (w : World) (K : PySem.W.Frag) (mg : Str → Option Value) (base : Heap) (k : Nat) (cn mn : Str) (ps : List Str) (F : List AV → Hs → R AV) (shs : List Shp) : Prop where
  cls : Cls K (ga K cn)
  mt : Meth K (ga K cn) mn (He.ma K (ga K cn) mn)
  ex : ∃ fd, FnG P w K mg base (CX P w) k (He.ma K (ga K cn) mn) fd ps (fsp K ps.length F) ∧ ∀ s ∈ shs, Sh K fd ps (s.1 + 1) s.2.1 s.2.2
/-- o is an instance of cn, without a field mn -/
def insOf (cn mn : Str) (G : Hs) : AV → Bool
  | .ref i => match G[i]? with
    | some (.ins c fs) => decide (c = cn) && (fs.lookup mn).isNone
    | _ => false
  | .iv c ns _ => decide (c = cn) && !decide (mn ∈ ns)
  | _ => false
theorem nolook_of {α : Type} {mn : Str} : ∀ {gs : List (Str × α)}, mn ∉ gs.map (·.1) → gs.lookup mn = none
  | [], _ => rfl
  | (g, u) :: gs, h => by
    rw [List.map_cons, List.mem_cons, not_or] at h
    rw [List.lookup_cons, beq_eq_false_iff_ne.mpr h.1]
    exact nolook_of h.2
def mMeth (cn mn : Str) (N n m : Nat) (gA : List AV → List AV → List AV) (F : List AV → Hs → R AV) (mo : ME) (ms mk : MEs) : ME := fun ρ G => (mo ρ G).bind fun v G0 => if insOf cn mn G0 v = true then (ms ρ G0).bind fun xs G1 => (mk ρ G1).bind fun ys G2 =>
  if xs.length = n ∧ ys.length = m ∧ (gA (v :: xs) ys).length = N then F (gA (v :: xs) ys) G2 else .stuck else .stuck
theorem RF.nolook' {K : PySem.W.Frag} {H : Hp} {μ : Mu} {f : Str} : ∀ {fs : List (Str × AV)} {gs : List (Str × V)}, RF K H μ fs gs → fs.lookup f = none → gs.lookup f = none
  | [], [], _, _ => rfl
  | [], _ :: _, h, _ => by cases h.1
  | (g, u) :: fs, gs, h, e => by
    obtain ⟨z, gs', rfl, _, t⟩ := h.cons_inv
    rw [List.lookup_cons] at e ⊢
    cases q : (f == g) with
    | true => rw [q] at e; cases e
    | false => rw [q] at e; exact RF.nolook' t e
theorem ins_of {K : PySem.W.Frag} {H : Hp} {μ : Mu} {G : Hs} {v : AV} {x : V} (hG : RH K H μ G) (r : RA K H μ v x) (h : insOf cn mn G v = true) : ∃ a dx gs, x = .ref a ∧ H a = some (.ins (ga K cn) dx gs) ∧ gs.lookup mn = none := by
  cases r with
  | ref hn =>
    obtain ⟨ob, ho, ro⟩ := hG.obj hn
    simp only [insOf, ho] at h
    cases ob with
    | ins c fs =>
      obtain ⟨h1, h2⟩ := Bool.and_eq_true_iff.mp h
      obtain ⟨dx, gs, h3, rf⟩ := ro
      obtain rfl : c = cn := of_decide_eq_true h1
      exact ⟨_, dx, gs, rfl, h3, rf.nolook' (by
        cases q : fs.lookup mn with
        | none => rfl
        | some u => rw [q] at h2; cases h2)⟩
    | _ => cases h
  | @iv a dx c ns gs xs h1 h2 h3 h4 =>
    obtain ⟨k1, k2⟩ := Bool.and_eq_true_iff.mp (show (decide (c = cn) && !decide (mn ∈ ns)) = true from h)
    obtain rfl : c = cn := of_decide_eq_true k1
    subst h3
    exact ⟨_, dx, gs, rfl, h1, nolook_of (by simpa using k2)⟩
  | _ => cases h
section
variable (D : Tk X.prog X.w X.K X.mg X.base k cn mn ps F shs) (i : Nat)
include D
theorem se_mt {pl : Sem Bool} (hr : Rm k X.A) (tk : Takes X W) (ho : SE X W o mo) (ha : SA X W (e :: es) ms) (hi : shs[i]? = some (n, [], gA) := by rfl)
    (hst : starEach (e :: es) X.env = (false, eval e X.env) :: starEach es X.env := by rfl) (hpl : (backTo pos (starEach es X.env)).any (·.1) = false := by rfl)
    (ht : eval (.Call (.Attribute o mn apos) (e :: es) [] pos) X.env = (do
      let ov ← eval o X.env
      standAt apos.atName
      let (f, first) ← holding [ov] (getMethod ov mn pl)
      callWith pos f first (backTo pos (starEach (e :: es) X.env)) (backToKw pos (keywordEach [] X.env))) := by rfl) :
    SE X W (.Call (.Attribute o mn apos) (e :: es) [] pos) (mMeth cn mn ps.length n 0 gA F mo ms mNil) := by
  obtain ⟨fd, hF, hs⟩ := D.ex
  have sh := hs _ (List.mem_of_getElem? hi)
  refine ⟨fun pins s σ H Q I ⟨ρ, μ, G, hσ, hG, h⟩ => ?_⟩
  refine PySem.W.methodCall_KW (pl := pl) (thn (ho.run pins s σ H _ I (tG.bind (Q1 := fun x H1 => ∃ v μ1 G1, RS X.K H1 μ1 ρ σ ∧ RA X.K H1 μ1 v x ∧ RH X.K H1 μ1 G1 ∧ insOf cn mn G1 v = true ∧ Po X.K (rA X.K) W σ H1 μ1 ((ms ρ G1).bind fun xs G1 => (mNil ρ G1).bind fun ys G2 =>
    if xs.length = n ∧ ys.length = 0 ∧ (gA (v :: xs) ys).length = ps.length then F (gA (v :: xs) ys) G2 else .stuck) Q) hσ hG h fun v G1 H1 μ1 x g1 hσ1 hG1 rv h1 => ?_)) fun u s1 ⟨x, H1, I1, rx, v, μ1, G1, hσ1, rv, hG1, hins, q⟩ => ?_) ht
  · obtain ⟨hq, h2⟩ := po_if h1
    exact ⟨v, μ1, G1, hσ1, rv, hG1, hq, h2⟩
  · obtain ⟨a, dx, gs, rfl, ea, l⟩ := ins_of hG1 rv hins
    obtain rfl : u = Value.ref a := rx
    refine getmeth_ok I1 ea D.cls D.mt l ?_
    refine PySem.W.callWith_K (first := [.ref a]) (h₀ := X.base) I.ok.mod.kin D.mt.kp (thn (ha.run pos pins s1 σ H1 _ I1 (tG.bind (Q1 := fun vs H2 => ∃ xs μ2 G2, RAs X.K H2 μ2 (v :: xs) (.ref a :: vs) ∧ RH X.K H2 μ2 G2 ∧ (xs.length = n ∧ (0 : Nat) = 0 ∧ (gA (v :: xs) []).length = ps.length) ∧ Po X.K (rA X.K) W σ H2 μ2 (F (gA (v :: xs) []) G2) Q) hσ1 hG1 q
      fun xs G2 H2 μ2 vs g2 hσ2 hG2 rs h2 => ⟨xs, μ2, G2, .cons (rv.gr g2) rs, hG2, po_if (c := xs.length = n ∧ (0 : Nat) = 0 ∧ (gA (v :: xs) []).length = ps.length) (r := F (gA (v :: xs) []) G2) h2⟩)) fun us s2 ⟨vs, H2, I2, r, xs, μ2, G2, rs, hG2, ⟨l1, _, l3⟩, q2⟩ => ⟨I2.kIn, ?_⟩) hst hpl
    exact run_go (us := .ref a :: us) (vs := .ref a :: vs) (xs := v :: xs) (ks := []) (ws := []) (zs := []) hF hr sh tk I2 (.cons rfl r) .nil (by rw [List.length_cons, l1]) rfl hG2 rs .nil l3 q2
end
end
end Vz
namespace Vz
open PySem L2
section
variable {X : Cx} {W : WX} {a b c e o tg iter tg1 iter1 elt v1 v2 : Expr} {es rest : List Expr} {m ma mb mc mo : ME} {t t1 : MB} {ms mk : MEs} {pos p apos cpos : Pos} {x : Str} {K : PySem.W.Frag}
def fIAdd : AV → AV → Hs → R AV
  | .int i, .int j, G => .ok (.int (i + j)) G
  | .str a, .str b, G => if a.length + b.length ≤ szl then .ok (.str (a ++ b)) G else .stuck
  | .ref m, .ref n, G => match G[m]?, G[n]? with
    | some (.lst xs), some (.lst ys) => if xs.length + ys.length ≤ szl then .ok (.ref m) (G.set m (.lst (xs ++ ys))) else .stuck
    | _, _ => .stuck
  | _, _, _ => .stuck
def fStarts : AV → List AV → Hs → R AV
  | .str a, [.str b], G => .ok (.bl (Txt.startswith a b)) G
  | _, _, _ => .stuck
def fRevM : AV → List AV → Hs → R AV
  | .ref m, [], G => match G[m]? with
    | some (.lst xs) => .ok .non (G.set m (.lst xs.reverse))
    | _ => .stuck
  | _, _, _ => .stuck
theorem opM_rev : OpM K rReverse fRevM := by
  intro W σ H μ G v vs x xs Q hG rv rs q
  match v, vs, rv, rs, q with
  | .ref m, [], rv, rs, q =>
    cases rs
    simp only [fRevM] at q
    cases e1 : G[m]? with
    | none => rw [e1] at q; exact q.elim
    | some o1 =>
      rw [e1] at q
      cases o1 with
      | lst xs =>
        obtain ⟨p1, vs, rfl, hn, hH, rz⟩ := mut_ok hG rv e1
        have gp : Gr H μ (upd H p1 (.lst vs.reverse)) μ := Gr.put hG hn e1
        exact ⟨p1, vs, rfl, rfl, hH, q _ μ _ gp (hG.put (o := .lst xs.reverse) hn e1 ⟨_, upd_same, rz.rev.gr gp⟩) .non⟩
      | _ => exact q.elim
/-- the turns of the inner walk, as the layer asks for them -/
theorem lcIn_go {S own : List Nat} {g : MG} (hS : ∀ j ∈ S, j ∈ own) {γ δ : Type} {rel' : Rel γ δ} {σ σ' : St} {H0 H4 : Hp} {μ0 μ4 : Mu} {G4 : Hs} {ρ : En} {k1 : Wk} {J1 : It} {n : Nat} {D : Addr} {kont : Unit → Hs → R γ} {Q : δ → Hp → Prop} {Nx : Hp → Prop}
    (hσ : RS K H4 μ4 ρ σ) (g04 : Gr H0 μ0 H4 μ4) (hD : Num μ4 (n) D) (hG : RH K H4 μ4 G4) (ok : ItOk K J1 k1 H4 μ4)
    (h : Po K rel' W σ' H4 μ4 ((lcF k1.2 g t m n (wipeA ρ own) k1.1 G4).bind kont) Q) (hN : ∀ H μ G, Gr H0 μ0 H μ → RH K H μ G → Po K rel' W σ' H μ (kont () G) Q → Nx H) :
    ∃ W1 : Nat → Nat → Hp → Prop, (∃ mm, W1 0 mm H4) ∧ ∀ j kk H, W1 j kk H → (J1.stop j H ∧ Nx H) ∨ (J1.go j H ∧ ∃ Nx1 : Hp → Prop, (∀ H', Nx1 H' → ∃ k', k' < kk ∧ W1 (j + 1) k' H') ∧
      ∀ x H', J1.yld j H x H' → tT K WN S g x (L2.wipe σ own) H' fun σ3 H5 => L2.wipe σ3 own = L2.wipe σ own ∧ tG K rB WN t σ3 H5 fun b H6 =>
        if b = true then tG K (rA K) WN m σ3 H6 fun y H7 => ∃ acc, H7 D = some (.lst acc) ∧ acc.length < sizeLine ∧ Nx1 (upd H7 D (.lst (acc ++ [y]))) else Nx1 H6) := by
  have hw := hσ.wipe own
  refine ⟨fun i mm H => mm = k1.1.length - i ∧ i ≤ k1.1.length ∧ ∃ μ G, Gr H4 μ4 H μ ∧ RH K H μ G ∧ Po K rel' W σ' H μ ((lcF k1.2 g t m n (wipeA ρ own) (k1.1.drop i) G).bind kont) Q,
    ⟨k1.1.length, rfl, Nat.zero_le _, _, _, Gr.refl _ _, hG, h⟩, ?_⟩
  rintro i mm H2 ⟨rfl, hi2, μ2, G2, g2, hG2, h2⟩
  by_cases hlt : i < k1.1.length
  · rw [List.drop_eq_getElem_cons hlt] at h2
    simp only [lcF] at h2
    by_cases hgd : gdOk k1.2 G2
    · rw [if_pos hgd] at h2
      obtain ⟨go, yl⟩ := (ok i H2 μ2 G2 g2 hG2 hgd).1 _ (List.getElem?_eq_getElem hlt)
      refine .inr ⟨go, fun H' => ∃ μ G, Gr H4 μ4 H' μ ∧ RH K H' μ G ∧ Po K rel' W σ' H' μ ((lcF k1.2 g t m n (wipeA ρ own) (k1.1.drop (i + 1)) G).bind kont) Q,
        fun H' z => ⟨k1.1.length - (i + 1), by omega, rfl, hlt, z⟩, fun x H' y => ?_⟩
      obtain ⟨g3, hG3, rx⟩ := yl x H' y
      have g13 := g2.trans g3
      refine ⟨_, wipeA ρ own, μ2, G2, rx, hw.gr g13, hG3, ?_⟩
      have h3 := Po.gr g3 h2
      cases e3 : g k1.1[i] (wipeA ρ own) G2 with
      | stuck => rw [e3] at h3; exact h3
      | exc c d G' => rw [e3] at h3; exact h3
      | ok ρ5 G5 =>
        rw [e3] at h3
        simp only at h3
        intro H5 μ5 σ5 g5 hG5 hσ5 l5 j5
        have h5 := Po.gr g5 h3
        have g15 := g13.trans g5
        refine ⟨(wipe_eq hS l5 j5).trans wipe_wipe, ρ5, μ5, G5, hσ5, hG5, ?_⟩
        cases e4 : t ρ5 G5 with
        | stuck => rw [e4] at h5; exact h5
        | exc c d G' => rw [e4] at h5; exact h5.elim
        | ok b G6 =>
          rw [e4] at h5
          intro H6 μ6 b' g6 hG6 eb
          have eb : b = b' := eb
          subst eb
          have h6 := Po.gr g6 h5
          have g16 := g15.trans g6
          cases b with
          | false => exact iteF ⟨μ6, G6, g16, hG6, h6⟩
          | true =>
            refine iteT ⟨ρ5, μ6, G6, hσ5.gr g6, hG6, ?_⟩
            simp only at h6
            cases e6 : m ρ5 G6 with
            | stuck => rw [e6] at h6; exact h6
            | exc c d G' => rw [e6] at h6; exact h6.elim
            | ok y G7 =>
              rw [e6] at h6
              simp only at h6
              intro H7 μ7 y' g7 hG7 ry
              have h7 := Po.gr g7 h6
              have g17 := g16.trans g7
              have hDn7 : Num μ7 (n) D := hD.gr g17
              obtain ⟨ob, ho, ro⟩ := hG7.obj hDn7
              rw [ho] at h7
              cases ob with
              | lst acc =>
                simp only at h7
                obtain ⟨vs, hv, rs⟩ := ro
                by_cases hz : acc.length < szl
                · rw [if_pos hz] at h7
                  have gp : Gr H7 μ7 (upd H7 D (.lst (vs ++ [y']))) μ7 := Gr.put hG7 hDn7 ho
                  exact ⟨vs, hv, by rw [← rs.length]; exact hz, μ7, _, g17.trans gp, hG7.put (o := .lst (acc ++ [y])) hDn7 ho ⟨_, upd_same, (rs.app (.cons ry .nil)).gr gp⟩, Po.gr gp h7⟩
                · rw [if_neg hz] at h7
                  exact h7.elim
              | _ => exact h7.elim
    · rw [if_neg hgd] at h2
      exact h2.elim
  · have ei : i = k1.1.length := by omega
    rw [List.drop_eq_nil_of_le (by omega)] at h2
    simp only [lcF] at h2
    by_cases hgd : gdOk k1.2 G2
    · rw [if_pos hgd] at h2
      exact .inl ⟨(ok i H2 μ2 G2 g2 hG2 hgd).2 (by omega), hN H2 μ2 G2 (g04.trans g2) hG2 h2⟩
    · rw [if_neg hgd] at h2
      exact h2.elim
end
end Vz
namespace Vz
open PySem L2
section
variable {X : Cx} {W : WX} {a b c e o tg iter tg1 iter1 elt : Expr} {es rest : List Expr} {m ma mb mc mo : ME} {t t1 : MB} {ms mk : MEs} {pos p apos cpos : Pos} {x : Str} {K : PySem.W.Frag} {g g1 : MG} {mi mi1 : MI}
open Classical in
noncomputable def lc2F (gd : Option (Nat × List AV)) (g : MG) (t : MB) (mi1 : MI) (g1 : MG) (t1 : MB) (own1 : List Nat) (m : ME) (n : Nat) (ρ : En) : List AV → Hs → R Unit
  | [], G => if gdOk gd G then .ok () G else .stuck
  | v :: vs, G => if gdOk gd G then match g v ρ G with
      | .ok ρ1 G1 => match t ρ1 G1 with
        | .ok true G2 => match mi1 ρ1 G2 with
          | .ok k1 G3 => match lcF k1.2 g1 t1 m n (wipeA ρ1 own1) k1.1 G3 with
            | .ok _ G4 => lc2F gd g t mi1 g1 t1 own1 m n ρ vs G4
            | _ => .stuck
          | _ => .stuck
        | .ok false G2 => lc2F gd g t mi1 g1 t1 own1 m n ρ vs G2
        | _ => .stuck
      | _ => .stuck
    else .stuck
noncomputable def mLc2 (mi : MI) (g : MG) (t : MB) (mi1 : MI) (g1 : MG) (t1 : MB) (m : ME) (own own1 : List Nat) : ME := fun ρ G => (mi ρ G).bind fun k G1 => (lc2F k.2 g t mi1 g1 t1 own1 m G1.length (wipeA ρ own) k.1 (G1 ++ [.lst []])).bind fun _ G2 => .ok (.ref G1.length) G2
theorem lc2_go {S own S1 own1 : List Nat} (hS : ∀ j ∈ S, j ∈ own) (hS1 : ∀ j ∈ S1, j ∈ own1) {σ : St} {H : Hp} {Q : VK} (h : tG K (rA K) W (mLc2 mi g t mi1 g1 t1 m own own1) σ H Q) :
    tLc2 (tI K W mi) (tT K WN S g) (tG K rB WN t) (tI K WN mi1) (tT K WN S1 g1) (tG K rB WN t1) (tG K (rA K) WN m) own own1 σ H Q := by
  obtain ⟨ρ, μ, G, hσ, hG, h⟩ := h
  refine ⟨ρ, μ, G, hσ, hG, ?_⟩
  unfold mLc2 at h
  cases e : mi ρ G with
  | stuck => rw [e] at h; exact h
  | exc c d G1 => rw [e] at h; exact h
  | ok k G1 =>
    rw [e] at h
    simp only [R.bind_ok] at h
    intro H1 μ1 J g1' hG1 ok D hD
    have gD : Gr H1 μ1 (upd H1 D (.lst [])) (μ1 ++ [some D]) := Gr.alloc hD
    have hGD : RH K (upd H1 D (.lst [])) (μ1 ++ [some D]) (G1 ++ [.lst []]) := hG1.alloc hD ⟨[], upd_same, .nil⟩
    have hDn : Num (μ1 ++ [some D]) G1.length D := hG1.fresh D
    have hw := (hσ.gr (g1'.trans gD)).wipe own
    have h0 : Po K (rA K) W σ (upd H1 D (.lst [])) (μ1 ++ [some D]) ((lc2F k.2 g t mi1 g1 t1 own1 m G1.length (wipeA ρ own) k.1 (G1 ++ [.lst []])).bind fun _ G2 => .ok (.ref G1.length) G2) Q := Po.gr (g1'.trans gD) h
    refine ⟨fun i mm H => mm = k.1.length - i ∧ i ≤ k.1.length ∧ ∃ μ G, Gr (upd H1 D (.lst [])) (μ1 ++ [some D]) H μ ∧ RH K H μ G ∧ Po K (rA K) W σ H μ ((lc2F k.2 g t mi1 g1 t1 own1 m G1.length (wipeA ρ own) (k.1.drop i) G).bind fun _ G2 => .ok (.ref G1.length) G2) Q,
      ⟨k.1.length, rfl, Nat.zero_le _, _, _, Gr.refl _ _, hGD, h0⟩, ?_⟩
    rintro i mm H2 ⟨rfl, hi2, μ2, G2, g2, hG2, h2⟩
    have hDn2 : Num μ2 (G1.length) D := hDn.gr g2
    by_cases hlt : i < k.1.length
    · rw [List.drop_eq_getElem_cons hlt] at h2
      simp only [lc2F] at h2
      by_cases hgd : gdOk k.2 G2
      · rw [if_pos hgd] at h2
        obtain ⟨go, yl⟩ := (ok i H2 μ2 G2 (gD.trans g2) hG2 hgd).1 _ (List.getElem?_eq_getElem hlt)
        refine .inr ⟨go, fun H' => ∃ μ G, Gr (upd H1 D (.lst [])) (μ1 ++ [some D]) H' μ ∧ RH K H' μ G ∧ Po K (rA K) W σ H' μ ((lc2F k.2 g t mi1 g1 t1 own1 m G1.length (wipeA ρ own) (k.1.drop (i + 1)) G).bind fun _ G2 => .ok (.ref G1.length) G2) Q,
          fun H' z => ⟨k.1.length - (i + 1), by omega, rfl, hlt, z⟩, fun x H' y => ?_⟩
        obtain ⟨g3, hG3, rx⟩ := yl x H' y
        have g13 := g2.trans g3
        refine ⟨_, wipeA ρ own, μ2, G2, rx, hw.gr g13, hG3, ?_⟩
        have h3 := Po.gr g3 h2
        cases e3 : g k.1[i] (wipeA ρ own) G2 with
        | stuck => rw [e3] at h3; exact h3
        | exc c d G' => rw [e3] at h3; exact h3
        | ok ρ4 G4 =>
          rw [e3] at h3
          simp only at h3
          intro H4 μ4 σ4 g4 hG4 hσ4 l4 j4
          have h4 := Po.gr g4 h3
          have g14 := g13.trans g4
          refine ⟨(wipe_eq hS l4 j4).trans wipe_wipe, ρ4, μ4, G4, hσ4, hG4, ?_⟩
          cases e4 : t ρ4 G4 with
          | stuck => rw [e4] at h4; exact h4
          | exc c d G' => rw [e4] at h4; exact h4.elim
          | ok b G5 =>
            rw [e4] at h4
            intro H5 μ5 b' g5 hG5 eb
            have eb : b = b' := eb
            subst eb
            have h5 := Po.gr g5 h4
            have g15 := g14.trans g5
            cases b with
            | false => exact iteF ⟨μ5, G5, g15, hG5, h5⟩
            | true =>
              refine iteT ⟨ρ4, μ5, G5, hσ4.gr g5, hG5, ?_⟩
              simp only at h5
              cases e6 : mi1 ρ4 G5 with
              | stuck => rw [e6] at h5; exact h5
              | exc c d G' => rw [e6] at h5; exact h5.elim
              | ok k1 G6 =>
                rw [e6] at h5
                simp only at h5
                intro H6 μ6 J1 g6 hG6 ok1
                have h6 := Po.gr g6 h5
                have g16 := g15.trans g6
                refine lcIn_go (Q := Q) (kont := fun _ G => (lc2F k.2 g t mi1 g1 t1 own1 m G1.length (wipeA ρ own) (k.1.drop (i + 1)) G).bind fun _ G2 => .ok (.ref G1.length) G2) (rel' := rA K) (σ' := σ) (n := G1.length) hS1 ((hσ4.gr g5).gr g6) g16 (hDn.gr g16) hG6 ok1 ?_ fun H μ G gg hg hp => ⟨μ, G, gg, hg, hp⟩
                cases e7 : lcF k1.2 g1 t1 m G1.length (wipeA ρ4 own1) k1.1 G6 with
                | stuck => rw [e7] at h6; exact h6
                | exc c d G' => rw [e7] at h6; exact h6.elim
                | ok u G7 => rw [e7] at h6; exact h6
      · rw [if_neg hgd] at h2
        exact h2.elim
    · have ei : i = k.1.length := by omega
      rw [List.drop_eq_nil_of_le (by omega)] at h2
      simp only [lc2F] at h2
      by_cases hgd : gdOk k.2 G2
      · rw [if_pos hgd] at h2
        exact .inl ⟨(ok i H2 μ2 G2 (gD.trans g2) hG2 hgd).2 (by omega), Po.now (v := AV.ref G1.length) h2 hG2 (.ref hDn2)⟩
      · rw [if_neg hgd] at h2
        exact h2.elim
theorem se_lc2 {S S1 vs1 : List Nat} {ifs ifs1 : List Expr} {scope : Scope} {own : List (Str × Nat)} (hc : X.calm = true) (hN : X.N.Nodup) (hi : SI X W tg iter mi) (ok : BlkOk X.N X.env.scope scope own) (hS : ∀ j ∈ S, j ∈ own.map (·.2)) (hv : ∀ i ∈ vs1, i ∈ own.map (·.2)) (hS1 : ∀ j ∈ S1, j ∈ vs1)
    (hg : ∀ (s : Shared) (H : Hp) (C : Addr) (cl : List (Str × Addr)) (fp : List Addr), SG (X.blk s H scope (compEnvC scope cl C X.env) fp) WN S tg g)
    (ht : ∀ (s : Shared) (H : Hp) (C : Addr) (cl : List (Str × Addr)) (fp : List Addr), STs (X.blk s H scope (compEnvC scope cl C X.env) fp) WN ifs t)
    (hi1 : ∀ (s : Shared) (H : Hp) (C : Addr) (cl : List (Str × Addr)) (fp : List Addr), SI (X.blk s H scope (compEnvC scope cl C X.env) fp) WN tg1 iter1 mi1)
    (hg1 : ∀ (s : Shared) (H : Hp) (C : Addr) (cl : List (Str × Addr)) (fp : List Addr), SG (X.blk s H scope (compEnvC scope cl C X.env) fp) WN S1 tg1 g1)
    (ht1 : ∀ (s : Shared) (H : Hp) (C : Addr) (cl : List (Str × Addr)) (fp : List Addr), STs (X.blk s H scope (compEnvC scope cl C X.env) fp) WN ifs1 t1)
    (he : ∀ (s : Shared) (H : Hp) (C : Addr) (cl : List (Str × Addr)) (fp : List Addr), SE (X.blk s H scope (compEnvC scope cl C X.env) fp) WN elt m) (hs : ∀ x, foldedSetIterable iter X.env x = pure x := by intro _; rfl) (hs1 : ∀ env x, foldedSetIterable iter1 env x = pure x := by intro _ _; rfl) :
    SE X W (.ListComp elt [⟨tg, iter, ifs, 0⟩, ⟨tg1, iter1, ifs1, 0⟩] scope pos) (mLc2 mi g t mi1 g1 t1 m (own.map (·.2)) vs1) :=
  PE.imp (pe_lc2 (g := tT X.K WN S g) (tt := tG X.K rB WN t) (wi1 := tI X.K WN mi1) (g1 := tT X.K WN S1 g1) (tt1 := tG X.K rB WN t1) (te := tG X.K (rA X.K) WN m) hc hN hi ok hv hg ht hi1 hg1 ht1 he hs hs1) fun σ H Q h => lc2_go hS hS1 h
end
end Vz
namespace EnT
open PySem PySem.Spec PyProof.Rows L2
open AutoSeq1 (wpAny_loadPart')
theorem new_tup (ta : Addr) (vals : Array Value) (nn : Nat) (dd : Option Addr) (sl : Array (Option Value)) :
    Meets (Builtin.«enumerate.__new__» ⟨[.type "enumerate", .ref ta], []⟩) (fun _ R s => s.heap.get? ta = some { cls := .type "tuple", dict := dd, data := .seq vals nn, slots := sl } ∧
      R (.ok (.ret (.ref (s.heap.push { cls := .type "tuple_iterator", data := .fields #[.ref ta, .int 0 0] }).objs.size)))
        { s with heap := (s.heap.push { cls := .type "tuple_iterator", data := .fields #[.ref ta, .int 0 0] }).push { cls := .type "enumerate", data := .fields #[.none, .bool false, .ref s.heap.objs.size, rawInt 0, .none, .none] } }) :=
  .of_wp fun prog w A R s h0 => by
    obtain ⟨hp, g, d, tk, os⟩ := s
    obtain ⟨hl, h⟩ := h0
    have hsub := sub_enumerate
    have isT : Heap.IsTuple (Shared.heap ⟨hp, g, d, tk, os⟩) ta vals := ⟨_, hl, rfl, nn, rfl⟩
    wp_walk using wpAny_loadPart' hl
    refine wpAny_stack_any fun st => wpAny_pure ?_
    split
    · rename_i c _ _ _ _ _
      cases (c == Value.type "enumerate")
      · wp_walk using wpAny_loadPart' hl, wpAny_pyIter_tuple isT
        exact ⟨_, rfl, h⟩
      · wp_walk using wpAny_loadPart' hl, wpAny_pyIter_tuple isT
        exact ⟨_, rfl, h⟩
    · wp_walk using wpAny_loadPart' hl, wpAny_pyIter_tuple isT
      exact ⟨_, rfl, h⟩
section
variable {prog : Program} {w : World} {A : Around} {E : Value → Shared → Prop} {s : Shared}
theorem call_tup {ta : Addr} {vals : Array Value} {Q : Value → Shared → Prop} (ht : s.heap.IsTuple ta vals)
    (k : ∀ g', IsEnum g' (s.heap.objs.size + 1) s.heap.objs.size 0 .none → g'.IsTupleIter s.heap.objs.size ta 0 → (∀ b o, s.heap.get? b = some o → g'.get? b = some o) → Q (.ref (s.heap.objs.size + 1)) { s with heap := g' }) :
    wpAny (model prog w) A (call (.type "enumerate") [.ref ta]) Q E s := by
  obtain ⟨⟨cc, dd, dt, sl⟩, e1, e2, nn, e3⟩ := ht
  obtain rfl : cc = .type "tuple" := e2
  obtain rfl : dt = .seq vals nn := e3
  refine callType_new F.called_enumerate (by decide) (F.typeCall_enumerate_1 _) (F.newCall_enumerate_1 _) (fun ob => F.args_object_init_2 ob _) F.entry_enumerate_new (new_tup ta vals nn dd sl) ⟨e1, ?_⟩
  have z1 : (s.heap.push { cls := .type "tuple_iterator", data := .fields #[.ref ta, .int 0 0] }).objs.size = s.heap.objs.size + 1 := Heap.size_push ..
  show _ ∧ _
  rw [z1]
  have isE : IsEnum ((s.heap.push { cls := .type "tuple_iterator", data := .fields #[.ref ta, .int 0 0] }).push { cls := .type "enumerate", data := .fields #[.none, .bool false, .ref s.heap.objs.size, rawInt 0, .none, .none] }) (s.heap.objs.size + 1) s.heap.objs.size 0 .none := by
    have z2 := Heap.get?_push_size (s.heap.push { cls := .type "tuple_iterator", data := .fields #[.ref ta, .int 0 0] }) (o := { cls := .type "enumerate", data := .fields #[.none, .bool false, .ref s.heap.objs.size, rawInt 0, .none, .none] }) rfl
    rw [z1] at z2
    exact z2
  exact ⟨⟨_, isE, rfl⟩, k _ isE ⟨_, Heap.get?_push_of_some _ (Heap.get?_push_size _ rfl), rfl, rfl⟩ fun b o q => Heap.get?_push_of_some _ (Heap.get?_push_of_some _ q)⟩
end
theorem endT {P : Program} {w : World} {A : Around} {E : Value → Shared → Prop} {s : Shared} {en ti a : Addr} {i : Nat} {vals : Array Value} {c : Int} {old : Value} {Q : Option Value → Shared → Prop} (hh : A.handled = none) (q1 : IsEnum s.heap en ti c old) (q2 : s.heap.IsTupleIter ti a i) (isT : s.heap.IsTuple a vals)
    (hx : vals[i]? = none) (k : ∀ g', Heap.ExtBut ti s.heap g' → Q none { s with heap := g' }) : wpAny (model P w) A (pyNext (.ref en)) Q E s := by
  have D : Draws P w A.in1 ti [ti, a] i (fun _ _ => False) (fun j h => j = i ∧ h.IsTupleIter ti a i ∧ h.IsTuple a vals) :=
    { live := fun _ _ st => let ⟨o, ho, _⟩ := st.2.1; ⟨o, ho⟩
      frame := fun _ _ _ st hk => ⟨st.1, st.2.1.at fun o q => hk ti (by simp) o q, st.2.2.at fun o q => hk a (by simp) o q⟩
      item := fun j s Q E hj st _ => absurd st.1 (Nat.ne_of_lt hj)
      done := fun s Q E st hE => wpAny_nextOf_tuple_end (show A.in1.handled = none from hh) st.2.1 st.2.2 hx hE }
  exact wpAny_pyNext_enum_endD D q1 ⟨rfl, q2, isT⟩ k
/-- the tuple at a, each item in a new pair -/
def It2 (K : PySem.W.Frag) (a : Addr) : It :=
  ⟨fun i H => ∃ (ys : List V) (y : V), SqT K H a ys ∧ ys[i]? = some y, fun i H v H' => ∃ T y, v = .ref T ∧ H T = none ∧ H' = upd H T (.tup [.int (i : Nat), y]) ∧ ∀ ys, SqT K H a ys → ys[i]? = some y, fun i H => ∃ ys : List V, SqT K H a ys ∧ ys.length ≤ i⟩
theorem turn2 {P : Program} {w : World} {K : PySem.W.Frag} {elts : List Expr} {kk : Nat} {tpos : Pos} (a en ti : Addr) :
    Turn P w K (.Tuple elts kk tpos) (It2 K a) [en, ti] en (fun i h => (∃ old, IsEnum h en ti ((i : Nat) : Int) old) ∧ h.IsTupleIter ti a i ∧ en ≠ ti ∧ a ≠ ti ∧ a ≠ en) where
  mem := by simp
  obj := fun i h st b hb => by
    obtain ⟨⟨old, q1⟩, ⟨o, q2, _, q3⟩, _⟩ := st
    rcases (show b = en ∨ b = ti by simpa using hb) with z | z
    · subst z
      exact ⟨_, q1, fun v q => nomatch q⟩
    · subst z
      exact ⟨o, q2, fun v q => by rw [q3] at q; cases q⟩
  keep := fun i h h' st k => let ⟨⟨old, q1⟩, q2, q3⟩ := st; ⟨⟨old, k en (by simp) _ q1⟩, q2.at fun o q => k ti (by simp) o q, q3⟩
  item := by
    intro X hP hw hK hc i pins s σ H E I hf st hgo
    subst hP hw hK
    obtain ⟨⟨old, q1⟩, q2, n1, n2, n3⟩ := st
    obtain ⟨ys, y, hys, hy⟩ := hgo
    obtain ⟨its, rv, isT, _⟩ := I.tuple hys
    obtain ⟨u, hu, ru⟩ := rv.get hy
    have l1 : en < s.heap.objs.size := Heap.lt_size q1
    have l2 : ti < s.heap.objs.size := let ⟨_, q, _⟩ := q2; Heap.lt_size q
    have hui : its.toArray[i]? = some u := by simpa using hu
    refine wpAny_pyNext_enum_itemD (Draws.tuple (A := X.A.in1) (show X.A.in1.handled = none from I.ok.hd hc) ti a n2 its.toArray) q1 ⟨q2, isT⟩ (Array.getElem?_eq_some_iff.mp hui).1 n1 (by simp [n1, Ne.symm n3]) fun x g' tk hx out sti hT hsz hk => ?_
    obtain rfl : x = u := Option.some.inj (hx.symm.trans hui)
    refine ⟨_, rfl, wpAny_letOwnedTupleGo_enum (s := { s with heap := g', toks := tk + 1 }) out fun g2 isE sb => ?_⟩
    have hT2 : g2.get? s.heap.objs.size = some { cls := .type "tuple", data := .seq #[.int i tk, x] } := (sb.2 _ (Nat.ne_of_gt l1)).trans hT
    have made : ObjOk X.prog X.w (upd H s.heap.objs.size (.tup [.int (i : Nat), y])) g2 s.heap.objs.size (.tup [.int (i : Nat), y]) :=
      ⟨by show 2 ≤ sizeLine; decide, [.int i tk, x], .cons ⟨_, rfl⟩ (.cons ru .nil), ⟨_, hT2, rfl, _, rfl⟩⟩
    have I1 : Inv X pins σ (upd H s.heap.objs.size (.tup [.int (i : Nat), y])) { s with heap := g2, toks := tk + 1 } :=
      I.turnedNew (t' := tk + 1) (ch := [en, ti]) (fun b ob hb q => (sb.2 b fun z => hb (by simp [z])).trans (hk b ob (fun z => hb (by simp [z])) (fun z => hb (by simp [z])) q)) hf (Nat.le_refl _) made
    refine ⟨.ref s.heap.objs.size, _, I1, rfl, ⟨_, y, rfl, I.hok.fresh (Nat.le_refl _), rfl, fun zs hz => by rw [I.tuple_inj hz hys]; exact hy⟩, ⟨⟨x, ?_⟩, sti.1.at fun o q => (sb.2 ti (Ne.symm n1)).trans q, n1, n2, n3⟩, fun b hb => ?_⟩
    · rw [show ((i + 1 : Nat) : Int) = (i : Int) + 1 by omega]
      exact isE
    · have hb' : b < s.heap.objs.size := by
        rcases (show b = en ∨ b = ti by simpa using hb) with z | z
        · rw [z]
          exact l1
        · rw [z]
          exact l2
      rw [upd_ne (Nat.ne_of_lt hb')]
      exact (hf b hb).1
  done := by
    intro X hP hw hK hc i pins s σ H E I hf st hst
    subst hP hw hK
    obtain ⟨⟨old, q1⟩, q2, n1, n2, n3⟩ := st
    obtain ⟨ys, hys, hy⟩ := hst
    obtain ⟨its, rv, isT, _⟩ := I.tuple hys
    obtain ⟨f0, f1, f2, f3, f4, f5⟩ := hf ti (by simp)
    have hl := rv.length
    exact endT (I.ok.hd hc) q1 q2 isT (by simp; omega) fun g' eb => ⟨rfl, I.turned (t' := s.toks) (fun b o hb q => eb b o hb q) f0 f1 f3 f4 f5⟩
  self := fun A i s Q E st h => let ⟨⟨_, q1⟩, _⟩ := st; wpAny_pyIter_enum q1 h
def iEn2 (K : PySem.W.Frag) (ta : TA) : TI := fun σ H R => ta σ H fun vs H1 => ∃ a xs, vs = [.ref a] ∧ ((SqL K H1 a xs ∧ R (Ite K a) H1) ∨ (SqT K H1 a xs ∧ R (It2 K a) H1))
theorem pi_en2 {X : Cx} {e : Expr} {ta : TA} {p pos tpos : Pos} {elts : List Expr} {kk : Nat} (hg : Gl X "enumerate") (hm : X.mg "enumerate" = none) (ha : PA X [e] ta) (hs : starEach [e] X.env = [(false, eval e X.env)] := by rfl) :
    PI X (.Tuple elts kk tpos) (.Call (.Name "enumerate" p) [e] [] pos) (iEn2 X.K ta) := by
  refine ⟨fun pins s σ H R I h => ?_⟩
  refine Call_ (ld_blt I hg hm boot_enumerate (PyProof.Rows.callWith_type1 (thn (ha.run pos pins s σ H _ I h) fun us s1 ⟨vs, H1, I1, r1, q1⟩ => ?_) hs rfl))
  obtain ⟨a, xs, rfl, q⟩ := q1
  cases r1 with
  | cons r rr =>
    cases rr
    cases r
    have fin : ∀ (g' : Heap) (J : It) (St : Nat → Heap → Prop), IsEnum g' (s1.heap.objs.size + 1) s1.heap.objs.size 0 .none → (∀ b o, s1.heap.get? b = some o → g'.get? b = some o) →
        Turn X.prog X.w X.K (.Tuple elts kk tpos) J [s1.heap.objs.size + 1, s1.heap.objs.size] (s1.heap.objs.size + 1) St → St 0 g' → R J H1 → wpAny (model X.prog X.w) X.A (pyIter (.ref (s1.heap.objs.size + 1))) (PIE X pins σ (.Tuple elts kk tpos) R) X.xe { s1 with heap := g' } := fun g' J St isE hk T st hR => by
      have I2 : Inv X pins σ H1 { s1 with heap := g' } := I1.kept (t' := s1.toks) hk
      refine wpAny_pyIter_enum isE ⟨s1.heap.objs.size + 1, [s1.heap.objs.size + 1, s1.heap.objs.size], _, _, H1, rfl, I2, T, st, fun b hb => ?_, hR⟩
      have hle : s1.heap.objs.size ≤ b := by
        rcases (show b = s1.heap.objs.size + 1 ∨ b = s1.heap.objs.size by simpa using hb) with z | z
        · rw [z]
          exact Nat.le_succ _
        · exact Nat.le_of_eq z.symm
      exact I1.fpOk hle (I1.hok.fresh hle)
    rcases q with ⟨hq, hR⟩ | ⟨hq, hR⟩
    · obtain ⟨its, rv, isL, _⟩ := I1.list hq
      exact call_enumerate_list isL.isList fun g' isE hit _ hk => fin g' _ _ isE hk (turn_enum a (s1.heap.objs.size + 1) s1.heap.objs.size) ⟨⟨.none, isE⟩, hit, Nat.succ_ne_self _⟩ hR
    · obtain ⟨its, rv, isT, _⟩ := I1.tuple hq
      have la : a < s1.heap.objs.size := let ⟨_, z, _⟩ := isT; Heap.lt_size z
      exact call_tup isT fun g' isE hit hk => fin g' _ _ isE hk (turn2 a (s1.heap.objs.size + 1) s1.heap.objs.size) ⟨⟨.none, isE⟩, hit, Nat.succ_ne_self _, Nat.ne_of_lt la, Nat.ne_of_lt (Nat.lt_succ_of_lt la)⟩ hR
end EnT
namespace Vz
open PySem L2
def zipE (k : Wk) : Wk := ((List.range k.1.length).zipWith (fun i v => AV.tup [.int (i : Nat), v]) k.1, k.2)
theorem zipE_get {k : Wk} {i : Nat} : (zipE k).1[i]? = k.1[i]?.map fun v => AV.tup [.int (i : Nat), v] := by
  unfold zipE
  rw [List.getElem?_zipWith]
  by_cases h : i < k.1.length
  · rw [List.getElem?_range h, List.getElem?_eq_getElem h]
    rfl
  · rw [List.getElem?_eq_none (by simpa using h), List.getElem?_eq_none (by simpa using h)]
    rfl
theorem zipE_len {k : Wk} : (zipE k).1.length = k.1.length := by
  unfold zipE
  simp
/-- what enumerate walks -/
def enOf (G : Hs) : AV → Option Wk
  | .str _ => none
  | v => (wkOf G v).map zipE
def mEn (m : ME) : MI := fun ρ G => (m ρ G).bind fun v G1 => match enOf G1 v with
  | some k => .ok k G1
  | none => .stuck
section
variable {X : Cx} {W : WX} {e : Expr} {m : ME} {pos p tpos : Pos} {elts : List Expr} {kk : Nat} {K : PySem.W.Frag}
theorem itOk_en {J : It} {k : Wk} {H1 : Hp} {μ1 : Mu} {Sq : Hp → List V → Prop} (hgo : ∀ i H xs x, Sq H xs → xs[i]? = some x → J.go i H) (hst : ∀ i H xs, Sq H xs → xs.length ≤ i → J.stop i H)
    (hy : ∀ i H v H', J.yld i H v H' → ∃ T x, v = .ref T ∧ H T = none ∧ H' = upd H T (.tup [.int (i : Nat), x]) ∧ ∀ xs, Sq H xs → xs[i]? = some x)
    (h : ∀ H μ G, Gr H1 μ1 H μ → RH K H μ G → gdOk k.2 G → ∃ vs, Sq H vs ∧ RAs K H μ k.1 vs) : ItOk K J (zipE k) H1 μ1 := fun i H μ G g hG hgd => by
  obtain ⟨vs, hs, rs⟩ := h H μ G g hG hgd
  refine ⟨fun v hv => ?_, fun hi => hst i H vs hs (by rw [← rs.length]; rw [zipE_len] at hi; exact hi)⟩
  rw [zipE_get] at hv
  obtain ⟨u, hu, rfl⟩ := Option.map_eq_some_iff.mp hv
  obtain ⟨y, hyv, r⟩ := rs.get' hu
  refine ⟨hgo i H vs y hs hyv, fun x H' q => ?_⟩
  obtain ⟨T, z, rfl, hT, rfl, hz⟩ := hy i H x H' q
  have := hz vs hs
  rw [hyv] at this
  cases this
  have gn : Gr H μ (upd H T (.tup [.int (i : Nat), y])) μ := Gr.new hT
  exact ⟨gn, hG.new hT, .tup upd_same (.cons (.int _) (.cons (r.gr gn) .nil))⟩
theorem en_l {a : Addr} {k : Wk} {H1 : Hp} {μ1 : Mu} (h : ∀ H μ G, Gr H1 μ1 H μ → RH K H μ G → gdOk k.2 G → ∃ vs, SqL K H a vs ∧ RAs K H μ k.1 vs) : ItOk K (Ite K a) (zipE k) H1 μ1 :=
  itOk_en (Sq := fun H xs => SqL K H a xs) (fun i H xs x h1 h2 => ⟨xs, x, h1, h2⟩) (fun i H xs h1 h2 => ⟨xs, h1, h2⟩) (fun i H v H' q => q) h
theorem en_t {a : Addr} {k : Wk} {H1 : Hp} {μ1 : Mu} (h : ∀ H μ G, Gr H1 μ1 H μ → RH K H μ G → gdOk k.2 G → ∃ vs, SqT K H a vs ∧ RAs K H μ k.1 vs) : ItOk K (EnT.It2 K a) (zipE k) H1 μ1 :=
  itOk_en (Sq := fun H xs => SqT K H a xs) (fun i H xs x h1 h2 => ⟨xs, x, h1, h2⟩) (fun i H xs h1 h2 => ⟨xs, h1, h2⟩) (fun i H v H' q => q) h
theorem si_enum (hg : Gl X "enumerate") (hm : X.mg "enumerate" = none) (ha : SE X W e m) (hs : starEach [e] X.env = [(false, eval e X.env)] := by rfl) : SI X W (.Tuple elts kk tpos) (.Call (.Name "enumerate" p) [e] [] pos) (mEn m) := by
  refine PI.imp (EnT.pi_en2 hg hm (pa_cons ha pa_nil hs) hs) fun σ H Q ⟨ρ, μ, G, hσ, hG, h⟩ => tI.of hσ hG h (fun v G1 H1 μ1 x k g hG1 r hk q => ?_) fun v G1 => ?_
  · cases r with
    | tup h rs => cases hk; exact ⟨_, _, rfl, .inr ⟨SqT.of h, q _ (en_t fun H μ G g _ _ => ⟨_, SqT.of (g.tup _ _ h), rs.gr g⟩)⟩⟩
    | con h rs => cases hk; exact ⟨_, _, rfl, .inr ⟨h.sq, q _ (en_t fun H μ G g _ _ => ⟨_, h.sq, rs.gr g⟩)⟩⟩
    | lk h rs => cases hk; exact ⟨_, _, rfl, .inl ⟨h.sq, q _ (en_l fun H μ G g _ _ => ⟨_, (h.gr g).sq, rs.gr g⟩)⟩⟩
    | ls h rs => cases hk; exact ⟨_, _, rfl, .inl ⟨h.sq, q _ (en_l fun H μ G g _ _ => ⟨_, (h.gr g).sq, rs.gr g⟩)⟩⟩
    | ref h =>
      rename_i n a'
      obtain ⟨ob, ho, ro⟩ := hG1.obj h
      simp only [enOf, wkOf, ho] at hk
      cases ob with
      | lst xs =>
        cases hk
        obtain ⟨vs, h1, rs⟩ := ro
        refine ⟨_, _, rfl, .inl ⟨SqL.of h1, q _ (en_l fun H μ G g hG hgd => ?_)⟩⟩
        obtain ⟨vs', h2, rs'⟩ := hG.at_ n a' _ (h.gr g) hgd
        exact ⟨vs', SqL.of h2, rs'⟩
      | _ => cases hk
    | _ => cases hk
  · cases e : enOf G1 v with
    | none => exact .inr rfl
    | some k => exact .inl ⟨k, rfl⟩
end
end Vz
namespace Vz
open PySem L2
def AllSh1 (K : PySem.W.Frag) (fd : FuncData) (ps : List Str) : List Shp → Prop
  | [] => True
  | s :: r => Sh K fd ps (s.1 + 1) s.2.1 s.2.2 ∧ AllSh1 K fd ps r
theorem shs_all1 {K : PySem.W.Frag} {fd : FuncData} {ps : List Str} : ∀ {l : List Shp}, AllSh1 K fd ps l → ∀ s ∈ l, Sh K fd ps (s.1 + 1) s.2.1 s.2.2
  | [], _, _, h => nomatch h
  | a :: r, ⟨h1, h2⟩, s, h => by
    rcases List.mem_cons.mp h with e | h
    · rw [e]; exact h1
    · exact shs_all1 h2 s h
end Vz
namespace Vz
open PySem L2
def relab (scope sc0 : Scope) : Scope :=
  { scope with names := scope.names.map fun (n, k) => if (k == .free && sc0.kind == .function && sc0.names.lookup n == some .cell) then (n, .cell) else (n, k) }
theorem relab_eq (scope : Scope) (env : Env) : relabel scope env = relab scope env.scope := rfl
end Vz
namespace Vz
open PySem L2
section
variable {QV : AV → Hs → Prop} {QB : Bool → Hs → Prop} {E : XQ} {G G1 : Hs} {ρ : En} {D : SP} {b t s n : Nat}
theorem Kp.setN {o : AO} (h : Kp b G G1) (l : G.length ≤ n) : Kp b G (G1.set n o) := ⟨by rw [List.length_set]; exact h.le, fun m hb hm => by rw [List.getElem?_set_ne (by omega)]; exact h.at_ m hb hm⟩
theorem Kp.up {c : Nat} (h : Kp 0 G G1) : Kp c G G1 := h.mono (Nat.zero_le _)
theorem Dr.low {G' : Hs} (h : Dr b t s G) (l : G.length ≤ G'.length) (e : ∀ m, m < b → G'[m]? = G[m]?) : Dr b t s G' := by
  obtain ⟨gl, cl, gs, cells, rest, turn, seed, h⟩ := h
  exact ⟨gl, cl, gs, cells, rest, turn, seed, h.kp l e⟩
theorem Dr.setN {o : AO} (h : Dr b t s G) (l : b ≤ n) : Dr b t s (G.set n o) := h.low (by simp) fun m hm => List.getElem?_set_ne (by omega)
theorem Dr.app {o : List AO} (h : Dr b t s G) : Dr b t s (G ++ o) := h.kp (Kp.app 0 _ _)
@[simp] theorem wp_fst (cs : List Str) (f : Str) (mo mv : ME) : (mFst cs f mo mv ρ G).wp D = (mv ρ G).wp (fun u G => (mo ρ G).wp (fun v G => (fSt cs f v u G).wp (fun _ G => D.nx ρ G) D.ex) D.ex) D.ex := by
  unfold mFst
  simp only [wp_toS]
  rfl
theorem st_wp {QU : Unit → Hs → Prop} {cs : List Str} {f c : Str} {fs : List (Str × AV)} {u : AV} (h : G[n]? = some (.ins c fs)) (hc : c ∈ cs) (hl : fs.length < 1000) : (fSt cs f (.ref n) u G).wp QU E = QU () (G.set n (.ins c (putFA f u fs))) := by
  simp only [fSt, h, hc, hl, and_self, if_true, wp_ok]
theorem wp_mkR (r : R AV) (n : Nat) : (mkR r n).wp QV E = r.wp (fun v G => v = .non ∧ QV (.ref n) G) E := by
  cases r with
  | ok v G => cases v <;> simp [mkR, R.wp]
  | exc c d G => rfl
  | stuck => rfl
@[simp] theorem wp_make (cn : Str) (N n m : Nat) (gA : List AV → List AV → List AV) (F : List AV → Hs → R AV) (ms mk : MEs) : (mMake cn N n m gA F ms mk ρ G).wp QV E =
    (ms ρ G).wp (fun xs G => (mk ρ G).wp (fun ys G => (xs.length = n ∧ ys.length = m ∧ (gA (.ref G.length :: xs) ys).length = N) ∧ (F (gA (.ref G.length :: xs) ys) (G ++ [.ins cn []])).wp (fun v G1 => v = .non ∧ QV (.ref G.length) G1) E) E) E := by
  unfold mMake
  simp only [wp_bind]
  congr 1
  funext xs G
  congr 1
  funext ys G
  rw [wp_guard, wp_mkR]
@[simp] theorem wp_meth (cn mn : Str) (N n m : Nat) (gA : List AV → List AV → List AV) (F : List AV → Hs → R AV) (mo : ME) (ms mk : MEs) : (mMeth cn mn N n m gA F mo ms mk ρ G).wp QV E =
    (mo ρ G).wp (fun v G => insOf cn mn G v = true ∧ (ms ρ G).wp (fun xs G => (mk ρ G).wp (fun ys G => (xs.length = n ∧ ys.length = m ∧ (gA (v :: xs) ys).length = N) ∧ (F (gA (v :: xs) ys) G).wp QV E) E) E) E := by
  unfold mMeth
  rw [wp_bind]
  congr 1
  funext v G
  rw [wp_guard]
  simp only [wp_bind, wp_guard]
@[simp] theorem wp_aug (i : Nat) (f : AV → AV → Hs → R AV) (m : ME) : (mAug i f m ρ G).wp D = (match ρ[i]? with
  | some (some v) => (m ρ G).wp (fun w G => (f v w G).wp (fun u G => D.nx (ρ.set i (some u)) G) D.ex) D.ex
  | _ => False) := by
  unfold mAug
  cases ρ[i]? with
  | none => rfl
  | some o =>
    cases o with
    | none => rfl
    | some v =>
      simp only [wp_toS]
      rfl
@[simp] theorem wp_en {QW : Wk → Hs → Prop} (m : ME) : (mEn m ρ G).wp QW E = (m ρ G).wp (fun v G => match enOf G v with
  | some k => QW k G
  | none => False) E := by
  unfold mEn
  rw [wp_bind]
  congr 1
  funext v G
  cases enOf G v <;> rfl
theorem wp_appL {xs : List AV} {y : AV} (h : G[n]? = some (.lst xs)) : (fApp (.ref n) [y] G).wp QV E = (xs.length < szl ∧ QV .non (G.set n (.lst (xs ++ [y])))) := by
  simp only [fApp, h]
  exact wp_guard _
theorem isL_L {xs : List AV} (h : G[n]? = some (.lst xs)) : isL (.ref n) G = true := by
  simp only [isL, lstOf, h]
  rfl
theorem wp_ixT {xs : List AV} {i : Int} {w : AV} (h0 : 0 ≤ i) (h1 : i < xs.length) (e : xs[i.toNat]? = some w) : (fIx (.tup xs) (.int i) G).wp QV E = QV w G := by
  have e1 : seqOf G (.tup xs) = some xs := rfl
  simp only [fIx, e1, atI_in h0 h1, e, wp_ok]
theorem ixT0 {a : AV} {r : List AV} : (fIx (.tup (a :: r)) (.int 0) G).wp QV E = QV a G := wp_ixT (by decide) (by simp only [List.length_cons]; omega) rfl
theorem ixT1 {a0 a : AV} {r : List AV} : (fIx (.tup (a0 :: a :: r)) (.int 1) G).wp QV E = QV a G := wp_ixT (by decide) (by simp only [List.length_cons]; omega) rfl
theorem ixT2 {a0 a1 a : AV} {r : List AV} : (fIx (.tup (a0 :: a1 :: a :: r)) (.int 2) G).wp QV E = QV a G := wp_ixT (by decide) (by simp only [List.length_cons]; omega) rfl
theorem ixT3 {a0 a1 a2 a : AV} {r : List AV} : (fIx (.tup (a0 :: a1 :: a2 :: a :: r)) (.int 3) G).wp QV E = QV a G := wp_ixT (by decide) (by simp only [List.length_cons]; omega) rfl
theorem ixT4 {a0 a1 a2 a3 a : AV} {r : List AV} : (fIx (.tup (a0 :: a1 :: a2 :: a3 :: a :: r)) (.int 4) G).wp QV E = QV a G := wp_ixT (by decide) (by simp only [List.length_cons]; omega) rfl
theorem ixT5 {a0 a1 a2 a3 a4 a : AV} {r : List AV} : (fIx (.tup (a0 :: a1 :: a2 :: a3 :: a4 :: a :: r)) (.int 5) G).wp QV E = QV a G := wp_ixT (by decide) (by simp only [List.length_cons]; omega) rfl
theorem ixT6 {a0 a1 a2 a3 a4 a5 a : AV} {r : List AV} : (fIx (.tup (a0 :: a1 :: a2 :: a3 :: a4 :: a5 :: a :: r)) (.int 6) G).wp QV E = QV a G := wp_ixT (by decide) (by simp only [List.length_cons]; omega) rfl
/-- all but the object n stand as they stood -/
structure FrN (n : Nat) (G G' : Hs) : Prop where
  le : G.length ≤ G'.length
  at_ : ∀ m, m ≠ n → m < G.length → G'[m]? = G[m]?
theorem FrN.refl : FrN n G G := ⟨Nat.le_refl _, fun _ _ _ => rfl⟩
theorem FrN.app {o : List AO} {G' : Hs} (h : FrN n G G') : FrN n G (G' ++ o) := ⟨by rw [List.length_append]; have := h.le; omega, fun m hm hl => (List.getElem?_append_left (Nat.lt_of_lt_of_le hl h.le)).trans (h.at_ m hm hl)⟩
theorem FrN.set {o : AO} {G' : Hs} (h : FrN n G G') : FrN n G (G'.set n o) := ⟨by rw [List.length_set]; exact h.le, fun m hm hl => (List.getElem?_set_ne fun e => hm e.symm).trans (h.at_ m hm hl)⟩
theorem FrN.kp {G' : Hs} (h : FrN n (G ++ [o]) G') (e : n = G.length) : Kp 0 G G' := ⟨by have := h.le; rw [List.length_append] at this; omega, fun m _ hm => (h.at_ m (by omega) (by rw [List.length_append]; omega)).trans (List.getElem?_append_left hm)⟩
theorem lc2F_pure {gd : Option (Nat × List AV)} {g g1 : MG} {t t1 : MB} {mi1 : MI} {m : ME} {own1 : List Nat} {w1 : AV → List AV} {y : AV → AV → AV} : ∀ (vs acc : List AV), (∀ acc, gdOk gd (G ++ [.lst acc])) → acc.length + (vs.flatMap w1).length ≤ szl →
    (∀ v ∈ vs, ∀ acc, ∃ ρ1 gd1, g v ρ (G ++ [.lst acc]) = .ok ρ1 (G ++ [.lst acc]) ∧ t ρ1 (G ++ [.lst acc]) = .ok true (G ++ [.lst acc]) ∧ mi1 ρ1 (G ++ [.lst acc]) = .ok (w1 v, gd1) (G ++ [.lst acc]) ∧ (∀ acc, gdOk gd1 (G ++ [.lst acc])) ∧
      ∀ u ∈ w1 v, ∀ acc, ∃ ρ2, g1 u (wipeA ρ1 own1) (G ++ [.lst acc]) = .ok ρ2 (G ++ [.lst acc]) ∧ t1 ρ2 (G ++ [.lst acc]) = .ok true (G ++ [.lst acc]) ∧ m ρ2 (G ++ [.lst acc]) = .ok (y v u) (G ++ [.lst acc])) →
    lc2F gd g t mi1 g1 t1 own1 m G.length ρ vs (G ++ [.lst acc]) = .ok () (G ++ [.lst (acc ++ vs.flatMap fun v => (w1 v).map (y v))])
  | [], acc, hg, hl, hb => by
    simp only [lc2F]
    rw [if_pos (hg acc)]
    simp
  | v :: vs, acc, hg, hl, hb => by
    obtain ⟨ρ1, gd1, e1, e2, e3, e4, e5⟩ := hb v (List.mem_cons_self ..) acc
    simp only [lc2F]
    rw [if_pos (hg acc), e1]
    simp only [e2, e3]
    rw [List.flatMap_cons, List.length_append] at hl
    have e6 := lcF_pure (G := G) (ρ := wipeA ρ1 own1) (gd := gd1) (g := g1) (t := t1) (m := m) (p := fun _ => true) (y := y v) (w1 v) acc e4 (by omega) fun u hu acc => by
      obtain ⟨ρ2, q1, q2, q3⟩ := e5 u hu acc
      exact ⟨ρ2, q1, q2, fun _ => q3⟩
    have hf : (w1 v).filter (fun _ => true) = w1 v := List.filter_eq_self.mpr fun _ _ => rfl
    rw [hf] at e6
    rw [e6]
    simp only
    rw [lc2F_pure vs _ hg (by rw [List.length_append, List.length_map]; omega) fun v hv => hb v (List.mem_cons_of_mem _ hv), List.flatMap_cons, List.append_assoc]
theorem wp_lc2P {mi mi1 : MI} {g g1 : MG} {t t1 : MB} {m : ME} {own own1 : List Nat} (w1 : AV → List AV) (y : AV → AV → AV) (h : (mi ρ G).wp (fun k G => (k.1.flatMap w1).length ≤ szl ∧ gdOk k.2 G ∧
      (∀ v ∈ k.1, ∀ acc, ∃ ρ1 gd1, g v (wipeA ρ own) (G ++ [.lst acc]) = .ok ρ1 (G ++ [.lst acc]) ∧ t ρ1 (G ++ [.lst acc]) = .ok true (G ++ [.lst acc]) ∧ mi1 ρ1 (G ++ [.lst acc]) = .ok (w1 v, gd1) (G ++ [.lst acc]) ∧ (∀ acc, gdOk gd1 (G ++ [.lst acc])) ∧
        ∀ u ∈ w1 v, ∀ acc, ∃ ρ2, g1 u (wipeA ρ1 own1) (G ++ [.lst acc]) = .ok ρ2 (G ++ [.lst acc]) ∧ t1 ρ2 (G ++ [.lst acc]) = .ok true (G ++ [.lst acc]) ∧ m ρ2 (G ++ [.lst acc]) = .ok (y v u) (G ++ [.lst acc])) ∧
      QV (.ref G.length) (G ++ [.lst (k.1.flatMap fun v => (w1 v).map (y v))])) E) : (mLc2 mi g t mi1 g1 t1 m own own1 ρ G).wp QV E := by
  unfold mLc2
  rw [wp_bind]
  refine h.mono (fun k G ⟨hl, hg, hb, hq⟩ => ?_) fun _ _ _ x => x
  have hg' : ∀ acc, gdOk k.2 (G ++ [.lst acc]) := fun acc => by
    cases e : k.2 with
    | none => exact True.intro
    | some q =>
      obtain ⟨n, xs⟩ := q
      rw [e] at hg
      exact (List.getElem?_append_left (List.getElem?_eq_some_iff.mp hg).1).trans hg
  rw [lc2F_pure k.1 [] hg' (by simpa using hl) hb]
  exact hq
theorem rg1_ok {m : ME} {n : Int} {G0 : Hs} (h : m ρ G = .ok (.int n) G0) (h0 : -(2 ^ 62) ≤ n) (h1 : n < 2 ^ 62) : mRg1 m ρ G = .ok (rgA 0 n, none) G0 := by
  unfold mRg1
  rw [h]
  exact if_pos ⟨h0, h1⟩
theorem wk_ok {m : ME} {v : AV} {k : Wk} {G0 : Hs} (h : m ρ G = .ok v G0) (e : wkOf G0 v = some k) : mWk m ρ G = .ok k G0 := by
  unfold mWk
  rw [h]
  show (match wkOf G0 v with
    | some k => R.ok k G0
    | none => .stuck) = _
  rw [e]
theorem en_ok {m : ME} {v : AV} {k : Wk} {G0 : Hs} (h : m ρ G = .ok v G0) (e : enOf G0 v = some k) : mEn m ρ G = .ok k G0 := by
  unfold mEn
  rw [h]
  show (match enOf G0 v with
    | some k => R.ok k G0
    | none => .stuck) = _
  rw [e]
theorem wp_forK {mi : MI} {g : MG} {b : MS} {k : Wk} {G0 : Hs} (hk : mi ρ G = .ok k G0) (I : Nat → En → Hs → Prop) (h0 : I 0 ρ G0) (hg : ∀ j ρ G, j ≤ k.1.length → I j ρ G → gdOk k.2 G)
    (hs : ∀ j v ρ G, k.1[j]? = some v → I j ρ G → MG.wp (g v ρ G) { D with nx := fun ρ1 G1 => (b ρ1 G1).wp { nx := I (j + 1), rt := D.rt, bk := D.nx, ct := I (j + 1), ex := D.ex } })
    (he : ∀ ρ G, I k.1.length ρ G → D.nx ρ G) : (mFor mi g b ρ G).wp D := by
  refine wp_for I ?_
  rw [hk]
  exact ⟨h0, hg, hs, he⟩
theorem wp_lcK {mi : MI} {g : MG} {t : MB} {m : ME} {own : List Nat} {k : Wk} {G0 : Hs} (hk : mi ρ G = .ok k G0) (I : Nat → List AV → Hs → Prop) (h0 : I 0 [] (G0 ++ [.lst []])) (hg : ∀ j acc G, j ≤ k.1.length → I j acc G → gdOk k.2 G)
    (hs : ∀ j v acc G, k.1[j]? = some v → I j acc G → G[G0.length]? = some (.lst acc) → ∃ ρ1 G1, g v (wipeA ρ own) G = .ok ρ1 G1 ∧ (t ρ1 G1).wp (fun b G2 => if b = true then
        (m ρ1 G2).wp (fun y G3 => G3[G0.length]? = some (.lst acc) ∧ acc.length < szl ∧ I (j + 1) (acc ++ [y]) (G3.set G0.length (.lst (acc ++ [y])))) noX else G2[G0.length]? = some (.lst acc) ∧ I (j + 1) acc G2) noX)
    (he : ∀ acc G, G[G0.length]? = some (.lst acc) → I k.1.length acc G → QV (.ref G0.length) G) : (mLc mi g t m own ρ G).wp QV E := by
  refine wp_lc I ?_
  rw [hk]
  exact ⟨h0, hg, hs, he⟩
theorem wp_lc2PK {mi mi1 : MI} {g g1 : MG} {t t1 : MB} {m : ME} {own own1 : List Nat} {k : Wk} {G0 : Hs} (hk : mi ρ G = .ok k G0) (w1 : AV → List AV) (y : AV → AV → AV) (hl : (k.1.flatMap w1).length ≤ szl) (hg : gdOk k.2 G0)
    (hb : ∀ v ∈ k.1, ∀ acc, ∃ ρ1 gd1, g v (wipeA ρ own) (G0 ++ [.lst acc]) = .ok ρ1 (G0 ++ [.lst acc]) ∧ t ρ1 (G0 ++ [.lst acc]) = .ok true (G0 ++ [.lst acc]) ∧ mi1 ρ1 (G0 ++ [.lst acc]) = .ok (w1 v, gd1) (G0 ++ [.lst acc]) ∧ (∀ acc, gdOk gd1 (G0 ++ [.lst acc])) ∧
        ∀ u ∈ w1 v, ∀ acc, ∃ ρ2, g1 u (wipeA ρ1 own1) (G0 ++ [.lst acc]) = .ok ρ2 (G0 ++ [.lst acc]) ∧ t1 ρ2 (G0 ++ [.lst acc]) = .ok true (G0 ++ [.lst acc]) ∧ m ρ2 (G0 ++ [.lst acc]) = .ok (y v u) (G0 ++ [.lst acc]))
    (hq : QV (.ref G0.length) (G0 ++ [.lst (k.1.flatMap fun v => (w1 v).map (y v))])) : (mLc2 mi g t mi1 g1 t1 m own own1 ρ G).wp QV E := by
  refine wp_lc2P w1 y ?_
  rw [hk]
  exact ⟨hl, hg, hb, hq⟩
end
end Vz
namespace Vz
open PySem L2
section
variable {X : Cx} {W : WX} {a b c e : Expr} {es : List Expr} {m ma mb : ME} {ms : MEs} {pos : Pos} {s : Stmt} {st : MS}
/-- what e tells is not written any more -/
def mFz (m : ME) : ME := fun ρ G => (m ρ G).bind fun v G1 => match v with
  | .ref n => match G1[n]? with
    | some o => match fzV o with
      | some u => .ok u (G1.set n .gone)
      | none => .stuck
    | none => .stuck
  | v => .ok v G1
theorem fz_aft {K : PySem.W.Frag} {σ : St} {H : Hp} {μ : Mu} {G : Hs} {v : AV} {Q : VK} (h : Po K (rA K) W σ H μ ((R.ok v G).bind fun v G1 => match v with
  | .ref n => match G1[n]? with
    | some o => match fzV o with
      | some u => .ok u (G1.set n .gone)
      | none => .stuck
    | none => .stuck
  | v => .ok v G1) Q) : Po K (rA K) W σ H μ (.ok v G) Q := by
  cases v with
  | ref n =>
    simp only [R.bind_ok] at h
    cases e1 : G[n]? with
    | none => rw [e1] at h; exact h.elim
    | some o =>
      rw [e1] at h
      simp only at h
      cases e2 : fzV o with
      | none => rw [e2] at h; exact h.elim
      | some u =>
        rw [e2] at h
        intro H' μ' x g hG r
        cases r with
        | ref hn => exact h H' _ _ (g.trans Gr.fz) hG.fz (RO.fz hG hn e1 e2)
  | _ => exact h
theorem se_fz (h : SE X W e m) : SE X W e (mFz m) := by
  refine PE.imp h fun σ H Q ⟨ρ, μ, G, hσ, hG, h⟩ => ⟨ρ, μ, G, hσ, hG, ?_⟩
  unfold mFz at h
  cases e1 : m ρ G with
  | stuck => rw [e1] at h; exact h
  | exc c d G' => rw [e1] at h; exact h
  | ok v G1 => rw [e1] at h; exact fz_aft h
/-- what name i is is not written any more, behind st -/
def mFzA (i : Nat) (st : MS) : MS := fun ρ G => match st ρ G with
  | .nx ρ1 G1 => match ρ1[i]? with
    | some (some (.ref n)) => match G1[n]? with
      | some o => match fzV o with
        | some u => .nx (ρ1.set i (some u)) (G1.set n .gone)
        | none => .stuck
      | none => .stuck
    | _ => .nx ρ1 G1
  | r => r
theorem ss_fzA {i : Nat} (h : SS X W s st) : SS X W s (mFzA i st) := by
  refine PS.imp h fun D σ H ⟨ρ, μ, G, hσ, hG, h⟩ => ⟨ρ, μ, G, hσ, hG, ?_⟩
  unfold mFzA at h
  cases e1 : st ρ G with
  | nx ρ1 G1 =>
    rw [e1] at h
    simp only at h
    cases e2 : ρ1[i]? with
    | none => rw [e2] at h; exact h
    | some o =>
      rw [e2] at h
      cases o with
      | none => exact h
      | some v =>
        cases v with
        | ref n =>
          simp only at h
          cases e3 : G1[n]? with
          | none => rw [e3] at h; exact h.elim
          | some o =>
            rw [e3] at h
            simp only at h
            cases e4 : fzV o with
            | none => rw [e4] at h; exact h.elim
            | some u =>
              rw [e4] at h
              intro H' μ' σ' g hG' hσ'
              obtain ⟨x, hx, r⟩ := hσ'.at_ i _ e2
              cases r with
              | ref hn =>
                have hs := (hσ'.gr (Gr.fz (n := n) (H := H'))).set (i := i) (RO.fz hG' hn e3 e4)
                have es : σ'.set i (some (.ref _)) = σ' := List.ext_getElem? fun k => by
                  by_cases z : i = k
                  · subst z; rw [List.getElem?_set_self (List.getElem?_eq_some_iff.mp hx).1]; exact hx.symm
                  · rw [List.getElem?_set_ne z]
                rw [es] at hs
                exact h H' _ σ' (g.trans Gr.fz) hG'.fz hs
        | _ => exact h
  | _ => rw [e1] at h; exact h
def mLstI (ms : MEs) : ME := fun ρ G => (ms ρ G).bind fun vs G1 => if vs.length ≤ szl then .ok (.ls vs) G1 else .stuck
theorem ls_new {K : PySem.W.Frag} {H : Hp} {μ : Mu} {G : Hs} {p : Addr} {xs : List AV} {vs : List V} (hG : RH K H μ G) (hp : H p = none) (rs : RAs K H μ xs vs) : RA K (upd H p (.lst vs)) μ (.ls xs) (.ref p) :=
  .ls ⟨upd_same, hG.nmem hp⟩ (rs.gr (Gr.new hp))
theorem se_lstI (h : SA X W es ms) : SE X W (.List es pos) (mLstI ms) := by
  refine PE.imp (pe_lst h) fun σ H Q ⟨ρ, μ, G, hσ, hG, h⟩ => tG.bind hσ hG h fun vs G1 H1 μ1 xs g1 hσ1 hG1 rs h1 => ?_
  by_cases hz : vs.length ≤ szl
  · simp only [if_pos hz] at h1
    exact ⟨by rw [← rs.length]; exact hz, fun p hp => h1 _ _ _ (Gr.new hp) (hG1.new hp) (ls_new hG1 hp rs)⟩
  · simp only [if_neg hz] at h1
    exact h1.elim
/-- a list that was made here -/
def lstM (G : Hs) : AV → Option (List AV)
  | .ls xs => some xs
  | .ref n => match G[n]? with
    | some (.lst xs) => some xs
    | _ => none
  | _ => none
theorem lstM_ok {K : PySem.W.Frag} {H : Hp} {μ : Mu} {G : Hs} {v : AV} {x : V} {xs : List AV} (hG : RH K H μ G) (r : RA K H μ v x) (e : lstM G v = some xs) : ∃ a vs, x = .ref a ∧ H a = some (.lst vs) ∧ RAs K H μ xs vs := by
  cases r with
  | ls h rs => cases e; exact ⟨_, _, rfl, h.1, rs⟩
  | ref h =>
    obtain ⟨o, ho, ro⟩ := hG.obj h
    simp only [lstM, ho] at e
    cases o with
    | lst zs => cases e; obtain ⟨vs, h1, h2⟩ := ro; exact ⟨_, vs, rfl, h1, h2⟩
    | _ => cases e
  | _ => cases e
def fAddI (v w : AV) (G : Hs) : R AV := match lstM G v with
  | none => fAdd v w G
  | some xs => match lstM G w with
    | some ys => if xs.length + ys.length ≤ szl then .ok (.ls (xs ++ ys)) G else .stuck
    | none => .stuck
theorem op2_addI {K : PySem.W.Frag} : Op2 K (rAddA K) fAddI := by
  intro W σ H μ G v w x y Q hG rv rw' q
  unfold fAddI at q
  cases e1 : lstM G v with
  | none => rw [e1] at q; exact op2_add W σ H μ G v w x y Q hG rv rw' q
  | some xs =>
    rw [e1] at q
    simp only at q
    cases e2 : lstM G w with
    | none => rw [e2] at q; exact q.elim
    | some ys =>
      rw [e2] at q
      obtain ⟨hz, q⟩ := po_if q
      obtain ⟨p1, vs, rfl, h1, r1⟩ := lstM_ok hG rv e1
      obtain ⟨p2, ws, rfl, h2, r2⟩ := lstM_ok hG rw' e2
      exact .inr (.inl ⟨p1, p2, vs, ws, rfl, rfl, h1, h2, by rw [← r1.length, ← r2.length]; exact hz, fun p hp => q _ _ _ (Gr.new hp) (hG.new hp) (ls_new hG hp (r1.app r2))⟩)
/-- x += e, of a numbered list too -/
def fIAddI (v w : AV) (G : Hs) : R AV := match v with
  | .ref m => match G[m]?, lstM G w with
    | some (.lst xs), some ys => if xs.length + ys.length ≤ szl then .ok (.ref m) (G.set m (.lst (xs ++ ys))) else .stuck
    | _, _ => .stuck
  | v => fIAdd v w G
/-- list(xs), inline -/
def fListI : List AV → Hs → R AV
  | [v], G => match seqOf G v with
    | some xs => .ok (.ls xs) G
    | none => .stuck
  | _, _ => .stuck
theorem opN_listI {K : PySem.W.Frag} : OpN K (fun xs H Q => ∃ p ys, xs = [.ref p] ∧ (SqL K H p ys ∨ SqT K H p ys) ∧ ∀ l, H l = none → Q (.ref l) (upd H l (.lst ys))) fListI := by
  intro W σ H μ G vs xs Q hG rs q
  match vs, rs, q with
  | [v], rs, q =>
    obtain ⟨y, rfl, r⟩ := rs.one
    simp only [fListI] at q
    cases e : seqOf G v with
    | none => rw [e] at q; exact q.elim
    | some zs =>
      rw [e] at q
      obtain ⟨a, ws, rfl, hs, rt⟩ := seqOf_ok hG r e
      exact ⟨a, ws, rfl, hs, fun l hl => q _ _ _ (Gr.new hl) (hG.new hl) (ls_new hG hl rt)⟩
end
section
variable {QV : AV → Hs → Prop} {E : XQ} {G G1 : Hs} {ρ : En} {D : SP}
/-- what a number becomes -/
def fzQ (QV : AV → Hs → Prop) (v : AV) (G : Hs) : Prop := match v with
  | .ref n => match G[n]? with
    | some o => match fzV o with
      | some u => QV u (G.set n .gone)
      | none => False
    | none => False
  | v => QV v G
@[simp] theorem wp_fz (m : ME) : (mFz m ρ G).wp QV E = (m ρ G).wp (fzQ QV) E := by
  unfold mFz
  rw [wp_bind]
  congr 1
  funext v G
  cases v with
  | ref n =>
    unfold fzQ
    simp only
    cases G[n]? with
    | none => rfl
    | some o =>
      simp only
      cases fzV o <;> rfl
  | _ => rfl
@[simp] theorem fzQ_ls (xs : List AV) : fzQ QV (.ls xs) G = QV (.ls xs) G := rfl
@[simp] theorem fzQ_tup (xs : List AV) : fzQ QV (.tup xs) G = QV (.tup xs) G := rfl
@[simp] theorem fzQ_iv (c ns) (xs : List AV) : fzQ QV (.iv c ns xs) G = QV (.iv c ns xs) G := rfl
@[simp] theorem fzQ_int (i : Int) : fzQ QV (.int i) G = QV (.int i) G := rfl
@[simp] theorem fzQ_str (i : Str) : fzQ QV (.str i) G = QV (.str i) G := rfl
@[simp] theorem fzQ_bl (i : Bool) : fzQ QV (.bl i) G = QV (.bl i) G := rfl
@[simp] theorem fzQ_non : fzQ QV .non G = QV .non G := rfl
theorem fzQ_ref {n : Nat} {o : AO} {u : AV} (h : G[n]? = some o) (e : fzV o = some u) : fzQ QV (.ref n) G = QV u (G.set n .gone) := by
  simp only [fzQ, h, e]
theorem fzQ_lst {n : Nat} {xs : List AV} (h : G[n]? = some (.lst xs)) : fzQ QV (.ref n) G = QV (.ls xs) (G.set n .gone) := fzQ_ref h rfl
theorem fzQ_ins {n : Nat} {c : Str} {fs : List (Str × AV)} (h : G[n]? = some (.ins c fs)) : fzQ QV (.ref n) G = QV (.iv c (fs.map (·.1)) (fs.map (·.2))) (G.set n .gone) := fzQ_ref h rfl
theorem wp_fzA {i : Nat} {st : MS} : (mFzA i st ρ G).wp D = (st ρ G).wp { D with nx := fun ρ1 G1 => match ρ1[i]? with
    | some (some (.ref n)) => match G1[n]? with
      | some o => match fzV o with
        | some u => D.nx (ρ1.set i (some u)) (G1.set n .gone)
        | none => False
      | none => False
    | _ => D.nx ρ1 G1 } := by
  unfold mFzA
  cases st ρ G with
  | nx ρ1 G1 =>
    simp only [SR.wp]
    cases e2 : ρ1[i]? with
    | none => rfl
    | some o =>
      cases o with
      | none => rfl
      | some v =>
        cases v with
        | ref n =>
          simp only
          cases G1[n]? with
          | none => rfl
          | some o =>
            simp only
            cases fzV o <;> rfl
        | _ => rfl
  | _ => rfl
@[simp] theorem wp_lstI (ms : MEs) : (mLstI ms ρ G).wp QV E = (ms ρ G).wp (fun vs G => vs.length ≤ szl ∧ QV (.ls vs) G) E := by
  unfold mLstI
  rw [wp_bind]
  congr 1
  funext vs G
  exact wp_guard _
/-- i is x, then not written any more: an assignment -/
theorem wp_fzSet {i : Nat} {m : ME} (hi : i < ρ.length) : (mFzA i (mAsg m (gNm i)) ρ G).wp D = (mFz m ρ G).wp (fun v G => D.nx (ρ.set i (some v)) G) D.ex := by
  rw [wp_fzA, wp_asg, wp_fz]
  congr 1
  funext v G
  simp only [List.getElem?_set_self hi]
  cases v with
  | ref n =>
    unfold fzQ
    simp only [List.set_set]
  | _ => rfl
theorem wp_addLs {xs ys : List AV} : (fAddI (.ls xs) (.ls ys) G).wp QV E = (xs.length + ys.length ≤ szl ∧ QV (.ls (xs ++ ys)) G) := wp_guard _
theorem wp_addIs {a c : Str} : (fAddI (.str a) (.str c) G).wp QV E = (a.length + c.length ≤ szl ∧ QV (.str (a ++ c)) G) := wp_guard _
theorem wp_iaddIs {a c : Str} : (fIAddI (.str a) (.str c) G).wp QV E = (a.length + c.length ≤ szl ∧ QV (.str (a ++ c)) G) := wp_guard _
theorem ix_ls {xs : List AV} {i : Int} {v : AV} (h0 : 0 ≤ i) (h1 : i < xs.length) (h : xs[i.toNat]? = some v) : (fIx (.ls xs) (.int i) G).wp QV E = QV v G := by
  have e1 : seqOf G (.ls xs) = some xs := rfl
  simp only [fIx, e1, atI_in h0 h1, h, wp_ok]
theorem ixL0 {a : AV} {r : List AV} : (fIx (.ls (a :: r)) (.int 0) G).wp QV E = QV a G := ix_ls (by decide) (by simp only [List.length_cons]; omega) rfl
theorem ixL1 {a0 a : AV} {r : List AV} : (fIx (.ls (a0 :: a :: r)) (.int 1) G).wp QV E = QV a G := ix_ls (by decide) (by simp only [List.length_cons]; omega) rfl
theorem ixL2 {a0 a1 a : AV} {r : List AV} : (fIx (.ls (a0 :: a1 :: a :: r)) (.int 2) G).wp QV E = QV a G := ix_ls (by decide) (by simp only [List.length_cons]; omega) rfl
theorem ixL3 {a0 a1 a2 a : AV} {r : List AV} : (fIx (.ls (a0 :: a1 :: a2 :: a :: r)) (.int 3) G).wp QV E = QV a G := ix_ls (by decide) (by simp only [List.length_cons]; omega) rfl
theorem fld_iv {cs : List Str} {f c : Str} {ns : List Str} {xs : List AV} {v : AV} (hc : c ∈ cs) (h : (ns.zip xs).lookup f = some v) : (fFld cs f (.iv c ns xs) G).wp QV E = QV v G := by
  simp only [fFld, hc, if_true, h, wp_ok]
end
end Vz
namespace Vz
open PySem L2
section
variable {QV : AV → Hs → Prop} {E : XQ} {G G0 G1 G2 : Hs} {ρ : En} {D : SP} {b t s n : Nat}
theorem FrN.kpt (h : FrN n G G1) (k : Kp 0 G1 G2) : FrN n G G2 := ⟨Nat.le_trans h.le k.le, fun m hm hl => (k.at_ m (Nat.zero_le _) (Nat.lt_of_lt_of_le hl h.le)).trans (h.at_ m hm hl)⟩
theorem FrN.kp0 {o : AO} (h : FrN G.length (G ++ [o]) G1) : Kp 0 G G1 := h.kp rfl
theorem FrN.trans' (h : FrN n G G1) (k : FrN n G1 G2) : FrN n G G2 := ⟨Nat.le_trans h.le k.le, fun m hm hl => (k.at_ m hm (Nat.lt_of_lt_of_le hl h.le)).trans (h.at_ m hm hl)⟩
theorem Kp.get0 (k : Kp 0 G G1) {o : AO} (e : G[n]? = some o) : G1[n]? = some o := k.get (Nat.zero_le _) e
/-- of items that keep what stands -/
theorem wp_lcG {mi : MI} {g : MG} {tt : MB} {m : ME} {own : List Nat} {vs : List AV} (hk : mi ρ G = .ok (vs, none) G0) (k0 : Kp 0 G G0) (p : AV → Bool) (y : AV → AV) (hl : vs.length ≤ szl)
    (hb : ∀ v ∈ vs, ∀ G1, Kp 0 G0 G1 → ∃ ρ1, g v (wipeA ρ own) G1 = .ok ρ1 G1 ∧ (tt ρ1 G1).wp (fun k G2 => k = p v ∧ Kp 0 G1 G2 ∧ (k = true → (m ρ1 G2).wp (fun r G3 => r = y v ∧ Kp 0 G2 G3) noX)) noX)
    (hq : ∀ G', Kp 0 G G' → QV (.ls ((vs.filter p).map y)) G') : (mFz (mLc mi g tt m own) ρ G).wp QV E := by
  rw [wp_fz]
  refine wp_lcK hk (fun j acc G1 => acc = ((vs.take j).filter p).map y ∧ FrN G0.length (G0 ++ [.lst []]) G1) ⟨by simp, .refl⟩ (fun _ _ _ _ _ => True.intro) (fun j v acc G1 hv ⟨ha, hf⟩ hD => ?_) fun acc G1 hD ⟨ha, hf⟩ => ?_
  · have hv : vs[j]? = some v := hv
    obtain ⟨ρ1, e1, w⟩ := hb v (List.mem_of_getElem? hv) G1 hf.kp0
    refine ⟨ρ1, G1, e1, w.mono (fun k G2 ⟨ek, k2, w2⟩ => ?_) fun _ _ _ x => x⟩
    have hj : j < vs.length := (List.getElem?_eq_some_iff.mp hv).1
    have et : vs.take (j + 1) = vs.take j ++ [v] := by rw [List.take_succ, hv]; rfl
    cases k with
    | false =>
      rw [if_neg (by decide)]
      refine ⟨k2.get0 hD, ?_, hf.kpt k2⟩
      rw [et, List.filter_append, List.filter_cons_of_neg (by rw [← ek]; decide), List.filter_nil, List.append_nil]
      exact ha
    | true =>
      rw [if_pos rfl]
      refine (w2 rfl).mono (fun r G3 ⟨er, k3⟩ => ?_) fun _ _ _ x => x
      have hal : acc.length ≤ j := by
        rw [ha, List.length_map]
        exact Nat.le_trans (List.length_filter_le _ _) (by rw [List.length_take]; omega)
      refine ⟨k3.get0 (k2.get0 hD), by omega, ?_, ((hf.kpt k2).kpt k3).set⟩
      rw [et, List.filter_append, List.filter_cons_of_pos (by rw [← ek]), List.filter_nil, List.map_append, ← ha, er]
      rfl
  · show fzQ QV _ _
    rw [fzQ_lst hD, ha, List.take_length]
    exact hq _ (k0.trans (hf.kp0.setN (Nat.le_refl _)))
/-- of all items -/
theorem wp_lcM {mi : MI} {g : MG} {m : ME} {own : List Nat} {vs : List AV} (hk : mi ρ G = .ok (vs, none) G0) (k0 : Kp 0 G G0) (y : AV → AV) (hl : vs.length ≤ szl)
    (hb : ∀ v ∈ vs, ∀ G1, Kp 0 G0 G1 → ∃ ρ1, g v (wipeA ρ own) G1 = .ok ρ1 G1 ∧ (m ρ1 G1).wp (fun r G3 => r = y v ∧ Kp 0 G1 G3) noX)
    (hq : ∀ G', Kp 0 G G' → QV (.ls (vs.map y)) G') : (mFz (mLc mi g mYes m own) ρ G).wp QV E := by
  refine wp_lcG hk k0 (fun _ => true) y hl (fun v hv G1 k => ?_) fun G' k => ?_
  · obtain ⟨ρ1, e, w⟩ := hb v hv G1 k
    exact ⟨ρ1, e, rfl, Kp.refl _ _, fun _ => w⟩
  · rw [List.filter_eq_self.mpr fun _ _ => rfl]
    exact hq G' k
/-- of items that draw -/
theorem wp_lcD {mi : MI} {g : MG} {m : ME} {own : List Nat} {vs : List AV} (hk : mi ρ G = .ok (vs, none) G0) (k0 : Kp b G G0) (hd : Dr b t s G0) (c : Nat) (T : AV → AV → Prop) (hl : vs.length ≤ szl)
    (hb : ∀ j v G1, vs[j]? = some v → Dr b (t + c * j) s G1 → Kp b G0 G1 → ∃ ρ1, g v (wipeA ρ own) G1 = .ok ρ1 G1 ∧ (m ρ1 G1).wp (fun r G2 => T v r ∧ Dr b (t + c * (j + 1)) s G2 ∧ Kp b G1 G2) noX)
    (hq : ∀ (xs : List AV) (G' : Hs), xs.length = vs.length → (∀ (j : Nat) (v r : AV), vs[j]? = some v → xs[j]? = some r → T v r) → Dr b (t + c * vs.length) s G' → Kp b G G' → QV (.ls xs) G') : (mFz (mLc mi g mYes m own) ρ G).wp QV E := by
  rw [wp_fz]
  refine wp_lcK hk (fun j acc G1 => acc.length = j ∧ (∀ (i : Nat) (v r : AV), vs[i]? = some v → acc[i]? = some r → T v r) ∧ Dr b (t + c * j) s G1 ∧ Kp b G0 G1) ⟨rfl, fun i v r _ h => by simp at h, hd.app, Kp.app _ _ _⟩ (fun _ _ _ _ _ => True.intro)
    (fun j v acc G1 hv ⟨ha, hT, hd1, hk1⟩ hD => ?_) fun acc G1 hD ⟨ha, hT, hd1, hk1⟩ => ?_
  · have hv : vs[j]? = some v := hv
    have hj : j < vs.length := (List.getElem?_eq_some_iff.mp hv).1
    obtain ⟨ρ1, e1, w⟩ := hb j v G1 hv hd1 hk1
    refine ⟨ρ1, G1, e1, ?_⟩
    show R.wp _ _ _
    refine w.mono (fun r G3 ⟨er, d3, k3⟩ => ?_) fun _ _ _ x => x
    refine ⟨k3.get hd.bl hD, by omega, by simp [ha], fun i v' r' h1 h2 => ?_, d3.setN hd.bl, (hk1.trans k3).setN (Nat.le_refl _)⟩
    by_cases hi : i < acc.length
    · rw [List.getElem?_append_left hi] at h2
      exact hT i v' r' h1 h2
    · rw [List.getElem?_append_right (by omega)] at h2
      have e0 : i - acc.length = 0 := by
        cases q : i - acc.length with
        | zero => rfl
        | succ z => rw [q] at h2; simp at h2
      rw [e0] at h2
      have ei : i = j := by omega
      subst ei
      rw [hv] at h1
      cases h1
      cases h2
      exact er
  · show fzQ QV _ _
    rw [fzQ_lst hD]
    exact hq acc _ ha hT (hd1.setN hd.bl) (k0.trans (hk1.setN (Nat.le_refl _)))
end
end Vz
namespace Vz
open PySem L2
section
variable {QV : AV → Hs → Prop} {E : XQ} {G G0 G1 G2 : Hs} {ρ : En} {D : SP} {b t s n : Nat}
theorem zAV_of {P : Int → Prop} : ∀ {xs : List AV}, (∀ r ∈ xs, ∃ i, r = .int i ∧ P i) → ∃ l, xs = zAV l ∧ ∀ i ∈ l, P i
  | [], _ => ⟨[], rfl, fun _ h => nomatch h⟩
  | x :: xs, h => by
    obtain ⟨i, rfl, hi⟩ := h x (List.mem_cons_self ..)
    obtain ⟨l, rfl, hl⟩ := zAV_of (xs := xs) fun r hr => h r (List.mem_cons_of_mem _ hr)
    exact ⟨i :: l, rfl, fun j hj => by
      rcases List.mem_cons.mp hj with q | q
      · rw [q]; exact hi
      · exact hl j q⟩
theorem all_of {T : AV → Prop} {vs xs : List AV} (hl : xs.length = vs.length) (h : ∀ (j : Nat) (v r : AV), vs[j]? = some v → xs[j]? = some r → T r) : ∀ r ∈ xs, T r := fun r hr => by
  obtain ⟨j, hj⟩ := List.mem_iff_getElem?.mp hr
  have : j < vs.length := by rw [← hl]; exact (List.getElem?_eq_some_iff.mp hj).1
  exact h j vs[j] r (List.getElem?_eq_getElem this) hj
/-- a slice -/
theorem slI_ok {ma : ME} {ml mh : MO} {xs : List AV} {lo hi : Option Int} (h : ma ρ G = .ok (.ls xs) G) (h1 : ml ρ G = .ok lo G) (h2 : mh ρ G = .ok hi G) : mFz (mSl ma ml mh) ρ G = .ok (.ls (cutA xs lo hi)) (G ++ [.gone]) := by
  unfold mFz mSl
  rw [h]
  simp only [R.bind_ok, h1, h2, fSl, tupOf, lstOf, List.getElem?_concat_length, fzV, List.set_append_right _ _ (Nat.le_refl _), Nat.sub_self, List.set_cons_zero]
theorem var_ok {i : Nat} {v : AV} (h : ρ[i]? = some (some v)) : mVar i ρ G = .ok v G := by
  unfold mVar
  rw [h]
theorem all_ls {bs : List Bool} : (fAll [.ls (bs.map .bl)] G).wp QV E = QV (.bl (bs.all id)) G := by
  simp only [fAll, lstOf, bls_map, wp_ok]
/-- two walks, of items that change nothing -/
theorem wp_lc2I {mi mi1 : MI} {g g1 : MG} {tt t1 : MB} {m : ME} {own own1 : List Nat} {vs : List AV} (hk : mi ρ G = .ok (vs, none) G0) (k0 : Kp 0 G G0) (w1 : AV → List AV) (y : AV → AV → AV) (hl : (vs.flatMap w1).length ≤ szl)
    (hb : ∀ v ∈ vs, ∀ G1, ∃ ρ1, g v (wipeA ρ own) G1 = .ok ρ1 G1 ∧ tt ρ1 G1 = .ok true G1 ∧ mi1 ρ1 G1 = .ok (w1 v, none) G1 ∧
        ∀ u ∈ w1 v, ∀ G1, ∃ ρ2, g1 u (wipeA ρ1 own1) G1 = .ok ρ2 G1 ∧ t1 ρ2 G1 = .ok true G1 ∧ m ρ2 G1 = .ok (y v u) G1)
    (hq : ∀ G', Kp 0 G G' → QV (.ls (vs.flatMap fun v => (w1 v).map (y v))) G') : (mFz (mLc2 mi g tt mi1 g1 t1 m own own1) ρ G).wp QV E := by
  rw [wp_fz]
  refine wp_lc2PK hk w1 y hl True.intro (fun v hv acc => ?_) ?_
  · obtain ⟨ρ1, e1, e2, e3, e4⟩ := hb v hv (G0 ++ [.lst acc])
    exact ⟨ρ1, none, e1, e2, e3, fun _ => True.intro, fun u hu acc => by
      obtain ⟨ρ1', f1, _, _, f4⟩ := hb v hv (G0 ++ [.lst acc])
      exact e4 u hu _⟩
  · rw [fzQ_lst List.getElem?_concat_length]
    exact hq _ (k0.trans ((Kp.app _ _ _).setN (Nat.le_refl _)))
theorem sz0 : (0 ≤ szl) = True := eq_true (by decide)
theorem sz1 : (1 ≤ szl) = True := eq_true (by decide)
theorem sz2 : (2 ≤ szl) = True := eq_true (by decide)
theorem sz3 : (3 ≤ szl) = True := eq_true (by decide)
theorem sz4 : (4 ≤ szl) = True := eq_true (by decide)
theorem sz5 : (5 ≤ szl) = True := eq_true (by decide)
theorem sz6 : (6 ≤ szl) = True := eq_true (by decide)
theorem sz7 : (7 ≤ szl) = True := eq_true (by decide)
theorem sz8 : (8 ≤ szl) = True := eq_true (by decide)
theorem sz9 : (9 ≤ szl) = True := eq_true (by decide)
theorem sz10 : (10 ≤ szl) = True := eq_true (by decide)
theorem sz11 : (11 ≤ szl) = True := eq_true (by decide)
theorem sz12 : (12 ≤ szl) = True := eq_true (by decide)
theorem isS_s (w : Str) : (isS (.str w) G = true) = True := eq_true rfl
theorem isL_ls (xs : List AV) : (isL (.ls xs) G = true) = True := eq_true rfl
theorem in_tupS {w : Str} {xs : List Str} : (fIn (.str w) (.tup (xs.map .str)) G).wp QV E = QV (.bl (xs.any fun y => y == w)) G := by
  unfold fIn
  rw [inB_seq rfl fun z e => by cases e]
  rfl
theorem in_tup2 {w a c : Str} : (fIn (.str w) (.tup [.str a, .str c]) G).wp QV E = QV (.bl ([a, c].any fun y => y == w)) G := in_tupS (xs := [a, c])
theorem nin_tupS {w : Str} {xs : List Str} : (fNin (.str w) (.tup (xs.map .str)) G).wp QV E = QV (.bl (!xs.any fun y => y == w)) G := by
  unfold fNin
  rw [inB_seq rfl fun z e => by cases e]
  rfl
theorem nin_tup2 {w a c : Str} : (fNin (.str w) (.tup [.str a, .str c]) G).wp QV E = QV (.bl (![a, c].any fun y => y == w)) G := nin_tupS (xs := [a, c])
/-- for one name -/
theorem wp_forNm {mi : MI} {x : Nat} {body : MS} {vs : List AV} {gd : Option (Nat × List AV)} (hk : mi ρ G = .ok (vs, gd) G0) (I : Nat → En → Hs → Prop) (h0 : I 0 ρ G0) (hg : ∀ j ρ G, j ≤ vs.length → I j ρ G → gdOk gd G)
    (hs : ∀ j v ρ G, vs[j]? = some v → I j ρ G → (body (ρ.set x (some v)) G).wp { nx := I (j + 1), rt := D.rt, bk := D.nx, ct := I (j + 1), ex := D.ex })
    (he : ∀ ρ G, I vs.length ρ G → D.nx ρ G) : (mFor mi (gNm x) body ρ G).wp D :=
  wp_forK hk I h0 hg (fun j v ρ G e h => by rw [mg_nm]; exact hs j v ρ G e h) he
/-- for one name, over a range from nought -/
theorem wp_forRg {mi : MI} {x : Nat} {body : MS} {lo hi : Int} (hk : mi ρ G = .ok (rgA lo hi, none) G0) (I : Nat → En → Hs → Prop) (h0 : I 0 ρ G0)
    (hs : ∀ (j : Nat) ρ G, lo + j < hi → I j ρ G → (body (ρ.set x (some (.int (lo + j)))) G).wp { nx := I (j + 1), rt := D.rt, bk := D.nx, ct := I (j + 1), ex := D.ex })
    (he : ∀ ρ G, I (hi - lo).toNat ρ G → D.nx ρ G) : (mFor mi (gNm x) body ρ G).wp D :=
  wp_forNm hk I h0 (fun _ _ _ _ _ => True.intro) (fun j v ρ G e h => by obtain ⟨rfl, hj⟩ := rgA_get e; exact hs j ρ G hj h) (fun ρ G h => he ρ G (by rw [rgA_len] at h; exact h))
theorem wp_forR0 {mi : MI} {x : Nat} {body : MS} {n : Nat} (hk : mi ρ G = .ok (rgA 0 n, none) G0) (I : Nat → En → Hs → Prop) (h0 : I 0 ρ G0)
    (hs : ∀ (j : Nat) ρ G, j < n → I j ρ G → (body (ρ.set x (some (.int (j : Nat)))) G).wp { nx := I (j + 1), rt := D.rt, bk := D.nx, ct := I (j + 1), ex := D.ex })
    (he : ∀ ρ G, I n ρ G → D.nx ρ G) : (mFor mi (gNm x) body ρ G).wp D :=
  wp_forRg hk I h0 (fun j ρ G hj h => by rw [Int.zero_add]; exact hs j ρ G (by omega) h) (fun ρ G h => he ρ G (by rw [Int.sub_zero, Int.toNat_natCast] at h; exact h))
end
end Vz
namespace Vz
open PySem PySem.Spec L2 PyProof.Rows
section
variable {X : Cx} {W : WX} {a b c e o i : Expr} {es : List Expr} {m ma mb mo mi : ME} {ms : MEs} {pos : Pos}
/-- a, b, c = e1, e2, e3 : three names -/
def mPar3 (i j l : Nat) (ms : MEs) : MS := fun ρ G => (ms ρ G).toS ρ fun vs G1 => match vs with
  | [u, v, w] => .nx (((ρ.set i (some u)).set j (some v)).set l (some w)) G1
  | _ => .stuck
end
end Vz
namespace Vz
open PySem PySem.Spec L2 PyProof.Rows
end Vz
namespace Vz
open PySem PySem.Spec L2
open PyProof.Rows (AllBare)
/-- an except clause: its class, the slot of its name, what its suite does -/
structure Hd where
  c : Value
  i : Option Nat
  t : TS
end Vz
namespace Vz
open PySem L2
abbrev noW : WX := fun _ _ _ _ => False
/-- an except clause -/
structure HdA where
  c : Str
  i : Option Nat
  m : MS
/-- (class of what is raised, class that the clause names), whether it takes it -/
abbrev XTab := List ((Str × Str) × Bool)
def unA : Option Nat → En → En
  | none, ρ => ρ
  | some i, ρ => ρ.set i none
/-- behind a suite -/
def outH (i : Option Nat) : SR → SR
  | .nx ρ G => .nx (unA i ρ) G
  | .bk ρ G => .bk (unA i ρ) G
  | .ct ρ G => .ct (unA i ρ) G
  | .rt v G => .rt v G
  | .exc _ _ _ _ => .stuck
  | .stuck => .stuck
/-- a clause's class: an own one, or a built-in -/
def hcV (bs : List Str) (K : PySem.W.Frag) (x : Str) : Value := if x ∈ bs then .type x.toString else .ref (ga K x)
def HdA.hd (bs : List Str) (K : PySem.W.Frag) (h : HdA) : Hd := ⟨hcV bs K h.c, h.i, tS K noW h.m⟩
theorem RS.un {K : PySem.W.Frag} {H : Hp} {μ : Mu} {ρ : En} {σ : St} (h : RS K H μ ρ σ) (i : Nat) : RS K H μ (ρ.set i none) (σ.set i none) := h.unset
section
variable {D : SP} {ρ : En} {G : Hs} {tab : XTab} {hs : List HdA} {mb mo : MS}
@[simp] theorem wp_outH (i : Option Nat) (r : SR) : (outH i r).wp D = r.wp { nx := fun ρ G => D.nx (unA i ρ) G, rt := D.rt, bk := fun ρ G => D.bk (unA i ρ) G, ct := fun ρ G => D.ct (unA i ρ) G, ex := fun _ _ _ => False } := by
  cases r <;> rfl
/-- the exceptional end of a statement, with its names -/
def SR.wpx (r : SR) (D : SP) (E : Str → XP → En → Hs → Prop) : Prop := match r with
  | .nx ρ G => D.nx ρ G
  | .rt v G => D.rt v G
  | .bk ρ G => D.bk ρ G
  | .ct ρ G => D.ct ρ G
  | .exc c d ρ G => E c d ρ G
  | .stuck => False
@[simp] theorem wpx_seq (s1 s2 : MS) (E : Str → XP → En → Hs → Prop) : (mSeq s1 s2 ρ G).wpx D E = (s1 ρ G).wpx { D with nx := fun ρ G => (s2 ρ G).wpx D E } E := by
  unfold mSeq
  cases s1 ρ G <;> rfl
@[simp] theorem wpx_nx (E : Str → XP → En → Hs → Prop) : (mNx ρ G).wpx D E = D.nx ρ G := rfl
@[simp] theorem wpx_toS {α : Type} (r : R α) (k : α → Hs → SR) (E : Str → XP → En → Hs → Prop) : (r.toS ρ k).wpx D E = r.wp (fun v G => (k v G).wpx D E) (fun c d G => E c d ρ G) := by cases r <;> rfl
@[simp] theorem wpx_drop (m : ME) (E : Str → XP → En → Hs → Prop) : (mDrop m ρ G).wpx D E = (m ρ G).wp (fun _ G => D.nx ρ G) (fun c d G => E c d ρ G) := wpx_toS _ _ _
@[simp] theorem wpx_ret (m : ME) (E : Str → XP → En → Hs → Prop) : (mRet m ρ G).wpx D E = (m ρ G).wp (fun v G => D.rt v G) (fun c d G => E c d ρ G) := wpx_toS _ _ _
@[simp] theorem wpx_asg (m : ME) (i : Nat) (E : Str → XP → En → Hs → Prop) : (mAsg m (gNm i) ρ G).wpx D E = (m ρ G).wp (fun v G => D.nx (ρ.set i (some v)) G) (fun c d G => E c d ρ G) := wpx_toS _ _ _
theorem swpx_ite {c : Prop} [Decidable c] (a b : SR) (E : Str → XP → En → Hs → Prop) : (if c then a else b).wpx D E = if c then a.wpx D E else b.wpx D E := by split <;> rfl
@[simp] theorem wpx_if (t : MB) (s1 s2 : MS) (E : Str → XP → En → Hs → Prop) : (mIf t s1 s2 ρ G).wpx D E = (t ρ G).wp (fun k G => if k = true then (s1 ρ G).wpx D E else (s2 ρ G).wpx D E) (fun c d G => E c d ρ G) := by
  unfold mIf
  rw [wpx_toS]
  congr 1
  funext k G
  exact swpx_ite _ _ _
end
end Vz
namespace Vz
open PySem PySem.Spec L2
open PyProof.Rows (AllBare)
def XKind (bm : List Value) (n : String) : Prop := (HandSPX.refsVE bm = true ∧ n = "ValueError.__new__") ∨ (bm = ESX.exTail ∧ n = "Exception.__new__")
def xkB (bm : List Value) (n : String) : Bool := (HandSPX.refsVE bm && decide (n = "ValueError.__new__")) || (decide (bm = ESX.exTail) && decide (n = "Exception.__new__"))
theorem xkB_ok {bm : List Value} {n : String} (h : xkB bm n = true) : XKind bm n := by
  unfold xkB at h
  simp only [Bool.or_eq_true, Bool.and_eq_true, decide_eq_true_eq] at h
  exact h
def xcB (K : PySem.W.Frag) (C : Addr) : Bool := match K.lookup C with
  | some ⟨.type "type", _, .cls cd, sl⟩ => match cd.mro, sl.toList with
    | .ref C' :: bm, [_, _, _, _, some (.builtin n), _] => decide (C' = C) && (!cd.hasDel && (cd.hasDict && xkB bm n))
    | _, _ => false
  | _ => false
structure XC (K : PySem.W.Frag) (C : Addr) : Prop where
  cls : ∃ nm q N bs bm sn sub ab col dd k0 k1 k2 k3 k5 n, K.lookup C = some (excClassObj nm q C N bs bm true sn sub ab col dd k0 k1 k2 k3 k5 n) ∧ XKind bm n
  sa : PySem.W.findIn K (.ref C) "__setattr__" = some (some (.builtin "object.__setattr__"))
  exC : PySem.W.subIn K (.ref C) (.type "BaseException") = some true
  tyC : PySem.W.typeIn K (.ref C) = some (.type "type")
  kC : PySem.W.keepIn K (.ref C) = true
theorem xcB_ok {K : PySem.W.Frag} {C : Addr} (h : xcB K C = true) : ∃ nm q N bs bm sn sub ab col dd k0 k1 k2 k3 k5 n, K.lookup C = some (excClassObj nm q C N bs bm true sn sub ab col dd k0 k1 k2 k3 k5 n) ∧ XKind bm n := by
  unfold xcB at h
  split at h
  · rename_i dd cd sl lk
    split at h
    · rename_i C2 bm k0 k1 k2 k3 n k5 em es
      obtain ⟨h1, h⟩ := He.ba h
      obtain ⟨h2, h⟩ := He.ba h
      obtain ⟨h3, h4⟩ := He.ba h
      obtain ⟨nm, bs, mro, ns, qn, hd, sn, sub, ab, col, dl⟩ := cd
      cases sl with
      | mk l =>
        have e1 : C2 = C := of_decide_eq_true h1
        have e2 : dl = false := by simpa using h2
        have e3 : hd = true := h3
        simp only at em es
        subst e1 e2 e3 em es
        exact ⟨nm, qn, ns, bs, bm, sn, sub, ab, col, dd, k0, k1, k2, k3, k5, n, lk, xkB_ok h4⟩
    · cases h
  · cases h
def xcA (C : Addr) (K : PySem.W.Frag) : Bool := xcB K C && (decide (PySem.W.findIn K (.ref C) "__setattr__" = some (some (.builtin "object.__setattr__"))) && (decide (PySem.W.subIn K (.ref C) (.type "BaseException") = some true) &&
  (decide (PySem.W.typeIn K (.ref C) = some (.type "type")) && PySem.W.keepIn K (.ref C))))
theorem xcA_ok {K : PySem.W.Frag} {C : Addr} (h : xcA C K = true) : XC K C := by
  obtain ⟨h1, h⟩ := He.ba h
  obtain ⟨h2, h⟩ := He.ba h
  obtain ⟨h3, h⟩ := He.ba h
  obtain ⟨h4, h5⟩ := He.ba h
  exact ⟨xcB_ok h1, of_decide_eq_true h2, of_decide_eq_true h3, of_decide_eq_true h4, h5⟩
section
variable {X : Cx} {pins : List (Addr × Obj)} {σ : St} {H : Hp} {s : Shared} {a C dx : Addr} {f : Str} {y : V} {u : Value} {fs : List (Str × V)} {Q : Unit → Shared → Prop} {E : Value → Shared → Prop} {A : Around}
abbrev xcd (nm q : Str) (C N : Addr) (bs bm : List Value) (sn : List Str) (sub : List Value) (ab : Bool) (col : Option Bool) : ClassData :=
  { name := nm, bases := bs, mro := .ref C :: bm, ns := N, qualname := q, hasDict := true, slotNames := sn, subclasses := sub, abstract := ab, collection := col, hasDel := false }
theorem first_put (T : XC X.K C) (I : Inv X pins σ H s) (e : H a = some (exo a C none)) (no : PySem.W.findIn X.K (.ref C) f = some none) (ry : RelV y u)
    (h : ∀ dx t, H dx = none → dx ≠ a → Inv X pins σ (upd (upd H dx (exd dx [(f, y)])) a (exo a C (some dx))) t → Q () t) : wpAny (model X.prog X.w) A (setAttr (.ref a) f u) Q E s := by
  obtain ⟨nm, q, N, bs, bm, sn, sub, ab, col, dd, k0, k1, k2, k3, k5, n, lk, kind⟩ := T.cls
  have cl : PySem.W.clsIn X.K C = some (xcd nm q C N bs bm sn sub ab col) := by unfold PySem.W.clsIn; rw [lk] <;> rfl
  obtain ⟨t1, at1⟩ := exo_at I.hok e
  obtain ⟨hp, g, d, tk, os⟩ := s
  have end_ : ∀ (h2 : Heap) (tk2 dx : Nat), (∀ b o, b ≠ a → hp.get? b = some o → h2.get? b = some o) → hp.objs.size ≤ dx → dx ≠ a → h2.get? a = some ({ cls := .ref C, dict := some dx, data := .fields #[.ref t1, .none, .none, .none, .bool false, .none] } : Obj) →
      h2.Ns1 dx (fun z => if z = f then some u else none) → Q () ⟨h2, g, d, tk2, os⟩ := fun h2 tk2 dx keep new ne ga ns => by
    have free : H dx = none := I.hok.fresh new
    have low : ∀ {b : Addr} {o : Obj}, hp.get? b = some o → b ≠ dx := fun {b o} z => Nat.ne_of_lt (Nat.lt_of_lt_of_le (Heap.lt_size z) new)
    have off : ∀ {b : Addr}, H b = none → b ≠ a := fun {b} z w => by rw [w, e] at z; cases z
    have U : Un X.fs [] H (upd (upd H dx (exd dx [(f, y)])) a (exo a C (some dx))) hp h2 := {
      keep := fun b o z n _ _ => keep b o (off n) z
      slot := fun b o z n _ _ => ⟨o.slots, keep b o (off n) z⟩
      free := fun b o z n _ => (upd_ne (off n)).trans ((upd_ne (low z)).trans n)
      there := fun b o z _ => (Classical.em (b = a)).elim (fun w => ⟨_, w ▸ ga⟩) fun w => ⟨o, keep b o w z⟩
      tups := fun b xs z => (upd_ne (at_ne e z exo_tup)).trans ((upd_ne (ne_of_none z free)).trans z)
      frzs := fun b o v z => (upd_ne (at_ne e z exo_frz)).trans ((upd_ne (ne_of_none z free)).trans z)
      tbls := fun b ps z => ⟨#[], by rw [upd_ne (at_ne e z exo_tbl), upd_ne (ne_of_none z free), z, Array.append_empty]⟩ }
    refine h dx _ free ne (I.un (t' := tk2) U fun b o z => ?_)
    by_cases w1 : b = a
    · rw [w1, upd_same] at z
      cases z
      rw [w1]
      exact exo_ok ga
    rw [upd_ne w1] at z
    by_cases w2 : b = dx
    · rw [w2, upd_same] at z
      cases z
      rw [w2]
      exact exd_ok ns (relO_put (fs := []) ry fun _ => trivial)
    rw [upd_ne w2] at z
    refine (I.hok b o z).stay (fun c v m gt => keep c v (fun w => ?_) gt) (fun c m => ?_) fun c xs m => ?_
    · rcases m with m | m
      · exact w1 (m.symm.trans w)
      · exact at_ne e m exo_own w
    · rw [upd_ne (at_ne e m exo_own), upd_ne (ne_of_none m free)]
      exact m
    · rw [upd_ne (at_ne e m exo_tup), upd_ne (ne_of_none m free)]
      exact m
  refine PySem.W.set_plain I.kIn (ox := { cls := .ref C, dict := none, data := .fields #[.ref t1, .none, .none, .none, .bool false, .none] }) (od := none) ⟨at1, rfl, rfl, trivial⟩ T.sa ?_
  rcases kind with ⟨k, _⟩ | ⟨k, _⟩
  · exact HandSPX.exc_osa I.kIn at1 cl (show HandSPX.refsVE (.ref C :: bm) = true from k) rfl no end_
  · exact ESX.osa_new I.kIn at1 cl (congrArg (Value.ref C :: ·) k) rfl no end_
theorem next_put (T : XC X.K C) (I : Inv X pins σ H s) (e : H a = some (exo a C (some dx))) (ed : H dx = some (exd dx fs)) (hl : fs.length ≤ 900) (no : PySem.W.findIn X.K (.ref C) f = some none) (ry : RelV y u)
    (h : ∀ t, Inv X pins σ (upd H dx (exd dx ((f, y) :: fs))) t → Q () t) : wpAny (model X.prog X.w) A (setAttr (.ref a) f u) Q E s := by
  obtain ⟨nm, q, N, bs, bm, sn, sub, ab, col, dd, k0, k1, k2, k3, k5, n, lk, kind⟩ := T.cls
  have cl : PySem.W.clsIn X.K C = some (xcd nm q C N bs bm sn sub ab col) := by unfold PySem.W.clsIn; rw [lk] <;> rfl
  obtain ⟨t1, at1⟩ := exo_at I.hok e
  obtain ⟨mA, ns, rel⟩ := exd_at I.hok ed
  have win := within_of rel
  obtain ⟨hp, g, d, tk, os⟩ := s
  obtain ⟨od, _, _, atd, _, _⟩ := ns.count win
  have few : (fs.map (·.1)).length ≤ 1000 := by rw [List.length_map]; omega
  have end_ : ∀ (h2 : Heap) (tk2 : Nat), (∀ b o, b ≠ dx → hp.get? b = some o → h2.get? b = some o) → h2.Ns1 dx (fun z => if z = f then some u else mA z) → Q () ⟨h2, g, d, tk2, os⟩ := fun h2 tk2 keep ns2 => by
    have there : ∃ o, h2.get? dx = some o := let ⟨o, _, _, z, _⟩ := ns2; ⟨o, z⟩
    exact h _ (I.write (t' := tk2) (x := dx) (e := dx) (o := exd dx ((f, y) :: fs)) (by rw [ed]; trivial) (.inl rfl) keep there (exd_ok ns2 (relO_put ry rel)))
  refine PySem.W.set_plain I.kIn (ox := { cls := .ref C, dict := some dx, data := .fields #[.ref t1, .none, .none, .none, .bool false, .none] }) (od := some od) ⟨at1, rfl, rfl, atd⟩ T.sa ?_
  rcases kind with ⟨k, _⟩ | ⟨k, _⟩
  · exact OEX.osa_old I.kIn at1 ns win few cl (show HandSPX.refsVE (.ref C :: bm) = true from k) rfl no end_
  · exact ESX.osa_old I.kIn at1 ns win few cl (congrArg (Value.ref C :: ·) k) rfl no end_
end
/-- self.f = e within such an __init__ -/
def tPut (K : PySem.W.Frag) (C : Addr) (f : Str) (to te : TE) : TS := fun D σ H => te σ H fun y H1 => to σ H1 fun x H2 => ∃ a : Addr, x = .ref a ∧
  ((H2 a = some (exo a C none) ∧ ∀ dx, H2 dx = none → dx ≠ a → D.nx σ (upd (upd H2 dx (exd dx [(f, y)])) a (exo a C (some dx)))) ∨
    ∃ (dx : Addr) (fs : List (Str × V)), H2 a = some (exo a C (some dx)) ∧ H2 dx = some (exd dx fs) ∧ fs.length ≤ 900 ∧ D.nx σ (upd H2 dx (exd dx ((f, y) :: fs))))
theorem ps_put {X : Cx} {C : Addr} {o e : Expr} {to te : TE} {f : Str} {p' pos : Pos} (T : XC X.K C) (no : PySem.W.findIn X.K (.ref C) f = some none) (ho : PE X o to) (he : PE X e te) (hs : swapsWith e (some (.Attribute o f p')) pos.line X.env = pure false := by rfl) :
    PS X (.Assign [.Attribute o f p'] e pos) (tPut X.K C f to te) := by
  refine ⟨fun pins s σ H D I h => plainObj_wpAny_Assign_Attribute (thn (he.run pins s σ H _ I h) fun v s1 ⟨y, H1, I1, r1, q1⟩ => thn (ho.run pins s1 σ H1 _ I1 q1) fun z s2 ⟨x, H2, I2, r2, a, ex, q⟩ => ?_) hs⟩
  subst ex
  cases (show z = Value.ref a from r2)
  rcases q with ⟨ea, q⟩ | ⟨dx, fs, ea, ed, hl, q⟩
  · exact first_put T I2 ea no r1 fun dx t n ne J => ⟨σ, _, J, q dx n ne⟩
  · exact next_put T I2 ea ed hl no r1 fun t J => ⟨σ, _, J, q⟩
inductive OstB (X : Cx) : List Stmt → List (Str × Nat) → Prop
  | nil : OstB X [] []
  | cons {o e : Expr} {f : Str} {i : Nat} {p' pos : Pos} {body : List Stmt} {fl : List (Str × Nat)} (ho : PE X o (tVar 0)) (he : PE X e (tVar i)) (r : OstB X body fl) (hs : swapsWith e (some (.Attribute o f p')) pos.line X.env = pure false := by rfl) :
      OstB X (.Assign [.Attribute o f p'] e pos :: body) ((f, i) :: fl)
def tPuts (K : PySem.W.Frag) (C : Addr) : List (Str × Nat) → TS
  | [] => tNext
  | p :: r => tSeq (tPut K C p.1 (tVar 0) (tVar p.2)) (tPuts K C r)
def noAt (K : PySem.W.Frag) (C : Addr) (fl : List (Str × Nat)) : Bool := fl.all fun p => decide (PySem.W.findIn K (.ref C) p.1 = some none)
theorem OstB.pss {X : Cx} {C : Addr} (T : XC X.K C) {body : List Stmt} {fl : List (Str × Nat)} (h : OstB X body fl) (no : noAt X.K C fl = true) : PSs X body (tPuts X.K C fl) := by
  induction h with
  | nil => exact pss_nil
  | cons ho he r hs ih =>
    obtain ⟨n1, n2⟩ := He.ba no
    exact pss_cons (ps_put T (of_decide_eq_true n1) ho he hs) (ih n2)
def vfs (fl : List (Str × Nat)) (vs : List V) (fs : List (Str × V)) : List (Str × V) := (fl.map fun p => (p.1, vs.getD p.2 .non)).reverse ++ fs
theorem vfs_cons {p : Str × Nat} {fl : List (Str × Nat)} {vs : List V} {fs : List (Str × V)} : vfs (p :: fl) vs fs = vfs fl vs ((p.1, vs.getD p.2 .non) :: fs) := by
  unfold vfs
  rw [List.map_cons, List.reverse_cons, List.append_assoc, List.singleton_append]
theorem start_at {N : List Str} {vs : List V} {i : Nat} (h : i < vs.length) : (start N vs)[i]? = some (some (vs.getD i .non)) := by
  unfold L2.start
  rw [List.getElem?_append_left (by simpa using h), List.getElem?_map, List.getElem?_eq_getElem h, List.getD_eq_getElem?_getD, List.getElem?_eq_getElem h]
  rfl
theorem puts_on {K : PySem.W.Frag} {C a dx : Addr} {vs : List V} {N : List Str} {D : Ends} (ne : dx ≠ a) (h0 : vs.getD 0 .non = .ref a) (hp : 0 < vs.length) : ∀ (fl : List (Str × Nat)) (fs : List (Str × V)) (H : Hp), (∀ p ∈ fl, p.2 < vs.length) → fs.length + fl.length ≤ 900 →
    H a = some (exo a C (some dx)) → H dx = some (exd dx fs) → (∀ H2, H2 = upd H dx (exd dx (vfs fl vs fs)) → D.nx (start N vs) H2) → tPuts K C fl D (start N vs) H
  | [], fs, H, _, _, ea, ed, q => q H (by funext b; by_cases e : b = dx; (· rw [e, upd_same, ed]; rfl); (· rw [upd_ne e]))
  | p :: fl, fs, H, hl, hn, ea, ed, q => by
    have hn2 : fs.length + (fl.length + 1) ≤ 900 := hn
    refine ⟨_, start_at (hl p (List.mem_cons_self ..)), _, start_at hp, a, h0, .inr ⟨dx, fs, ea, ed, by omega, ?_⟩⟩
    refine puts_on ne h0 hp fl _ _ (fun r m => hl r (List.mem_cons_of_mem _ m)) (by rw [List.length_cons]; omega) (by rw [upd_ne ne.symm]; exact ea) upd_same fun H2 e => q H2 ?_
    rw [e, upd_upd, vfs_cons]
/-- the promise of such an __init__ -/
def xsp (C : Addr) (fl : List (Str × Nat)) (n : Nat) : Sp := fun vs H Q _ => vs.length = n ∧ ∃ a, vs.getD 0 .non = .ref a ∧ H a = some (exo a C none) ∧ ∀ dx, H dx = none → dx ≠ a → Q .non (upd (upd H dx (exd dx (vfs fl vs []))) a (exo a C (some dx)))
theorem fn_x {P : Program} {w : World} {K : PySem.W.Frag} {mg : Str → Option Value} {base : Heap} {x qual : Str} {params : Arguments} {body : List Stmt} {scope : Scope} {dvs : List V} {kws : List (Str × V)} {f C : Addr} {fd : FuncData} {N ps : List Str} {k : Nat} {fl : List (Str × Nat)}
    (Fn : FunD K x qual params body scope dvs kws f fd) (S : FnScope N ps scope) (T : XC K C) (no : noAt K C fl = true) (h0 : (!fl.isEmpty && (decide (0 < ps.length) && (decide (fl.length ≤ 900) && fl.all fun p => decide (p.2 < ps.length)))) = true)
    (hb : ∀ (cdv : Value) (A : Around) (outer : List Env) (s : Shared) (H : Hp) (E : XK), OstB (cxOf (CX P w) P w K mg base N qual scope f cdv A outer s H E) body fl) :
    FnG P w K mg base (CX P w) (k + 1) f fd ps (xsp C fl ps.length) := by
  obtain ⟨b1, h0⟩ := He.ba h0
  obtain ⟨b2, h0⟩ := He.ba h0
  obtain ⟨b3, b4⟩ := He.ba h0
  refine fnG_of Fn S (fun vs H Q E h => h.1) fun cdv A outer s H vs Q E hr ⟨hl, a, e0, ea, q⟩ => ⟨_, (hb cdv A outer s H E).pss T no, ?_⟩
  cases fl with
  | nil => cases b1
  | cons p fl =>
    have hp : 0 < vs.length := by rw [hl]; exact of_decide_eq_true b2
    have h9 : fl.length + 1 ≤ 900 := of_decide_eq_true b3
    have hi : ∀ r ∈ p :: fl, r.2 < vs.length := fun r m => by rw [hl]; exact of_decide_eq_true (List.all_eq_true.mp b4 r m)
    refine ⟨_, start_at (hi p (List.mem_cons_self ..)), _, start_at hp, a, e0, .inl ⟨ea, fun dx n ne => ?_⟩⟩
    refine puts_on ne e0 hp fl [(p.1, vs.getD p.2 .non)] _ (fun r m => hi r (List.mem_cons_of_mem _ m)) (by show 0 + 1 + fl.length ≤ 900; omega) upd_same (by rw [upd_ne ne, upd_same]) fun H2 e => ?_
    have e2 : H2 = upd (upd H dx (exd dx (vfs (p :: fl) vs []))) a (exo a C (some dx)) := by
      rw [e, vfs_cons]
      funext b
      by_cases w1 : b = dx
      · rw [w1, upd_same, upd_ne ne, upd_same]
      · rw [upd_ne w1]
        by_cases w2 : b = a
        · rw [w2, upd_same, upd_same]
        · rw [upd_ne w2, upd_ne w2, upd_ne w1, upd_ne w1]
    exact e2 ▸ q dx n ne
end Vz
namespace Vz
open PySem PySem.Spec L2
open PyProof.Rows (AllBare)
section
variable {X : Cx} {W : WX} {e : Expr} {es : List Expr} {ta : TA} {ms : MEs} {x : Str} {C fI : Addr} {k : Nat} {fd : FuncData} {ps : List Str} {fl : List (Str × Nat)} {p pos : Pos}
/-- C(e, ..): what stands then -/
def tMkX (C : Addr) (fl : List (Str × Nat)) (n : Nat) (ta : TA) : St → Hp → XK → Prop := fun σ H Q => ta σ H fun vs H1 => vs.length + 1 = n ∧ n ≤ 1000 ∧ ∀ d, H1 d = none → Q (.ref C) (some d) (upd H1 d (.xd (vfs fl (.non :: vs) [])))
theorem vfs_self {vs : List V} {a : V} (h : fl.all (fun q => decide (0 < q.2)) = true) : vfs fl (a :: vs) [] = vfs fl (.non :: vs) [] := by
  unfold vfs
  congr 2
  refine List.map_congr_left fun q m => ?_
  have := of_decide_eq_true (List.all_eq_true.mp h q m)
  obtain ⟨f, i⟩ := q
  cases i with
  | zero => cases this
  | succ i => rfl
theorem pmk_x (T : XC X.K C) (iC : PySem.W.findIn X.K (.ref C) "__init__" = some (some (.ref fI))) (tI : PySem.W.typeIn X.K (.ref fI) = some (.type "function")) (F1 : FnG X.prog X.w X.K X.mg X.base (CX X.prog X.w) k fI fd ps (xsp C fl ps.length))
    (hr : Rm (k + 1) X.A) (hb : Binds X.K fd ps []) (hi : fl.all (fun q => decide (0 < q.2)) = true) (hg : Gl X x) (hm : X.mg x = some (.ref C)) (ha : PA X (e :: es) ta)
    (hdb : (x == ("__debug__" : Str)) = false := by decide) (he : starEach (e :: es) X.env = (false, eval e X.env) :: starEach es X.env := by rfl) (hpl : (backTo pos (starEach es X.env)).any (·.1) = false := by rfl) :
    PMk X (.Call (.Name x p) (e :: es) [] pos) (tMkX C fl ps.length ta) := by
  intro pins s σ H Q I h
  obtain ⟨nm, q, N, bs, bm, sn, sub, ab, col, dd, k0, k1, k2, k3, k5, n, lk, kind⟩ := T.cls
  refine wpAny_Call_Name_kw (ld_glob I hg hm ?_ hdb)
  refine PySem.W.callWith_K (h₀ := X.base) I.ok.mod.kin T.kC (thn (ha.run pos pins s σ H _ I h) fun us s1 ⟨vs, H1, I1, r1, hn, hz, q1⟩ => ⟨I1.kIn, ?_⟩) he hpl
  show wpAny _ _ (call (.ref C) us) _ _ _
  obtain ⟨hp, g, dr, tk, os⟩ := s1
  have up1 : hp.objs.size ≤ hp.objs.size + 1 := Nat.le_succ _
  have free : H1 (hp.objs.size + 1) = none := I1.hok.fresh up1
  have keep : ∀ b o, hp.get? b = some o → ((hp.push (PySem.W.kdv_tup us)).push (HandSPX.excO C hp.objs.size)).get? b = some o := fun b o z => Heap.get?_push_of_some _ (Heap.get?_push_of_some _ z)
  have new : ((hp.push (PySem.W.kdv_tup us)).push (HandSPX.excO C hp.objs.size)).get? (hp.objs.size + 1) = some (HandSPX.excO C hp.objs.size) := by heap_get
  have I2 : Inv X pins σ (upd H1 (hp.objs.size + 1) (exo (hp.objs.size + 1) C none)) ⟨(hp.push (PySem.W.kdv_tup us)).push (HandSPX.excO C hp.objs.size), g, dr, tk, os⟩ :=
    I1.laid (t' := tk) (a := hp.objs.size + 1) (o := exo (hp.objs.size + 1) C none) (h' := (hp.push (PySem.W.kdv_tup us)).push (HandSPX.excO C hp.objs.size)) keep up1 (exo_ok new)
  have r2 : Vals (V.ref (hp.objs.size + 1) :: vs) (Value.ref (hp.objs.size + 1) :: us) := .cons rfl r1
  have len : (V.ref (hp.objs.size + 1) :: vs).length = ps.length := hn
  have lenU : (Value.ref (hp.objs.size + 1) :: us).length = ps.length := r2.length.symm.trans len
  have room : us.length ≤ sizeLine := by
    have := r1.length
    rw [sizeLine_eq]
    omega
  -- what the __init__ leaves
  let End : VK := fun v H2 => v = .non ∧ ∃ d, d ≠ hp.objs.size + 1 ∧ H1 d = none ∧ H2 = upd (upd (upd H1 (hp.objs.size + 1) (exo (hp.objs.size + 1) C none)) d (exd d (vfs fl (.non :: vs) []))) (hp.objs.size + 1) (exo (hp.objs.size + 1) C (some d))
  have wish : xsp C fl ps.length (V.ref (hp.objs.size + 1) :: vs) (upd H1 (hp.objs.size + 1) (exo (hp.objs.size + 1) C none)) End (fun _ _ _ => False) :=
    ⟨len, _, rfl, upd_same, fun d n ne => ⟨rfl, d, ne, by rw [upd_ne ne] at n; exact n, by rw [vfs_self hi]⟩⟩
  have bound : BindsTo ⟨(hp.push (PySem.W.kdv_tup us)).push (HandSPX.excO C hp.objs.size), g, dr, tk, os⟩ fd ⟨Value.ref (hp.objs.size + 1) :: us, []⟩ (ps.zip (Value.ref (hp.objs.size + 1) :: us)) := by
    have := hb ⟨(hp.push (PySem.W.kdv_tup us)).push (HandSPX.excO C hp.objs.size), g, dr, tk, os⟩ (Value.ref (hp.objs.size + 1) :: us) I2.kIn (by rw [List.append_nil]; exact lenU)
    rw [List.append_nil] at this
    exact this
  have ran : codeAny (model X.prog X.w) (X.A.under (.builtin "type.__call__" ⟨.ref C :: us, []⟩)) (.call (.ref fI) ⟨.ref (hp.objs.size + 1) :: us, []⟩) (PySem.W.InitBack (hp.objs.size + 1) (fun r s' => match r with | .ok (.ret v) => MkP X pins σ Q v s' | .ok _ => False | .error er => X.xe er s'))
      ⟨(hp.push (PySem.W.kdv_tup us)).push (HandSPX.excO C hp.objs.size), g, dr, tk, os⟩ := by
    refine codeAny_mono (F1.run _ X.stack _ _ ⟨Value.ref (hp.objs.size + 1) :: us, []⟩ (Value.ref (hp.objs.size + 1) :: us) _ End (fun _ _ _ => False) (hr.make C us []) (I2.env0.make C us []) bound r2 wish) fun r s' z => ?_
    cases r with
    | error er =>
      obtain ⟨_, _, _, _, _, _, _, _, _, _, _, _, no⟩ := z
      exact no.elim
    | ok fw =>
      cases fw with
      | ret u =>
        obtain ⟨v, H2, os2, bare2, un2, hok2, rv, ev, d, ne, nd, eH⟩ := z
        subst ev
        obtain ⟨h2, g2, d2, t2, os'⟩ := s'
        have ea : H2 (hp.objs.size + 1) = some (exo (hp.objs.size + 1) C (some d)) := by rw [eH, upd_same]
        have ed : H2 d = some (exd d (vfs fl (.non :: vs) [])) := by rw [eH, upd_ne ne, upd_same]
        have eQ : upd (del H2 (hp.objs.size + 1)) d (.xd (vfs fl (.non :: vs) [])) = upd H1 d (.xd (vfs fl (.non :: vs) [])) := by
          funext b
          by_cases w1 : b = d
          · rw [w1, upd_same, upd_same]
          · rw [upd_ne w1, upd_ne w1]
            by_cases w2 : b = hp.objs.size + 1
            · rw [w2, del_same, free]
            · rw [del_ne w2, eH, upd_ne w2, upd_ne w1, upd_ne w2]
        exact ⟨rv, mk_end (raises_own T.exC T.tyC) I1 up1 keep un2 hok2 os2 bare2 ea ed nd (by rw [eQ]; exact q1 d nd)⟩
      | next => exact False.elim z
      | brk => exact False.elim z
      | cont => exact False.elim z
  refine wpAny_call ?_
  rcases kind with ⟨k, rfl⟩ | ⟨k, rfl⟩
  · exact codeAny_mono (HandSPX.call_own F.excBase_ValueError (fun Y => HandSPX.refsVE_contains Y bm k) (I1.kIn _ _ lk) (PySem.W.looks_findIn I1.kIn iC) (fun self => PySem.W.bind_fn I1.kIn self tI) room ran) fun r s' z => z
  · subst k
    exact codeAny_mono (HandSPX.call_own F.excBase_Exception (fun _ => rfl) (I1.kIn _ _ lk) (PySem.W.looks_findIn I1.kIn iC) (fun self => PySem.W.bind_fn I1.kIn self tI) room ran) fun r s' z => z
end
end Vz
namespace Vz
open PySem L2
/-- what C(e, ..) bears: field f is its i-th argument (the self counted) -/
def mkX (fl : List (Str × Nat)) (xs : List AV) : XP := ((fl.map (·.1)).reverse, (fl.map fun p => (AV.non :: xs).getD p.2 .non).reverse)
section
variable {K : PySem.W.Frag} {H : Hp} {μ : Mu}
theorem RAs.getD_ {xs : List AV} {vs : List V} (r : RAs K H μ xs vs) (i : Nat) : RA K H μ (xs.getD i .non) (vs.getD i .non) := by
  rw [List.getD_eq_getElem?_getD, List.getD_eq_getElem?_getD]
  rcases r.get? i with ⟨e1, e2⟩ | ⟨v, u, e1, e2, r⟩
  · rw [e1, e2]; exact .non
  · rw [e1, e2]; exact r
theorem fls_ra {xs : List AV} {vs : List V} (r : RAs K H μ xs vs) : ∀ fl : List (Str × Nat), RAs K H μ (fl.map fun p => xs.getD p.2 .non) (fl.map fun p => vs.getD p.2 .non)
  | [] => .nil
  | p :: fl => .cons (r.getD_ p.2) (fls_ra r fl)
theorem mkX_rd {G : Hs} {xs : List AV} {vs : List V} {fl : List (Str × Nat)} {d : Addr} (hG : RH K H μ G) (r : RAs K H μ xs vs) (n : H d = none) : RD K (upd H d (.xd (vfs fl (.non :: vs) []))) μ (mkX fl xs) (some d) := by
  refine ⟨_, upd_same, hG.nmem n, ?_, ?_⟩
  · simp only [mkX, vfs, List.append_nil, List.map_reverse, List.map_map]
    rfl
  · have := ((fls_ra (RAs.cons .non r) fl).rev).gr (Gr.new (ho := .xd (vfs fl (.non :: vs) [])) n)
    simp only [mkX, vfs, List.append_nil, List.map_reverse, List.map_map] at this ⊢
    exact this
end
/-- an own exception class with its own __init__ -/
structure Xk (P : Program) (w : World) (K : PySem.W.Frag) (mg : Str → Option Value) (base : Heap) (k : Nat) (cn : Str) (n : Nat) (fl : List (Str × Nat)) : Prop where
  at_ : mg cn = some (.ref (ga K cn))
  xc : XC K (ga K cn)
  ini : PySem.W.findIn K (.ref (ga K cn)) "__init__" = some (some (.ref (He.ma K (ga K cn) "__init__")))
  tin : PySem.W.typeIn K (.ref (He.ma K (ga K cn) "__init__")) = some (.type "function")
  ok : fl.all (fun q => decide (0 < q.2)) = true
  ex : ∃ fd ps, ps.length = n ∧ FnG P w K mg base (CX P w) k (He.ma K (ga K cn) "__init__") fd ps (xsp (ga K cn) fl ps.length) ∧ Binds K fd ps []
def xiB (cn : Str) (K : PySem.W.Frag) : Bool := xcA (ga K cn) K && (decide (PySem.W.findIn K (.ref (ga K cn)) "__init__" = some (some (.ref (He.ma K (ga K cn) "__init__")))) && decide (PySem.W.typeIn K (.ref (He.ma K (ga K cn) "__init__")) = some (.type "function")))
theorem xiB_ok {cn : Str} {K : PySem.W.Frag} (h : xiB cn K = true) : XC K (ga K cn) ∧ PySem.W.findIn K (.ref (ga K cn)) "__init__" = some (some (.ref (He.ma K (ga K cn) "__init__"))) ∧ PySem.W.typeIn K (.ref (He.ma K (ga K cn) "__init__")) = some (.type "function") := by
  obtain ⟨h1, h⟩ := He.ba h
  obtain ⟨h2, h3⟩ := He.ba h
  exact ⟨xcA_ok h1, of_decide_eq_true h2, of_decide_eq_true h3⟩
theorem xk_mk {P : Program} {w : World} {K : PySem.W.Frag} {mg : Str → Option Value} {base : Heap} {cn qual x : Str} {params : Arguments} {body : List Stmt} {scope : Scope} {fd : FuncData} {N ps : List Str} {k : Nat} {fl : List (Str × Nat)}
    (hat : mg cn = some (.ref (ga K cn))) (hx : XC K (ga K cn) ∧ PySem.W.findIn K (.ref (ga K cn)) "__init__" = some (some (.ref (He.ma K (ga K cn) "__init__"))) ∧ PySem.W.typeIn K (.ref (He.ma K (ga K cn) "__init__")) = some (.type "function"))
    (no : noAt K (ga K cn) fl = true) (Fn : FunD K x qual params body scope [] [] (He.ma K (ga K cn) "__init__") fd) (S : FnScope N ps scope)
    (h0 : (!fl.isEmpty && (decide (0 < ps.length) && (decide (fl.length ≤ 900) && fl.all fun p => decide (p.2 < ps.length)))) = true) (h1 : fl.all (fun q => decide (0 < q.2)) = true)
    (hb : ∀ (cdv : Value) (A : Around) (outer : List Env) (s : Shared) (H : Hp) (E : XK), OstB (cxOf (CX P w) P w K mg base N qual scope (He.ma K (ga K cn) "__init__") cdv A outer s H E) body fl)
    (hbind : ∀ (kV doc pm : Value) (an : Option Addr) (cdv ct : Value) (us : List Value), us.length = ps.length → bindArgs (PySem.W.fnOf x qual params body scope .none kV doc pm an cdv ct) ⟨us, []⟩ = pure (ps.zip us)) :
    Xk P w K mg base (k + 1) cn ps.length fl :=
  ⟨hat, hx.1, hx.2.1, hx.2.2, h1, fd, ps, rfl, fn_x Fn S hx.1 no h0 hb, Fn.bindsN hbind⟩
def mRaise (cn : Str) (fl : List (Str × Nat)) (n : Nat) (ms : MEs) : MS := fun ρ G => (ms ρ G).toS ρ fun xs G1 => if xs.length + 1 = n ∧ n ≤ 1000 then .exc cn (mkX fl xs) ρ G1 else .stuck
def mRaise0 (cn : Str) : MS := fun ρ G => .exc cn ([], []) ρ G
def mMkx (cn : Str) (fl : List (Str × Nat)) (n : Nat) (ms : MEs) : ME := fun ρ G => (ms ρ G).bind fun xs G1 => if xs.length + 1 = n ∧ n ≤ 1000 then .ok (.xv cn (mkX fl xs).1 (mkX fl xs).2) G1 else .stuck
def mMkx0 (cn : Str) : ME := fun ρ G => .ok (.xv cn [] []) G
section
variable {X : Cx} {W : WX} {e : Expr} {es : List Expr} {ms : MEs} {m : ME} {x : Str} {k n : Nat} {fl : List (Str × Nat)} {p pos pos' : Pos}
theorem tMkX_go {σ : St} {H : Hp} {Q : XK} (h : tG X.K (rAs X.K) W (fun ρ G => (ms ρ G)) σ H fun vs H1 => vs.length + 1 = n ∧ n ≤ 1000 ∧ ∀ d, H1 d = none → Q (.ref (ga X.K x)) (some d) (upd H1 d (.xd (vfs fl (.non :: vs) [])))) : tMkX (ga X.K x) fl n (tG X.K (rAs X.K) W ms) σ H Q := h
theorem ss_raise (D : Xk X.prog X.w X.K X.mg X.base k x n fl) (hr : Rm (k + 1) X.A) (hc : X.calm = true) (tk : Takes X W) (hg : Gl X x) (ha : SA X W (e :: es) ms) (hdb : (x == ("__debug__" : Str)) = false := by decide)
    (he : starEach (e :: es) X.env = (false, eval e X.env) :: starEach es X.env := by rfl) (hpl : (backTo pos (starEach es X.env)).any (·.1) = false := by rfl) : SS X W (.Raise (some (.Call (.Name x p) (e :: es) [] pos)) none pos') (mRaise x fl n ms) := by
  obtain ⟨fd, ps, hn, F1, hb⟩ := D.ex
  refine PS.imp (ps_raise hc tk (pmk_x D.xc D.ini D.tin F1 hr hb D.ok hg D.at_ ha hdb he hpl)) fun De σ H ⟨ρ, μ, G, hσ, hG, h⟩ => tMkX_go ?_
  refine tG.toS hσ hG h fun xs G1 H1 μ1 vs g1 hσ1 hG1 rs h1 => ?_
  by_cases hl : xs.length + 1 = n ∧ n ≤ 1000
  · rw [if_pos hl] at h1
    refine ⟨by rw [← rs.length, hn]; exact hl.1, by rw [hn]; exact hl.2, fun d nd => ?_⟩
    exact h1 _ μ1 σ (some d) (Gr.new nd) (hG1.new nd) (hσ1.gr (Gr.new nd)) (mkX_rd hG1 rs nd)
  · rw [if_neg hl] at h1
    exact h1.elim
end
section
variable {QV : AV → Hs → Prop} {E : XQ} {D : SP} {ρ : En} {G : Hs}
@[simp] theorem wp_raise (cn : Str) (fl : List (Str × Nat)) (n : Nat) (ms : MEs) : (mRaise cn fl n ms ρ G).wp D = (ms ρ G).wp (fun xs G => (xs.length + 1 = n ∧ n ≤ 1000) ∧ D.ex cn (mkX fl xs) G) D.ex := by
  unfold mRaise
  rw [wp_toS]
  congr 1
  funext xs G
  by_cases h : xs.length + 1 = n ∧ n ≤ 1000
  · rw [if_pos h]; exact propext ⟨fun x => ⟨h, x⟩, fun x => x.2⟩
  · rw [if_neg h]; exact propext ⟨fun x => x.elim, fun x => (h x.1).elim⟩
@[simp] theorem wpx_raise (cn : Str) (fl : List (Str × Nat)) (n : Nat) (ms : MEs) (Ex : Str → XP → En → Hs → Prop) : (mRaise cn fl n ms ρ G).wpx D Ex = (ms ρ G).wp (fun xs G => (xs.length + 1 = n ∧ n ≤ 1000) ∧ Ex cn (mkX fl xs) ρ G) (fun c d G => Ex c d ρ G) := by
  unfold mRaise
  rw [wpx_toS]
  congr 1
  funext xs G
  by_cases h : xs.length + 1 = n ∧ n ≤ 1000
  · rw [if_pos h]; exact propext ⟨fun x => ⟨h, x⟩, fun x => x.2⟩
  · rw [if_neg h]; exact propext ⟨fun x => x.elim, fun x => (h x.1).elim⟩
@[simp] theorem wp_raise0 (cn : Str) : (mRaise0 cn ρ G).wp D = D.ex cn ([], []) G := rfl
@[simp] theorem wpx_raise0 (cn : Str) (Ex : Str → XP → En → Hs → Prop) : (mRaise0 cn ρ G).wpx D Ex = Ex cn ([], []) ρ G := rfl
@[simp] theorem wp_mkx (cn : Str) (fl : List (Str × Nat)) (n : Nat) (ms : MEs) : (mMkx cn fl n ms ρ G).wp QV E = (ms ρ G).wp (fun xs G => (xs.length + 1 = n ∧ n ≤ 1000) ∧ QV (.xv cn (mkX fl xs).1 (mkX fl xs).2) G) E := by
  unfold mMkx
  rw [wp_bind]
  congr 1
  funext xs G
  exact wp_guard _
@[simp] theorem wp_mkx0 (cn : Str) : (mMkx0 cn ρ G).wp QV E = QV (.xv cn [] []) G := rfl
end
end Vz
namespace Vz
open PySem L2
end Vz
namespace Vz
open PySem L2
end Vz
namespace Vz
open PySem L2
end Vz
namespace Vz
open PySem L2
section
variable {QV : AV → Hs → Prop} {E : XQ} {G : Hs} {ρ : En} {D : SP}
theorem wp_par3 {i j l : Nat} {ms : MEs} : (mPar3 i j l ms ρ G).wp D = (ms ρ G).wp (fun vs G => match vs with
    | [u, v, w] => D.nx (((ρ.set i (some u)).set j (some v)).set l (some w)) G
    | _ => False) D.ex := by
  unfold mPar3
  rw [wp_toS]
  congr 1
  funext vs G
  match vs with
  | [] => rfl
  | [_] => rfl
  | [_, _] => rfl
  | [_, _, _] => rfl
  | _ :: _ :: _ :: _ :: _ => rfl
end
end Vz
namespace Vz
open PySem L2
/-- closed data, so deep at most -/
def DaD (k : Nat) (v : AV) (d : PyData) : Prop := (∀ G n, dat (n + k) G v = some d) ∧ d.canLay0 = true ∧ d.depth ≤ k
def Da (k : Nat) (v : AV) : Prop := ∃ d, DaD k v d
theorem DaD.mono {k j : Nat} {v : AV} {d : PyData} (h : DaD k v d) (l : k ≤ j) : DaD j v d := by
  obtain ⟨h1, h2, h3⟩ := h
  refine ⟨fun G n => ?_, h2, by omega⟩
  have := h1 G (n + (j - k))
  rw [show n + (j - k) + k = n + j by omega] at this
  exact this
theorem Da.mono {k j : Nat} {v : AV} (h : Da k v) (l : k ≤ j) : Da j v := let ⟨d, h⟩ := h; ⟨d, h.mono l⟩
theorem daD_int (i : Int) : DaD 1 (.int i) (.int i) := ⟨fun _ _ => rfl, by simp [PyData.canLay0], by simp [PyData.depth]⟩
theorem da_int (i : Int) : Da 1 (.int i) := ⟨_, daD_int i⟩
inductive DaDs (k : Nat) : List AV → List PyData → Prop
  | nil : DaDs k [] []
  | cons {v : AV} {d : PyData} {vs : List AV} {ds : List PyData} (h : DaD k v d) (r : DaDs k vs ds) : DaDs k (v :: vs) (d :: ds)
theorem DaDs.get {k : Nat} {vs : List AV} {ds : List PyData} (h : DaDs k vs ds) : (∀ G n, allS (vs.map (dat (n + k) G)) = some ds) ∧ PyData.canLayAll0 ds = true ∧ PyData.depthAll ds ≤ k := by
  induction h with
  | nil => exact ⟨fun _ _ => rfl, rfl, by simp [PyData.depthAll]⟩
  | @cons v d vs ds h r ih =>
    obtain ⟨h1, h2, h3⟩ := h
    obtain ⟨i1, i2, i3⟩ := ih
    have hd : PyData.depthAll (d :: ds) = max d.depth (PyData.depthAll ds) := by simp [PyData.depthAll]
    exact ⟨fun G n => by simp only [List.map_cons, allS, h1 G n, i1 G n], by rw [PyData.canLayAll0, h2, i2]; rfl, by rw [hd]; omega⟩
theorem daD_ls {k : Nat} {vs : List AV} {ds : List PyData} (h : DaDs k vs ds) : DaD (k + 1) (.ls vs) (.list ds) := by
  obtain ⟨h1, h2, h3⟩ := h.get
  refine ⟨fun G n => ?_, by rw [PyData.canLay0]; exact h2, by rw [PyData.depth]; omega⟩
  show dat ((n + k) + 1) G (.ls vs) = _
  simp only [dat, h1 G n]
theorem das_of {k : Nat} : ∀ {vs : List AV}, (∀ v ∈ vs, Da k v) → ∃ ds, DaDs k vs ds
  | [], _ => ⟨[], .nil⟩
  | v :: vs, h => by
    obtain ⟨d, hd⟩ := h v (List.mem_cons_self ..)
    obtain ⟨ds, hs⟩ := das_of (vs := vs) fun w hw => h w (List.mem_cons_of_mem _ hw)
    exact ⟨d :: ds, .cons hd hs⟩
theorem da_ls {k : Nat} {vs : List AV} (h : ∀ v ∈ vs, Da k v) : Da (k + 1) (.ls vs) := let ⟨_, h⟩ := das_of h; ⟨_, daD_ls h⟩
theorem DaD.shaped {k : Nat} {v : AV} {d : PyData} (h : DaD k v d) (l : k ≤ 60) : SeqAt.shaped d = true := by
  unfold SeqAt.shaped
  rw [h.2.1, decide_eq_true (by have := h.2.2; omega : d.depth ≤ 64)]
  rfl
theorem DaD.at12 {k : Nat} {v : AV} {d : PyData} (h : DaD k v d) (l : k ≤ 12) (G : Hs) : dat 12 G v = some d := by
  have := h.1 G (12 - k)
  rw [show 12 - k + k = 12 by omega] at this
  exact this
section
variable {QV : AV → Hs → Prop} {E : XQ} {G : Hs} {ρ : En} {k : Nat} {v w : AV}
theorem eqF_da {j : Nat} {d e : PyData} (h : DaD k v d) (h2 : DaD j w e) (l : k ≤ 12) (l2 : j ≤ 12) : eqF G v w = some (PyData.eqv d e) := by
  unfold eqF
  rw [h.at12 l, h2.at12 l2]
  simp only
  rw [if_pos ⟨h.shaped (by omega), h2.shaped (by omega)⟩]
theorem eqB_refl (h : Da k v) (l : k ≤ 12) : eqB G v v = some true := by
  obtain ⟨d, h⟩ := h
  have e : eqF G v v = some true := by rw [eqF_da h h l l, SeqAt.eqv_refl d h.2.1]
  cases v with
  | int i => show some (decide (i = i)) = _; rw [decide_eq_true rfl]
  | str i => show some (decide (i = i)) = _; rw [decide_eq_true rfl]
  | bl i => show some (decide (i = i)) = _; rw [decide_eq_true rfl]
  | non => rfl
  | _ => exact e
theorem ne_refl (h : Da k v) (l : k ≤ 12) : (fNe v v G).wp QV E = QV (.bl false) G := by
  unfold fNe
  rw [eqB_refl h l]
  rfl
theorem eq_of_wp {α : Type} {r : R α} {v : α} {G : Hs} (h : r.wp (fun v' G' => v' = v ∧ G' = G) noX) : r = .ok v G := by
  obtain ⟨v', G', e, rfl, rfl⟩ := h.ex
  exact e
theorem wp_gT2 {i j : Nat} {v w : AV} : MG.wp (gTp 2 (gCo (gNm i) (gCo (gNm j) gNi)) (.tup [v, w]) ρ G) D = D.nx ((ρ.set i (some v)).set j (some w)) G := rfl
end
end Vz
namespace Vz
open PySem PySem.Spec L2 PyProof.Rows
/-- the object that the keyword x of the def at f has when left out -/
def kwAt (f : Str × Option Str) (x : Str) (K : PySem.W.Frag) : Addr := match K.lookup (He.fAd K f) with
  | some ⟨_, _, .func fd, _⟩ => match fd.kwdefaults with
    | .ref D => match PySem.W.nsIn K D x with
      | some (some (.ref a)) => a
      | _ => 0
    | _ => 0
  | _ => 0
/-- at p there is the tuple of these flat values -/
def tuA (p : PySem.W.Frag → Addr) (vs : List AV) (K : PySem.W.Frag) : Bool := vs.all flB && match K.lookup (p K) with
  | some ⟨.type c, _, .seq its _, _⟩ => decide (c = "tuple") && (decide (its.size ≤ sizeLine) && He.relAll ((vs.map dvOf).map (He.Dv.v K)) its.toList)
  | _ => false
/-- such values stand for those in every heap -/
abbrev RaK (K : PySem.W.Frag) (ds : List AV) (ys : List V) : Prop := ∀ H μ, RAs K H μ ds ys
theorem rk_nil {K : PySem.W.Frag} : RaK K [] [] := fun _ _ => .nil
theorem rk_fl {K : PySem.W.Frag} {v : AV} {y : V} {vs : List AV} {ys : List V} (r : RaK K vs ys) (e : fl v = some y := by rfl) : RaK K (v :: vs) (y :: ys) := fun H μ => .cons (fl_ok e) (r H μ)
section
variable {K : PySem.W.Frag} {x qual : Str} {params : Arguments} {body : List Stmt} {scope : Scope} {dvs : List V} {kws : List (Str × V)} {f : Addr} {fd : FuncData} {ps : List Str}
theorem shTk0 (F : FunD K x qual params body scope [] kws f fd) (es : List AV) (ms : List (Str × V)) (hes : RaK K es (ms.map (·.2))) (hk : kws ≠ []) (hms : ∀ q ∈ ms, q ∈ kws) (n : Nat) (ks : List Str) (π : List Arg)
    (h : ∀ (D : Addr) (doc pm : Value) (an : Option Addr) (cdv ct : Value) (us mv ws : List Value), us.length = n → mv.length = ms.length → ws.length = ks.length →
      KwChain D ((ms.map (·.1)).zip mv) (bindArgs (PySem.W.fnOf x qual params body scope .none (.ref D) doc pm an cdv ct) ⟨us, ks.zip ws⟩) (ps.zip (gP mv π us ws))) :
    Sh K fd ps n ks (gP es π) := by
  obtain ⟨mv, hb⟩ := F.kbinds0 n ks ms (fun us mv ws => gP mv π us ws) hk hms (fun r1 r3 r4 => gP_vals r3 r1 r4 π) h
  exact ⟨_, _, hb, fun H μ xs vs zs ws r rz => gP_ras (hes H μ) r rz π⟩
end
end Vz
namespace Vz
open PySem PySem.Spec L2
open PyProof.Rows (AllBare)
def kwx {α : Type} (π : List Nat) (ws : List α) : List α := π.filterMap fun j => ws[j]?
section
variable {X : Cx} {W : WX} {kws : List Keyword} {tk : TA} {mk : MEs} {x : Str} {C fI : Addr} {k n m : Nat} {fd : FuncData} {ps ks : List Str} {fl : List (Str × Nat)} {π : List Nat} {p pos : Pos}
def mMkxK (cn : Str) (fl : List (Str × Nat)) (n m : Nat) (π : List Nat) (mk : MEs) : ME := fun ρ G => (mk ρ G).bind fun ys G1 => if ys.length = m ∧ (kwx π ys).length + 1 = n ∧ n ≤ 1000 then .ok (.xv cn (mkX fl (kwx π ys)).1 (mkX fl (kwx π ys)).2) G1 else .stuck
def mRaiseK (cn : Str) (fl : List (Str × Nat)) (n m : Nat) (π : List Nat) (mk : MEs) : MS := fun ρ G => (mk ρ G).toS ρ fun ys G1 => if ys.length = m ∧ (kwx π ys).length + 1 = n ∧ n ≤ 1000 then .exc cn (mkX fl (kwx π ys)) ρ G1 else .stuck
end
section
variable {QV : AV → Hs → Prop} {E : XQ} {D : SP} {ρ : En} {G : Hs}
@[simp] theorem wp_mkxK (cn : Str) (fl : List (Str × Nat)) (n m : Nat) (π : List Nat) (mk : MEs) : (mMkxK cn fl n m π mk ρ G).wp QV E = (mk ρ G).wp (fun ys G => (ys.length = m ∧ (kwx π ys).length + 1 = n ∧ n ≤ 1000) ∧ QV (.xv cn (mkX fl (kwx π ys)).1 (mkX fl (kwx π ys)).2) G) E := by
  unfold mMkxK
  rw [wp_bind]
  congr 1
  funext xs G
  exact wp_guard _
@[simp] theorem wp_raiseK (cn : Str) (fl : List (Str × Nat)) (n m : Nat) (π : List Nat) (mk : MEs) : (mRaiseK cn fl n m π mk ρ G).wp D = (mk ρ G).wp (fun ys G => (ys.length = m ∧ (kwx π ys).length + 1 = n ∧ n ≤ 1000) ∧ D.ex cn (mkX fl (kwx π ys)) G) D.ex := by
  unfold mRaiseK
  rw [wp_toS]
  congr 1
  funext ys G
  by_cases h : ys.length = m ∧ (kwx π ys).length + 1 = n ∧ n ≤ 1000
  · rw [if_pos h]; exact propext ⟨fun x => ⟨h, x⟩, fun x => x.2⟩
  · rw [if_neg h]; exact propext ⟨fun x => x.elim, fun x => (h x.1).elim⟩
end
end Vz
namespace Vz
open PySem PySem.Spec L2
def tyV (K : PySem.W.Frag) (cn : Str) : Option String → Value
  | some T => .type T
  | none => .ref (ga K cn)
end Vz
namespace Vz
open PySem PySem.Spec L2
open PyProof.Rows (IsTup Subscript_ tail_any tupleItemsOf_ subscriptTail)
end Vz
namespace Vz
open PySem PySem.Spec L2
end Vz
namespace Vz
open PySem PySem.Spec L2
section
variable {X : Cx} {W : WX} {o e f : Expr} {mo mi md : ME} {apos cpos : Pos}
def fDgo (v w d : AV) (G : Hs) : R AV := match dkR G v, kOf w with
  | some kvs, some k => .ok ((getA kvs k).getD d) G
  | _, _ => .stuck
def mDget1 (mo mi : ME) : ME := fun ρ G => (mo ρ G).bind fun v G1 => if (dkR G1 v).isSome = true then (mi ρ G1).bind fun w G2 => fDgo v w .non G2 else .stuck
def mDget2 (mo mi md : ME) : ME := fun ρ G => (mo ρ G).bind fun v G1 => if (dkR G1 v).isSome = true then (mi ρ G1).bind fun w G2 => (md ρ G2).bind fun u G3 => fDgo v w u G3 else .stuck
end
section
variable {QV : AV → Hs → Prop} {E : XQ} {G : Hs} {ρ : En}
@[simp] theorem wp_dget1 (mo mi : ME) : (mDget1 mo mi ρ G).wp QV E = (mo ρ G).wp (fun v G => (dkR G v).isSome = true ∧ (mi ρ G).wp (fun w G => (fDgo v w .non G).wp QV E) E) E := by
  unfold mDget1
  rw [wp_bind]
  congr 1
  funext v G
  by_cases h : (dkR G v).isSome = true
  · rw [if_pos h, wp_bind]; exact propext ⟨fun x => ⟨h, x⟩, fun x => x.2⟩
  · rw [if_neg h]; exact propext ⟨fun x => x.elim, fun x => (h x.1).elim⟩
@[simp] theorem wp_dget2 (mo mi md : ME) : (mDget2 mo mi md ρ G).wp QV E = (mo ρ G).wp (fun v G => (dkR G v).isSome = true ∧ (mi ρ G).wp (fun w G => (md ρ G).wp (fun u G => (fDgo v w u G).wp QV E) E) E) E := by
  unfold mDget2
  rw [wp_bind]
  congr 1
  funext v G
  by_cases h : (dkR G v).isSome = true
  · rw [if_pos h, wp_bind]
    simp only [wp_bind]
    exact propext ⟨fun x => ⟨h, x⟩, fun x => x.2⟩
  · rw [if_neg h]; exact propext ⟨fun x => x.elim, fun x => (h x.1).elim⟩
end
end Vz
namespace TDq
open PySem PySem.W PySem.Calls PySem.Spec PyProof.Rows PyProof.V
section
variable {prog : Program} {w : World} {K : Type} [DecidableEq K] {knd : HeapKind prog w K} {A : Around} {E : Value → Shared → Prop} {s : Shared}
/-- the walk over one dict's entries, each looked for in the other -/
inductive Hits (prog : Program) (w : World) (A : Around) (s : Shared) (kb : List (K × Addr × Value)) : List (K × Addr × Value) → Bool → Prop
  | nil : Hits prog w A s kb [] true
  | miss {x : K × Addr × Value} {r : List (K × Addr × Value)} : (∀ (j : Nat) (p : Addr × Value), kb[j]? ≠ some (x.1, p)) → Hits prog w A s kb (x :: r) false
  | hit {x : K × Addr × Value} {r : List (K × Addr × Value)} {j : Nat} {p : Addr × Value} {e b : Bool} : kb[j]? = some (x.1, p) → SeqAt.EqP prog w A s x.2.2 p.2 e → Hits prog w A s kb r b → Hits prog w A s kb (x :: r) (e && b)
theorem key_once {kb : List (K × Addr × Value)} (hn : (kb.map (·.1)).Nodup) {i j : Nat} {k : K} {p q : Addr × Value} (h1 : kb[i]? = some (k, p)) (h2 : kb[j]? = some (k, q)) : p = q :=
  Option.some.inj ((atKey_of_get hn h1).symm.trans (atKey_of_get hn h2))
theorem same {nm : String} {a b : Addr} {ka kb : List (K × Addr × Value)} {r : Bool} {Q : Bool → Shared → Prop} (ha : (a == sysModules) = false) (hb : (b == sysModules) = false) (hu : knd.room A)
    (da : s.heap.DictOfH knd a ka) (db : s.heap.DictOfH knd b kb) (hits : ka.length = kb.length → Hits prog w A s kb ka r) (h : Q (ka.length == kb.length && r) s) :
    wpAny (model prog w) A (Builtin.Dict.samePairs nm a b) Q E s := by
  obtain ⟨oa, es, ep, hoa, _, hda, hea, hisa, hna⟩ := da
  obtain ⟨ob, es', ep', hob, _, hdb, heb, hisb, hnb⟩ := db
  have hla : ka.length = es.size := (size_of_entries hea).symm
  have hlb : kb.length = es'.size := (size_of_entries heb).symm
  rw [hla, hlb] at h
  unfold Builtin.Dict.samePairs Builtin.Dict.showsAll
  rw [if_neg (show ¬ (a == sysModules) = true by rw [ha]; exact Bool.false_ne_true), if_neg (show ¬ (b == sysModules) = true by rw [hb]; exact Bool.false_ne_true)]
  refine wpAny_bind (wpAny_pure (wpAny_bind (wpAny_pure ?_)))
  refine wpAny_bind (wpAny_dictEntries hoa hda ?_)
  dsimp only
  refine wpAny_bind (wpAny_dictEntries hob hdb ?_)
  by_cases hsz : es.size = es'.size
  case neg =>
    rw [if_pos (by simpa using hsz)]
    have no : (es.size == es'.size) = false := by simpa using hsz
    rw [no, Bool.false_and] at h
    exact wpAny_bind (wpAny_rule (wpAny_pure h))
  case pos =>
    have h' : Q r s := by simpa [hsz] using h
    have all := hits (by rw [hla, hlb]; exact hsz)
    rw [if_neg (by rw [hsz]; simp)]
    refine wpAny_bind (wpAny_dictEpoch hoa hda ?_)
    refine wpAny_bind ?_
    rw [Std.Legacy.Range.forIn_eq_forIn_range']
    simp only [Std.Legacy.Range.size, Nat.sub_zero, Nat.add_sub_cancel, Nat.div_one]
    refine wpAny_forIn_list _
      (fun rest q s' => s' = s ∧ q = (none, ()) ∧ ∃ i, rest = List.range' i (es.size - i) ∧ i ≤ es.size ∧ Hits prog w A s kb (ka.drop i) r)
      _ ?_ ?_ _ _ ⟨rfl, rfl, 0, by simp, Nat.zero_le _, all⟩
    · rintro x rest q s' ⟨rfl, rfl, i, hr, hi, rem⟩
      have lt : i < es.size := by
        rcases Nat.lt_or_ge i es.size with z | z
        · exact z
        · rw [Nat.sub_eq_zero_of_le z] at hr; simp at hr
      obtain ⟨rfl, hrest⟩ : x = i ∧ rest = List.range' (i + 1) (es.size - (i + 1)) := by
        rw [show es.size - i = (es.size - (i + 1)) + 1 by omega, List.range'_succ] at hr
        injection hr with h1 h2
        exact ⟨h1, h2⟩
      have lt' : x < ka.length := by rw [hla]; exact lt
      obtain ⟨k, ad, v, ekv⟩ : ∃ k ad v, ka[x] = (k, ad, v) := ⟨_, _, _, rfl⟩
      have drp : ka.drop x = (k, ad, v) :: ka.drop (x + 1) := by rw [← ekv]; exact List.drop_eq_getElem_cons lt'
      have ent : es[x]? = some ⟨knd.hash k, .ref ad, v⟩ := by
        rw [entry_at hea x, List.getElem?_eq_getElem lt', ekv]
        rfl
      have isk : knd.is s'.heap k ad := by
        have := hisa _ (List.getElem_mem lt')
        rw [ekv] at this
        exact this
      refine wpAny_bind (wpAny_dictEntries hoa hda ?_)
      rw [ent]
      rw [drp] at rem
      show wpAny _ _ (holding [.ref ad, v] _ >>= _) _ _ _
      refine wpAny_bind (wpAny_holding (wpAny_bind (wpAny_dictFind_heap hu isk hob hdb heb hisb hnb (fun none_ => ?_) fun j p hj => ?_)))
      · have er : r = false := by
          cases rem with
          | miss _ => rfl
          | hit hy _ _ => exact absurd hy (none_ _ _)
        rw [er] at h'
        refine wpAny_pure ?_
        show wpAny _ _ (if (!false) = true then _ else _) _ _ _
        rw [if_pos (by decide)]
        exact wpAny_pure (wpAny_pure h')
      · refine wpAny_bind (wpAny_dictEntries hob hdb ?_)
        have ent' : es'[j]? = some ⟨knd.hash k, .ref p.1, p.2⟩ := by
          rw [entry_at heb j, hj]
          rfl
        rw [ent']
        cases rem with
        | miss none_ => exact absurd hj (none_ j p)
        | @hit _ _ j' p' e b' hy he hrr =>
          obtain rfl := key_once hnb hj hy
          refine wpAny_holding (he _ _ ?_)
          cases e with
          | false =>
            show wpAny _ _ (if (!false) = true then _ else _) _ _ _
            rw [if_pos (by decide)]
            exact wpAny_pure (wpAny_pure h')
          | true =>
            show wpAny _ _ (if (!true) = true then _ else _) _ _ _
            rw [if_neg (by decide)]
            refine wpAny_bind (wpAny_dictEpoch hoa hda ?_)
            rw [if_neg (by simp)]
            exact wpAny_pure ⟨rfl, rfl, x + 1, hrest, lt, hrr⟩
    · rintro q s' ⟨rfl, rfl, i, hr, hi, rem⟩
      have last : i = es.size := by
        rcases Nat.lt_or_ge i es.size with z | z
        · rw [show es.size - i = (es.size - (i + 1)) + 1 by omega, List.range'_succ] at hr; exact nomatch hr
        · exact Nat.le_antisymm hi z
      refine wpAny_pure ?_
      rw [last, ← hla, List.drop_length] at rem
      cases rem
      exact h'
theorem nc {a b : Addr} {ka kb : List (K × Addr × Value)} {r : Bool} (ha : (a == sysModules) = false) (hb : (b == sysModules) = false) (hr : knd.room A.in1)
    (da : s.heap.DictOfH knd a ka) (db : s.heap.DictOfH knd b kb) (hu : A.units < cLine) (hits : ka.length = kb.length → Hits prog w A.in1 s kb ka r) (E Q : Value → Shared → Prop) (h : Q (.bool (!(ka.length == kb.length && r))) s) : wpAny (model prog w) A (richCompare .NotEq (.ref a) (.ref b)) Q E s := by
  refine wpAny_richCompare_same_room (op := .NotEq) da.typeIs db.typeIs PySem.F.slot_dict_ne (wpAny_call_entry PySem.F.slot_dict_ne da.typeIs PySem.F.entry_dict_ne ?_ (PySem.F.args_dict_ne_2 _ _)) hu
  show wpAny _ _ (Builtin.Dict.dictSlotArgs "__ne__" ⟨[.ref a, .ref b], []⟩ >>= _) _ _ s
  refine wpAny_bind ?_
  unfold Builtin.Dict.dictSlotArgs
  refine wpAny_bind (wpAny_notOrdered_dict da.typeIs ?_)
  show wpAny _ _ (pure (Value.ref a, Value.ref b)) _ _ s
  refine wpAny_pure ?_
  refine wpAny_bind (wpAny_isInstance (T := "dict") db.typeIs PySem.F.sub_dict_dict ?_)
  simp only [Bool.not_true, Bool.false_eq_true, if_false]
  refine wpAny_bind (wpAny_pure (wpAny_bind (wpAny_pure ?_)))
  refine wpAny_bind (same ha hb hr da db hits ?_)
  refine wpAny_pure ⟨_, rfl, ?_, ?_⟩
  · exact fun x => nomatch x
  · simpa using h
end
end TDq
namespace Vz
open PySem PySem.Spec L2
def kOfs : List AV → Option (List Key)
  | [] => some []
  | v :: vs => match kOf v, kOfs vs with
    | some k, some ks => some (k :: ks)
    | _, _ => none
def tkOf : AV → Option (List Key)
  | .tup xs => kOfs xs
  | _ => none
section
variable {K : PySem.W.Frag} {H : Hp} {μ : Mu} {G : Hs}
theorem kOfs_ok : ∀ {xs : List AV} {vs : List V} {ks : List Key}, RAs K H μ xs vs → kOfs xs = some ks → vs = ks.map kV
  | [], _, _, .nil, e => by cases e; rfl
  | x :: xs, _, ks, .cons r t, e => by
    simp only [kOfs] at e
    cases e1 : kOf x with
    | none => rw [e1] at e; cases e
    | some k =>
      cases e2 : kOfs xs with
      | none => rw [e1, e2] at e; cases e
      | some l =>
        rw [e1, e2] at e
        cases e
        rw [kOf_ok r e1, kOfs_ok t e2]
        rfl
theorem tkOf_ok {v : AV} {x : V} {ks : List Key} (r : RA K H μ v x) (e : tkOf v = some ks) : ∃ b, x = .ref b ∧ H b = some (.tup (ks.map kV)) := by
  cases r with
  | @tup a vs xs h rs => exact ⟨a, rfl, by rw [← kOfs_ok rs e]; exact h⟩
  | _ => cases e
def dtOf (G : Hs) : AV → Option (Nat × List (List Key × AV))
  | .ref n => match G[n]? with
    | some (.dt kvs) => some (n, kvs)
    | _ => none
  | _ => none
theorem dtOf_ok {v : AV} {x : V} {n : Nat} {kvs : List (List Key × AV)} (hG : RH K H μ G) (r : RA K H μ v x) (e : dtOf G v = some (n, kvs)) :
    ∃ a ws, v = .ref n ∧ x = .ref a ∧ Num μ n a ∧ G[n]? = some (.dt kvs) ∧ H a = some (.dT ws) ∧ RF K H μ kvs ws := by
  cases r with
  | ref h =>
    obtain ⟨o, ho, ro⟩ := hG.obj h
    simp only [dtOf, ho] at e
    cases o with
    | dt zs =>
      cases e
      obtain ⟨ws, h1, h2⟩ := ro
      exact ⟨_, ws, rfl, rfl, h, ho, h1, h2⟩
    | _ => cases e
  | _ => cases e
/-- as it is read -/
def dtR (G : Hs) : AV → Option (List (List Key × AV))
  | .ref n => match G[n]? with
    | some (.dt kvs) => some kvs
    | _ => none
  | .it ks xs => some (ks.zip xs)
  | _ => none
theorem dtR_ok {v : AV} {x : V} {kvs : List (List Key × AV)} (hG : RH K H μ G) (r : RA K H μ v x) (e : dtR G v = some kvs) : ∃ a ws, x = .ref a ∧ H a = some (.dT ws) ∧ RF K H μ kvs ws := by
  cases r with
  | ref h =>
    obtain ⟨o, ho, ro⟩ := hG.obj h
    simp only [dtR, ho] at e
    cases o with
    | dt zs =>
      cases e
      obtain ⟨ws, h1, h2⟩ := ro
      exact ⟨_, ws, rfl, h1, h2⟩
    | _ => cases e
  | it h _ en rs => cases e; exact ⟨_, _, rfl, h, RF.zip en rs⟩
  | _ => cases e
end
section
variable {X : Cx} {W : WX} {o i e f value : Expr} {mo mi md mv ma mb : ME} {pos pos' apos cpos : Pos}
/-- {} -/
def mDictT : ME := fun _ G => .ok (.ref G.length) (G ++ [.dt []])
theorem se_dictT : SE X W (.Dict [] [] pos) mDictT := PE.imp pe_dnewT fun σ H Q ⟨ρ, μ, G, hσ, hG, h⟩ p hp => h _ _ _ (Gr.alloc hp) (hG.alloc hp ⟨[], upd_same, .nil'⟩) (.ref (hG.fresh p))
/-- d[t] = v -/
def fDpT (v w u : AV) (G : Hs) : R Unit := match dtOf G v, tkOf w with
  | some (n, kvs), some k => if kvs.length < szl then .ok () (G.set n (.dt (putA kvs k u))) else .stuck
  | _, _ => .stuck
def mDputT (mo mi mv : ME) : MS := fun ρ G => (mv ρ G).toS ρ fun u G1 => (mo ρ G1).toS ρ fun v G2 => (mi ρ G2).toS ρ fun w G3 => (fDpT v w u G3).toS ρ fun _ G4 => .nx ρ G4
theorem ss_dputT (hu : X.A.units + 1 < cLine) (ha : SE X W o mo) (hb : SE X W i mi) (hv : SE X W value mv) (hs : swapsWith value (some (.Subscript o i pos')) pos.line X.env = pure false) :
    SS X W (.Assign [.Subscript o i pos'] value pos) (mDputT mo mi mv) := by
  refine PS.imp (ps_dput hu ha hb hv hs) fun D σ H ⟨ρ, μ, G, hσ, hG, h⟩ => tG.toS hσ hG h fun u G1 H1 μ1 x1 g1 hσ1 hG1 ru h1 => tG.toS hσ1 hG1 h1 fun v G2 H2 μ2 x2 g2 hσ2 hG2 rv h2 => tG.toS hσ2 hG2 h2 fun w G3 H3 μ3 x3 g3 hσ3 hG3 rw' h3 => ?_
  unfold fDpT at h3
  cases e1 : dtOf G3 v with
  | none => rw [e1] at h3; exact h3.elim
  | some q =>
    obtain ⟨n, kvs⟩ := q
    cases e2 : tkOf w with
    | none => rw [e1, e2] at h3; exact h3.elim
    | some k =>
      rw [e1, e2] at h3
      simp only at h3
      by_cases hz : kvs.length < szl
      · rw [if_pos hz] at h3
        obtain ⟨p, ws, rfl, rfl, hn, hp, hq, rf⟩ := dtOf_ok hG3 (rv.gr g3) e1
        obtain ⟨b, rfl, hb'⟩ := tkOf_ok rw' e2
        have gp : Gr H3 μ3 (upd H3 p (.dT (putK ws k x1))) μ3 := Gr.put hG3 hn hp
        refine ⟨p, _, rfl, .inr ⟨ws, k, b, hq, rfl, hb', by rw [← rf.length]; exact hz, rfl⟩, ?_⟩
        exact h3 _ μ3 σ gp (hG3.put (o := .dt (putA kvs k u)) hn hp ⟨_, upd_same, (rf.put k ((ru.gr g2).gr g3)).gr gp⟩) (hσ3.gr gp)
      · rw [if_neg hz] at h3
        exact h3.elim
def fDgoT (v w d : AV) (G : Hs) : R AV := match dtR G v, tkOf w with
  | some kvs, some k => .ok ((getA kvs k).getD d) G
  | _, _ => .stuck
def mDgetT1 (mo mi : ME) : ME := fun ρ G => (mo ρ G).bind fun v G1 => if (dtR G1 v).isSome = true then (mi ρ G1).bind fun w G2 => fDgoT v w .non G2 else .stuck
def mDgetT2 (mo mi md : ME) : ME := fun ρ G => (mo ρ G).bind fun v G1 => if (dtR G1 v).isSome = true then (mi ρ G1).bind fun w G2 => (md ρ G2).bind fun u G3 => fDgoT v w u G3 else .stuck
/-- the walk over one dict, by values -/
inductive VH (K : PySem.W.Frag) (H : Hp) (ls : List (List Key × V)) : List (List Key × V) → Bool → Prop
  | nil : VH K H ls [] true
  | miss {k : List Key} {x : V} {r : List (List Key × V)} : valV ls k = none → VH K H ls ((k, x) :: r) false
  | hit {k : List Key} {x y : V} {r : List (List Key × V)} {d e : PyData} {b : Bool} : valV ls k = some y → Dp K H x d → Dp K H y e → SeqAt.shaped d = true → SeqAt.shaped e = true → VH K H ls r b → VH K H ls ((k, x) :: r) (PyData.eqv d e && b)
def rEqT (K : PySem.W.Frag) (n : Bool) : R2 := fun x y H Q => ∃ a b ks ls r, x = .ref a ∧ y = .ref b ∧ H a = some (.dT ks) ∧ H b = some (.dT ls) ∧ (ks.length = ls.length → VH K H ls ks r) ∧ Q (.bl (if n then !(ks.length == ls.length && r) else (ks.length == ls.length && r))) H
theorem at_of_key {xs : List (List Key × Addr × Value)} {k : List Key} {p : Addr × Value} (h : atKey xs k = some p) : ∃ j : Nat, xs[j]? = some (k, p) := by
  unfold atKey at h
  obtain ⟨q, hq, e⟩ := Option.map_eq_some_iff.mp h
  have h1 := List.mem_of_find?_eq_some hq
  have h2 := List.find?_some hq
  obtain ⟨j, hj⟩ := List.mem_iff_getElem?.mp h1
  obtain ⟨k', p'⟩ := q
  have e1 : k' = k := by simpa using h2
  subst e1 e
  exact ⟨j, hj⟩
theorem hits_of {pins : List (Addr × Obj)} {σ : St} {H : Hp} {s : Shared} {A : Around} {ls : List (List Key × V)} {kb : List (List Key × Addr × Value)} (I : Inv X pins σ H s) (hu : A.units + 64 < cLine) (rb : KT H ls kb) (hn : (kb.map (·.1)).Nodup) :
    ∀ {ks : List (List Key × V)} {ka : List (List Key × Addr × Value)} {r : Bool}, KT H ks ka → VH X.K H ls ks r → TDq.Hits X.prog X.w A s kb ka r
  | [], [], _, .nil, vh => by
    cases vh
    exact .nil
  | (k, x) :: ks, q :: ka, r, .cons h t, vh => by
    obtain ⟨e1, _, rx⟩ := h
    have e1 : k = q.1 := e1
    have rx : RelV x q.2.2 := rx
    have rr := rb.val k
    cases vh with
    | miss hv =>
      refine .miss fun j p hj => ?_
      have at_ := atKey_of_get hn hj
      rw [hv] at rr
      have r2 := RelO.none_of rr
      rw [e1, at_] at r2
      cases r2
    | @hit _ _ y _ d e b hv dx dy sx sy hr =>
      rw [hv] at rr
      obtain ⟨u, hu', ru⟩ := RelO.some_of rr
      obtain ⟨p, hp, hp2⟩ := Option.map_eq_some_iff.mp hu'
      rw [e1] at hp
      obtain ⟨j, hj⟩ := at_of_key hp
      refine .hit hj ?_ (hits_of I hu rb hn t hr)
      obtain ⟨as, r1⟩ := Dp.reads I _ _ _ dx rx
      obtain ⟨bs, r2⟩ := Dp.reads I _ _ _ dy ru
      subst hp2
      exact SeqAt.EqAt.eqP (SeqAt.eqAt_reads _ _ A s _ _ as bs r1 r2 (SeqAt.canLay_of_shaped sx) (SeqAt.canLay_of_shaped sy) (SeqAt.room_of_shaped sx hu))
theorem op_neT (hu : X.A.units + 66 < cLine) : OpR X (compareOp .NotEq) (rEqT X.K true) := by
  intro pins s σ H x y v u Q I rx ry ⟨a, b, ks, ls, r, ex, ey, ea, eb, hv, q⟩
  subst ex ey
  cases rx
  cases ry
  obtain ⟨_, ya, xa, ra, da⟩ := dt_rd I.hok (.inl ea)
  obtain ⟨_, yb, xb, rb, db⟩ := dt_rd I.hok (.inl eb)
  have l1 : ks.length = xa.length := Paired.length ra
  have l2 : ls.length = xb.length := Paired.length rb
  have nd : (xb.map (·.1)).Nodup := let ⟨_, _, _, _, _, _, _, _, n⟩ := db; n
  have u1 : X.A.in1.units + 64 < cLine := by have : X.A.in1.units = X.A.units + 1 := rfl; omega
  exact TDq.nc (knd := tupleKind (mixKind X.prog X.w)) (r := r) ya yb (tupleKind_room_in1 (by omega)) da db (by omega) (fun e => hits_of I u1 rb nd ra (hv (by omega))) _ _ (fin_bl I q (by rw [← l1, ← l2]; rfl))
def cmpT (G : Hs) (ls : List (List Key × AV)) : List (List Key × AV) → Option Bool
  | [] => some true
  | (k, x) :: r => match getA ls k with
    | none => some false
    | some y => match eqF G x y, cmpT G ls r with
      | some e, some b => some (e && b)
      | _, _ => none
def fEqT (n : Bool) (v w : AV) (G : Hs) : R AV := match dtR G v, dtR G w with
  | some ks, some ls => if ks.length = ls.length then match cmpT G ls ks with
    | some b => .ok (.bl (if n then !b else b)) G
    | none => .stuck
    else .ok (.bl n) G
  | _, _ => .stuck
theorem eqF_dp {K : PySem.W.Frag} {H : Hp} {μ : Mu} {G : Hs} {v w : AV} {x y : V} {b : Bool} (hG : RH K H μ G) (rv : RA K H μ v x) (rw' : RA K H μ w y) (h : eqF G v w = some b) : ∃ d e, Dp K H x d ∧ Dp K H y e ∧ SeqAt.shaped d = true ∧ SeqAt.shaped e = true ∧ b = PyData.eqv d e := by
  unfold eqF at h
  cases h1 : dat 12 G v with
  | none => rw [h1] at h; cases h
  | some d =>
    cases h2 : dat 12 G w with
    | none => rw [h1, h2] at h; cases h
    | some e =>
      rw [h1, h2] at h
      simp only at h
      by_cases hs : SeqAt.shaped d = true ∧ SeqAt.shaped e = true
      · rw [if_pos hs] at h
        cases h
        exact ⟨d, e, dat_ok hG 12 v x d rv h1, dat_ok hG 12 w y e rw' h2, hs.1, hs.2, rfl⟩
      · rw [if_neg hs] at h
        cases h
theorem cmpT_ok {K : PySem.W.Frag} {H : Hp} {μ : Mu} {G : Hs} {ls : List (List Key × AV)} {zs : List (List Key × V)} (hG : RH K H μ G) (rl : RF K H μ ls zs) : ∀ {ks : List (List Key × AV)} {ws : List (List Key × V)} {b : Bool}, RF K H μ ks ws → cmpT G ls ks = some b → VH K H zs ws b
  | [], ws, b, r, e => by
    cases ws with
    | nil => cases e; exact .nil
    | cons w ws => cases r.1
  | (k, x) :: ks, ws, b, r, e => by
    obtain ⟨z, ws', rfl, rz, t⟩ := r.cons_inv
    simp only [cmpT] at e
    have rk := rl.get k
    cases e1 : getA ls k with
    | none =>
      rw [e1] at e rk
      cases e
      cases e2 : valV zs k with
      | none => exact .miss e2
      | some y => rw [e2] at rk; exact rk.elim
    | some y =>
      rw [e1] at e rk
      simp only at e
      obtain ⟨yy, e2, ry⟩ := rk.some_of
      cases e3 : eqF G x y with
      | none => rw [e3] at e; cases e
      | some c =>
        cases e4 : cmpT G ls ks with
        | none => rw [e3, e4] at e; cases e
        | some c2 =>
          rw [e3, e4] at e
          cases e
          obtain ⟨d, d', h1, h2, h3, h4, rfl⟩ := eqF_dp hG rz ry e3
          exact .hit e2 h1 h2 h3 h4 (cmpT_ok hG rl t e4)
theorem op2_eqT {K : PySem.W.Frag} (n : Bool) : Op2 K (rEqT K n) (fEqT n) := by
  intro W σ H μ G v w x y Q hG rv rw' q
  unfold fEqT at q
  cases e1 : dtR G v with
  | none => rw [e1] at q; exact q.elim
  | some ks =>
    cases e2 : dtR G w with
    | none => rw [e1, e2] at q; exact q.elim
    | some ls =>
      rw [e1, e2] at q
      simp only at q
      obtain ⟨a, ws, rfl, ha, ra⟩ := dtR_ok hG rv e1
      obtain ⟨b, zs, rfl, hb, rb⟩ := dtR_ok hG rw' e2
      have l1 := ra.length
      have l2 := rb.length
      by_cases hl : ks.length = ls.length
      · rw [if_pos hl] at q
        cases e3 : cmpT G ls ks with
        | none => rw [e3] at q; exact q.elim
        | some c =>
          rw [e3] at q
          refine ⟨a, b, ws, zs, c, rfl, rfl, ha, hb, fun _ => cmpT_ok hG rb ra e3, ?_⟩
          have e4 : (ws.length == zs.length) = true := by simp only [beq_iff_eq]; omega
          rw [e4, Bool.true_and]
          exact Po.now (v := AV.bl _) q hG (.bl _)
      · rw [if_neg hl] at q
        refine ⟨a, b, ws, zs, true, rfl, rfl, ha, hb, fun e => absurd (by omega) hl, ?_⟩
        have e4 : (ws.length == zs.length) = false := by simp only [beq_eq_false_iff_ne]; omega
        rw [e4, Bool.false_and]
        have := Po.now (v := AV.bl n) q hG (.bl _)
        cases n <;> exact this
end
end Vz
namespace Vz
open PySem PySem.Spec L2
/-- one entry laid in the new dict -/
theorem lay_entry {Y : Cx} {pins : List (Addr × Obj)} {σ : St} {H : Hp} {s : Shared} {E : Value → Shared → Prop} {D b : Addr} {kvs : List (List Key × V)} {k : List Key} {v : V} {r : Value} {Q : Unit → Shared → Prop} (hu : Y.A.units < cLine) (I : Inv Y pins σ H s) (at_ : H D = some (.dT kvs)) (room : kvs.length < sizeLine)
    (hb : H b = some (.tup (k.map kV))) (rv : RelV v r) (go : ∀ s1, Inv Y pins σ (upd H D (.dT (putK kvs k v))) s1 → Q () s1) : wpAny (model Y.prog Y.w) Y.A (dictSet D (.ref b) r) Q E s := by
  obtain ⟨z, apart, xs, rel, dd⟩ := dt_rd I.hok (.inl at_)
  have few : xs.length ≤ sizeLine := by
    have : kvs.length = xs.length := Paired.length rel
    omega
  have more : (putK kvs k v).length ≤ sizeLine := by
    have := length_putK kvs k v
    omega
  refine wpAny_dictSet_heap (knd := tupleKind (mixKind Y.prog Y.w)) (hsz := few) hu (key_of I.hok hb) dd fun h1 dd1 same => go _ ?_
  obtain ⟨q, es, ep, e1, e2, e3, e4, _, e5⟩ := dd1
  refine d_write I (by rw [at_]; exact True.intro) same ⟨q, e1⟩ ⟨more, apart, _, (rel.put k hb rv).keeps fun c ys ec => ?_, q, es, ep, e1, e2, e3, e4, e5⟩
  rw [upd_ne (ne_of ec at_ (fun z => nomatch z))]
  exact ec
section
variable {X : Cx}
/-- what such a comprehension means: D is the new dict -/
def tDt (wi : TI) (g : TG) (tt : TT) (tk tv : TE) (vs : List Nat) : TE := fun σ H Q => wi σ H fun J H1 => ∀ D, H1 D = none → ∃ W : Nat → Nat → Hp → Prop, (∃ m, W 0 m (upd H1 D (.dT []))) ∧ ∀ i m H, W i m H →
  (J.stop i H ∧ Q (.ref D) H) ∨ (J.go i H ∧ ∃ Nx : Hp → Prop, (∀ H', Nx H' → ∃ m', m' < m ∧ W (i + 1) m' H') ∧ ∀ x H', J.yld i H x H' → g x (wipe σ vs) H' fun σ2 H2 => wipe σ2 vs = wipe σ vs ∧ tt σ2 H2 fun b H3 =>
    if b = true then tk σ2 H3 fun y H4 => tv σ2 H4 fun z H5 => ∃ kvs k p, y = .ref p ∧ H5 p = some (.tup (k.map kV)) ∧ H5 D = some (.dT kvs) ∧ kvs.length < sizeLine ∧ Nx (upd H5 D (.dT (putK kvs k z))) else Nx H3)
abbrev EvB (X : Cx) (scope : Scope) (f : Cx → Prop) : Prop := ∀ (s : Shared) (H : Hp) (C : Addr) (cl : List (Str × Addr)) (fp : List Addr), f (X.blk s H scope (compEnvC scope cl C X.env) fp)
theorem dt_core {pins : List (Addr × Obj)} {s : Shared} {σ : St} {H : Hp} {Q : VK} {kx vx tg iter : Expr} {ifs : List Expr} {scope : Scope} {own : List (Str × Nat)} {pos at0 : Pos} {wi : TI} {g : TG} {tt : TT} {tk tv : TE} {use : Option (Value → Sem Unit)} {Qf : Value → Shared → Prop}
    (hu : X.A.units < cLine) (calm : X.calm = true) (nd : X.N.Nodup) (I : Inv X pins σ H s) (hi : PI X tg iter wi) (ok : BlkOk X.N X.env.scope scope own) (hg : EvB X scope fun Y => PG Y tg g) (ht : EvB X scope fun Y => PTs Y ifs tt) (hk : EvB X scope fun Y => PE Y kx tk) (hv : EvB X scope fun Y => PE Y vx tv)
    (fold : ∀ x, foldedSetIterable iter X.env x = pure x) (wish : tDt wi g tt tk tv (own.map (·.2)) σ H Q)
    (after : ∀ D C s1 m H1, Inv X pins σ H1 s1 → Q (.ref D) H1 → s1.heap.Ns C m → FpOk X pins H1 C → compPost (model X.prog X.w) X.A X.xe use Qf (.ref D) C (.ok .next) s1) :
    wpAny (model X.prog X.w) X.A (comprehension (.DictComp kx vx [⟨tg, iter, ifs, 0⟩] scope pos) scope X.env at0 newDict false (eval iter X.env) use) Qf X.xe s := by
  have cells : ∀ y ∈ scope.names, y.2 = .free → ∃ c, X.env.cells.lookup y.1 = some c := fun y m e => (ok.free y m e).elim (fun z => I.ok.has _ (.inl z)) fun z => I.ok.has _ (.inr z)
  refine wpAny_comprehension_free (use := use) rfl fold (closure_ok cells) ok.kind (fun y m e => by rw [ok.uniq y m, e]) (thn (hi.run pins s σ H _ I wish) fun _ s1 w1 => thn w1 fun _ s2 w2 => ?_)
  obtain ⟨it, fp, tn, J, H2, rfl, I2, T, stands, idle, q⟩ := w2
  refine wpAny_newObj_type (newEnv_comp ?_)
  have fresh : H2 s2.heap.objs.size = none := I2.hok.fresh (Nat.le_refl _)
  obtain ⟨W, ⟨m0, w0⟩, turn⟩ := q s2.heap.objs.size fresh
  -- the new dict stands
  generalize eD : s2.heap.objs.size = D at fresh w0 turn ⊢
  generalize es3 : ({ s2 with heap := s2.heap.push { cls := .type "dict", data := .dict #[] } } : Shared) = s3
  have I3 : Inv X pins σ (upd H2 D (.dT [])) s3 := by
    subst es3 eD
    exact I2.laid (t' := s2.toks) (fun b o e => Heap.get?_push_of_some _ e) (Nat.le_refl _) (dt_empty s2.heap I2.big)
  have grown : s3.heap = s2.heap.push { cls := .type "dict", data := .dict #[] } := by rw [← es3]
  have low : ∀ b ∈ fp, b < s2.heap.objs.size := fun b m => let ⟨_, e, _⟩ := T.obj _ _ stands b m; Heap.lt_size e
  have idle3 : ∀ b ∈ fp, FpOk X pins (upd H2 D (.dT [])) b ∧ b < s3.heap.objs.size := fun b m => by
    have lt := low b m
    refine ⟨⟨?_, (idle b m).2⟩, by rw [grown, Heap.size_push]; exact Nat.lt_succ_of_lt lt⟩
    rw [upd_ne (by rw [← eD]; exact Nat.ne_of_lt lt)]
    exact (idle b m).1
  have stands3 : tn 0 s3.heap := T.keep _ _ _ stands fun b _ o e => by rw [grown]; exact Heap.get?_push_of_some _ e
  have I4 := block_start I3 ok nd idle3
  let cs := cellsFrom (s3.heap.objs.size + 1) scope.names (cloFrom X.env.cells scope.names [])
  have pg := hg s3 (upd H2 D (.dT [])) s3.heap.objs.size cs fp
  have pt := ht s3 (upd H2 D (.dT [])) s3.heap.objs.size cs fp
  have pk := hk s3 (upd H2 D (.dT [])) s3.heap.objs.size cs fp
  have pv := hv s3 (upd H2 D (.dT [])) s3.heap.objs.size cs fp
  show codeAny _ _ (.compStart (.DictComp kx vx [⟨tg, iter, ifs, 0⟩] scope pos) 0 (.ref it) (.ref D) (compEnvC scope cs s3.heap.objs.size X.env)) (compPost (model X.prog X.w) X.A X.xe use Qf (.ref D) s3.heap.objs.size)
    { s3 with heap := pushCells (s3.heap.push { cls := .type "dict", data := .dict #[] }) scope.names }
  have gone : ∀ b ∈ fp, (upd H2 D (.dT [])) b = none := fun b m => (idle3 b m).1.1
  have home : (compEnvC scope cs s3.heap.objs.size X.env).locals = s3.heap.objs.size := rfl
  change Inv (X.blk s3 (upd H2 D (.dT [])) scope (compEnvC scope cs s3.heap.objs.size X.env) fp) _ _ _ _ at I4
  generalize compEnvC scope cs s3.heap.objs.size X.env = ce at I4 pg pt pk pv home ⊢
  generalize upd H2 D (.dT []) = H3 at I3 I4 pg pt pk pv w0 gone idle3
  generalize es4 : ({ s3 with heap := pushCells (s3.heap.push { cls := .type "dict", data := .dict #[] }) scope.names } : Shared) = s4 at I4 ⊢
  have stands4 : tn 0 s4.heap := T.keep _ _ _ stands3 fun b _ o e => by rw [← es4]; exact pushCells_keeps _ _ _ _ (Heap.get?_push_of_some _ e)
  let Y : Cx := X.blk s3 H3 scope ce fp
  have rest : ∀ {σ1 : St} {H1 : Hp} {t1 : Shared}, Inv Y [] σ1 H1 t1 → (∀ b ∈ fp, H1 b = none) → ∀ b ∈ fp, FpOk Y [] H1 b := fun {σ1 H1 t1} J1 n b m =>
    ⟨n b m, (J1.ok.exf b m).1, J1.ok.exfs b m, .inl m, fun x c e => (J1.ok.exf b m).2 x c e, fun p mp => absurd (show p ∈ ([] : List (Addr × Obj)) ++ [] from mp) (by simp)⟩
  let At : Nat → Shared → Prop := fun n t1 => ∃ i H1, Inv Y [] (wipe σ (own.map (·.2))) H1 t1 ∧ tn i t1.heap ∧ (∀ b ∈ fp, H1 b = none) ∧ W i n H1
  have loop : codeAny (model X.prog X.w) X.A (.compLoop (.DictComp kx vx [⟨tg, iter, ifs, 0⟩] scope pos) 0 (.ref it) (.ref D) ce) (compPost (model X.prog X.w) X.A X.xe use Qf (.ref D) s3.heap.objs.size) s4 := by
    refine compLoop_anyD At (fun n t5 at5 => ?_) m0 ⟨0, H3, I4, stands4, gone, w0⟩
    obtain ⟨i, H5, I5, st5, n5, w5⟩ := at5
    rcases turn i n H5 w5 with ⟨stop, done⟩ | ⟨go, Nx, fewer, step⟩
    · refine thnF (T.done Y rfl rfl rfl calm i [] t5 _ H5 (fun _ _ => False) I5 (rest I5 n5) st5 stop) fun o t6 ⟨eo, I6⟩ => ?_
      subst eo
      have I7 : Inv X pins σ H5 t6 := I3.call' (ch := fp) I6.os I6.base I6.hok I6.bare fun b m => ⟨(idle3 b m).1.2.2.2.1, (idle3 b m).1.2.1, (idle3 b m).1.2.2.2.2.1, (idle3 b m).1.2.2.2.2.2⟩
      have none_ : H5 s3.heap.objs.size = none := by
        have z : H5 ce.locals = none := I6.free
        rwa [home] at z
      obtain ⟨m, ns, _⟩ := I6.loc
      have ns : t6.heap.Ns ce.locals m := ns
      rw [home] at ns
      exact after D s3.heap.objs.size t6 m H5 I7 done ns (I3.fpOk (Nat.le_refl _) none_)
    · refine thnF (T.item Y rfl rfl rfl calm i [] t5 _ H5 (fun _ _ => False) I5 (rest I5 n5) st5 go) fun o t6 ⟨u, eo, w6⟩ => ?_
      subst eo
      refine thnF w6 fun _ t7 ⟨x, H7, I7, r7, y7, st7, n7⟩ => ?_
      refine thnF (pg.run _ t7 _ H7 x u _ (I7.pinned (rest I7 n7) (T.obj _ _ st7)) r7 (step x H7 y7)) fun _ t8 ⟨σ8, H8, I8, back8, q8⟩ => ?_
      refine thnF (pt.run _ t8 σ8 H8 _ I8 q8) fun b t9 ⟨H9, I9, q9⟩ => ?_
      have turned : ∀ {t1 : Shared} {H1 : Hp}, Inv Y ([] ++ pinsAt fp t7.heap) σ8 H1 t1 → Nx H1 → ∃ m, m < n ∧ At m t1 := fun {t1 H1} J1 nx => by
        obtain ⟨m1, lt, w1⟩ := fewer H1 nx
        have held : ∀ b ∈ fp, ∀ o, t7.heap.get? b = some o → t1.heap.get? b = some o ∧ H1 b = none := fun b m o e =>
          let z := J1.pin (b, o) (List.mem_append_right _ (List.mem_append_right _ (mem_pinsAt m e)))
          ⟨z.1, z.2.1⟩
        have len : (wipe σ (own.map (·.2))).length = σ8.length := by rw [← back8, wipe_length]
        refine ⟨m1, lt, i + 1, H1, (J1.unpinned (pins := [])).weak len (fun j v e => ?_), T.keep _ _ _ st7 fun b m o e => (held b m o e).1, fun b m => ?_, w1⟩
        · rw [← back8] at e
          exact (wipe_some e).1
        · obtain ⟨o, e, _⟩ := T.obj _ _ st7 b m
          exact (held b m o e).2
      cases b with
      | false =>
        simp only [Bool.false_eq_true, if_false] at q9 ⊢
        exact turned I9 q9
      | true =>
        simp only [if_true] at q9 ⊢
        refine thnF (pk.run _ t9 σ8 H9 _ I9 q9) fun kz t10 ⟨yk, H10, I10, r10, q10⟩ => ?_
        refine thnF (pv.run _ t10 σ8 H10 _ I10 q10) fun vz t11 ⟨yv, H11, I11, r11, kvs, k, p, ek, hp, hD, few, nx⟩ => ?_
        subst ek
        cases (show kz = Value.ref p from r10)
        exact lay_entry (Y := Y) hu I11 hD few hp r11 fun t12 I12 => turned I12 nx
  exact codeAny_compStart_dict loop (T.self X.A 0 _ _ _ stands4 loop)
theorem pe_dct {kx vx tg iter : Expr} {ifs : List Expr} {scope : Scope} {own : List (Str × Nat)} {pos : Pos} {wi : TI} {g : TG} {tt : TT} {tk tv : TE} (hu : X.A.units < cLine) (hc : X.calm = true) (hN : X.N.Nodup) (hi : PI X tg iter wi) (ok : BlkOk X.N X.env.scope scope own)
    (hg : EvB X scope fun Y => PG Y tg g) (ht : EvB X scope fun Y => PTs Y ifs tt) (hk : EvB X scope fun Y => PE Y kx tk) (he : EvB X scope fun Y => PE Y vx tv) (hs : ∀ x, foldedSetIterable iter X.env x = pure x := by intro _; rfl) :
    PE X (.DictComp kx vx [⟨tg, iter, ifs, 0⟩] scope pos) (tDt wi g tt tk tv (own.map (·.2))) := by
  refine ⟨fun pins s σ H Q I h => ?_⟩
  rw [arm_eval_DictComp]
  refine dt_core hu hc hN I hi ok hg ht hk he hs h fun D C s' m H' I' q hn f => ⟨m, hn, fun h'' sb => ?_⟩
  obtain ⟨f0, f1, f2, f3, f4, f5⟩ := f
  exact ⟨.ref D, H', I'.turned (t' := s'.toks) (fun b o hb e => (sb.2 b hb).trans e) f0 f1 f3 f4 f5, rfl, q⟩
end
section
variable {X : Cx} {W : WX} {kx vx tg iter : Expr} {ifs : List Expr} {scope : Scope} {own' : List (Str × Nat)} {t : MB} {mk mv : ME} {pos : Pos}
open Classical in
/-- the turns: the new dict is the object D -/
noncomputable def dtF (gd : Option (Nat × List AV)) (g : MG) (t : MB) (mk mv : ME) (D : Nat) (ρ : En) : List AV → Hs → R Unit
  | [], G => if gdOk gd G then .ok () G else .stuck
  | v :: vs, G => if gdOk gd G then match g v ρ G with
      | .ok ρ1 G1 => match t ρ1 G1 with
        | .ok true G2 => match mk ρ1 G2 with
          | .ok y G3 => match mv ρ1 G3 with
            | .ok z G4 => match tkOf y, G4[D]? with
              | some k, some (.dt acc) => if acc.length < szl then dtF gd g t mk mv D ρ vs (G4.set D (.dt (putA acc k z))) else .stuck
              | _, _ => .stuck
            | _ => .stuck
          | _ => .stuck
        | .ok false G2 => dtF gd g t mk mv D ρ vs G2
        | _ => .stuck
      | _ => .stuck
    else .stuck
noncomputable def mDcT (mi : MI) (g : MG) (t : MB) (mk mv : ME) (own : List Nat) : ME := fun ρ G => (mi ρ G).bind fun k G1 => (dtF k.2 g t mk mv G1.length (wipeA ρ own) k.1 (G1 ++ [.dt []])).bind fun _ G2 => .ok (.ref G1.length) G2
theorem dct_go {S own : List Nat} {mi : MI} {g : MG} (hS : ∀ j ∈ S, j ∈ own) {K : PySem.W.Frag} {σ : St} {H : Hp} {Q : VK} (h : tG K (rA K) W (mDcT mi g t mk mv own) σ H Q) :
    tDt (tI K W mi) (tT K WN S g) (tG K rB WN t) (tG K (rA K) WN mk) (tG K (rA K) WN mv) own σ H Q := by
  obtain ⟨ρ, μ, G, hσ, hG, h⟩ := h
  refine ⟨ρ, μ, G, hσ, hG, ?_⟩
  unfold mDcT at h
  cases e : mi ρ G with
  | stuck => rw [e] at h; exact h
  | exc c d G1 => rw [e] at h; exact h
  | ok k G1 =>
    rw [e] at h
    simp only [R.bind_ok] at h
    intro H1 μ1 J g1 hG1 ok D hD
    have gD : Gr H1 μ1 (upd H1 D (.dT [])) (μ1 ++ [some D]) := Gr.alloc hD
    have hGD : RH K (upd H1 D (.dT [])) (μ1 ++ [some D]) (G1 ++ [.dt []]) := hG1.alloc hD ⟨[], upd_same, RF.nil'⟩
    have hDn : Num (μ1 ++ [some D]) G1.length D := hG1.fresh D
    have hw := (hσ.gr (g1.trans gD)).wipe own
    have h0 : Po K (rA K) W σ (upd H1 D (.dT [])) (μ1 ++ [some D]) ((dtF k.2 g t mk mv G1.length (wipeA ρ own) k.1 (G1 ++ [.dt []])).bind fun _ G2 => .ok (.ref G1.length) G2) Q := Po.gr (g1.trans gD) h
    refine ⟨fun i mm H => mm = k.1.length - i ∧ i ≤ k.1.length ∧ ∃ μ G, Gr (upd H1 D (.dT [])) (μ1 ++ [some D]) H μ ∧ RH K H μ G ∧ Po K (rA K) W σ H μ ((dtF k.2 g t mk mv G1.length (wipeA ρ own) (k.1.drop i) G).bind fun _ G2 => .ok (.ref G1.length) G2) Q,
      ⟨k.1.length, rfl, Nat.zero_le _, _, _, Gr.refl _ _, hGD, h0⟩, ?_⟩
    rintro i mm H2 ⟨rfl, hi2, μ2, G2, g2, hG2, h2⟩
    have hDn2 : Num μ2 (G1.length) D := hDn.gr g2
    by_cases hlt : i < k.1.length
    · rw [List.drop_eq_getElem_cons hlt] at h2
      simp only [dtF] at h2
      by_cases hgd : gdOk k.2 G2
      · rw [if_pos hgd] at h2
        obtain ⟨go, yl⟩ := (ok i H2 μ2 G2 (gD.trans g2) hG2 hgd).1 _ (List.getElem?_eq_getElem hlt)
        refine .inr ⟨go, fun H' => ∃ μ G, Gr (upd H1 D (.dT [])) (μ1 ++ [some D]) H' μ ∧ RH K H' μ G ∧ Po K (rA K) W σ H' μ ((dtF k.2 g t mk mv G1.length (wipeA ρ own) (k.1.drop (i + 1)) G).bind fun _ G2 => .ok (.ref G1.length) G2) Q,
          fun H' z => ⟨k.1.length - (i + 1), by omega, rfl, hlt, z⟩, fun x H' y => ?_⟩
        obtain ⟨g3, hG3, rx⟩ := yl x H' y
        have g13 := g2.trans g3
        refine ⟨_, wipeA ρ own, μ2, G2, rx, hw.gr g13, hG3, ?_⟩
        have h3 := Po.gr g3 h2
        cases e3 : g k.1[i] (wipeA ρ own) G2 with
        | stuck => rw [e3] at h3; exact h3
        | exc c d G' => rw [e3] at h3; exact h3
        | ok ρ4 G4 =>
          rw [e3] at h3
          simp only at h3
          intro H4 μ4 σ4 g4 hG4 hσ4 l4 j4
          have h4 := Po.gr g4 h3
          have g14 := g13.trans g4
          refine ⟨(wipe_eq hS l4 j4).trans wipe_wipe, ρ4, μ4, G4, hσ4, hG4, ?_⟩
          cases e4 : t ρ4 G4 with
          | stuck => rw [e4] at h4; exact h4
          | exc c d G' => rw [e4] at h4; exact h4.elim
          | ok b G5 =>
            rw [e4] at h4
            intro H5 μ5 b' g5 hG5 eb
            have eb : b = b' := eb
            subst eb
            have h5 := Po.gr g5 h4
            have g15 := g14.trans g5
            cases b with
            | false => exact iteF ⟨μ5, G5, g15, hG5, h5⟩
            | true =>
              refine iteT ⟨ρ4, μ5, G5, hσ4.gr g5, hG5, ?_⟩
              simp only at h5
              cases e6 : mk ρ4 G5 with
              | stuck => rw [e6] at h5; exact h5
              | exc c d G' => rw [e6] at h5; exact h5.elim
              | ok y G6 =>
                rw [e6] at h5
                simp only at h5
                intro H6 μ6 y' g6 hG6 ry
                have h6 := Po.gr g6 h5
                have g16 := g15.trans g6
                refine ⟨ρ4, μ6, G6, (hσ4.gr g5).gr g6, hG6, ?_⟩
                cases e7 : mv ρ4 G6 with
                | stuck => rw [e7] at h6; exact h6
                | exc c d G' => rw [e7] at h6; exact h6.elim
                | ok z G7 =>
                  rw [e7] at h6
                  simp only at h6
                  intro H7 μ7 z' g7 hG7 rz
                  have h7 := Po.gr g7 h6
                  have g17 := g16.trans g7
                  have hDn7 : Num μ7 (G1.length) D := hDn.gr g17
                  obtain ⟨o, ho, ro⟩ := hG7.obj hDn7
                  cases ek : tkOf y with
                  | none => rw [ek] at h7; exact h7.elim
                  | some key =>
                    obtain ⟨p, ey, hp⟩ := tkOf_ok (ry.gr g7) ek
                    rw [ek, ho] at h7
                    cases o with
                    | dt acc =>
                      simp only at h7
                      obtain ⟨ws, hv, rs⟩ := ro
                      by_cases hz : acc.length < szl
                      · rw [if_pos hz] at h7
                        have gp : Gr H7 μ7 (upd H7 D (.dT (putK ws key z'))) μ7 := Gr.put hG7 hDn7 ho
                        refine ⟨ws, key, p, ey, hp, hv, by rw [← rs.length]; exact hz, μ7, _, g17.trans gp, hG7.put (o := .dt (putA acc key z)) hDn7 ho ⟨_, upd_same, ?_⟩, Po.gr gp h7⟩
                        exact RF.put key (rz.gr gp) ⟨rs.1, rs.2.gr gp⟩
                      · rw [if_neg hz] at h7
                        exact h7.elim
                    | _ => exact h7.elim
      · rw [if_neg hgd] at h2
        exact h2.elim
    · have ei : i = k.1.length := by omega
      rw [List.drop_eq_nil_of_le (by omega)] at h2
      simp only [dtF] at h2
      by_cases hgd : gdOk k.2 G2
      · rw [if_pos hgd] at h2
        exact .inl ⟨(ok i H2 μ2 G2 (gD.trans g2) hG2 hgd).2 (by omega), Po.now (v := AV.ref G1.length) h2 hG2 (.ref hDn2)⟩
      · rw [if_neg hgd] at h2
        exact h2.elim
theorem se_dct {S : List Nat} {own : List (Str × Nat)} {mi : MI} {g : MG} (hu : X.A.units < cLine) (hc : X.calm = true) (hN : X.N.Nodup) (hi : SI X W tg iter mi) (ok : BlkOk X.N X.env.scope scope own) (hS : ∀ j ∈ S, j ∈ own.map (·.2))
    (hg : EvB X scope fun Y => SG Y WN S tg g) (ht : EvB X scope fun Y => STs Y WN ifs t) (hk : EvB X scope fun Y => SE Y WN kx mk) (he : EvB X scope fun Y => SE Y WN vx mv) (hs : ∀ x, foldedSetIterable iter X.env x = pure x := by intro _; rfl) :
    SE X W (.DictComp kx vx [⟨tg, iter, ifs, 0⟩] scope pos) (mDcT mi g t mk mv (own.map (·.2))) :=
  PE.imp (pe_dct (g := tT X.K WN S g) (tt := tG X.K rB WN t) (tk := tG X.K (rA X.K) WN mk) (tv := tG X.K (rA X.K) WN mv) hu hc hN hi ok hg ht hk he hs) fun σ H Q h => dct_go hS h
end
end Vz
namespace Vz
open PySem L2
end Vz
namespace Vz
open PySem L2
section
variable {X : Cx} {W : WX}
def mLR (m : ME) : ME := fun ρ G => (m ρ G).bind fun v G1 => match v with
  | .int n => if 0 ≤ n ∧ n ≤ 16777216 then .ok (.ref G1.length) (G1 ++ [.lst (rgA 0 n)]) else .stuck
  | _ => .stuck
end
end Vz
namespace Vz
open PySem L2 PyProof.Rows
end Vz
namespace Vz
open PySem L2
section
variable {QV : AV → Hs → Prop} {E : XQ} {G : Hs} {ρ : En} {D : SP}
@[simp] theorem wp_dictT : (mDictT ρ G).wp QV E = QV (.ref G.length) (G ++ [.dt []]) := rfl
@[simp] theorem wp_dputT (mo mi mv : ME) : (mDputT mo mi mv ρ G).wp D = (mv ρ G).wp (fun u G => (mo ρ G).wp (fun v G => (mi ρ G).wp (fun w G => (fDpT v w u G).wp (fun _ G => D.nx ρ G) D.ex) D.ex) D.ex) D.ex := by
  unfold mDputT
  simp only [wp_toS]
  rfl
theorem wp_dpT {n : Nat} {kvs : List (List Key × AV)} {w u : AV} {k : List Key} {QU : Unit → Hs → Prop} (h : G[n]? = some (.dt kvs)) (e : tkOf w = some k) (hl : kvs.length < szl) :
    (fDpT (.ref n) w u G).wp QU E = QU () (G.set n (.dt (putA kvs k u))) := by
  unfold fDpT
  have : dtOf G (.ref n) = some (n, kvs) := by simp only [dtOf, h]
  rw [this, e]
  simp only [if_pos hl]
  rfl
theorem dtR_ref {n : Nat} {kvs : List (List Key × AV)} (h : G[n]? = some (.dt kvs)) : dtR G (.ref n) = some kvs := by simp only [dtR, h]
@[simp] theorem wp_dgetT1 (mo mi : ME) : (mDgetT1 mo mi ρ G).wp QV E = (mo ρ G).wp (fun v G => (dtR G v).isSome = true ∧ (mi ρ G).wp (fun w G => (fDgoT v w .non G).wp QV E) E) E := by
  unfold mDgetT1
  rw [wp_bind]
  congr 1
  funext v G
  by_cases h : (dtR G v).isSome = true
  · rw [if_pos h, wp_bind]; exact propext ⟨fun x => ⟨h, x⟩, fun x => x.2⟩
  · rw [if_neg h]; exact propext ⟨fun x => x.elim, fun x => (h x.1).elim⟩
@[simp] theorem wp_dgetT2 (mo mi md : ME) : (mDgetT2 mo mi md ρ G).wp QV E = (mo ρ G).wp (fun v G => (dtR G v).isSome = true ∧ (mi ρ G).wp (fun w G => (md ρ G).wp (fun u G => (fDgoT v w u G).wp QV E) E) E) E := by
  unfold mDgetT2
  rw [wp_bind]
  congr 1
  funext v G
  by_cases h : (dtR G v).isSome = true
  · rw [if_pos h, wp_bind]
    refine propext ⟨fun x => ⟨h, ?_⟩, fun x => ?_⟩
    · simp only [wp_bind] at x
      exact x
    · simp only [wp_bind]
      exact x.2
  · rw [if_neg h]; exact propext ⟨fun x => x.elim, fun x => (h x.1).elim⟩
@[simp] theorem wp_lr (m : ME) : (mLR m ρ G).wp QV E = (m ρ G).wp (fun v G => match v with
    | .int n => (0 ≤ n ∧ n ≤ 16777216) ∧ QV (.ref G.length) (G ++ [.lst (rgA 0 n)])
    | _ => False) E := by
  unfold mLR
  rw [wp_bind]
  congr 1
  funext v G
  cases v with
  | int n =>
    by_cases h : 0 ≤ n ∧ n ≤ 16777216
    · simp only [if_pos h]
      exact propext ⟨fun x => ⟨h, x⟩, fun x => x.2⟩
    · simp only [if_neg h]
      exact propext ⟨fun x => x.elim, fun x => (h x.1).elim⟩
  | _ => rfl
theorem dtF_inv {gd : Option (Nat × List AV)} {g : MG} {t : MB} {mk mv : ME} {n : Nat} (I : Nat → List (List Key × AV) → Hs → Prop) :
    ∀ (vs : List AV) (i : Nat) (acc : List (List Key × AV)) (G : Hs), I i acc G → G[n]? = some (.dt acc) →
      (∀ j acc G, i ≤ j → j ≤ i + vs.length → I j acc G → gdOk gd G) →
      (∀ j v acc G, vs[j]? = some v → I (i + j) acc G → G[n]? = some (.dt acc) → ∃ ρ1 G1, g v ρ G = .ok ρ1 G1 ∧ (t ρ1 G1).wp (fun b G2 => if b = true then
        (mk ρ1 G2).wp (fun y G3 => (mv ρ1 G3).wp (fun z G4 => ∃ k, tkOf y = some k ∧ G4[n]? = some (.dt acc) ∧ acc.length < szl ∧ I (i + j + 1) (putA acc k z) (G4.set n (.dt (putA acc k z)))) noX) noX
        else G2[n]? = some (.dt acc) ∧ I (i + j + 1) acc G2) noX) →
      (dtF gd g t mk mv n ρ vs G).wp (fun _ G2 => ∃ acc, G2[n]? = some (.dt acc) ∧ I (i + vs.length) acc G2) noX
  | [], i, acc, G, h, hn, hg, hs => by
    have z := hg i acc G (Nat.le_refl _) (Nat.le_add_right _ _) h
    unfold dtF
    rw [if_pos z]
    exact ⟨acc, hn, h⟩
  | v :: vs, i, acc, G, h, hn, hg, hs => by
    have z := hg i acc G (Nat.le_refl _) (Nat.le_add_right _ _) h
    obtain ⟨ρ1, G1, e1, q⟩ := hs 0 v acc G rfl h hn
    have rest : ∀ acc' G', I (i + 1) acc' G' → G'[n]? = some (.dt acc') → (dtF gd g t mk mv n ρ vs G').wp (fun _ G2 => ∃ acc, G2[n]? = some (.dt acc) ∧ I (i + (v :: vs).length) acc G2) noX := fun acc' G' h' hn' => by
      have := dtF_inv I vs (i + 1) acc' G' h' hn' (fun j a G'' l1 l2 => hg j a G'' (by omega) (by simp only [List.length_cons]; omega)) (fun j w a G'' e hI hN => by
        have e2 : i + 1 + j = i + (j + 1) := by omega
        have e3 : i + 1 + j + 1 = i + (j + 1) + 1 := by omega
        rw [e2] at hI
        rw [e3]
        exact hs (j + 1) w a G'' e hI hN)
      have e4 : i + 1 + vs.length = i + (v :: vs).length := by simp only [List.length_cons]; omega
      rw [e4] at this
      exact this
    unfold dtF
    rw [if_pos z, e1]
    simp only
    cases et : t ρ1 G1 with
    | stuck => rw [et] at q; exact q.elim
    | exc c d G' => rw [et] at q; exact q.elim
    | ok b G2 =>
      rw [et] at q
      cases b with
      | false =>
        obtain ⟨q1, q2⟩ : G2[n]? = some (.dt acc) ∧ I (i + 0 + 1) acc G2 := q
        exact rest acc G2 q2 q1
      | true =>
        have q : (mk ρ1 G2).wp (fun y G3 => (mv ρ1 G3).wp (fun z G4 => ∃ k, tkOf y = some k ∧ G4[n]? = some (.dt acc) ∧ acc.length < szl ∧ I (i + 0 + 1) (putA acc k z) (G4.set n (.dt (putA acc k z)))) noX) noX := q
        simp only
        cases ek : mk ρ1 G2 with
        | stuck => rw [ek] at q; exact q.elim
        | exc c d G' => rw [ek] at q; exact q.elim
        | ok y G3 =>
          rw [ek] at q
          have q : (mv ρ1 G3).wp (fun z G4 => ∃ k, tkOf y = some k ∧ G4[n]? = some (.dt acc) ∧ acc.length < szl ∧ I (i + 0 + 1) (putA acc k z) (G4.set n (.dt (putA acc k z)))) noX := q
          simp only
          cases ev : mv ρ1 G3 with
          | stuck => rw [ev] at q; exact q.elim
          | exc c d G' => rw [ev] at q; exact q.elim
          | ok zz G4 =>
            rw [ev] at q
            obtain ⟨k, q1, q2, q3, q4⟩ : ∃ k, tkOf y = some k ∧ G4[n]? = some (.dt acc) ∧ acc.length < szl ∧ I (i + 0 + 1) (putA acc k zz) (G4.set n (.dt (putA acc k zz))) := q
            simp only [q1, q2, if_pos q3]
            refine rest _ _ q4 ?_
            rw [List.getElem?_set_self (List.getElem?_eq_some_iff.mp q2).1]
theorem wp_dct {mi : MI} {g : MG} {t : MB} {mk mv : ME} {own : List Nat} (I : Nat → List (List Key × AV) → Hs → Prop) (h : (mi ρ G).wp (fun k G0 => I 0 [] (G0 ++ [.dt []]) ∧ (∀ j acc G, j ≤ k.1.length → I j acc G → gdOk k.2 G) ∧
      (∀ j v acc G, k.1[j]? = some v → I j acc G → G[G0.length]? = some (.dt acc) → ∃ ρ1 G1, g v (wipeA ρ own) G = .ok ρ1 G1 ∧ (t ρ1 G1).wp (fun b G2 => if b = true then
        (mk ρ1 G2).wp (fun y G3 => (mv ρ1 G3).wp (fun z G4 => ∃ q, tkOf y = some q ∧ G4[G0.length]? = some (.dt acc) ∧ acc.length < szl ∧ I (j + 1) (putA acc q z) (G4.set G0.length (.dt (putA acc q z)))) noX) noX
        else G2[G0.length]? = some (.dt acc) ∧ I (j + 1) acc G2) noX) ∧
      ∀ acc G, G[G0.length]? = some (.dt acc) → I k.1.length acc G → QV (.ref G0.length) G) E) : (mDcT mi g t mk mv own ρ G).wp QV E := by
  unfold mDcT
  rw [wp_bind]
  refine h.mono (fun k G ⟨h0, hg, hs, he⟩ => ?_) fun _ _ _ x => x
  rw [wp_bind]
  have := dtF_inv (gd := k.2) (g := g) (t := t) (mk := mk) (mv := mv) (n := G.length) (ρ := wipeA ρ own) I k.1 0 [] (G ++ [.dt []]) h0 (by simp) (fun j acc G _ l h => hg j acc G (by omega) h) (fun j v acc G e h hn => by
    rw [Nat.zero_add] at h ⊢
    exact hs j v acc G e h hn)
  refine this.to fun _ G2 ⟨acc, hn, hI⟩ => ?_
  rw [Nat.zero_add] at hI
  exact he acc G2 hn hI
end
end Vz
namespace Vz
open PySem L2
section
variable {D : SP} {ρ : En} {G : Hs}
theorem wp_nxN : (mNx ρ G).wp D = D.nx ρ G := propext Iff.rfl
theorem wp_brkN : (mBk ρ G).wp D = D.bk ρ G := propext Iff.rfl
theorem wp_contN : (mCt ρ G).wp D = D.ct ρ G := propext Iff.rfl
end
end Vz
namespace ZpM
open PySem PySem.Spec PyProof.Rows L2
/-- a list (true) or a tuple (false) -/
def Sq (k : Bool) (K : PySem.W.Frag) (H : Hp) (a : Addr) (xs : List V) : Prop := match k with
  | true => SqL K H a xs
  | false => SqT K H a xs
def IsQ (k : Bool) (h : Heap) (a : Addr) (vs : Array Value) : Prop := match k with
  | true => h.IsList a vs
  | false => h.IsTuple a vs
def IsQI (k : Bool) (h : Heap) (it a : Addr) (i : Nat) : Prop := match k with
  | true => h.IsListIter it a i
  | false => h.IsTupleIter it a i
theorem IsQ.at {k : Bool} {h h' : Heap} {a : Addr} {vs : Array Value} (x : IsQ k h a vs) (e : ∀ o, h.get? a = some o → h'.get? a = some o) : IsQ k h' a vs := by
  cases k
  · exact Heap.IsTuple.at x e
  · exact Heap.IsList.at x e
theorem IsQI.at {k : Bool} {h h' : Heap} {it a : Addr} {i : Nat} (x : IsQI k h it a i) (e : ∀ o, h.get? it = some o → h'.get? it = some o) : IsQI k h' it a i := by
  cases k
  · exact Heap.IsTupleIter.at x e
  · exact Heap.IsListIter.at x e
end ZpM
namespace Vz
open PySem L2
/-- lists and tuples that nobody writes -/
def fixOf : AV → Option (Bool × List AV)
  | .tup xs => some (false, xs)
  | .con xs => some (false, xs)
  | .ls xs => some (true, xs)
  | .lk xs => some (true, xs)
  | _ => none
def zipA (xs ys : List AV) : List AV := List.zipWith (fun x y => AV.tup [x, y]) xs ys
def fZm : List AV → Hs → R Wk
  | [v, w], G => match fixOf v, fixOf w with
    | some p, some q => .ok (zipA p.2 q.2, none) G
    | _, _ => .stuck
  | _, _ => .stuck
/-- zip(a, b) -/
def mZm (ms : MEs) : MI := fun ρ G => (ms ρ G).bind fZm
section
variable {QW : Wk → Hs → Prop} {E : XQ} {ρ : En} {G : Hs}
@[simp] theorem wp_zm (ms : MEs) : (mZm ms ρ G).wp QW E = (ms ρ G).wp (fun vs G => (fZm vs G).wp QW E) E := by
  unfold mZm
  rw [wp_bind]
end
end Vz
namespace ZpM
open PySem PySem.Spec PyProof.Rows PySem.W L2
theorem Sq.len {X : Cx} {pins : List (Addr × Obj)} {σ : L2.St} {H : Hp} {s : Shared} {k : Bool} {a : Addr} {xs : List V} (I : Inv X pins σ H s) (h : Sq k X.K H a xs) : xs.length ≤ sizeLine := by
  cases k
  · obtain ⟨its, rv, p, z⟩ := I.tuple h; first | exact z | (rw [rv.length]; simpa using z)
  · obtain ⟨its, rv, p, z⟩ := I.list h; first | exact z | (rw [rv.length]; simpa using z)
end ZpM
namespace Vz
open PySem L2
end Vz
namespace Vz
open PySem PySem.Spec L2 PyProof.Rows
/-- room, whatever is handled -/
structure RmQ (k : Nat) (A : Around) : Prop where
  dp : A.depth + 3 * k + 5 < recursionLimit
  un : A.units + 16 * k + 200 < cLine
  gd : A.guards = some []
section
variable {k j : Nat} {A : Around}
theorem RmQ.mono (r : RmQ k A) (h : j ≤ k) : RmQ j A := ⟨by have := r.dp; omega, by have := r.un; omega, r.gd⟩
theorem RmQ.deeper (r : RmQ (k + 1) A) (env : Env) : RmQ k (A.deeper env) := ⟨by have := r.dp; show A.depth + 1 + _ + 5 < _; omega, by have := r.un; show A.units + 3 + _ + 200 < _; omega, r.gd⟩
end
end Vz
namespace Vz
open PySem PySem.Spec L2
end Vz
namespace Vz
open PySem L2
end Vz
namespace Vz
open PySem L2
section
variable {K : PySem.W.Frag}
/-- list(d), inline -/
def keyV : Key → AV
  | .inl n => .int n
  | .inr s => .str s
end
def rgD (lo hi : Int) : List AV := (List.range (lo - hi).toNat).map fun i => .int (lo + ((i : Nat) : Int) * (-1))
@[irreducible] def fRgD : List AV → Hs → R Wk
  | [.int i, .int j, .int c], G => if c = -1 ∧ -(2 ^ 62) ≤ i ∧ i < 2 ^ 62 ∧ -(2 ^ 62) ≤ j ∧ j < 2 ^ 62 then .ok (rgD i j, none) G else .stuck
  | _, _ => .stuck
def mRgD (ms : MEs) : MI := fun ρ G => (ms ρ G).bind fRgD
section
variable {QV : AV → Hs → Prop} {QW : Wk → Hs → Prop} {E : XQ} {ρ : En} {G : Hs}
@[simp] theorem wp_rgD (ms : MEs) : (mRgD ms ρ G).wp QW E = (ms ρ G).wp (fun vs G => (fRgD vs G).wp QW E) E := by
  unfold mRgD
  rw [wp_bind]
end
end Vz
namespace Vz
open PySem L2
end Vz
namespace Pl
open PySem Vz
/-- the five sums -/
inductive Sk where
  | plus | less | times | under | same
  deriving DecidableEq
def Sk.word : Sk → Str
  | .plus => "plus"
  | .less => "less"
  | .times => "times"
  | .under => "under"
  | .same => "same"
inductive Ex where
  | num (n : Int) | box (x : Str) | ref (f : Str) | many | extra (e : Ex) | sum (k : Sk) (a b : Ex)
def Ex.av : Ex → AV
  | .num n => .tup [.str "number", .int n]
  | .box x => .tup [.str "box", .str x]
  | .ref f => .tup [.str "ref", .str f]
  | .many => .tup [.str "many"]
  | .extra e => .tup [.str "extra", e.av]
  | .sum k a b => .tup [.str k.word, a.av, b.av]
inductive St where
  | set (x : Str) (e : Ex)
  | say (e : Ex)
  | call (ts : List Str) (f : Str) (es : List Ex)
  | at_ (t : Str) (e : Ex) (es : List Ex)
  | ret (es : List Ex)
  | throw (e : Ex)
  | ite (c : Ex) (a b : List St)
  | whl (c : Ex) (b : List St)
  | try_ (a : List St) (x : Str) (b : List St)
mutual
def St.av : St → AV
  | .set x e => .tup [.str "set", .str x, e.av]
  | .say e => .tup [.str "say", e.av]
  | .call ts f es => .tup [.str "call", .tup (ts.map .str), .str f, .tup (es.map Ex.av)]
  | .at_ t e es => .tup [.str "at", .str t, e.av, .tup (es.map Ex.av)]
  | .ret es => .tup [.str "return", .tup (es.map Ex.av)]
  | .throw e => .tup [.str "throw", e.av]
  | .ite c a b => .tup [.str "if", c.av, .tup (bdA a), .tup (bdA b)]
  | .whl c b => .tup [.str "while", c.av, .tup (bdA b)]
  | .try_ a x b => .tup [.str "try", .tup (bdA a), .str x, .tup (bdA b)]
def bdA : List St → List AV
  | [] => []
  | s :: r => s.av :: bdA r
end
structure Fn where
  name : Str
  params : List Str
  body : List St
  results : Nat
  more : Bool
def strA (xs : List Str) : List AV := xs.map .str
def fnN : List Str := ["name", "params", "body", "results", "more"]
def Fn.av (f : Fn) : AV := .iv "Function" fnN [.str f.name, .tup (strA f.params), .tup (bdA f.body), .int f.results, .bl f.more]
def bookA (fs : List Fn) : AV := .iv "Book" ["functions"] [.tup (fs.map Fn.av)]
inductive En where
  | spent | fault (s : Str)
  deriving DecidableEq
def En.av : En → AV
  | .spent => .tup [.str "spent"]
  | .fault s => .tup [.str "fault", .str s]
inductive Lg where
  | inn (f : Str) (xs : List Int) | out (f : Str) (xs : List Int) | gone (f : Str)
  deriving DecidableEq
def Lg.av : Lg → AV
  | .inn f xs => .tup [.str "in", .str f, .tup (zAV xs)]
  | .out f xs => .tup [.str "out", .str f, .tup (zAV xs)]
  | .gone f => .tup [.str "gone", .str f]
def saidA (p : Int × List Str) : AV := .tup [.int p.1, .tup (strA p.2)]
structure Rs where
  fuel : Int
  work : List Str
  said : List (Int × List Str)
  log : List Lg
abbrev Bx := List (Str × Int)
def Bx.get (bx : Bx) (x : Str) : Option Int := match bx with
  | [] => none
  | (y, v) :: r => if y = x then some v else Bx.get r x
def Bx.put (bx : Bx) (x : Str) (v : Int) : Bx := if (bx.any fun p => decide (p.1 = x)) = true then bx.map (fun p => if p.1 = x then (p.1, v) else p) else bx ++ [(x, v)]
abbrev lim : Nat := 1000000
def exBoxes : Ex → List Str
  | .box x => [x]
  | .extra e => exBoxes e
  | .sum _ a b => exBoxes a ++ exBoxes b
  | _ => []
def esBoxes : List Ex → List Str
  | [] => []
  | e :: r => exBoxes e ++ esBoxes r
mutual
def stBoxes : St → List Str
  | .set x e => [x] ++ exBoxes e
  | .say e => exBoxes e
  | .call ts _ es => ts ++ esBoxes es
  | .at_ t e es => [t] ++ (exBoxes e ++ esBoxes es)
  | .ret es => esBoxes es
  | .throw e => exBoxes e
  | .ite c a b => exBoxes c ++ (bdBoxes a ++ bdBoxes b)
  | .whl c b => exBoxes c ++ bdBoxes b
  | .try_ a x b => bdBoxes a ++ [x] ++ bdBoxes b
def bdBoxes : List St → List Str
  | [] => []
  | s :: r => stBoxes s ++ bdBoxes r
end
/-- each once, as it comes first -/
def once (acc : List Str) : List Str → List Str
  | [] => acc
  | x :: r => if x ∈ acc then once acc r else once (acc ++ [x]) r
def Fn.boxes (f : Fn) : List Str := once [] (f.params ++ bdBoxes f.body)
def bx0 (xs : List Str) : Bx := xs.map fun x => (x, 0)
def putG (bx : Bx) (x : Str) (v : Int) : Option Bx := if lim ≤ bx.length then none else some (bx.put x v)
def puts : Bx → List Str → List Int → Option Bx
  | bx, x :: xs, v :: vs => match putG bx x v with
    | some b => puts b xs vs
    | none => none
  | bx, _, _ => some bx
def Fn.start (f : Fn) (things : List Int) : Option Bx := puts (bx0 f.boxes) f.params things
end Pl
namespace Vz
open PySem L2
end Vz
namespace Pl
open PySem Vz
structure FrP (P : Nat → Prop) (G G' : Hs) : Prop where
  le : G.length ≤ G'.length
  at_ : ∀ n, ¬ P n → n < G.length → G'[n]? = G[n]?
section
variable {P Q : Nat → Prop} {G G1 G2 : Hs}
theorem FrP.refl : FrP P G G := ⟨Nat.le_refl _, fun _ _ _ => rfl⟩
theorem FrP.trans (h : FrP P G G1) (k : FrP P G1 G2) : FrP P G G2 := ⟨Nat.le_trans h.le k.le, fun n hn hl => (k.at_ n hn (Nat.lt_of_lt_of_le hl h.le)).trans (h.at_ n hn hl)⟩
theorem FrP.mono (h : FrP P G G1) (l : ∀ n, P n → Q n) : FrP Q G G1 := ⟨h.le, fun n hn hl => h.at_ n (fun z => hn (l n z)) hl⟩
theorem FrP.kp (h : Kp 0 G G1) : FrP P G G1 := ⟨h.le, fun n _ hl => h.at_ n (Nat.zero_le _) hl⟩
theorem FrP.set {n : Nat} {o : AO} (h : FrP P G G1) (hn : P n) : FrP P G (G1.set n o) := ⟨by rw [List.length_set]; exact h.le, fun m hm hl => (List.getElem?_set_ne fun e => hm (by rw [← e]; exact hn)).trans (h.at_ m hm hl)⟩
theorem FrP.app {o : List AO} (h : FrP P G G1) : FrP P G (G1 ++ o) := h.trans ⟨by simp, fun n _ hl => List.getElem?_append_left hl⟩
theorem FrP.get {n : Nat} {o : AO} (h : FrP P G G1) (hn : ¬ P n) (e : G[n]? = some o) : G1[n]? = some o := (h.at_ n hn (List.getElem?_eq_some_iff.mp e).1).trans e
end
/-- where a run's things stand -/
structure Ad where
  R : Nat
  w : Nat
  s : Nat
  l : Nat
def Ad.mem (A : Ad) (n : Nat) : Prop := n = A.R ∨ n = A.w ∨ n = A.s ∨ n = A.l
def runF (A : Ad) (fs : List Fn) (fuel : Int) : List (Str × AV) := [("book", bookA fs), ("fuel", .int fuel), ("work", .ref A.w), ("said", .ref A.s), ("log", .ref A.l)]
structure RunH (A : Ad) (fs : List Fn) (st : Rs) (G : Hs) : Prop where
  r : G[A.R]? = some (.ins "Running" (runF A fs st.fuel))
  w : G[A.w]? = some (.lst (strA st.work))
  s : G[A.s]? = some (.lst (st.said.map saidA))
  l : G[A.l]? = some (.lst (st.log.map Lg.av))
  ne : A.w ≠ A.s ∧ A.w ≠ A.l ∧ A.s ≠ A.l
def bxK (bx : Bx) : List (L2.Key × AV) := bx.map fun p => (.inr p.1, .int p.2)
def BxH (d : Nat) (bx : Bx) (G : Hs) : Prop := G[d]? = some (.dk (bxK bx))
section
variable {A : Ad} {fs : List Fn} {st : Rs} {G G1 : Hs} {d : Nat} {bx : Bx}
theorem RunH.neR (h : RunH A fs st G) : A.R ≠ A.w ∧ A.R ≠ A.s ∧ A.R ≠ A.l := by
  refine ⟨fun e => ?_, fun e => ?_, fun e => ?_⟩
  · have := h.r; rw [e, h.w] at this; cases this
  · have := h.r; rw [e, h.s] at this; cases this
  · have := h.r; rw [e, h.l] at this; cases this
theorem RunH.nd (h : RunH A fs st G) (b : BxH d bx G) : ¬ A.mem d := by
  unfold BxH at b
  rintro (e | e | e | e)
  · rw [e, h.r] at b; cases b
  · rw [e, h.w] at b; cases b
  · rw [e, h.s] at b; cases b
  · rw [e, h.l] at b; cases b
theorem RunH.fr {P : Nat → Prop} (h : RunH A fs st G) (f : FrP P G G1) (hp : ∀ n, A.mem n → ¬ P n) : RunH A fs st G1 :=
  ⟨f.get (hp _ (.inl rfl)) h.r, f.get (hp _ (.inr (.inl rfl))) h.w, f.get (hp _ (.inr (.inr (.inl rfl)))) h.s, f.get (hp _ (.inr (.inr (.inr rfl)))) h.l, h.ne⟩
theorem RunH.kp (h : RunH A fs st G) (k : Kp 0 G G1) : RunH A fs st G1 := h.fr (P := fun _ => False) (.kp k) fun _ _ z => z
theorem BxH.kp (h : BxH d bx G) (k : Kp 0 G G1) : BxH d bx G1 := k.get0 h
theorem lt_of {n : Nat} {o : AO} (h : G[n]? = some o) : n < G.length := (List.getElem?_eq_some_iff.mp h).1
theorem set_self {n : Nat} {o o' : AO} (h : G[n]? = some o) : (G.set n o')[n]? = some o' := List.getElem?_set_self (lt_of h)
theorem set_other {n m : Nat} {o' : AO} (h : m ≠ n) : (G.set n o')[m]? = G[m]? := List.getElem?_set_ne fun e => h e.symm
theorem RunH.fuel (h : RunH A fs st G) (g : Int) : RunH A fs { st with fuel := g } (G.set A.R (.ins "Running" (runF A fs g))) := by
  obtain ⟨n1, n2, n3⟩ := h.neR
  exact ⟨set_self h.r, (set_other n1.symm).trans h.w, (set_other n2.symm).trans h.s, (set_other n3.symm).trans h.l, h.ne⟩
theorem RunH.work (h : RunH A fs st G) (ws : List Str) : RunH A fs { st with work := ws } (G.set A.w (.lst (strA ws))) := by
  obtain ⟨n1, n2, n3⟩ := h.neR
  exact ⟨(set_other n1).trans h.r, set_self h.w, (set_other h.ne.1.symm).trans h.s, (set_other h.ne.2.1.symm).trans h.l, h.ne⟩
theorem RunH.said (h : RunH A fs st G) (xs : List (Int × List Str)) : RunH A fs { st with said := xs } (G.set A.s (.lst (xs.map saidA))) := by
  obtain ⟨n1, n2, n3⟩ := h.neR
  exact ⟨(set_other n2).trans h.r, (set_other h.ne.1).trans h.w, set_self h.s, (set_other h.ne.2.2.symm).trans h.l, h.ne⟩
theorem RunH.log (h : RunH A fs st G) (xs : List Lg) : RunH A fs { st with log := xs } (G.set A.l (.lst (xs.map Lg.av))) := by
  obtain ⟨n1, n2, n3⟩ := h.neR
  exact ⟨(set_other n3).trans h.r, (set_other h.ne.2.1).trans h.w, (set_other h.ne.2.2).trans h.s, set_self h.l, h.ne⟩
end
end Pl
namespace Vz
open PySem L2
end Vz
namespace Vz
open PySem PySem.Spec L2
end Vz
namespace Vz
open PySem PySem.Spec L2 PyProof.Rows
open AutoSeq1 (wpAny_loadPart')
end Vz
namespace Vz
open PySem L2
section
variable {QV : AV → Hs → Prop} {QB : Bool → Hs → Prop} {QVs : List AV → Hs → Prop} {E : XQ} {D : SP} {ρ : En} {G : Hs} {i j : Int} {xs : List AV}
theorem wp_okN {α : Type} {Q : α → Hs → Prop} (v : α) : (R.ok v G).wp Q E = Q v G := propext Iff.rfl
theorem wp_retNN : (mRetN ρ G).wp D = D.rt .non G := propext Iff.rfl
theorem wp_cN (v : AV) : (mC v ρ G).wp QV E = QV v G := propext Iff.rfl
theorem wp_nilN : (mNil ρ G).wp QVs E = QVs [] G := propext Iff.rfl
theorem wp_oNN {QO : Option Int → Hs → Prop} : (mNone ρ G).wp QO E = QO none G := propext Iff.rfl
theorem wp_addN : (fAdd (.int i) (.int j) G).wp QV E = QV (.int (i + j)) G := propext Iff.rfl
theorem wp_subN : (fSub (.int i) (.int j) G).wp QV E = QV (.int (i - j)) G := propext Iff.rfl
theorem wp_ltN : (fLt (.int i) (.int j) G).wp QV E = QV (.bl (decide (i < j))) G := propext Iff.rfl
theorem wp_leN : (fLe (.int i) (.int j) G).wp QV E = QV (.bl (decide (i ≤ j))) G := propext Iff.rfl
theorem wp_gtN : (fGt (.int i) (.int j) G).wp QV E = QV (.bl (decide (j < i))) G := propext Iff.rfl
theorem wp_geN : (fGe (.int i) (.int j) G).wp QV E = QV (.bl (decide (j ≤ i))) G := propext Iff.rfl
theorem wp_eqN : (fEq (.int i) (.int j) G).wp QV E = QV (.bl (decide (i = j))) G := propext Iff.rfl
theorem wp_neN : (fNe (.int i) (.int j) G).wp QV E = QV (.bl (!decide (i = j))) G := propext Iff.rfl
theorem wp_eqSN {a b : Str} : (fEq (.str a) (.str b) G).wp QV E = QV (.bl (decide (a = b))) G := propext Iff.rfl
theorem wp_neSN {a b : Str} : (fNe (.str a) (.str b) G).wp QV E = QV (.bl (!decide (a = b))) G := propext Iff.rfl
theorem wp_eqBN {a b : Bool} : (fEq (.bl a) (.bl b) G).wp QV E = QV (.bl (decide (a = b))) G := propext Iff.rfl
theorem wp_neBN {a b : Bool} : (fNe (.bl a) (.bl b) G).wp QV E = QV (.bl (!decide (a = b))) G := propext Iff.rfl
theorem mg_nmN (i : Nat) (v : AV) : MG.wp (gNm i v ρ G) D = D.nx (ρ.set i (some v)) G := propext Iff.rfl
theorem isN_nN : (fIsN .non .non G).wp QV E = QV (.bl true) G := propext Iff.rfl
theorem notN_nN : (fNotN .non .non G).wp QV E = QV (.bl false) G := propext Iff.rfl
theorem isN_iN {i : Int} : (fIsN (.int i) .non G).wp QV E = QV (.bl false) G := propext Iff.rfl
theorem notN_iN {i : Int} : (fNotN (.int i) .non G).wp QV E = QV (.bl true) G := propext Iff.rfl
theorem fzQ_lsN (xs : List AV) : fzQ QV (.ls xs) G = QV (.ls xs) G := propext Iff.rfl
theorem fzQ_tupN (xs : List AV) : fzQ QV (.tup xs) G = QV (.tup xs) G := propext Iff.rfl
theorem fzQ_ivN (c ns) (xs : List AV) : fzQ QV (.iv c ns xs) G = QV (.iv c ns xs) G := propext Iff.rfl
theorem fzQ_intN (i : Int) : fzQ QV (.int i) G = QV (.int i) G := propext Iff.rfl
theorem fzQ_strN (i : Str) : fzQ QV (.str i) G = QV (.str i) G := propext Iff.rfl
theorem fzQ_blN (i : Bool) : fzQ QV (.bl i) G = QV (.bl i) G := propext Iff.rfl
theorem fzQ_nonN : fzQ QV .non G = QV .non G := propext Iff.rfl
theorem wp_addIN : (fAddI (.int i) (.int j) G).wp QV E = QV (.int (i + j)) G := propext Iff.rfl
theorem wp_iaddIN : (fIAddI (.int i) (.int j) G).wp QV E = QV (.int (i + j)) G := propext Iff.rfl
theorem len_lsN : (fLen [.ls xs] G).wp QV E = QV (.int xs.length) G := propext Iff.rfl
theorem list_lsN : (fListI [.ls xs] G).wp QV E = QV (.ls xs) G := propext Iff.rfl
theorem tuple_lsN : (fTuple [.ls xs] G).wp QV E = QV (.tup xs) G := propext Iff.rfl
theorem starts_SN {a c : Str} : (fStarts (.str a) [.str c] G).wp QV E = QV (.bl (Txt.startswith a c)) G := propext Iff.rfl
end
end Vz
namespace Vz
open PySem PySem.Spec L2
section
variable {K : PySem.W.Frag}
def rDictD : List V → Hp → VK → Prop := fun xs H Q => ∃ (a : Addr) (kvs : List (Key × V)), xs = [.ref a] ∧ Rd H a (.dK kvs) ∧ ∀ p, H p = none → Q (.ref p) (upd H p (.dK kvs))
def rDictP (K : PySem.W.Frag) : List V → Hp → VK → Prop := fun xs H Q => ∃ (a : Addr) (ps : List Addr) (kvs : List (Key × V)), xs = [.ref a] ∧ SqL K H a (ps.map V.ref) ∧ Paired (fun p kv => SqT K H p [kV kv.1, kv.2]) ps kvs ∧
    ∀ p, H p = none → Q (.ref p) (upd H p (.dK (mergeK [] kvs)))
def rDictA (K : PySem.W.Frag) : List V → Hp → VK → Prop := fun xs H Q => rDictD xs H Q ∨ rDictP K xs H Q
theorem call_dictA {X : Cx} (hc : X.calm = true) : CallR X (.type "dict") (rDictA X.K) := CallR.or call_dictD (call_dictP hc)
/-- a pair of a key and something -/
def pairA : AV → Option (Key × AV)
  | .tup [k, v] => (kOf k).map fun k => (k, v)
  | _ => none
def pairsA : List AV → Option (List (Key × AV))
  | [] => some []
  | x :: xs => match pairA x, pairsA xs with
    | some p, some ps => some (p :: ps)
    | _, _ => none
theorem pairA_ok {H : Hp} {μ : Mu} {x : AV} {v : V} {p : Key × AV} (r : RA K H μ x v) (e : pairA x = some p) : ∃ a z, v = .ref a ∧ SqT K H a [kV p.1, z] ∧ RA K H μ p.2 z := by
  unfold pairA at e
  split at e
  · rename_i k w
    cases r with
    | tup h rs =>
      obtain ⟨k', ek, rfl⟩ := Option.map_eq_some_iff.mp e
      cases rs with
      | cons r1 rs =>
        cases rs with
        | cons r2 rs =>
          cases rs
          have := kOf_ok r1 ek
          subst this
          exact ⟨_, _, rfl, .inl (.inl h), r2⟩
  · cases e
theorem pairsA_ok {H : Hp} {μ : Mu} : ∀ {xs : List AV} {vs : List V} {kvs : List (Key × AV)}, RAs K H μ xs vs → pairsA xs = some kvs → ∃ (ps : List Addr) (ws : List (Key × V)), vs = ps.map V.ref ∧ Paired (fun p kv => SqT K H p [kV kv.1, kv.2]) ps ws ∧ RF K H μ kvs ws
  | [], _, _, .nil, e => by cases e; exact ⟨[], [], rfl, .nil, .nil'⟩
  | x :: xs, _, _, .cons r rs, e => by
    unfold pairsA at e
    cases e1 : pairA x with
    | none => rw [e1] at e; cases e
    | some p =>
      cases e2 : pairsA xs with
      | none => rw [e1, e2] at e; cases e
      | some kvs =>
        rw [e1, e2] at e
        cases e
        obtain ⟨a, z, rfl, h1, h2⟩ := pairA_ok r e1
        obtain ⟨ps, ws, rfl, h3, h4⟩ := pairsA_ok rs e2
        exact ⟨a :: ps, (p.1, z) :: ws, rfl, .cons h1 h3, .cons h2 h4⟩
def fDictA : List AV → Hs → R AV
  | [v], G => match dkR G v with
    | some kvs => .ok (.ref G.length) (G ++ [.dk kvs])
    | none => match lstOf G v with
      | some xs => match pairsA xs with
        | some kvs => .ok (.ref G.length) (G ++ [.dk (mergeA kvs)])
        | none => .stuck
      | none => .stuck
  | _, _ => .stuck
theorem opN_dictA : OpN K (rDictA K) fDictA := by
  intro W σ H μ G vs xs Q hG rs q
  match vs, rs, q with
  | [v], rs, q =>
    obtain ⟨y, rfl, r⟩ := rs.one
    simp only [fDictA] at q
    cases e : dkR G v with
    | some kvs =>
      rw [e] at q
      obtain ⟨a, ws, rfl, hs, rf⟩ := dkR_ok hG r e
      exact .inl ⟨a, ws, rfl, .inl hs, fun p hp => q _ _ _ (Gr.alloc hp) (hG.alloc hp ⟨ws, upd_same, rf.gr (Gr.alloc hp)⟩) (.ref (hG.fresh p))⟩
    | none =>
      rw [e] at q
      cases e1 : lstOf G v with
      | none => rw [e1] at q; exact q.elim
      | some ys =>
        rw [e1] at q
        cases e2 : pairsA ys with
        | none => simp only [e2] at q; exact q.elim
        | some kvs =>
          simp only [e2] at q
          obtain ⟨a, us, rfl, hs, rz⟩ := lstOf_ok hG r e1
          obtain ⟨ps, ws, rfl, h3, h4⟩ := pairsA_ok rz e2
          exact .inr ⟨a, ps, ws, rfl, hs, h3, fun p hp => q _ _ _ (Gr.alloc hp) (hG.alloc hp (o := .dk (mergeA kvs)) ⟨_, upd_same, (merge_ok h4 .nil').gr (Gr.alloc hp)⟩) (.ref (hG.fresh p))⟩
  | [], _, q => exact q.elim
  | _ :: _ :: _, _, q => exact q.elim
end
section
variable {QV : AV → Hs → Prop} {E : XQ} {G : Hs} {ρ : En} {D : SP}
theorem dict_ls {xs : List AV} {kvs : List (Key × AV)} (h : pairsA xs = some kvs) : (fDictA [.ls xs] G).wp QV E = QV (.ref G.length) (G ++ [.dk (mergeA kvs)]) := by
  simp only [fDictA, dkR, lstOf, h]
  rfl
end
end Vz
namespace Vz
open PySem L2
end Vz
namespace Vz
open PySem L2
end Vz
namespace Vz
open PySem L2
section
variable {QV : AV → Hs → Prop} {E : XQ} {G G0 : Hs} {ρ : En}
theorem FrN.setN {D : Nat} {o : AO} {G1 : Hs} (h : FrN D G0 G1) : FrN D G0 (G1.set D o) := ⟨by rw [List.length_set]; exact h.le, fun m hm hl => (List.getElem?_set_ne (Ne.symm hm)).trans (h.at_ m hm hl)⟩
end
end Vz
namespace L2
open PySem PySem.Spec PyProof.Rows
end L2
namespace Vz
open PySem L2
end Vz
namespace Vz
open PySem L2
theorem lc_at {S own : List Nat} {g : MG} {t : MB} {m : ME} {W : WX} {k : Wk} {J : It} (hS : ∀ j ∈ S, j ∈ own) {K : PySem.W.Frag} {σ : St} {H1 : Hp} {μ1 : Mu} {G1 : Hs} {ρ : En} {Q : VK} (hσ : RS K H1 μ1 ρ σ) (hG1 : RH K H1 μ1 G1) (ok : ItOk K J k H1 μ1)
    (h : Po K (rA K) W σ H1 μ1 ((lcF k.2 g t m G1.length (wipeA ρ own) k.1 (G1 ++ [.lst []])).bind fun _ G2 => .ok (.ref G1.length) G2) Q) :
    tLc (fun _ H R => R J H) (tT K WN S g) (tG K rB WN t) (tG K (rA K) WN m) own σ H1 Q := by
  have g1 : Gr H1 μ1 H1 μ1 := Gr.refl _ _
  intro D hD
  have gD : Gr H1 μ1 (upd H1 D (.lst [])) (μ1 ++ [some D]) := Gr.alloc hD
  have hGD : RH K (upd H1 D (.lst [])) (μ1 ++ [some D]) (G1 ++ [.lst []]) := hG1.alloc hD ⟨[], upd_same, .nil⟩
  have hDn : Num (μ1 ++ [some D]) G1.length D := hG1.fresh D
  have hw := (hσ.gr (g1.trans gD)).wipe own
  have h0 : Po K (rA K) W σ (upd H1 D (.lst [])) (μ1 ++ [some D]) ((lcF k.2 g t m G1.length (wipeA ρ own) k.1 (G1 ++ [.lst []])).bind fun _ G2 => .ok (.ref G1.length) G2) Q := Po.gr (g1.trans gD) h
  refine ⟨fun i mm H => mm = k.1.length - i ∧ i ≤ k.1.length ∧ ∃ μ G, Gr (upd H1 D (.lst [])) (μ1 ++ [some D]) H μ ∧ RH K H μ G ∧ Po K (rA K) W σ H μ ((lcF k.2 g t m G1.length (wipeA ρ own) (k.1.drop i) G).bind fun _ G2 => .ok (.ref G1.length) G2) Q,
    ⟨k.1.length, rfl, Nat.zero_le _, _, _, Gr.refl _ _, hGD, h0⟩, ?_⟩
  rintro i mm H2 ⟨rfl, hi2, μ2, G2, g2, hG2, h2⟩
  have hDn2 : Num μ2 (G1.length) D := hDn.gr g2
  by_cases hlt : i < k.1.length
  · rw [List.drop_eq_getElem_cons hlt] at h2
    simp only [lcF] at h2
    by_cases hgd : gdOk k.2 G2
    · rw [if_pos hgd] at h2
      obtain ⟨go, yl⟩ := (ok i H2 μ2 G2 (gD.trans g2) hG2 hgd).1 _ (List.getElem?_eq_getElem hlt)
      refine .inr ⟨go, fun H' => ∃ μ G, Gr (upd H1 D (.lst [])) (μ1 ++ [some D]) H' μ ∧ RH K H' μ G ∧ Po K (rA K) W σ H' μ ((lcF k.2 g t m G1.length (wipeA ρ own) (k.1.drop (i + 1)) G).bind fun _ G2 => .ok (.ref G1.length) G2) Q,
        fun H' z => ⟨k.1.length - (i + 1), by omega, rfl, hlt, z⟩, fun x H' y => ?_⟩
      obtain ⟨g3, hG3, rx⟩ := yl x H' y
      have g13 := g2.trans g3
      refine ⟨_, wipeA ρ own, μ2, G2, rx, hw.gr g13, hG3, ?_⟩
      have h3 := Po.gr g3 h2
      cases e3 : g k.1[i] (wipeA ρ own) G2 with
      | stuck => rw [e3] at h3; exact h3
      | exc c d G' => rw [e3] at h3; exact h3
      | ok ρ4 G4 =>
        rw [e3] at h3
        simp only at h3
        intro H4 μ4 σ4 g4 hG4 hσ4 l4 j4
        have h4 := Po.gr g4 h3
        have g14 := g13.trans g4
        refine ⟨(wipe_eq hS l4 j4).trans wipe_wipe, ρ4, μ4, G4, hσ4, hG4, ?_⟩
        cases e4 : t ρ4 G4 with
        | stuck => rw [e4] at h4; exact h4
        | exc c d G' => rw [e4] at h4; exact h4.elim
        | ok b G5 =>
          rw [e4] at h4
          intro H5 μ5 b' g5 hG5 eb
          have eb : b = b' := eb
          subst eb
          have h5 := Po.gr g5 h4
          have g15 := g14.trans g5
          cases b with
          | false => exact iteF ⟨μ5, G5, g15, hG5, h5⟩
          | true =>
            refine iteT ⟨ρ4, μ5, G5, hσ4.gr g5, hG5, ?_⟩
            simp only at h5
            cases e6 : m ρ4 G5 with
            | stuck => rw [e6] at h5; exact h5
            | exc c d G' => rw [e6] at h5; exact h5.elim
            | ok y G6 =>
              rw [e6] at h5
              simp only at h5
              intro H6 μ6 y' g6 hG6 ry
              have h6 := Po.gr g6 h5
              have g16 := g15.trans g6
              have hDn6 : Num μ6 (G1.length) D := hDn.gr g16
              obtain ⟨o, ho, ro⟩ := hG6.obj hDn6
              rw [ho] at h6
              cases o with
              | lst acc =>
                simp only at h6
                obtain ⟨vs, hv, rs⟩ := ro
                by_cases hz : acc.length < szl
                · rw [if_pos hz] at h6
                  have gp : Gr H6 μ6 (upd H6 D (.lst (vs ++ [y']))) μ6 := Gr.put hG6 hDn6 ho
                  refine ⟨vs, hv, by rw [← rs.length]; exact hz, μ6, _, g16.trans gp, hG6.put (o := .lst (acc ++ [y])) hDn6 ho ⟨_, upd_same, (rs.app (.cons ry .nil)).gr gp⟩, Po.gr gp h6⟩
                · rw [if_neg hz] at h6
                  exact h6.elim
              | _ => exact h6.elim
    · rw [if_neg hgd] at h2
      exact h2.elim
  · have ei : i = k.1.length := by omega
    rw [List.drop_eq_nil_of_le (by omega)] at h2
    simp only [lcF] at h2
    by_cases hgd : gdOk k.2 G2
    · rw [if_pos hgd] at h2
      exact .inl ⟨(ok i H2 μ2 G2 (gD.trans g2) hG2 hgd).2 (by omega), Po.now (v := AV.ref G1.length) h2 hG2 (.ref hDn2)⟩
    · rw [if_neg hgd] at h2
      exact h2.elim
def scal : AV → Bool
  | .non => true
  | .bl _ => true
  | .int _ => true
  | .str _ => true
  | _ => false
def blankE (ρ : En) : En := ρ.map fun o => match o with
  | some v => if scal v = true then some v else none
  | none => none
section
variable {K : PySem.W.Frag} {H H' : Hp} {μ μ' : Mu}
theorem scal_ra {v : AV} {x : V} (h : RA K H μ v x) (hs : scal v = true) : RA K H' μ' v x := by
  cases h <;> first | exact .non | exact .bl _ | exact .int _ | exact .str _ | cases hs
theorem blankE_rs {ρ : En} {σ : St} (h : RS K H μ ρ σ) : RS K H' [none] (blankE ρ) σ := by
  refine ⟨by unfold blankE; rw [List.length_map]; exact h.len, fun i v e => ?_⟩
  unfold blankE at e
  rw [List.getElem?_map] at e
  obtain ⟨o, e1, e2⟩ := Option.map_eq_some_iff.mp e
  cases o with
  | none => cases e2
  | some w =>
    simp only at e2
    by_cases hs : scal w = true
    · rw [if_pos hs] at e2
      cases e2
      obtain ⟨x, h1, h2⟩ := h.at_ i v e1
      exact ⟨x, h1, scal_ra h2 hs⟩
    · rw [if_neg hs] at e2; cases e2
theorem rh0 : RH K H [none] [AO.gone] where
  len := rfl
  nd := fun n m a e => by
    cases n with
    | zero => cases e
    | succ n => cases e
  of := fun n a o e => by
    cases n with
    | zero => cases e
    | succ n => cases e
  no := fun n e => by
    cases n with
    | zero => rfl
    | succ n => cases e
theorem key_ra {k : Key} : RA K H μ (keyV k) (kV k) := by cases k <;> first | exact .int _ | exact .str _
end
section
variable {X : Cx} {W : WX} {e elt : Expr} {tg : Expr} {elts : List Expr} {kk i : Nat} {tpos apos cpos pos : Pos} {S : List Nat} {ifs : List Expr} {scope : Scope} {own : List (Str × Nat)} {g : MG} {t : MB} {m : ME}
theorem keepAll {K : PySem.W.Frag} {H H2 : Hp} {μ : Mu} {G : Hs} (hG : RH K H μ G) (k : ∀ b u, H b = some u → H2 b = some u) : Gr H μ H2 μ ∧ RH K H2 μ G := by
  have gr : Gr H μ H2 μ := ⟨Nat.le_refl _, fun _ _ _ h => h, fun n a h e => (by rw [List.getElem?_eq_none h] at e; cases e), fun a u h _ => k a u h, fun a vs h => k _ _ h, fun a o u h => k _ _ h, fun a h => by
    cases e : H a with
    | none => rfl
    | some u => rw [k a u e] at h; cases h⟩
  refine ⟨gr, hG.len, hG.nd, fun n a o e1 e2 => ?_, hG.no⟩
  obtain ⟨l, r⟩ := hG.of n a o e1 e2
  obtain ⟨u, hu, _⟩ := r.there l
  exact ⟨l, r.gr gr ((k a u hu).trans hu.symm)⟩
end
section
variable {QV : AV → Hs → Prop} {E : XQ} {ρ : En} {G : Hs}
theorem lcF_map {g : MG} {t : MB} {m : ME} {D : Nat} (y : AV → AV) : ∀ (us acc : List AV) (G : Hs), G[D]? = some (.lst acc) → acc.length + us.length ≤ szl → (∀ u ∈ us, ∀ G, ∃ ρ2, g u ρ G = .ok ρ2 G ∧ t ρ2 G = .ok true G ∧ m ρ2 G = .ok (y u) G) →
    ∃ G', lcF none g t m D ρ us G = .ok () G' ∧ G'[D]? = some (.lst (acc ++ us.map y))
  | [], acc, G, hD, hl, hb => ⟨G, by unfold lcF; exact if_pos True.intro, by rw [List.map_nil, List.append_nil]; exact hD⟩
  | u :: us, acc, G, hD, hl, hb => by
    obtain ⟨ρ2, e1, e2, e3⟩ := hb u (List.mem_cons_self ..) G
    simp only [List.length_cons] at hl
    have hD2 : (G.set D (.lst (acc ++ [y u])))[D]? = some (.lst (acc ++ [y u])) := List.getElem?_set_self (List.getElem?_eq_some_iff.mp hD).1
    obtain ⟨G', e4, e5⟩ := lcF_map y us (acc ++ [y u]) (G.set D (.lst (acc ++ [y u]))) hD2 (by rw [List.length_append]; simp; omega) fun v hv => hb v (List.mem_cons_of_mem _ hv)
    refine ⟨G', ?_, by rw [List.map_cons, show acc ++ y u :: us.map y = acc ++ [y u] ++ us.map y by simp]; exact e5⟩
    unfold lcF
    rw [if_pos (show gdOk none G from True.intro), e1]
    simp only [e2, e3, hD]
    rw [if_pos (by omega)]
    exact e4
end
end Vz
namespace Vz
open PySem L2
mutual
def avd : AV → PyData
  | .bl b => .bool b
  | .int i => .int i
  | .str s => .str s
  | .tup xs => .tuple (avds xs)
  | .con xs => .tuple (avds xs)
  | .lk xs => .list (avds xs)
  | .ls xs => .list (avds xs)
  | _ => .none
def avds : List AV → List PyData
  | [] => []
  | x :: xs => avd x :: avds xs
end
def niceS (s : Str) : Bool := PyData.strOk s && s.cps.toList.all fun c => decide (c < 16 ^ 8)
mutual
def niceV : AV → Nat → Bool
  | .non, _ => true
  | .bl _, _ => true
  | .int i, _ => decide (i.natAbs < 10 ^ 40)
  | .str s, _ => niceS s
  | .tup xs, k => match k with
    | 0 => false
    | k + 1 => niceVs xs k
  | .con xs, k => match k with
    | 0 => false
    | k + 1 => niceVs xs k
  | .lk xs, k => match k with
    | 0 => false
    | k + 1 => niceVs xs k
  | .ls xs, k => match k with
    | 0 => false
    | k + 1 => niceVs xs k
  | _, _ => false
def niceVs : List AV → Nat → Bool
  | [], _ => true
  | x :: xs, k => niceV x k && niceVs xs k
end
/-- what niceness gives -/
structure NiceD (d : PyData) (k : Nat) : Prop where
  sh : PyData.leavesShort 50 d = true
  sw : PyData.showable d = true
  nd : d.hasDict = false
  dp : d.depth ≤ k
  ly : d.canLay0 = true
structure NiceDs (d : List PyData) (k : Nat) : Prop where
  sh : PyData.leavesShortAll 50 d = true
  sw : PyData.showableAll d = true
  nd : PyData.hasDictAll d = false
  dp : PyData.depthAll d ≤ k
  ly : PyData.canLayAll0 d = true
theorem NiceDs.tup {ds : List PyData} {k : Nat} (h : NiceDs ds k) : NiceD (.tuple ds) (k + 1) := ⟨by rw [PyData.leavesShort]; exact h.sh, by rw [PyData.showable]; exact h.sw, by rw [PyData.hasDict]; exact h.nd, by rw [PyData.depth]; have := h.dp; omega, by rw [PyData.canLay0]; exact h.ly⟩
theorem NiceDs.lst {ds : List PyData} {k : Nat} (h : NiceDs ds k) : NiceD (.list ds) (k + 1) := ⟨by rw [PyData.leavesShort]; exact h.sh, by rw [PyData.showable]; exact h.sw, by rw [PyData.hasDict]; exact h.nd, by rw [PyData.depth]; have := h.dp; omega, by rw [PyData.canLay0]; exact h.ly⟩
theorem nice_int {i : Int} (h : i.natAbs < 10 ^ 40) (k : Nat) : NiceD (.int i) k := by
  refine ⟨?_, ?_, rfl, Nat.zero_le _, rfl⟩
  · rw [PyData.leavesShort]
    refine decide_eq_true ?_
    show (Str.ofString (toString i)).length ≤ 50
    rw [ofString_length]
    have := PySem.int_text_length_le10 (k := 40) (by decide) h
    omega
  · show decide (i.natAbs.log2 < 1920) = true
    refine decide_eq_true ?_
    by_cases z : i.natAbs = 0
    · rw [z]; decide
    · have h2 : i.natAbs < 2 ^ 140 := Nat.lt_of_lt_of_le h (by decide)
      exact Nat.lt_of_lt_of_le ((Nat.log2_lt z).mpr h2) (by decide)
mutual
theorem avd_nice : ∀ (v : AV) (k : Nat), niceV v k = true → NiceD (avd v) k
  | .non, k, _ => ⟨rfl, rfl, rfl, Nat.zero_le _, rfl⟩
  | .bl b, k, _ => ⟨rfl, rfl, rfl, Nat.zero_le _, rfl⟩
  | .int i, k, h => nice_int (by rw [niceV] at h; exact of_decide_eq_true h) k
  | .str s, k, h => by
    rw [niceV, niceS, Bool.and_eq_true] at h
    exact ⟨by rw [avd, PyData.leavesShort]; exact h.2, rfl, rfl, Nat.zero_le _, by rw [avd, PyData.canLay0]; exact h.1⟩
  | .tup xs, 0, h => by simp [niceV] at h
  | .tup xs, k + 1, h => by rw [avd]; exact (avds_nice xs k (by rw [niceV] at h; exact h)).tup
  | .con xs, 0, h => by simp [niceV] at h
  | .con xs, k + 1, h => by rw [avd]; exact (avds_nice xs k (by rw [niceV] at h; exact h)).tup
  | .lk xs, 0, h => by simp [niceV] at h
  | .lk xs, k + 1, h => by rw [avd]; exact (avds_nice xs k (by rw [niceV] at h; exact h)).lst
  | .ls xs, 0, h => by simp [niceV] at h
  | .ls xs, k + 1, h => by rw [avd]; exact (avds_nice xs k (by rw [niceV] at h; exact h)).lst
  | .iv _ _ _, _, h => by simp [niceV] at h
  | .id _ _, _, h => by simp [niceV] at h
  | .it _ _, _, h => by simp [niceV] at h
  | .xv _ _ _, _, h => by simp [niceV] at h
  | .fd _ _, _, h => by simp [niceV] at h
  | .ref _, _, h => by simp [niceV] at h
theorem avds_nice : ∀ (xs : List AV) (k : Nat), niceVs xs k = true → NiceDs (avds xs) k
  | [], _, _ => ⟨rfl, rfl, rfl, Nat.zero_le _, rfl⟩
  | x :: xs, k, h => by
    rw [niceVs, Bool.and_eq_true] at h
    have h1 := avd_nice x k h.1
    have h2 := avds_nice xs k h.2
    have hd : PyData.depthAll (avds (x :: xs)) = max (avd x).depth (PyData.depthAll (avds xs)) := by simp [avds, PyData.depthAll]
    refine ⟨?_, ?_, ?_, ?_, ?_⟩
    · rw [avds, PyData.leavesShortAll, h1.sh, h2.sh]; rfl
    · rw [avds, PyData.showableAll, h1.sw, h2.sw]; rfl
    · rw [avds, PyData.hasDictAll, h1.nd, h2.nd]; rfl
    · rw [hd]; have := h1.dp; have := h2.dp; omega
    · rw [avds, PyData.canLayAll0, h1.ly, h2.ly]; rfl
end
mutual
theorem dat_nice : ∀ (v : AV) (k : Nat), niceV v k = true → ∀ G n, dat (n + k + 1) G v = some (avd v)
  | .non, k, _, G, n => rfl
  | .bl b, k, _, G, n => rfl
  | .int i, k, h, G, n => rfl
  | .str s, k, h, G, n => rfl
  | .tup xs, 0, h, _, _ => by simp [niceV] at h
  | .tup xs, k + 1, h, G, n => by rw [dat, show n + (k + 1) = n + k + 1 by omega, dats_nice xs k (by rw [niceV] at h; exact h) G n, avd]
  | .con xs, 0, h, _, _ => by simp [niceV] at h
  | .con xs, k + 1, h, G, n => by rw [dat, show n + (k + 1) = n + k + 1 by omega, dats_nice xs k (by rw [niceV] at h; exact h) G n, avd]
  | .lk xs, 0, h, _, _ => by simp [niceV] at h
  | .lk xs, k + 1, h, G, n => by rw [dat, show n + (k + 1) = n + k + 1 by omega, dats_nice xs k (by rw [niceV] at h; exact h) G n, avd]
  | .ls xs, 0, h, _, _ => by simp [niceV] at h
  | .ls xs, k + 1, h, G, n => by rw [dat, show n + (k + 1) = n + k + 1 by omega, dats_nice xs k (by rw [niceV] at h; exact h) G n, avd]
  | .iv _ _ _, _, h, _, _ => by simp [niceV] at h
  | .id _ _, _, h, _, _ => by simp [niceV] at h
  | .it _ _, _, h, _, _ => by simp [niceV] at h
  | .xv _ _ _, _, h, _, _ => by simp [niceV] at h
  | .fd _ _, _, h, _, _ => by simp [niceV] at h
  | .ref _, _, h, _, _ => by simp [niceV] at h
theorem dats_nice : ∀ (xs : List AV) (k : Nat), niceVs xs k = true → ∀ G n, allS (xs.map (dat (n + k + 1) G)) = some (avds xs)
  | [], _, _, _, _ => rfl
  | x :: xs, k, h, G, n => by
    rw [niceVs, Bool.and_eq_true] at h
    have h1 := dat_nice x k h.1 G n
    have h2 := dats_nice xs k h.2 G n
    rw [List.map_cons, h1, avds]
    simp only [allS, h2]
end
theorem dat12 {v : AV} (h : niceV v 11 = true) (G : Hs) : dat 12 G v = some (avd v) := dat_nice v 11 h G 0
/-- seen as the same data -/
def Sm (G : Hs) (v w : AV) : Prop := ∀ n, dat n G v = dat n G w
inductive Sms (G : Hs) : List AV → List AV → Prop
  | nil : Sms G [] []
  | cons {v w : AV} {vs ws : List AV} (h : Sm G v w) (r : Sms G vs ws) : Sms G (v :: vs) (w :: ws)
section
variable {QV : AV → Hs → Prop} {E : XQ} {G : Hs} {k : Nat} {v w u x : AV} {vs ws : List AV}
theorem sm_refl : Sm G v v := fun _ => rfl
theorem Sm.symm (h : Sm G v w) : Sm G w v := fun n => (h n).symm
theorem Sm.trans (h : Sm G v w) (h2 : Sm G w u) : Sm G v u := fun n => (h n).trans (h2 n)
theorem Sms.map (h : Sms G vs ws) (n : Nat) : vs.map (dat n G) = ws.map (dat n G) := by
  induction h with
  | nil => rfl
  | cons h r ih => rw [List.map_cons, List.map_cons, h n, ih]
theorem eqF_sm (hv : Sm G v x) (hw : Sm G w u) (hx : niceV x 11 = true) (hu : niceV u 11 = true) : eqF G v w = some (PyData.eqv (avd x) (avd u)) := by
  unfold eqF
  rw [hv 12, hw 12, dat12 hx, dat12 hu]
  have h1 := avd_nice x 11 hx
  have h2 := avd_nice u 11 hu
  simp only
  rw [if_pos]
  unfold SeqAt.shaped
  rw [h1.ly, h2.ly, decide_eq_true (by have := h1.dp; omega : (avd x).depth ≤ 64), decide_eq_true (by have := h2.dp; omega : (avd u).depth ≤ 64)]
  exact ⟨rfl, rfl⟩
/-- v is no plain scalar -/
def big : AV → Bool
  | .int _ => false
  | .str _ => false
  | .bl _ => false
  | .non => false
  | _ => true
end
end Vz
namespace Vz
open PySem L2
def adds {α : Type} : List Addr → Nat → List Addr → (Nat → List Addr → α) → α
  | [], m, acc, k => k m acc
  | a :: r, m, acc, k => HandSHeadRun.frNat a fun a => match Nat.beq (Nat.land (Nat.shiftRight m a) 1) 1 with
    | true => adds r m acc k
    | false => HandSHeadRun.frNat (Nat.add m (Nat.pow 2 a)) fun m => adds r m (a :: acc) k
def bfs (g : Addr → Option Obj) : Nat → Nat → List Addr → List Addr → List Addr
  | 0, _, _, all => all
  | n + 1, m, fr, all => adds (fr.flatMap fun a => match g a with
    | some o => He.refsD o
    | none => []) m [] fun m new => bfs g n m new (all ++ new)
def asY (g : Addr → Option Obj) (n : Nat) : List Addr := bfs g n (2 ^ mainGlobals) [mainGlobals] [mainGlobals]
def lookY (n : Nat) (fx : List Fx) (fn : List He.DefD) (g : Addr → Option Obj) : He.AlD := lookX fx fn (He.frG g (asY g n))
def hkY (n : Nat) (fx : List Fx) (fn : List He.DefD) : PySem.W.Hook :=
  { α := He.AlD, obs := fun st => lookY n fx fn st.heap.get?, val := fun _ => He.valD fn
    says := fun _ hp => ∃ K : PySem.W.Frag, K.In hp ∧ Told fx fn K
    of := fun _ _ q => ⟨_, He.frG_in, ⟨q⟩⟩
    keeps := fun _ _ _ ⟨K, i, t⟩ kp => ⟨K, PySem.W.Frag.In.keeps i kp, t⟩ }
theorem lookY_eq {n : Nat} {fx : List Fx} {fn : List He.DefD} {g : Addr → Option Obj} {st : Shared} (q : ∀ a, g a = st.heap.get? a) : lookY n fx fn g = (hkY n fx fn).obs st := by
  obtain rfl : g = st.heap.get? := funext q
  rfl
end Vz
namespace Vz
open PySem PySem.Spec L2
section
variable {K : PySem.W.Frag}
def mergeT (acc : List (List Key × V)) (kvs : List (List Key × V)) : List (List Key × V) := kvs.foldl (fun a kv => putK a kv.1 kv.2) acc
abbrev PrT (K : PySem.W.Frag) (H : Hp) (p : Addr) (kv : List Key × V) : Prop := ∃ b, SqT K H p [.ref b, kv.2] ∧ H b = some (.tup (kv.1.map kV))
def rDictT (K : PySem.W.Frag) : List V → Hp → VK → Prop := fun xs H Q => ∃ (a : Addr) (ps : List Addr) (kvs : List (List Key × V)), xs = [.ref a] ∧ SqL K H a (ps.map V.ref) ∧ Paired (PrT K H) ps kvs ∧
    ∀ p, H p = none → Q (.ref p) (upd H p (.dT (mergeT [] kvs)))
section
variable {X : Cx}
theorem pairsT_of {pins : List (Addr × Obj)} {σ : St} {H : Hp} {s : Shared} (I : Inv X pins σ H s) : ∀ {ps : List Addr} {kvs : List (List Key × V)}, Paired (PrT X.K H) ps kvs →
    ∃ prs : List (List Key × Addr × Value), KT H kvs prs ∧ prs.length = ps.length ∧ ∀ (j : Nat) (q : List Key × Addr × Value), prs[j]? = some q → ∃ b : Addr, ps[j]? = some b ∧ s.heap.IsTuple b #[.ref q.2.1, q.2.2]
  | _, _, .nil => ⟨[], .nil, rfl, fun j q e => by simp at e⟩
  | _, _, .cons (a := p) (b := kv) h t => by
    obtain ⟨prs, r, hl, hp⟩ := pairsT_of I t
    obtain ⟨b, hs, hb⟩ := h
    obtain ⟨its, rv, ht, _⟩ := I.tuple hs
    obtain ⟨u, y, ei, ru, ry⟩ := vals2 rv
    subst ei
    cases ru
    refine ⟨(kv.1, b, y) :: prs, .cons ⟨rfl, hb, ry⟩ r, by rw [List.length_cons, List.length_cons, hl], fun j q e => ?_⟩
    cases j with
    | zero =>
      have e' : (kv.1, b, y) = q := Option.some.inj e
      subst e'
      exact ⟨p, rfl, ht⟩
    | succ j =>
      obtain ⟨b, e1, e2⟩ := hp j q (by simpa using e)
      exact ⟨b, by simpa using e1, e2⟩
theorem mergeT_len : ∀ (kvs acc : List (List Key × V)), (mergeT acc kvs).length ≤ acc.length + kvs.length
  | [], acc => Nat.le_refl _
  | kv :: kvs, acc => by
    have h1 := mergeT_len kvs (putK acc kv.1 kv.2)
    have h2 := length_putK acc kv.1 kv.2
    show (mergeT (putK acc kv.1 kv.2) kvs).length ≤ _
    rw [List.length_cons]
    omega
theorem KT.merge {H : Hp} : ∀ {kvs : List (List Key × V)} {prs : List (List Key × Addr × Value)} {acc : List (List Key × V)} {xs : List (List Key × Addr × Value)}, KT H kvs prs → KT H acc xs → KT H (mergeT acc kvs) (storedAllH xs prs)
  | _, _, _, _, .nil, h => h
  | kv :: kvs, q :: prs, acc, xs, .cons h t, r => by
    obtain ⟨h1, h2, h3⟩ := h
    have := KT.merge t (KT.put r kv.1 h2 h3)
    rw [show storedH xs kv.1 q.2.1 q.2.2 = storedH xs q.1 q.2.1 q.2.2 by rw [h1]] at this
    exact this
theorem call_dictT (hcalm : X.calm = true) (hu : X.A.units + 2 < cLine) : CallR X (.type "dict") (rDictT X.K) := by
  intro pins s σ H xs us Q I r q
  obtain ⟨a, ps, kvs, ex, hq, hp, q⟩ := q
  subst ex
  obtain ⟨u, eu, rx⟩ := vals1 r
  subst eu
  cases rx
  obtain ⟨its, rv, pl, hz⟩ := I.list hq
  have ei := refs_at rv
  subst ei
  rw [List.length_map] at hz
  obtain ⟨prs, rel, hl, hpr⟩ := pairsT_of I hp
  have P := PairArg.list (prog := X.prog) (w := X.w) a (ps.map Value.ref).toArray (fun j => ps.getD j 0) (prs.map fun q => (Value.ref q.2.1, q.2.2))
  have keys : ∀ {l : List (List Key × V)} {m : List (List Key × Addr × Value)}, KT H l m → ∀ x ∈ m, H x.2.1 = some (.tup (x.1.map kV)) := by
    intro l m q
    induction q with
    | nil => intro x hx; exact nomatch hx
    | @cons p q ps qs hq t ih =>
      intro x hx
      rcases List.mem_cons.mp hx with e | hx
      · subst e
        rw [← hq.1]
        exact hq.2.1
      · exact ih x hx
  have hk := keys rel
  have ok : PlainSeq "list" s.heap a (ps.map Value.ref).toArray ∧ PairItems s.heap (ps.map Value.ref).toArray (fun j => ps.getD j 0) (prs.map fun q => (Value.ref q.2.1, q.2.2)) := by
    obtain ⟨o, n, ho, hc, hd, hdat⟩ := pl
    refine ⟨⟨o, n, ho, hc, hd, hdat⟩, by simp [hl], fun j k v hj => ?_⟩
    rw [List.getElem?_map] at hj
    obtain ⟨q', e', hkv⟩ := Option.map_eq_some_iff.mp hj
    cases hkv
    obtain ⟨b, e1, e2⟩ := hpr j q' e'
    have eb : ps.getD j 0 = b := by rw [List.getD_eq_getElem?_getD, e1]; rfl
    refine ⟨?_, ?_⟩
    · show (ps.map Value.ref).toArray[j]? = some (.ref (ps.getD j 0))
      rw [eb]
      simp [e1]
    · show PairAt s.heap (ps.getD j 0) _ _
      rw [eb]
      exact .inl e2
  have hc : PairsHaveH (tupleKind (mixKind X.prog X.w)) (prs.map fun q => (Value.ref q.2.1, q.2.2)).length (PairRel (prs.map fun q => (Value.ref q.2.1, q.2.2))) prs := by
    refine ⟨by simp, fun i key v hrel => ?_⟩
    have hrel : (prs.map fun q => (Value.ref q.2.1, q.2.2))[i]? = some (key, v) := hrel
    rw [List.getElem?_map] at hrel
    obtain ⟨q', e', hkv⟩ := Option.map_eq_some_iff.mp hrel
    cases hkv
    exact ⟨q'.1, q'.2.1, e', rfl⟩
  have hst : KeysStay (tupleKind (mixKind X.prog X.w)) s.heap s.heap.objs.size [] prs := fun h' hst x hx => by
    obtain ⟨o, its, n, h1, h2, h3, h4⟩ := key_of I.hok (hk x hx)
    have hb := Heap.lt_size h1
    exact ⟨o, its, n, hst _ _ (Nat.ne_of_lt hb) (by simp) h1, h2, h3, h4⟩
  have hsz : (prs.map fun q => (Value.ref q.2.1, q.2.2)).length ≤ sizeLine := by simp [hl]; exact hz
  refine call_dict_pairsH (knd := tupleKind (mixKind X.prog X.w)) P (I.ok.hd hcalm) (show X.A.in1.in1.units < cLine from hu) ok hc hst hsz fun h' tk hd' k => ?_
  · have hm : (s.heap.objs.size == sysModules) = false := beq_eq_false_iff_ne.mpr (Nat.ne_of_gt I.big)
    have hlen : (mergeT [] kvs).length ≤ sizeLine := by
      have := mergeT_len kvs []
      have e : kvs.length = prs.length := Paired.length rel
      simp at this
      omega
    obtain ⟨o, es, ep, e1, e2, e3, e4, _, e5⟩ := hd'
    have kt : KT H (mergeT [] kvs) (storedAllH [] prs) := KT.merge rel .nil
    have fr : H s.heap.objs.size = none := I.hok.fresh (Nat.le_refl _)
    refine ⟨.ref s.heap.objs.size, upd H s.heap.objs.size (.dT (mergeT [] kvs)), I.laid (t' := tk) (fun b o' e => k b o' (by simp) e) (Nat.le_refl _) ⟨hlen, hm, _, kt.keeps fun c ys ec => ?_, o, es, ep, e1, e2, e3, e4, e5⟩, rfl, q _ fr⟩
    rw [upd_ne (fun z => by rw [z, fr] at ec; cases ec)]
    exact ec
end
/-- a pair of a tuple that is a key, and something -/
def pairT : AV → Option (List Key × AV)
  | .tup [k, v] => (tkOf k).map fun k => (k, v)
  | _ => none
def pairsT : List AV → Option (List (List Key × AV))
  | [] => some []
  | x :: xs => match pairT x, pairsT xs with
    | some p, some ps => some (p :: ps)
    | _, _ => none
theorem pairT_ok {H : Hp} {μ : Mu} {x : AV} {v : V} {p : List Key × AV} (r : RA K H μ x v) (e : pairT x = some p) : ∃ a b z, v = .ref a ∧ SqT K H a [.ref b, z] ∧ H b = some (.tup (p.1.map kV)) ∧ RA K H μ p.2 z := by
  unfold pairT at e
  split at e
  · rename_i k w
    cases r with
    | tup h rs =>
      obtain ⟨k', ek, rfl⟩ := Option.map_eq_some_iff.mp e
      cases rs with
      | cons r1 rs =>
        cases rs with
        | cons r2 rs =>
          cases rs
          obtain ⟨b, rfl, hb⟩ := tkOf_ok r1 ek
          exact ⟨_, b, _, rfl, .inl (.inl h), hb, r2⟩
  · cases e
theorem pairsT_ok {H : Hp} {μ : Mu} : ∀ {xs : List AV} {vs : List V} {kvs : List (List Key × AV)}, RAs K H μ xs vs → pairsT xs = some kvs → ∃ (ps : List Addr) (ws : List (List Key × V)), vs = ps.map V.ref ∧ Paired (PrT K H) ps ws ∧ RF K H μ kvs ws
  | [], _, _, .nil, e => by cases e; exact ⟨[], [], rfl, .nil, .nil'⟩
  | x :: xs, _, _, .cons r rs, e => by
    unfold pairsT at e
    cases e1 : pairT x with
    | none => rw [e1] at e; cases e
    | some p =>
      cases e2 : pairsT xs with
      | none => rw [e1, e2] at e; cases e
      | some kvs =>
        rw [e1, e2] at e
        cases e
        obtain ⟨a, b, z, rfl, h1, hb, h2⟩ := pairT_ok r e1
        obtain ⟨ps, ws, rfl, h3, h4⟩ := pairsT_ok rs e2
        exact ⟨a :: ps, (p.1, z) :: ws, rfl, .cons ⟨b, h1, hb⟩ h3, .cons h2 h4⟩
def mergeTA (kvs : List (List Key × AV)) : List (List Key × AV) := kvs.foldl (fun acc kv => putA acc kv.1 kv.2) []
theorem mergeT_ok {H : Hp} {μ : Mu} : ∀ {more : List (List Key × AV)} {ws : List (List Key × V)} {fs : List (List Key × AV)} {gs : List (List Key × V)}, RF K H μ more ws → RF K H μ fs gs → RF K H μ (more.foldl (fun acc kv => putA acc kv.1 kv.2) fs) (mergeT gs ws)
  | [], ws, fs, gs, h, h' => by
    cases ws with
    | nil => exact h'
    | cons g ws => cases h.1
  | (k, v) :: more, ws, fs, gs, h, h' => by
    obtain ⟨y, ws', rfl, r, t⟩ := h.cons_inv
    exact mergeT_ok (more := more) (ws := ws') (fs := putA fs k v) (gs := putK gs k y) t (h'.put k r)
def fDictT : List AV → Hs → R AV
  | [v], G => match lstOf G v with
    | some xs => match pairsT xs with
      | some kvs => .ok (.ref G.length) (G ++ [.dt (mergeTA kvs)])
      | none => .stuck
    | none => .stuck
  | _, _ => .stuck
theorem opN_dictT : OpN K (rDictT K) fDictT := by
  intro W σ H μ G vs xs Q hG rs q
  match vs, rs, q with
  | [v], rs, q =>
    obtain ⟨y, rfl, r⟩ := rs.one
    simp only [fDictT] at q
    cases e1 : lstOf G v with
    | none => rw [e1] at q; exact q.elim
    | some ys =>
      rw [e1] at q
      cases e2 : pairsT ys with
      | none => simp only [e2] at q; exact q.elim
      | some kvs =>
        simp only [e2] at q
        obtain ⟨a, us, rfl, hs, rz⟩ := lstOf_ok hG r e1
        obtain ⟨ps, ws, rfl, h3, h4⟩ := pairsT_ok rz e2
        exact ⟨a, ps, ws, rfl, hs, h3, fun p hp => q _ _ _ (Gr.alloc hp) (hG.alloc hp (o := .dt (mergeTA kvs)) ⟨_, upd_same, (mergeT_ok h4 .nil').gr (Gr.alloc hp)⟩) (.ref (hG.fresh p))⟩
  | [], _, q => exact q.elim
  | _ :: _ :: _, _, q => exact q.elim
end
section
variable {QV : AV → Hs → Prop} {E : XQ} {G : Hs}
theorem dictT_ls {xs : List AV} {kvs : List (List Key × AV)} (e : pairsT xs = some kvs) : (fDictT [.ls xs] G).wp QV E = QV (.ref G.length) (G ++ [.dt (mergeTA kvs)]) := by
  have e1 : lstOf G (.ls xs) = some xs := rfl
  simp only [fDictT, e1, e, wp_ok]
end
section
variable {K : PySem.W.Frag}
def rDClearT : V → List V → Hp → VK → Prop := fun x vs H Q => ∃ (a : Addr) (kvs : List (List Key × V)), x = .ref a ∧ vs = [] ∧ H a = some (.dT kvs) ∧ Q .non (upd H a (.dT []))
theorem mtd_clearT {X : Cx} : MtR X "dict.clear" rDClearT := by
  intro pins s σ H x vs v us Q I rx rv h
  obtain ⟨a, kvs, ex, ev, e, q⟩ := h
  subst ex
  subst ev
  obtain rfl : v = Value.ref a := rx
  have hus := rv.zero
  subst hus
  obtain ⟨z, hd, xs, rel, dd⟩ := dt_of I.hok e
  have few : xs.length ≤ sizeLine := by
    have : kvs.length = xs.length := Paired.length rel
    omega
  refine clear_keyed (knd := tupleKind (mixKind X.prog X.w)) (kvs := pairsH xs) ⟨xs, dd, rfl⟩ (fun h' ⟨ys, dd', ey⟩ hs => ?_) (by unfold pairsH; rw [List.length_map]; exact few)
  have : ys = [] := by
    cases ys with
    | nil => rfl
    | cons y ys => simp [pairsH] at ey
  subst this
  obtain ⟨o, es, ep, e1, e2, e3, e4, _, e5⟩ := dd'
  exact ⟨.non, _, d_write (t' := s.toks) I (by rw [e]; exact True.intro) hs ⟨o, e1⟩ (show ObjOk X.prog X.w (upd H a (.dT [])) h' a (.dT []) from ⟨Nat.zero_le _, hd, [], .nil, o, es, ep, e1, e2, e3, e4, e5⟩), rfl, q⟩
def isDT (v : AV) (G : Hs) : Bool := (dtR G v).isSome
theorem tyM_dt : TyM K "dict" isDT := fun H μ G v x hG r h => by
  unfold isDT at h
  cases e : dtR G v with
  | none => rw [e] at h; cases h
  | some xs =>
    obtain ⟨a, ws, rfl, hs, _⟩ := dtR_ok hG r e
    exact .inr (.inr (.inl ⟨rfl, .inr ⟨ws, hs⟩⟩))
def fDClearT : AV → List AV → Hs → R AV
  | v, [], G => match dtOf G v with
    | some (n, _) => .ok .non (G.set n (.dt []))
    | none => .stuck
  | _, _, _ => .stuck
theorem opM_dclearT : OpM K rDClearT fDClearT := by
  intro W σ H μ G v vs x xs Q hG rv rs q
  cases vs with
  | cons _ _ => exact q.elim
  | nil =>
    cases rs
    simp only [fDClearT] at q
    cases e : dtOf G v with
    | none => rw [e] at q; exact q.elim
    | some p =>
      obtain ⟨n, kvs⟩ := p
      rw [e] at q
      obtain ⟨p, ws, rfl, rfl, hn, hp, hH, rf⟩ := dtOf_ok hG rv e
      exact ⟨p, ws, rfl, rfl, hH, q _ μ _ (Gr.put hG hn hp) (hG.put (o := .dt []) hn hp ⟨[], upd_same, .nil'⟩) .non⟩
end
section
variable {QV : AV → Hs → Prop} {E : XQ} {G : Hs}
theorem dclearT_wp {n : Nat} {kvs : List (List Key × AV)} (h : G[n]? = some (.dt kvs)) : (fDClearT (.ref n) [] G).wp QV E = QV .non (G.set n (.dt [])) := by
  have e : dtOf G (.ref n) = some (n, kvs) := by simp only [dtOf, h]
  simp only [fDClearT, e, wp_ok]
end
end Vz
namespace SrtT
open PySem PySem.Spec PyProof.Rows Srt SrtO
abbrev K3 := Int × Bool × Str
abbrev k2 (p : K3) : Int × Int := (p.1, b2i p.2.1)
section
variable {prog : Program} {w : World} {A : Around} {E : Value → Shared → Prop} {s : Shared}
def IsTri (h : Heap) (v : Value) (k : K3) : Prop := ∃ a o t u n, v = .ref a ∧ h.get? a = some o ∧ o.cls = .type "tuple" ∧ o.data = .seq #[.int k.1 t, .str k.2.2 u, .bool k.2.1] n
theorem IsTri.keeps {h h' : Heap} {v : Value} {k : K3} (x : IsTri h v k) (hk : ∀ b o, h.get? b = some o → o.cls = .type "tuple" → h'.get? b = some o) : IsTri h' v k := by
  obtain ⟨a, o, t, u, n, e, ho, hc, hd⟩ := x
  exact ⟨a, o, t, u, n, e, hk a o ho hc, hc, hd⟩
end
section
variable {α : Type} {lt : α → α → Bool}
def ins (lt : α → α → Bool) (x : α) : List α → List α
  | [] => [x]
  | y :: r => if lt y x = true then y :: ins lt x r else x :: y :: r
end
end SrtT
namespace L2
open PySem PySem.Spec PyProof.Rows
abbrev ltT (k : V → SrtT.K3) (x y : V) : Bool := SrtO.lexB (SrtT.k2 (k x)) (SrtT.k2 (k y))
end L2
namespace Vz
open PySem L2
def kA3 : AV → SrtT.K3
  | .tup [.int x, .str s, .bl b] => (x, b, s)
  | _ => (0, false, Str.ofString "")
def isTri : AV → Bool
  | .tup [.int _, .str _, .bl _] => true
  | _ => false
def kV3 (H : Hp) : V → SrtT.K3
  | .ref t => match H t with
    | some (.tup [.int x, .str s, .bl b]) => (x, b, s)
    | _ => (0, false, Str.ofString "")
  | _ => (0, false, Str.ofString "")
abbrev lt3 (x y : AV) : Bool := SrtO.lexB (SrtT.k2 (kA3 x)) (SrtT.k2 (kA3 y))
inductive RT3 (K : PySem.W.Frag) (H : Hp) (μ : Mu) : List AV → List V → Prop
  | nil : RT3 K H μ [] []
  | cons {x : AV} {w : V} {xs : List AV} {ws : List V} (h : RA K H μ x w) (e : kV3 H w = kA3 x) (t : RT3 K H μ xs ws) : RT3 K H μ (x :: xs) (w :: ws)
section
variable {K : PySem.W.Frag} {H : Hp} {μ : Mu}
theorem tri_ra {x : AV} {w : V} (r : RA K H μ x w) (h : isTri x = true) : ∃ t, w = V.ref t ∧ kV3 H w = kA3 x ∧ H t = some (.tup [.int (kA3 x).1, .str (kA3 x).2.2, .bl (kA3 x).2.1]) := by
  match x, h, r with
  | .tup [.int n, .str s, .bl b], _, .tup (a := t) hh (.cons r1 (.cons r2 (.cons r3 .nil))) =>
    cases r1
    cases r2
    cases r3
    refine ⟨t, rfl, ?_, hh⟩
    unfold kV3
    simp only [hh]
    rfl
theorem RT3.of : ∀ {xs : List AV} {ws : List V}, RAs K H μ xs ws → xs.all isTri = true → RT3 K H μ xs ws
  | _, _, .nil, _ => .nil
  | _, _, .cons r rs, h => by
    rw [List.all_cons, Bool.and_eq_true] at h
    obtain ⟨_, _, e, _⟩ := tri_ra r h.1
    exact .cons r e (RT3.of rs h.2)
theorem RT3.ins {x : AV} {w : V} (r : RA K H μ x w) (e : kV3 H w = kA3 x) : ∀ {xs : List AV} {ws : List V}, RT3 K H μ xs ws → RT3 K H μ (SrtT.ins lt3 x xs) (SrtT.ins (ltT (kV3 H)) w ws)
  | _, _, .nil => .cons r e .nil
  | _, _, .cons (x := y) (w := u) (xs := ys) (ws := us) r' e' t => by
    unfold SrtT.ins
    have e2 : lt3 y x = ltT (kV3 H) u w := by show SrtO.lexB _ _ = SrtO.lexB _ _; rw [e, e']
    rw [e2]
    split
    · exact .cons r' e' (t.ins r e)
    · exact .cons r e (.cons r' e' t)
theorem RT3.mem : ∀ {xs : List AV} {ws : List V}, RT3 K H μ xs ws → ∀ w ∈ ws, ∃ x ∈ xs, RA K H μ x w ∧ kV3 H w = kA3 x
  | _, _, .nil, w, h => by simp at h
  | _, _, .cons r e t, w, h => by
    rcases List.mem_cons.mp h with rfl | h
    · exact ⟨_, List.mem_cons_self, r, e⟩
    · obtain ⟨x, m, p⟩ := t.mem w h
      exact ⟨x, List.mem_cons_of_mem _ m, p⟩
end
end Vz
namespace Vz
open PySem L2
end Vz
namespace L2
open PySem PySem.Spec PyProof.Rows
end L2
namespace Vz
open PySem L2
end Vz
namespace Vz
open PySem L2
end Vz
namespace Vz
open PySem L2
/-- plain: numbers, texts, tuples of such -/
def plA : Nat → AV → Bool
  | k + 1, .tup xs => xs.all (plA k)
  | _, v => scal v
section
variable {K : PySem.W.Frag} {H H' : Hp} {μ μ' : Mu}
mutual
theorem plA_ra (ht : ∀ b vs, H b = some (.tup vs) → H' b = some (.tup vs)) : ∀ {v : AV} {x : V} (k : Nat), RA K H μ v x → plA k v = true → RA K H' μ' v x
  | _, _, 0, h, hs => scal_ra h (by unfold plA at hs; exact hs)
  | _, _, k + 1, h, hs => by
    cases h with
    | tup h rs => exact .tup (ht _ _ h) (plAs_ra ht k rs (by rw [plA] at hs; exact hs))
    | non => exact .non
    | bl b => exact .bl b
    | int i => exact .int i
    | str s => exact .str s
    | con _ _ => exact absurd hs (by simp [plA, scal])
    | lk _ _ => exact absurd hs (by simp [plA, scal])
    | ls _ _ => exact absurd hs (by simp [plA, scal])
    | iv _ _ _ _ => exact absurd hs (by simp [plA, scal])
    | id _ _ _ _ => exact absurd hs (by simp [plA, scal])
    | it _ _ _ _ => exact absurd hs (by simp [plA, scal])
    | xv0 _ _ => exact absurd hs (by simp [plA, scal])
    | xv _ _ _ _ _ _ => exact absurd hs (by simp [plA, scal])
    | fd _ _ _ => exact absurd hs (by simp [plA, scal])
    | ref _ => exact absurd hs (by simp [plA, scal])
theorem plAs_ra (ht : ∀ b vs, H b = some (.tup vs) → H' b = some (.tup vs)) : ∀ {xs : List AV} {vs : List V} (k : Nat), RAs K H μ xs vs → xs.all (plA k) = true → RAs K H' μ' xs vs
  | _, _, _, .nil, _ => .nil
  | _, _, k, .cons r rs, h => by
    rw [List.all_cons, Bool.and_eq_true] at h
    exact .cons (plA_ra ht k r h.1) (plAs_ra ht k rs h.2)
end
theorem blankKs_ra (ht : ∀ b vs, H b = some (.tup vs) → H' b = some (.tup vs)) : ∀ {xs : List AV} {vs : List V}, RAs K H μ xs vs → xs.all (plA 4) = true → RAs K H' [none] xs vs := fun h hp => plAs_ra ht 4 h hp
end
def dkZ : AV → Option (List (Key × AV))
  | .fd ks xs => some (ks.zip xs)
  | _ => none
/-- d[k] of a locked dict -/
def fDgZ (v w : AV) (G : Hs) : R AV := match dkZ v, kOf w with
  | some kvs, some k => match getA kvs k with
    | some u => .ok u G
    | none => .stuck
  | _, _ => .stuck
theorem se_dgetZ {X : Cx} {W : WX} {o i : Expr} {mo mi : ME} {pos : Pos} (hu : X.A.units + 1 < cLine) (ha : SE X W o mo) (hb : SE X W i mi) (hs : NoSl i) : SE X W (.Subscript o i pos) (m2 fDgZ mo mi) := by
  refine PE.imp (pe_dget hu ha hb hs) fun σ H Q ⟨ρ, μ, G, hσ, hG, h⟩ => tG.bind hσ hG h fun v G1 H1 μ1 x g1 hσ1 hG1 rv h1 => tG.bind hσ1 hG1 h1 fun w G2 H2 μ2 y g2 hσ2 hG2 rw' h2 => ?_
  unfold fDgZ at h2
  cases e1 : dkZ v with
  | none => rw [e1] at h2; exact h2.elim
  | some kvs =>
    cases e2 : kOf w with
    | none => rw [e1, e2] at h2; exact h2.elim
    | some k =>
      rw [e1, e2] at h2
      simp only at h2
      cases e3 : getA kvs k with
      | none => rw [e3] at h2; exact h2.elim
      | some u =>
        rw [e3] at h2
        cases rv.gr g2 with
        | fd hp en rs =>
          cases e1
          have rf := RF.zip en rs
          have hr := rf.get k
          rw [e3] at hr
          obtain ⟨z, hz, rz⟩ := hr.some_of
          exact ⟨_, z, rfl, .inl ⟨_, k, .inr ⟨_, hp⟩, kOf_ok rw' e2, hz.symm⟩, Po.now (v := u) h2 hG2 rz⟩
        | _ => cases e1
def keysA (kvs : List (Key × AV)) : List AV := kvs.map fun kv => keyV kv.1
section
variable {K : PySem.W.Frag} {H H' : Hp} {μ μ' : Mu}
theorem keys_at : ∀ {kvs : List (Key × AV)} {ws : List (Key × V)} {i : Nat} {v : AV}, kvs.map (·.1) = ws.map (·.1) → (keysA kvs)[i]? = some v → ∃ k x, ws[i]? = some (k, x) ∧ v = keyV k
  | [], _, i, v, _, e => by cases e
  | (k, u) :: kvs, [], i, v, h, e => by cases h
  | (k, u) :: kvs, (k', x) :: ws, i, v, h, e => by
    simp only [List.map_cons, List.cons.injEq] at h
    cases i with
    | zero =>
      cases e
      refine ⟨k', x, rfl, ?_⟩
      rw [← h.1]
    | succ i => exact keys_at (kvs := kvs) (ws := ws) h.2 e
theorem itOk_keys {kvs : List (Key × AV)} {ws : List (Key × V)} {a : Addr} {od : Obj} (h : kvs.map (·.1) = ws.map (·.1)) (ha : H a = some (.frz od (.dK ws))) : ItOk K (Itk a od ws) (keysA kvs, none) H [none] := fun i H1 μ1 G1 g hG _ => by
  have hl : (keysA kvs).length = ws.length := by
    have := congrArg List.length h
    simpa [keysA] using this
  have ha1 := g.frz _ _ _ ha
  refine ⟨fun v hv => ⟨⟨ha1, ?_⟩, fun x H2 y => ?_⟩, fun hi => ⟨ha1, by rw [← hl]; exact hi⟩⟩
  · have := (List.getElem?_eq_some_iff.mp hv).1
    simp only at this
    omega
  · obtain ⟨k, u, e1, rfl⟩ := keys_at h hv
    obtain ⟨rfl, k', u', e2, rfl⟩ := y
    rw [e1] at e2
    cases e2
    exact ⟨Gr.refl _ _, hG, key_ra⟩
end
/-- the names as they stand within the walk -/
def keE (i : Nat) (kvs : List (Key × AV)) (ρ : En) : En := (blankE ρ).set i (some (.fd (kvs.map (·.1)) (kvs.map (·.2))))
/-- what comes out of the walk over the keys of the dict in the name i -/
noncomputable def keF (i : Nat) (g : MG) (t : MB) (m : ME) (own : List Nat) (ρ : En) (G : Hs) : Option (List AV) := match ρ[i]? with
  | some (some v) => match dkR G v with
    | some kvs => if (kvs.map (·.2)).all (plA 4) = true then match lcF none g t m 1 (wipeA (keE i kvs ρ) own) (keysA kvs) [.gone, .lst []] with
      | .ok () G2 => match (G2[1]? : Option AO) with
        | some (AO.lst vals) => if vals.all (plA 4) = true then some vals else none
        | _ => none
      | _ => none
      else none
    | none => none
  | _ => none
noncomputable def mKeI (i : Nat) (g : MG) (t : MB) (m : ME) (own : List Nat) : ME := fun ρ G => match keF i g t m own ρ G with
  | some vals => .ok (.ls vals) G
  | none => .stuck
section
variable {g : MG} {t : MB} {m : ME} {S : List Nat} {own : List (Str × Nat)} {i : Nat}
theorem ke_go (hS : ∀ j ∈ S, j ∈ own.map (·.2)) {K : PySem.W.Frag} {σ : St} {H : Hp} {μ : Mu} {ρ : En} {G : Hs} {vals : List AV} {Q : VK} (hσ : RS K H μ ρ σ) (hG : RH K H μ G) (e : keF i g t m (own.map (·.2)) ρ G = some vals)
    (q : ∀ H2 D vs, H D = none → H2 D = some (.lst vs) → (∀ b u, H b = some u → H2 b = some u) → RAs K H2 μ vals vs → vals.all (plA 4) = true → Q (.ref D) H2) :
    tLockE (tLc (iKeys (tVar i)) (tT K WN S g) (tG K rB WN t) (tG K (rA K) WN m) (own.map (·.2))) σ H Q := by
  unfold keF at e
  split at e
  case h_2 => cases e
  rename_i v e1
  split at e
  case h_2 => cases e
  rename_i kvs e2
  split at e
  case isFalse => cases e
  rename_i hpl
  split at e
  case h_2 => cases e
  rename_i G2 e3
  split at e
  case h_2 => cases e
  rename_i vals' e4
  split at e
  case isFalse => cases e
  rename_i hf
  cases e
  obtain ⟨x, s1, r⟩ := hσ.at_ i v e1
  obtain ⟨a, ws, rfl, ha, rf⟩ := dkR_ok hG r e2
  refine ⟨a, .dK ws, ha, True.intro, fun od => ?_⟩
  refine ⟨.ref a, s1, a, od, rfl, .inl ⟨ws, upd_same, ?_⟩⟩
  have ha1 : (upd H a (.frz od (.dK ws))) a = some (.frz od (.dK ws)) := upd_same
  have ht0 : ∀ b vs, H b = some (.tup vs) → (upd H a (.frz od (.dK ws))) b = some (.tup vs) := fun b vs hb => by
    have : b ≠ a := fun z => by subst z; rw [ha] at hb; cases hb
    rw [upd_ne this]; exact hb
  have hρ : RS K (upd H a (.frz od (.dK ws))) [none] (keE i kvs ρ) σ := by
    have hb : RS K (upd H a (.frz od (.dK ws))) [none] (blankE ρ) σ := blankE_rs hσ
    have := RS.set hb (i := i) (v := .fd (kvs.map (·.1)) (kvs.map (·.2))) (x := .ref a) (.fd ha1 rf.1 (blankKs_ra ht0 rf.2 hpl))
    have es : σ.set i (some (.ref a)) = σ := by
      refine List.ext_getElem? fun j => ?_
      by_cases z : i = j
      · subst z
        rw [List.getElem?_set_self (List.getElem?_eq_some_iff.mp s1).1, s1]
      · rw [List.getElem?_set_ne z]
    rw [es] at this
    exact this
  show tLc (fun _ H R => R (Itk a od ws) H) (tT K WN S g) (tG K rB WN t) (tG K (rA K) WN m) (own.map (·.2)) σ (upd H a (.frz od (.dK ws))) (fun v H' => H' a = some (.frz od (.dK ws)) ∧ Q v (upd H' a (.dK ws)))
  refine lc_at (k := (keysA kvs, none)) (W := WN) (G1 := [AO.gone]) (μ1 := [none]) (ρ := keE i kvs ρ) hS hρ rh0 (itOk_keys rf.1 ha1) ?_
  show Po K (rA K) WN σ _ _ ((lcF none g t m 1 (wipeA (keE i kvs ρ) (own.map (·.2))) (keysA kvs) [.gone, .lst []]).bind fun _ G2 => .ok (.ref 1) G2) _
  rw [e3, R.bind_ok]
  intro H' μ' y gr hG2 ry
  cases ry with
  | ref hn =>
    rename_i D
    have hD := hG2.lv hn e4 (by intro h; cases h)
    have r := hG2.at_ _ _ _ hn e4
    obtain ⟨vs, h1, h2⟩ := r
    have ha2 := gr.frz _ _ _ ha1
    have hDn := gr.fre 1 D (Nat.le_refl _) hD
    have hDa : D ≠ a := fun z => by subst z; rw [upd_same] at hDn; cases hDn
    have hD0 : H D = none := by rw [upd_ne hDa] at hDn; exact hDn
    have ht : ∀ b ws', H' b = some (.tup ws') → (upd H' a (.dK ws)) b = some (.tup ws') := fun b ws' hb => by
      have : b ≠ a := fun z => by subst z; rw [ha2] at hb; cases hb
      rw [upd_ne this]; exact hb
    refine ⟨ha2, q (upd H' a (.dK ws)) D vs hD0 (by rw [upd_ne hDa]; exact h1) (fun b u hb => ?_) (plAs_ra ht 4 h2 hf) hf⟩
    by_cases z : b = a
    · subst z
      rw [ha] at hb
      cases hb
      exact upd_same
    · rw [upd_ne z]
      exact gr.keep b u (by rw [upd_ne z]; exact hb) (by simp)
theorem se_lcKeI {X : Cx} {W : WX} {e elt : Expr} {tg : Expr} {i : Nat} {pos : Pos} {S : List Nat} {ifs : List Expr} {scope : Scope} {own : List (Str × Nat)} {g : MG} {t : MB} {m : ME} (hc : X.calm = true) (hN : X.N.Nodup) (hd : PE X e (tVar i)) (ok : BlkOk X.N X.env.scope scope own) (hS : ∀ j ∈ S, j ∈ own.map (·.2))
    (hg : ∀ (s : Shared) (H : Hp) (C : Addr) (cl : List (Str × Addr)) (fp : List Addr), SG (X.blk s H scope (compEnvC scope cl C X.env) fp) WN S tg g)
    (ht : ∀ (s : Shared) (H : Hp) (C : Addr) (cl : List (Str × Addr)) (fp : List Addr), STs (X.blk s H scope (compEnvC scope cl C X.env) fp) WN ifs t)
    (he : ∀ (s : Shared) (H : Hp) (C : Addr) (cl : List (Str × Addr)) (fp : List Addr), SE (X.blk s H scope (compEnvC scope cl C X.env) fp) WN elt m) (hs : ∀ x, foldedSetIterable e X.env x = pure x := by intro _; rfl) :
    SE X W (.ListComp elt [⟨tg, e, ifs, 0⟩] scope pos) (mKeI i g t m (own.map (·.2))) := by
  refine PE.imp (pe_lock (pe_lc (g := tT X.K WN S g) (tt := tG X.K rB WN t) (te := tG X.K (rA X.K) WN m) hc hN (pi_keys hd) ok hg ht he hs)) fun σ H Q ⟨ρ, μ, G, hσ, hG, h⟩ => ?_
  unfold mKeI at h
  cases e1 : keF i g t m (own.map (·.2)) ρ G with
  | none => rw [e1] at h; exact h.elim
  | some vals =>
    rw [e1] at h
    refine ke_go hS hσ hG e1 fun H2 D vs hD0 hD2 kp rs hf => ?_
    obtain ⟨gr, hG2⟩ := keepAll hG kp
    exact h H2 μ (.ref D) gr hG2 (.ls ⟨hD2, hG.nmem hD0⟩ (plAs_ra (fun b ws hb => hb) 4 rs hf))
end
section
variable {QV : AV → Hs → Prop} {E : XQ} {ρ : En} {G : Hs}
theorem keI_wp {i : Nat} {g : MG} {t : MB} {m : ME} {own : List Nat} {v : AV} {kvs : List (Key × AV)} (hv : ρ[i]? = some (some v)) (hk : dkR G v = some kvs) (hp : (kvs.map (·.2)).all (plA 4) = true) (y : AV → AV) (hl : kvs.length ≤ szl)
    (hb : ∀ u ∈ keysA kvs, ∀ G, ∃ ρ2, g u (wipeA (keE i kvs ρ) own) G = .ok ρ2 G ∧ t ρ2 G = .ok true G ∧ m ρ2 G = .ok (y u) G) (hf : ((keysA kvs).map y).all (plA 4) = true) :
    (mKeI i g t m own ρ G).wp QV E = QV (.ls ((keysA kvs).map y)) G := by
  obtain ⟨G', e1, e2⟩ := lcF_map (ρ := wipeA (keE i kvs ρ) own) (D := 1) y (keysA kvs) [] [.gone, .lst []] rfl (by simpa [keysA] using hl) hb
  have e : keF i g t m own ρ G = some ((keysA kvs).map y) := by
    unfold keF
    simp only [hv, hk]
    rw [if_pos hp]
    simp only [e1, e2]
    rw [List.nil_append, if_pos hf]
  unfold mKeI
  rw [e]
  rfl
end
end Vz
namespace PySem
open Sem (wp)
end PySem
namespace L2
open PySem PySem.Spec PyProof.Rows
end L2
namespace L2
open PySem PySem.Spec PyProof.Rows
end L2
namespace Vz
open PySem L2
end Vz
local macro_rules
  | `(tactic| simp_arith [$xs,*]) => `(tactic| try simp only [Vz.wp_dictT, Vz.wp_dputT, Vz.wp_lr, Vz.wp_dgetT1, Vz.wp_dgetT2, Vz.wp_par3, Vz.isS_s, Vz.isL_ls, Vz.starts_SN, Vz.in_tup2, Vz.nin_tup2, Vz.tru_bl, Vz.sz0, Vz.sz1, Vz.sz2, Vz.sz3, Vz.sz4, Vz.sz5, Vz.sz6, Vz.sz7, Vz.sz8, Vz.sz9, Vz.sz10, Vz.sz11, Vz.sz12, Vz.wp_lstI, Vz.fzQ_lsN, Vz.fzQ_tupN, Vz.fzQ_ivN, Vz.fzQ_intN, Vz.fzQ_strN, Vz.fzQ_blN, Vz.fzQ_nonN, Vz.wp_addLs, Vz.wp_addIN, Vz.wp_addIs, Vz.wp_iaddIN, Vz.wp_iaddIs, Vz.ixL0, Vz.ixL1, Vz.ixL2, Vz.ixL3, Vz.list_lsN, Vz.tuple_lsN, Vz.len_lsN, Vz.wipeA, Vz.ixT0, Vz.ixT1, Vz.ixT2, Vz.ixT3, Vz.ixT4, Vz.ixT5, Vz.ixT6, Vz.isN_nN, Vz.notN_nN, Vz.isN_iN, Vz.notN_iN, Vz.gAll, Vz.mg_nmN, Vz.wp_fst, Vz.wp_make, Vz.wp_meth, Vz.wp_aug, Vz.wp_en, Vz.wp_mFn, Vz.startA, List.map_cons, List.map_nil, List.length_cons, List.length_nil, List.replicate, List.cons_append, List.nil_append, Nat.reduceAdd, Nat.reduceSub, Nat.sub_self, Nat.zero_add, Vz.wp_seq, Vz.wp_nxN, Vz.wp_brkN, Vz.wp_contN, Vz.wp_drop, Vz.wp_ret, Vz.wp_retNN, Vz.wp_if, Vz.wp_asg, Vz.wp_par, Vz.wp_dput, Vz.wp_var, Vz.wp_cN, Vz.wp_m2, Vz.wp_m1, Vz.wp_test, Vz.wp_tru, Vz.wp_and, Vz.wp_or, Vz.wp_not, Vz.wp_andV, Vz.wp_orV, Vz.wp_notV, Vz.wp_iteE, Vz.wp_chain, Vz.wp_nilN, Vz.wp_cons, Vz.wp_tup, Vz.wp_lst, Vz.wp_blt, Vz.wp_bm, Vz.wp_call, Vz.wp_sl, Vz.wp_oNN, Vz.wp_oS, Vz.wp_wk, Vz.wp_rg1, Vz.wp_rg2, Vz.wp_okN, List.getElem?_cons_zero, List.getElem?_cons_succ, List.set_cons_zero, List.set_cons_succ, Vz.wp_addN, Vz.wp_subN, Vz.wp_mulI, Vz.wp_modI, Vz.wp_divI, Vz.wp_powI, Vz.wp_ltN, Vz.wp_leN, Vz.wp_gtN, Vz.wp_geN, Vz.wp_eqN, Vz.wp_neN, Vz.wp_eqSN, Vz.wp_neSN, Vz.wp_eqBN, Vz.wp_neBN, and_self, true_and, and_true, Bool.not_true, Bool.not_false, decide_true, decide_false, Bool.false_eq_true, if_true, if_false, $xs,*])
namespace L_k03
open PySem L2 Vz
def top (i : Nat) : Stmt := PySem.Challenge.pw_callvows_k03_laid_by_vows.main.body.getD i (.Pass ⟨0, 0, 0, 0⟩)
abbrev s_laid_back : Stmt := top 13
abbrev N_laid_back : List Str := ["vow", "results", "at", "result"]
theorem sc_laid_back : FnScope N_laid_back ["vow", "results"] (defScope s_laid_back) := ⟨rfl, rfl, rfl, by decide +kernel, rfl, by decide +kernel, by decide +kernel⟩
def D_laid_back : He.DefD := ⟨("laid_back", none), "laid_back", "laid_back", defArgs s_laid_back, defBody s_laid_back, defScope s_laid_back, [], []⟩
abbrev s_law_take : Stmt := top 16
abbrev N_law_take : List Str := ["_law_state", "_law_many", "_law_found", "_law_turn", "_law_cell", "_law_seed", "_law_mixed"]
theorem sc_law_take : FnScope N_law_take ["_law_state", "_law_many"] (defScope s_law_take) := ⟨rfl, rfl, rfl, by decide +kernel, rfl, by decide +kernel, by decide +kernel⟩
def D_law_take : He.DefD := ⟨("_law_take", none), "_law_take", "_law_take", defArgs s_law_take, defBody s_law_take, defScope s_law_take, [], []⟩
abbrev s_Vow_on_pile : Stmt := inClass (top 10) 3
abbrev N_Vow_on_pile : List Str := ["self", "many"]
theorem sc_Vow_on_pile : FnScope N_Vow_on_pile ["self", "many"] (defScope s_Vow_on_pile) := ⟨rfl, rfl, rfl, by decide +kernel, rfl, by decide +kernel, by decide +kernel⟩
def D_Vow_on_pile : He.DefD := ⟨("Vow", some "on_pile"), "on_pile", "Vow.on_pile", defArgs s_Vow_on_pile, defBody s_Vow_on_pile, defScope s_Vow_on_pile, [], []⟩
abbrev s_cell_of : Stmt := top 11
abbrev N_cell_of : List Str := ["vow", "at", "many", "counted", "place"]
theorem sc_cell_of : FnScope N_cell_of ["vow", "at", "many", "counted"] (defScope s_cell_of) := ⟨rfl, rfl, rfl, by decide +kernel, rfl, by decide +kernel, by decide +kernel⟩
def D_cell_of : He.DefD := ⟨("cell_of", none), "cell_of", "cell_of", defArgs s_cell_of, defBody s_cell_of, defScope s_cell_of, [], [("counted", .bl false)]⟩
abbrev s_laid : Stmt := top 12
abbrev N_laid : List Str := ["vow", "things", "row", "counted", "found", "at", "thing", "place"]
theorem sc_laid : FnScope N_laid ["vow", "things", "row", "counted"] (defScope s_laid) := ⟨rfl, rfl, rfl, by decide +kernel, rfl, by decide +kernel, by decide +kernel⟩
def D_laid : He.DefD := ⟨("laid", none), "laid", "laid", defArgs s_laid, defBody s_laid, defScope s_laid, [], [("counted", .bl false)]⟩
abbrev s_law_pile : Stmt := top 19
abbrev N_law_pile : List Str := ["_law_parts_here", "_law_things", "_law_row", "_law_tallied", "_law_registers", "_law_pile_here", "_law_k"]
theorem sc_law_pile : FnScope N_law_pile ["_law_parts_here", "_law_things", "_law_row", "_law_tallied"] (defScope s_law_pile) := ⟨rfl, rfl, rfl, by decide +kernel, rfl, by decide +kernel, by decide +kernel⟩
def D_law_pile : He.DefD := ⟨("_law_pile", none), "_law_pile", "_law_pile", defArgs s_law_pile, defBody s_law_pile, defScope s_law_pile, [], []⟩
abbrev s_law_laid : Stmt := top 20
abbrev N_law_laid : List Str := ["_law_parts_here", "_law_things", "_law_row", "_law_tallied", "_law_pile_here", "_law_registers", "_law_found", "_law_k", "_law_number"]
theorem sc_law_laid : FnScope N_law_laid ["_law_parts_here", "_law_things", "_law_row", "_law_tallied"] (defScope s_law_laid) := ⟨rfl, rfl, rfl, by decide +kernel, rfl, by decide +kernel, by decide +kernel⟩
def D_law_laid : He.DefD := ⟨("_law_laid", none), "_law_laid", "_law_laid", defArgs s_law_laid, defBody s_law_laid, defScope s_law_laid, [], []⟩
abbrev s_Vow___init__ : Stmt := inClass (top 10) 0
abbrev N_Vow___init__ : List Str := ["self", "handed", "results", "kept", "link", "count", "up", "clears", "named", "number", "part"]
theorem sc_Vow___init__ : FnScope N_Vow___init__ ["self", "handed", "results", "kept", "link", "count", "up", "clears"] (defScope s_Vow___init__) := ⟨rfl, rfl, rfl, by decide +kernel, rfl, by decide +kernel, by decide +kernel⟩
def D_Vow___init__ : He.DefD := ⟨("Vow", some "__init__"), "__init__", "Vow.__init__", defArgs s_Vow___init__, defBody s_Vow___init__, defScope s_Vow___init__, [], [("handed", .adr (kwAt ("Vow", some "__init__") "handed")), ("results", .adr (kwAt ("Vow", some "__init__") "results")), ("kept", .adr (kwAt ("Vow", some "__init__") "kept")), ("link", .non), ("count", .non), ("up", .bl true), ("clears", .str "caller")]⟩
abbrev s_law_vow : Stmt := top 18
abbrev N_law_vow : List Str := ["_law_parts_here"]
theorem sc_law_vow : FnScope N_law_vow ["_law_parts_here"] (defScope s_law_vow) := ⟨rfl, rfl, rfl, by decide +kernel, rfl, by decide +kernel, by decide +kernel⟩
def D_law_vow : He.DefD := ⟨("_law_vow", none), "_law_vow", "_law_vow", defArgs s_law_vow, defBody s_law_vow, defScope s_law_vow, [], []⟩
abbrev s_law_worth : Stmt := top 21
abbrev N_law_worth : List Str := ["_law_state", "_law_kind"]
theorem sc_law_worth : FnScope N_law_worth ["_law_state"] (defScope s_law_worth) := ⟨rfl, rfl, rfl, by decide +kernel, rfl, by decide +kernel, by decide +kernel⟩
def D_law_worth : He.DefD := ⟨("_law_worth", none), "_law_worth", "_law_worth", defArgs s_law_worth, defBody s_law_worth, defScope s_law_worth, [], []⟩
abbrev s_law_parts : Stmt := top 17
abbrev N_law_parts : List Str := ["_law_state", "_law_pool", "_law_shift", "_law_many", "_law_rows", "_law_ways", "_law_ones", "_law_some", "_law_k", "_law_way"]
theorem sc_law_parts : FnScope N_law_parts ["_law_state"] (defScope s_law_parts) := ⟨rfl, rfl, rfl, by decide +kernel, rfl, by decide +kernel, by decide +kernel⟩
def D_law_parts : He.DefD := ⟨("_law_parts", none), "_law_parts", "_law_parts", defArgs s_law_parts, defBody s_law_parts, defScope s_law_parts, [], []⟩
abbrev s_law_begun : Stmt := top 15
abbrev N_law_begun : List Str := ["_law_script", "_law_cell"]
theorem sc_law_begun : FnScope N_law_begun ["_law_script"] (defScope s_law_begun) := ⟨rfl, rfl, rfl, by decide +kernel, rfl, by decide +kernel, by decide +kernel⟩
def D_law_begun : He.DefD := ⟨("_law_begun", none), "_law_begun", "_law_begun", defArgs s_law_begun, defBody s_law_begun, defScope s_law_begun, [], []⟩
abbrev s_law : Stmt := top 22
abbrev N_law : List Str := ["_law_script", "_law_state", "_law_turn", "_law_parts_here", "_law_kind", "_law_row", "_law_things", "_law_vow_here", "_law_handed_in", "_law_due", "_law_answer", "_law_back", "_law_some", "_law_k"]
theorem sc_law : FnScope N_law ["_law_script"] (defScope s_law) := ⟨rfl, rfl, rfl, by decide +kernel, rfl, by decide +kernel, by decide +kernel⟩
def D_law : He.DefD := ⟨("law", none), "law", "law", defArgs s_law, defBody s_law, defScope s_law, [], []⟩
abbrev s_xNoVow : Stmt := inClass (top 2) 0
abbrev N_xNoVow : List Str := ["self", "name"]
theorem sc_xNoVow : FnScope N_xNoVow ["self", "name"] (defScope s_xNoVow) := ⟨rfl, rfl, rfl, by decide +kernel, rfl, by decide +kernel, by decide +kernel⟩
def D_xNoVow : He.DefD := ⟨("NoVow", some "__init__"), "__init__", "NoVow.__init__", defArgs s_xNoVow, defBody s_xNoVow, defScope s_xNoVow, [], []⟩
noncomputable def b_laid_back : MS := (mRet (mFz (mDcT (mEn (mVar 1)) (gTp 2 (gCo (gNm 2) (gCo (gNm 3) gNi))) mYes (mTup (mCons (mC (.str "r")) (mCons (m2 fIx (m1 (fFld ["Vow"] "results") (mVar 0)) (mVar 2)) mNil))) (mVar 3) [2, 3])))
noncomputable def f_laid_back : List AV → Hs → R AV := mFn 4 b_laid_back
noncomputable def k_law_take_12 : MS := (mSeq (mAsg (m2 fAdd (m2 fMul (m2 fMod (m2 fPow (mVar 5) (mC (.int 2))) (mC (.int 2147483629))) (mC (.int 2147483587))) (m2 fMod (m2 fPow (mVar 5) (mC (.int 3))) (mC (.int 2147483579)))) (gNm 6)) (mRet (m2 fMod (m2 fDiv (mVar 6) (mC (.int 7))) (mVar 1))))
noncomputable def k_law_take_11 : MS := (mSeq (mDput (mVar 0) (mC (.str "seed")) (mVar 5)) k_law_take_12)
noncomputable def k_law_take_10 : MS := (mSeq (mAsg (m2 fMod (m2 fAdd (m2 fAdd (m2 fMul (m2 fDg (mVar 0) (mC (.str "seed"))) (mC (.int 48271))) (m2 fMul (mVar 4) (m2 fAdd (m2 fMul (mC (.int 2)) (mVar 3)) (mC (.int 3))))) (m2 fPow (mVar 3) (mC (.int 3)))) (mC (.int 2147483647))) (gNm 5)) k_law_take_11)
noncomputable def k_law_take_9 : MS := (mSeq (mAsg (m2 fIx (m2 fDg (mVar 0) (mC (.str "cells"))) (m2 fMod (mVar 3) (mBlt fLen (mCons (m2 fDg (mVar 0) (mC (.str "cells"))) mNil)))) (gNm 4)) k_law_take_10)
noncomputable def k_law_take_8 : MS := (mSeq (mDput (mVar 0) (mC (.str "turn")) (m2 fAdd (mVar 3) (mC (.int 1)))) k_law_take_9)
noncomputable def k_law_take_7 : MS := (mSeq (mAsg (m2 fDg (mVar 0) (mC (.str "turn"))) (gNm 3)) k_law_take_8)
noncomputable def k_law_take_5 : MS := (mSeq (mDput (mVar 0) (mC (.str "rest")) (m2 fDiv (m2 fDg (mVar 0) (mC (.str "rest"))) (mVar 1))) (mRet (mVar 2)))
noncomputable def k_law_take_3 : MS := (mSeq (mIf (mTest (m2 fGt (m2 fDg (mVar 0) (mC (.str "rest"))) (mC (.int 0)))) (mSeq (mAsg (m2 fMod (m2 fDg (mVar 0) (mC (.str "rest"))) (mVar 1)) (gNm 2)) k_law_take_5) mNx) k_law_take_7)
noncomputable def b_law_take : MS := (mSeq (mIf (mAnd (mTest (m2 fEq (m2 fDg (mVar 0) (mC (.str "rest"))) (mC (.int 0)))) (mTest (m2 fNe (m2 fDg (mVar 0) (mC (.str "great"))) (mLst mNil)))) (mDput (mVar 0) (mC (.str "rest")) (mBm isL fPopAt (m2 fDg (mVar 0) (mC (.str "great"))) (mCons (mC (.int 0)) mNil))) mNx) k_law_take_3)
noncomputable def f_law_take : List AV → Hs → R AV := mFn 7 b_law_take
noncomputable def b_Vow_on_pile : MS := (mRet (mBlt fMax2 (mCons (mC (.int 0)) (mCons (m2 fSub (mVar 1) (mBlt fLen (mCons (m1 (fFld ["Vow"] "handed") (mVar 0)) mNil))) mNil))))
noncomputable def f_Vow_on_pile : List AV → Hs → R AV := mFn 2 b_Vow_on_pile
noncomputable def k_cell_of_4 : MS := (mRet (mTup (mCons (mC (.str "p")) (mCons (m2 fAdd (m2 fAdd (mVar 4) (mBlt fInt (mCons (m2 fIsN (m1 (fFld ["Vow"] "link") (mVar 0)) (mC .non)) mNil))) (mBlt fInt (mCons (mAndV (mVar 3) (m2 fIsN (m1 (fFld ["Vow"] "count") (mVar 0)) (mC .non))) mNil))) mNil))))
noncomputable def k_cell_of_2 : MS := (mSeq (mIf (mNot (mTru (m1 (fFld ["Vow"] "up") (mVar 0)))) (mAsg (m2 fSub (m2 fSub (mMeth "Vow" "on_pile" 2 1 0 gAll f_Vow_on_pile (mVar 0) (mCons (mVar 2) mNil) mNil) (mC (.int 1))) (mVar 4)) (gNm 4)) mNx) k_cell_of_4)
noncomputable def b_cell_of : MS := (mSeq (mAsg (m2 fSub (mVar 1) (mBlt fLen (mCons (m1 (fFld ["Vow"] "handed") (mVar 0)) mNil))) (gNm 4)) k_cell_of_2)
noncomputable def f_cell_of : List AV → Hs → R AV := mFn 5 b_cell_of
noncomputable def k_laid_10 : MS := (mSeq (mDputT (mVar 4) (mIte (mTest (m2 fIsN (m1 (fFld ["Vow"] "link") (mVar 0)) (mC .non))) (mTup (mCons (mC (.str "p")) (mCons (mC (.int 0)) mNil))) (mTup (mCons (mC (.str "r")) (mCons (m1 (fFld ["Vow"] "link") (mVar 0)) mNil)))) (mTup (mCons (mC (.str "row")) (mCons (mVar 2) mNil)))) (mRet (mVar 4)))
noncomputable def k_laid_9 : MS := (mDputT (mVar 4) (mVar 7) (mBlt fLen (mCons (mVar 1) mNil)))
noncomputable def k_laid_7 : MS := (mSeq (mIf (mTru (mVar 3)) (mSeq (mAsg (mIte (mTest (m2 fIsN (m1 (fFld ["Vow"] "count") (mVar 0)) (mC .non))) (mTup (mCons (mC (.str "p")) (mCons (mBlt fInt (mCons (m2 fIsN (m1 (fFld ["Vow"] "link") (mVar 0)) (mC .non)) mNil)) mNil))) (mTup (mCons (mC (.str "r")) (mCons (m1 (fFld ["Vow"] "count") (mVar 0)) mNil)))) (gNm 7)) k_laid_9) mNx) k_laid_10)
noncomputable def l_laid_2 : MS := (mIf (mTest (m2 fLt (mVar 5) (mBlt fLen (mCons (m1 (fFld ["Vow"] "handed") (mVar 0)) mNil)))) (mDputT (mVar 4) (mTup (mCons (mC (.str "r")) (mCons (m2 fIx (m1 (fFld ["Vow"] "handed") (mVar 0)) (mVar 5)) mNil))) (mVar 6)) (mDputT (mVar 4) (mCall 4 3 1 (gP [] [.p 0, .p 1, .p 2, .k 0]) f_cell_of (mCons (mVar 0) (mCons (mVar 5) (mCons (mBlt fLen (mCons (mVar 1) mNil)) mNil))) (mCons (mVar 3) mNil)) (mVar 6)))
noncomputable def k_laid_2 : MS := (mSeq (mFor (mEn (mVar 1)) (gTp 2 (gCo (gNm 5) (gCo (gNm 6) gNi))) l_laid_2) k_laid_7)
noncomputable def b_laid : MS := (mSeq (mAsg mDictT (gNm 4)) k_laid_2)
noncomputable def f_laid : List AV → Hs → R AV := mFn 8 b_laid
noncomputable def k_law_pile_13 : MS := (mRet (mTup (mCons (mFz (mVar 5)) (mCons (mFz (mVar 4)) mNil))))
noncomputable def k_law_pile_9 : MS := (mSeq (mIf (mTest (m2 fIsN (m2 fIx (mVar 0) (mC (.int 3))) (mC .non))) (mDrop (mBm isL fApp (mVar 5) (mCons (mTup (mCons (mC (.str "row")) (mCons (mVar 2) mNil))) mNil))) (mDput (mVar 4) (m2 fIx (mVar 0) (mC (.int 3))) (mTup (mCons (mC (.str "row")) (mCons (mVar 2) mNil))))) k_law_pile_13)
noncomputable def k_law_pile_7 : MS := (mSeq (mIf (mAnd (mTru (mVar 3)) (mTest (m2 fNotN (m2 fIx (mVar 0) (mC (.int 4))) (mC .non)))) (mDput (mVar 4) (m2 fIx (mVar 0) (mC (.int 4))) (mBlt fLen (mCons (mVar 1) mNil))) mNx) k_law_pile_9)
noncomputable def k_law_pile_5 : MS := (mSeq (mIf (mAnd (mTru (mVar 3)) (mTest (m2 fIsN (m2 fIx (mVar 0) (mC (.int 4))) (mC .non)))) (mDrop (mBm isL fApp (mVar 5) (mCons (mBlt fLen (mCons (mVar 1) mNil)) mNil))) mNx) k_law_pile_7)
noncomputable def k_law_pile_3 : MS := (mSeq (mIf (mTru (m2 fIx (mVar 0) (mC (.int 5)))) (mDrop (mBm isL fRevM (mVar 5) mNil)) mNx) k_law_pile_5)
noncomputable def k_law_pile_2 : MS := (mSeq (mAsg (mBlt fList (mCons (mFz (mSl (mVar 1) (mSome (mBlt fLen (mCons (m2 fIx (mVar 0) (mC (.int 0))) mNil))) mNone)) mNil)) (gNm 5)) k_law_pile_3)
noncomputable def b_law_pile : MS := (mSeq (mAsg (mBlt fDictA (mCons (mFz (mLc (mRg1 (mBlt fMin2 (mCons (mBlt fLen (mCons (m2 fIx (mVar 0) (mC (.int 0))) mNil)) (mCons (mBlt fLen (mCons (mVar 1) mNil)) mNil)))) (gNm 6) mYes (mTup (mCons (m2 fIx (m2 fIx (mVar 0) (mC (.int 0))) (mVar 6)) (mCons (m2 fIx (mVar 1) (mVar 6)) mNil))) [6])) mNil)) (gNm 4)) k_law_pile_2)
noncomputable def f_law_pile : List AV → Hs → R AV := mFn 7 b_law_pile
noncomputable def k_law_laid_3 : MS := (mRet (mFz (mBlt fDictT (mCons (m2 fAddI (mVar 6) (mKeI 5 (gNm 8) mYes (mTup (mCons (mTup (mCons (mC (.str "r")) (mCons (mVar 8) mNil))) (mCons (m2 fDgZ (mVar 5) (mVar 8)) mNil))) [8])) mNil))))
noncomputable def k_law_laid_2 : MS := (mSeq (mFzA 6 (mAsg (mLc (mRg1 (mBlt fLen (mCons (mVar 4) mNil))) (gNm 7) mYes (mTup (mCons (mTup (mCons (mC (.str "p")) (mCons (mVar 7) mNil))) (mCons (m2 fIx (mVar 4) (m2 fSub (m2 fSub (mBlt fLen (mCons (mVar 4) mNil)) (mC (.int 1))) (mVar 7))) mNil))) [7]) (gNm 6))) k_law_laid_3)
noncomputable def b_law_laid : MS := (mSeq (mAsg (mCall 4 4 0 gAll f_law_pile (mCons (mVar 0) (mCons (mVar 1) (mCons (mVar 2) (mCons (mVar 3) mNil)))) mNil) (gTp 2 (gCo (gNm 4) (gCo (gNm 5) gNi)))) k_law_laid_2)
noncomputable def f_law_laid : List AV → Hs → R AV := mFn 9 b_law_laid
noncomputable def k_Vow___init___11 : MS := (mSeq (mFst ["Vow"] "up" (mVar 0) (mVar 6)) (mFst ["Vow"] "clears" (mVar 0) (mVar 7)))
noncomputable def k_Vow___init___10 : MS := (mSeq (mFst ["Vow"] "count" (mVar 0) (mVar 5)) k_Vow___init___11)
noncomputable def k_Vow___init___9 : MS := (mSeq (mFst ["Vow"] "link" (mVar 0) (mVar 4)) k_Vow___init___10)
noncomputable def k_Vow___init___8 : MS := (mSeq (mFst ["Vow"] "kept" (mVar 0) (mBlt fTuple (mCons (mVar 3) mNil))) k_Vow___init___9)
noncomputable def k_Vow___init___7 : MS := (mSeq (mFst ["Vow"] "results" (mVar 0) (mBlt fTuple (mCons (mVar 2) mNil))) k_Vow___init___8)
noncomputable def k_Vow___init___6 : MS := (mSeq (mFst ["Vow"] "handed" (mVar 0) (mBlt fTuple (mCons (mVar 1) mNil))) k_Vow___init___7)
noncomputable def k_Vow___init___4 : MS := (mSeq (mIf (mNot (mTru (mBlt fAll (mCons (mFz (mLc2 (mWk (mTup (mCons (mVar 1) (mCons (mVar 2) (mCons (mVar 3) (mCons (mVar 8) mNil)))))) (gNm 10) mYes (mWk (mVar 10)) (gNm 9) mYes (mChain fLe fLt (mC (.int 0)) (mVar 9) (mC (.int 12))) [10, 9] [9])) mNil)))) (mRaise "NoVow" [("name", 1)] 2 (mCons (mC (.str "")) mNil)) mNx) k_Vow___init___6)
noncomputable def k_Vow___init___2 : MS := (mSeq (mIf (mOr (mTest (m2 fGt (mBlt fLen (mCons (mVar 1) mNil)) (mC (.int 4)))) (mOr (mTest (m2 fNe (mBlt fLen (mCons (mVar 2) mNil)) (mC (.int 3)))) (mTest (m2 fNin (mVar 7) (mTup (mCons (mC (.str "caller")) (mCons (mC (.str "callee")) mNil))))))) (mRaise "NoVow" [("name", 1)] 2 (mCons (mC (.str "")) mNil)) mNx) k_Vow___init___4)
noncomputable def b_Vow___init__ : MS := (mSeq (mFzA 8 (mAsg (mLc (mWk (mTup (mCons (mVar 4) (mCons (mVar 5) mNil)))) (gNm 9) (mTest (m2 fNotN (mVar 9) (mC .non))) (mVar 9) [9]) (gNm 8))) k_Vow___init___2)
noncomputable def f_Vow___init__ : List AV → Hs → R AV := mFn 11 b_Vow___init__
noncomputable def b_law_vow : MS := (mRet (mFz (mMake "Vow" 8 0 7 (gP [] [.p 0, .k 1, .k 3, .k 0, .k 2, .k 6, .k 5, .k 4]) f_Vow___init__ mNil (mCons (m2 fIx (mVar 0) (mC (.int 2))) (mCons (m2 fIx (mVar 0) (mC (.int 0))) (mCons (m2 fIx (mVar 0) (mC (.int 3))) (mCons (m2 fIx (mVar 0) (mC (.int 1))) (mCons (m2 fIx (mVar 0) (mC (.int 6))) (mCons (m2 fIx (mVar 0) (mC (.int 5))) (mCons (m2 fIx (mVar 0) (mC (.int 4))) mNil))))))))))
noncomputable def f_law_vow : List AV → Hs → R AV := mFn 1 b_law_vow
noncomputable def k_law_worth_2 : MS := (mRet (m2 fIx (mLstI (mCons (mC (.int 0)) (mCons (mCall 2 2 0 gAll f_law_take (mCons (mVar 0) (mCons (mC (.int 9)) mNil)) mNil) (mCons (m2 fSub (mC (.int 1000000007)) (mC (.int 1))) (mCons (mCall 2 2 0 gAll f_law_take (mCons (mVar 0) (mCons (mC (.int 1000000007)) mNil)) mNil) mNil))))) (mVar 1)))
noncomputable def b_law_worth : MS := (mSeq (mAsg (mCall 2 2 0 gAll f_law_take (mCons (mVar 0) (mCons (mC (.int 4)) mNil)) mNil) (gNm 1)) k_law_worth_2)
noncomputable def f_law_worth : List AV → Hs → R AV := mFn 2 b_law_worth
noncomputable def k_law_parts_8 : MS := (mRet (mTup (mCons (m2 fIx (mVar 4) (mC (.int 0))) (mCons (m2 fIx (mVar 4) (mC (.int 1))) (mCons (m2 fIx (mVar 4) (mC (.int 2))) (mCons (m2 fIx (mVar 6) (mC (.int 0))) (mCons (m2 fIx (mVar 6) (mC (.int 1))) (mCons (m2 fEq (m2 fIx (mVar 5) (mC (.int 2))) (mC (.int 0))) (mCons (m2 fIx (mLstI (mCons (mC (.str "caller")) (mCons (mC (.str "callee")) mNil))) (m2 fIx (mVar 5) (mC (.int 3)))) mNil)))))))))
noncomputable def k_law_parts_7 : MS := (mSeq (mFzA 6 (mAsg (mLc (mWk (mFz (mSl (mVar 5) mNone (mSome (mC (.int 2)))))) (gNm 9) mYes (mIte (mTest (m2 fEq (mVar 9) (mC (.int 0)))) (mC .non) (m2 fMod (m2 fAdd (mVar 2) (mCall 2 2 0 gAll f_law_take (mCons (mVar 0) (mCons (mVar 1) mNil)) mNil)) (mC (.int 12)))) [9]) (gNm 6))) k_law_parts_8)
noncomputable def k_law_parts_6 : MS := (mSeq (mAsg (mLstI (mCons (mCall 2 2 0 gAll f_law_take (mCons (mVar 0) (mCons (mC (.int 3)) mNil)) mNil) (mCons (mCall 2 2 0 gAll f_law_take (mCons (mVar 0) (mCons (mC (.int 3)) mNil)) mNil) (mCons (mCall 2 2 0 gAll f_law_take (mCons (mVar 0) (mCons (mC (.int 2)) mNil)) mNil) (mCons (mCall 2 2 0 gAll f_law_take (mCons (mVar 0) (mCons (mC (.int 2)) mNil)) mNil) mNil))))) (gNm 5)) k_law_parts_7)
noncomputable def k_law_parts_5 : MS := (mSeq (mFzA 4 (mAsg (mLc (mWk (mVar 3)) (gNm 7) mYes (mBlt fTuple (mCons (mFz (mLc (mRg1 (mVar 7)) (gNm 8) mYes (m2 fMod (m2 fAdd (mVar 2) (mCall 2 2 0 gAll f_law_take (mCons (mVar 0) (mCons (mVar 1) mNil)) mNil)) (mC (.int 12))) [8])) mNil)) [7]) (gNm 4))) k_law_parts_6)
noncomputable def k_law_parts_4 : MS := (mSeq (mAsg (mLstI (mCons (mCall 2 2 0 gAll f_law_take (mCons (mVar 0) (mCons (mC (.int 5)) mNil)) mNil) (mCons (mC (.int 3)) (mCons (mCall 2 2 0 gAll f_law_take (mCons (mVar 0) (mCons (mC (.int 5)) mNil)) mNil) mNil)))) (gNm 3)) k_law_parts_5)
noncomputable def k_law_parts_3 : MS := (mSeq (mAsg (mCall 2 2 0 gAll f_law_take (mCons (mVar 0) (mCons (mC (.int 12)) mNil)) mNil) (gNm 2)) k_law_parts_4)
noncomputable def k_law_parts_2 : MS := (mSeq (mAsg (m2 fIx (mLstI (mCons (mVar 1) (mCons (mC (.int 12)) (mCons (mC (.int 12)) mNil)))) (mCall 2 2 0 gAll f_law_take (mCons (mVar 0) (mCons (mC (.int 3)) mNil)) mNil)) (gNm 1)) k_law_parts_3)
noncomputable def b_law_parts : MS := (mSeq (mAsg (m2 fAdd (mC (.int 1)) (mCall 2 2 0 gAll f_law_take (mCons (mVar 0) (mCons (mC (.int 12)) mNil)) mNil)) (gNm 1)) k_law_parts_2)
noncomputable def f_law_parts : List AV → Hs → R AV := mFn 10 b_law_parts
noncomputable def b_law_begun : MS := (mRet (mDict [((mC (.str "great")), (mLc (mWk (mVar 0)) (gNm 1) (mTest (m2 fGe (mVar 1) (m2 fPow (mC (.int 10)) (mC (.int 18))))) (mVar 1) [1])), ((mC (.str "rest")), (mC (.int 0))), ((mC (.str "turn")), (mC (.int 0))), ((mC (.str "seed")), (mC (.int 7))), ((mC (.str "cells")), (m2 fAdd (mLc (mWk (mVar 0)) (gNm 1) mYes (m2 fMod (mVar 1) (mC (.int 2147483629))) [1]) (mLst (mCons (mC (.int 77)) mNil))))]))
noncomputable def f_law_begun : List AV → Hs → R AV := mFn 2 b_law_begun
noncomputable def k_law_19 : MS := (mIf (mOr (mTest (m2 (fEqT true) (mCall 2 2 0 gAll f_laid_back (mCons (mVar 7) (mCons (mBlt fListI (mCons (mVar 11) mNil)) mNil)) mNil) (mVar 12))) (mNot (mTru (m1 (fIsi [(.b "NoneType", false), (.b "bool", false), (.b "int", false), (.b "str", false), (.b "tuple", false), (.b "list", false), (.b "dict", true), (.c "Vow", false)]) (mCall 2 2 0 gAll f_laid_back (mCons (mVar 7) (mCons (mVar 11) mNil)) mNil))))) (mRet (mC (.bl false))) mNx)
noncomputable def k_law_18 : MS := (mSeq (mAsg (mFz (mBlt fDictT (mCons (mFz (mLc (mRg1 (mBlt fLen (mCons (mVar 11) mNil))) (gNm 13) mYes (mTup (mCons (mTup (mCons (mC (.str "r")) (mCons (m2 fIx (m2 fIx (mVar 3) (mC (.int 1))) (mVar 13)) mNil))) (mCons (m2 fIx (mVar 11) (mVar 13)) mNil))) [13])) mNil))) (gNm 12)) k_law_19)
noncomputable def k_law_17 : MS := (mSeq (mAsg (mFz (mSl (mVar 6) mNone (mSome (m2 fAdd (mC (.int 1)) (mCall 2 2 0 gAll f_law_take (mCons (mVar 1) (mCons (mC (.int 3)) mNil)) mNil))))) (gNm 11)) k_law_18)
noncomputable def k_law_15 : MS := (mSeq (mIf (mTest (m2 (fEqT true) (mCall 4 3 1 (gP [] [.p 0, .p 1, .p 2, .k 0]) f_laid (mCons (mVar 7) (mCons (mVar 6) (mCons (mVar 5) mNil))) (mCons (m2 fEq (mVar 4) (mC (.int 0))) mNil)) (mVar 9))) (mRet (mC (.bl false))) mNx) k_law_17)
noncomputable def k_law_14 : MS := (mSeq (mDrop (mBm isDT fDClearT (mVar 10) mNil)) k_law_15)
noncomputable def k_law_12 : MS := (mSeq (mIf (mOr (mNot (mTru (m1 (fIsi [(.b "NoneType", false), (.b "bool", false), (.b "int", false), (.b "str", false), (.b "tuple", false), (.b "list", false), (.b "dict", true), (.c "Vow", false)]) (mVar 10)))) (mOr (mTest (m2 (fEqT true) (mVar 10) (mVar 9))) (mTest (m2 fNe (mVar 8) (mVar 6))))) (mRet (mC (.bl false))) mNx) k_law_14)
noncomputable def k_law_8 : MS := (mSeq (mIf (mTest (m2 fEq (mVar 4) (mC (.int 2)))) (mAsg (mCall 4 3 0 (gP [.bl false] [.p 0, .p 1, .p 2, .d 0]) f_laid (mCons (mVar 7) (mCons (mVar 8) (mCons (mVar 5) mNil))) mNil) (gNm 10)) (mAsg (mCall 4 3 1 (gP [] [.p 0, .p 1, .p 2, .k 0]) f_laid (mCons (mVar 7) (mCons (mVar 8) (mCons (mVar 5) mNil))) (mCons (m2 fEq (mVar 4) (mC (.int 0))) mNil)) (gNm 10))) k_law_12)
noncomputable def k_law_7 : MS := (mSeq (mAsg (mCall 4 4 0 gAll f_law_laid (mCons (mVar 3) (mCons (mVar 6) (mCons (mVar 5) (mCons (m2 fEq (mVar 4) (mC (.int 0))) mNil)))) mNil) (gNm 9)) k_law_8)
noncomputable def k_law_6 : MS := (mSeq (mPar 7 8 (mCons (mCall 1 1 0 gAll f_law_vow (mCons (mVar 3) mNil) mNil) (mCons (mBlt fListI (mCons (mVar 6) mNil)) mNil))) k_law_7)
noncomputable def k_law_5 : MS := (mSeq (mFzA 6 (mAsg (mLc (mRg1 (mCall 2 2 0 gAll f_law_take (mCons (mVar 1) (mCons (mC (.int 8)) mNil)) mNil)) (gNm 13) mYes (mCall 1 1 0 gAll f_law_worth (mCons (mVar 1) mNil) mNil) [13]) (gNm 6))) k_law_6)
noncomputable def k_law_4 : MS := (mSeq (mPar 4 5 (mCons (mCall 2 2 0 gAll f_law_take (mCons (mVar 1) (mCons (mC (.int 3)) mNil)) mNil) (mCons (mCall 2 2 0 gAll f_law_take (mCons (mVar 1) (mCons (m2 fPow (mC (.int 10)) (mC (.int 6))) mNil)) mNil) mNil))) k_law_5)
noncomputable def l_law_2 : MS := (mSeq (mAsg (mCall 1 1 0 gAll f_law_parts (mCons (mVar 1) mNil) mNil) (gNm 3)) k_law_4)
noncomputable def k_law_2 : MS := (mSeq (mFor (mRg1 (mC (.int 12))) (gNm 2) l_law_2) (mRet (mC (.bl true))))
noncomputable def b_law : MS := (mSeq (mAsg (mCall 1 1 0 gAll f_law_begun (mCons (mVar 0) mNil) mNil) (gNm 1)) k_law_2)
noncomputable def f_law : List AV → Hs → R AV := mFn 14 b_law
structure Ts (K : PySem.W.Frag) (mg : Str → Option Value) : Prop where
  n_range : mg "range" = none
  i_dict : isTab [(.b "NoneType", false), (.b "bool", false), (.b "int", false), (.b "str", false), (.b "tuple", false), (.b "list", false), (.b "dict", true), (.c "Vow", false)] (.type "dict") K = true
  n_isinstance : mg "isinstance" = none
  n_dict : mg "dict" = none
  n_list : mg "list" = none
  n_len : mg "len" = none
  c_CALLEE : ∃ t, mg "CALLEE" = some (.str "callee" t)
  c_CALLER : ∃ t, mg "CALLER" = some (.str "caller" t)
  n_tuple : mg "tuple" = none
  c_MODULUS : ∃ t, mg "MODULUS" = some (.int 1000000007 t)
  a_clears : (["Vow"].all fun c => attrOk "clears" c K) = true
  a_up : (["Vow"].all fun c => attrOk "up" c K) = true
  a_count : (["Vow"].all fun c => attrOk "count" c K) = true
  a_link : (["Vow"].all fun c => attrOk "link" c K) = true
  a_kept : (["Vow"].all fun c => attrOk "kept" c K) = true
  a_results : (["Vow"].all fun c => attrOk "results" c K) = true
  a_handed : (["Vow"].all fun c => attrOk "handed" c K) = true
  c_REGISTERS : ∃ t, mg "REGISTERS" = some (.int 12 t)
  n_all : mg "all" = none
  c_MOST_RESULTS : ∃ t, mg "MOST_RESULTS" = some (.int 3 t)
  c_MOST_HANDED : ∃ t, mg "MOST_HANDED" = some (.int 4 t)
  n_min : mg "min" = none
  n_int : mg "int" = none
  n_enumerate : mg "enumerate" = none
  n_max : mg "max" = none
  m_NoVow : mg "NoVow" = some (.ref (ga K "NoVow"))
  xi_NoVow : XC K (ga K "NoVow") ∧ PySem.W.findIn K (.ref (ga K "NoVow")) "__init__" = some (some (.ref (He.ma K (ga K "NoVow") "__init__"))) ∧ PySem.W.typeIn K (.ref (He.ma K (ga K "NoVow") "__init__")) = some (.type "function")
  xn_NoVow : noAt K (ga K "NoVow") [("name", 1)] = true
  m_laid_back : mg "laid_back" = some (.ref (ga K "laid_back"))
  m_law_take : mg "_law_take" = some (.ref (ga K "_law_take"))
  m_Vow : mg "Vow" = some (.ref (ga K "Vow"))
  cl_Vow : Cls K (ga K "Vow")
  mt_Vow_on_pile : Meth K (ga K "Vow") "on_pile" (He.ma K (ga K "Vow") "on_pile")
  m_cell_of : mg "cell_of" = some (.ref (ga K "cell_of"))
  m_laid : mg "laid" = some (.ref (ga K "laid"))
  m_law_pile : mg "_law_pile" = some (.ref (ga K "_law_pile"))
  m_law_laid : mg "_law_laid" = some (.ref (ga K "_law_laid"))
  kt_Vow___init___handed : tuA (kwAt ("Vow", some "__init__") "handed") [] K = true
  kt_Vow___init___results : tuA (kwAt ("Vow", some "__init__") "results") [.int 0, .int 1, .int 2] K = true
  kt_Vow___init___kept : tuA (kwAt ("Vow", some "__init__") "kept") [] K = true
  k_Vow : Mk K (ga K "Vow") (He.ma K (ga K "Vow") "__init__")
  m_law_vow : mg "_law_vow" = some (.ref (ga K "_law_vow"))
  m_law_worth : mg "_law_worth" = some (.ref (ga K "_law_worth"))
  m_law_parts : mg "_law_parts" = some (.ref (ga K "_law_parts"))
  m_law_begun : mg "_law_begun" = some (.ref (ga K "_law_begun"))
  m_law : mg "law" = some (.ref (ga K "law"))
  d_laid_back : ∃ fd, FunD K D_laid_back.name D_laid_back.qual D_laid_back.params D_laid_back.body D_laid_back.scope (D_laid_back.dvs K) (D_laid_back.kws K) (He.fAd K D_laid_back.at_) fd
  d_law_take : ∃ fd, FunD K D_law_take.name D_law_take.qual D_law_take.params D_law_take.body D_law_take.scope (D_law_take.dvs K) (D_law_take.kws K) (He.fAd K D_law_take.at_) fd
  d_Vow_on_pile : ∃ fd, FunD K D_Vow_on_pile.name D_Vow_on_pile.qual D_Vow_on_pile.params D_Vow_on_pile.body D_Vow_on_pile.scope (D_Vow_on_pile.dvs K) (D_Vow_on_pile.kws K) (He.fAd K D_Vow_on_pile.at_) fd
  d_cell_of : ∃ fd, FunD K D_cell_of.name D_cell_of.qual D_cell_of.params D_cell_of.body D_cell_of.scope (D_cell_of.dvs K) (D_cell_of.kws K) (He.fAd K D_cell_of.at_) fd
  d_laid : ∃ fd, FunD K D_laid.name D_laid.qual D_laid.params D_laid.body D_laid.scope (D_laid.dvs K) (D_laid.kws K) (He.fAd K D_laid.at_) fd
  d_law_pile : ∃ fd, FunD K D_law_pile.name D_law_pile.qual D_law_pile.params D_law_pile.body D_law_pile.scope (D_law_pile.dvs K) (D_law_pile.kws K) (He.fAd K D_law_pile.at_) fd
  d_law_laid : ∃ fd, FunD K D_law_laid.name D_law_laid.qual D_law_laid.params D_law_laid.body D_law_laid.scope (D_law_laid.dvs K) (D_law_laid.kws K) (He.fAd K D_law_laid.at_) fd
  d_Vow___init__ : ∃ fd, FunD K D_Vow___init__.name D_Vow___init__.qual D_Vow___init__.params D_Vow___init__.body D_Vow___init__.scope (D_Vow___init__.dvs K) (D_Vow___init__.kws K) (He.fAd K D_Vow___init__.at_) fd
  d_law_vow : ∃ fd, FunD K D_law_vow.name D_law_vow.qual D_law_vow.params D_law_vow.body D_law_vow.scope (D_law_vow.dvs K) (D_law_vow.kws K) (He.fAd K D_law_vow.at_) fd
  d_law_worth : ∃ fd, FunD K D_law_worth.name D_law_worth.qual D_law_worth.params D_law_worth.body D_law_worth.scope (D_law_worth.dvs K) (D_law_worth.kws K) (He.fAd K D_law_worth.at_) fd
  d_law_parts : ∃ fd, FunD K D_law_parts.name D_law_parts.qual D_law_parts.params D_law_parts.body D_law_parts.scope (D_law_parts.dvs K) (D_law_parts.kws K) (He.fAd K D_law_parts.at_) fd
  d_law_begun : ∃ fd, FunD K D_law_begun.name D_law_begun.qual D_law_begun.params D_law_begun.body D_law_begun.scope (D_law_begun.dvs K) (D_law_begun.kws K) (He.fAd K D_law_begun.at_) fd
  d_law : ∃ fd, FunD K D_law.name D_law.qual D_law.params D_law.body D_law.scope (D_law.dvs K) (D_law.kws K) (He.fAd K D_law.at_) fd
  d_xNoVow : ∃ fd, FunD K D_xNoVow.name D_xNoVow.qual D_xNoVow.params D_xNoVow.body D_xNoVow.scope (D_xNoVow.dvs K) (D_xNoVow.kws K) (He.fAd K D_xNoVow.at_) fd
def fx : List Fx := [free "range", isTab [(.b "NoneType", false), (.b "bool", false), (.b "int", false), (.b "str", false), (.b "tuple", false), (.b "list", false), (.b "dict", true), (.c "Vow", false)] (.type "dict"), free "isinstance", free "dict", free "list", free "len", conS "CALLEE" "callee", conS "CALLER" "caller", free "tuple", conI "MODULUS" 1000000007, (fun K => ["Vow"].all fun c => attrOk "clears" c K), (fun K => ["Vow"].all fun c => attrOk "up" c K), (fun K => ["Vow"].all fun c => attrOk "count" c K), (fun K => ["Vow"].all fun c => attrOk "link" c K), (fun K => ["Vow"].all fun c => attrOk "kept" c K), (fun K => ["Vow"].all fun c => attrOk "results" c K), (fun K => ["Vow"].all fun c => attrOk "handed" c K), conI "REGISTERS" 12, free "all", conI "MOST_RESULTS" 3, conI "MOST_HANDED" 4, free "min", free "int", free "enumerate", free "max", glo "NoVow", xiB "NoVow", (fun K => noAt K (ga K "NoVow") [("name", 1)]), glo "laid_back", glo "_law_take", glo "Vow", (fun K => (He.Fa.cls "Vow").ok K), (fun K => (He.Fa.meth "Vow" "on_pile").ok K), glo "cell_of", glo "laid", glo "_law_pile", glo "_law_laid", tuA (kwAt ("Vow", some "__init__") "handed") [], tuA (kwAt ("Vow", some "__init__") "results") [.int 0, .int 1, .int 2], tuA (kwAt ("Vow", some "__init__") "kept") [], (fun K => (He.Fa.mkr "Vow").ok K), glo "_law_vow", glo "_law_worth", glo "_law_parts", glo "_law_begun", glo "law"]
def fn : List He.DefD := [D_laid_back, D_law_take, D_Vow_on_pile, D_cell_of, D_laid, D_law_pile, D_law_laid, D_Vow___init__, D_law_vow, D_law_worth, D_law_parts, D_law_begun, D_law, D_xNoVow]
abbrev RowX : PySem.W.OpenRow := PySem.W.OpenLaw.row PySem.Challenge.rw_callvows_k03_laid_by_vows
abbrev hk : PySem.W.Hook := hkY 6 fx fn
def ob (s : PySem.W.SharedT) : He.AlD := lookY 6 fx fn (HandSHeadRun.getT s)
theorem ob_eq (s : PySem.W.SharedT) : ob s = hk.obs s.abs := lookY_eq (HandSHeadRun.getT_eq s)
def loose : List PySem.Str := (["VowError", "NoVow", "MODULUS", "REGISTERS", "CALLER", "CALLEE", "MOST_HANDED", "MOST_RESULTS", "Vow", "cell_of", "laid", "laid_back", "_law_begun", "_law_take", "_law_parts", "_law_vow", "_law_pile", "_law_laid", "_law_worth"] : List PySem.Str)
theorem run (w : World) : HandSHeadRun.RunEq RowX (PySem.W.view RowX.prog [22]) hk ob 3880 loose w := by
  intro os
  kernel_rfl
section
variable {P : Program} {w : World} {K : PySem.W.Frag} {mg : Str → Option Value} {base : Heap}
theorem Ts.of (t : Told fx fn K) (m : Mg K mg) : Ts K mg := ⟨m.free (t.f_ 0), t.f_ 1, m.free (t.f_ 2), m.free (t.f_ 3), m.free (t.f_ 4), m.free (t.f_ 5), m.str (t.f_ 6), m.str (t.f_ 7), m.free (t.f_ 8), m.int (t.f_ 9), t.f_ 10, t.f_ 11, t.f_ 12, t.f_ 13, t.f_ 14, t.f_ 15, t.f_ 16, m.int (t.f_ 17), m.free (t.f_ 18), m.int (t.f_ 19), m.int (t.f_ 20), m.free (t.f_ 21), m.free (t.f_ 22), m.free (t.f_ 23), m.free (t.f_ 24), m.glo (t.f_ 25), xiB_ok (t.f_ 26), t.f_ 27, m.glo (t.f_ 28), m.glo (t.f_ 29), m.glo (t.f_ 30), He.cls_ok (t.f_ 31), He.meth_ok (t.f_ 32), m.glo (t.f_ 33), m.glo (t.f_ 34), m.glo (t.f_ 35), m.glo (t.f_ 36), t.f_ 37, t.f_ 38, t.f_ 39, He.mkr_ok (t.f_ 40), m.glo (t.f_ 41), m.glo (t.f_ 42), m.glo (t.f_ 43), m.glo (t.f_ 44), m.glo (t.f_ 45), t.d_ (d := D_laid_back) 0, t.d_ (d := D_law_take) 1, t.d_ (d := D_Vow_on_pile) 2, t.d_ (d := D_cell_of) 3, t.d_ (d := D_laid) 4, t.d_ (d := D_law_pile) 5, t.d_ (d := D_law_laid) 6, t.d_ (d := D_Vow___init__) 7, t.d_ (d := D_law_vow) 8, t.d_ (d := D_law_worth) 9, t.d_ (d := D_law_parts) 10, t.d_ (d := D_law_begun) 11, t.d_ (d := D_law) 12, t.d_ (d := D_xNoVow) 13⟩
theorem okx_NoVow (T : Ts K mg) : Xk P w K mg base 1 "NoVow" 2 [("name", 1)] := by
  obtain ⟨fd, F⟩ := T.d_xNoVow
  have F : FunD K "__init__" "NoVow.__init__" (defArgs s_xNoVow) (defBody s_xNoVow) (defScope s_xNoVow) [] [] (He.ma K (ga K "NoVow") "__init__") fd := F
  exact (xk_mk (ps := ["self", "name"]) T.m_NoVow T.xi_NoVow T.xn_NoVow F sc_xNoVow (by decide) (by decide) (fun cdv A outer s H E => (.cons (pv 0) (pv 1) .nil)) (fun _ _ _ _ _ _ us hl => match us, hl with | [_, _], _ => rfl) : Xk P w K mg base (0 + 1) "NoVow" ["self", "name"].length [("name", 1)])
theorem ok_laid_back (T : Ts K mg) : Fk P w K mg base 1 "laid_back" ["vow", "results"] f_laid_back [(2, [], gAll)] := by
  obtain ⟨fd, F⟩ := T.d_laid_back
  have F : FunD K "laid_back" "laid_back" (defArgs s_laid_back) (defBody s_laid_back) (defScope s_laid_back) [] [] (ga K "laid_back") fd := F
  refine ⟨T.m_laid_back, F.kp, fd, fn_body F sc_laid_back fun cdv A outer s H E hr tk => ?_, ?_⟩
  · exact (sss_one (ss_ret (se_fz (se_dct (Rm.uu hr 0 (by decide)) (S := [2, 3]) (own := [("at", 2), ("result", 3)]) rfl sc_laid_back.nd (si_enum (by exact rfl) T.n_enumerate (se_var (pv 1))) (blk_of (N := N_laid_back) (sc := (defScope s_laid_back)) (by decide +kernel)) (by decide) (fun _ _ _ _ _ => by exact (sg_tup rfl (sgs_cons (sg_name (i := 2) sc_laid_back.nd rfl (by first | exact Or.inl rfl | exact Or.inr rfl)) (sgs_cons (sg_name (i := 3) sc_laid_back.nd rfl (by first | exact Or.inl rfl | exact Or.inr rfl)) sgs_nil)))) (fun _ _ _ _ _ => by exact sts_nil) (fun _ _ _ _ _ => by exact (se_tup (sa_cons se_str (sa_cons (se_ix (se_fld ["Vow"] T.a_results (se_var (pv 0)) rfl) (se_var (pv 2)) (fun _ _ => rfl)) sa_nil)))) (fun _ _ _ _ _ => by exact (se_var (pv 3)))))))
  · refine shs_all ⟨?_, trivial⟩
    · exact sh_all (F.bindsN fun _ _ _ _ _ _ us hl => match us, hl with | [_, _], _ => rfl) rfl
theorem ok_law_take (T : Ts K mg) : Fk P w K mg base 1 "_law_take" ["_law_state", "_law_many"] f_law_take [(2, [], gAll)] := by
  obtain ⟨fd, F⟩ := T.d_law_take
  have F : FunD K "_law_take" "_law_take" (defArgs s_law_take) (defBody s_law_take) (defScope s_law_take) [] [] (ga K "_law_take") fd := F
  refine ⟨T.m_law_take, F.kp, fd, fn_body F sc_law_take fun cdv A outer s H E hr tk => ?_, ?_⟩
  · exact (sss_cons (ss_if (sw_t (sw_and (st_cmp (op_eqA (Rm.uu hr 64 (by decide))) op2_eq (se_dget (Rm.uu hr 1 (by decide)) (se_var (pv 0)) se_str (fun _ _ => rfl)) se_int rfl) (sw_and1 (st_cmp (op_neA (Rm.uu hr 64 (by decide))) op2_ne (se_dget (Rm.uu hr 1 (by decide)) (se_var (pv 0)) se_str (fun _ _ => rfl)) (se_lst sa_nil) rfl)))) (sss_one (ss_dput (Rm.uu hr 1 (by decide)) (se_var (pv 0)) se_str (se_bm tyM_l opM_popAt PySem.F.plainAttrs_list PySem.F.slot_list_pop PySem.F.type_list_pop mt_popAt (se_dget (Rm.uu hr 1 (by decide)) (se_var (pv 0)) se_str (fun _ _ => rfl)) (sa_cons se_int sa_nil)) rfl)) sss_nil)
  (sss_cons (ss_if (st_cmp op_gt op2_cmpI (se_dget (Rm.uu hr 1 (by decide)) (se_var (pv 0)) se_str (fun _ _ => rfl)) se_int rfl) (sss_cons (ss_set (i := 2) sc_law_take.nd rfl (by first | exact Or.inl rfl | exact Or.inr rfl) (se_bin op_mod op2_mod (se_dget (Rm.uu hr 1 (by decide)) (se_var (pv 0)) se_str (fun _ _ => rfl)) (se_var (pv 1))))
  (sss_cons (ss_dput (Rm.uu hr 1 (by decide)) (se_var (pv 0)) se_str (se_bin op_fdivW op2_div (se_dget (Rm.uu hr 1 (by decide)) (se_var (pv 0)) se_str (fun _ _ => rfl)) (se_var (pv 1))) rfl)
  (sss_one (ss_ret (se_var (pv 2)))))) sss_nil)
  (sss_cons (ss_set (i := 3) sc_law_take.nd rfl (by first | exact Or.inl rfl | exact Or.inr rfl) (se_dget (Rm.uu hr 1 (by decide)) (se_var (pv 0)) se_str (fun _ _ => rfl)))
  (sss_cons (ss_dput (Rm.uu hr 1 (by decide)) (se_var (pv 0)) se_str (se_bin op_addA op2_add (se_var (pv 3)) se_int) rfl)
  (sss_cons (ss_set (i := 4) sc_law_take.nd rfl (by first | exact Or.inl rfl | exact Or.inr rfl) (se_ix (se_dget (Rm.uu hr 1 (by decide)) (se_var (pv 0)) se_str (fun _ _ => rfl)) (se_bin op_mod op2_mod (se_var (pv 3)) (se_blt op_lenA opN_len (by exact rfl) T.n_len bo_len (sa_cons (se_dget (Rm.uu hr 1 (by decide)) (se_var (pv 0)) se_str (fun _ _ => rfl)) sa_nil))) (fun _ _ => rfl)))
  (sss_cons (ss_set (i := 5) sc_law_take.nd rfl (by first | exact Or.inl rfl | exact Or.inr rfl) (se_bin op_mod op2_mod (se_bin op_addA op2_add (se_bin op_addA op2_add (se_bin op_mulA op2_mul (se_dget (Rm.uu hr 1 (by decide)) (se_var (pv 0)) se_str (fun _ _ => rfl)) se_int) (se_bin op_mulA op2_mul (se_var (pv 4)) (se_bin op_addA op2_add (se_bin op_mulA op2_mul se_int (se_var (pv 3))) se_int))) (se_bin op_pow op2_pow (se_var (pv 3)) se_int)) se_int))
  (sss_cons (ss_dput (Rm.uu hr 1 (by decide)) (se_var (pv 0)) se_str (se_var (pv 5)) rfl)
  (sss_cons (ss_set (i := 6) sc_law_take.nd rfl (by first | exact Or.inl rfl | exact Or.inr rfl) (se_bin op_addA op2_add (se_bin op_mulA op2_mul (se_bin op_mod op2_mod (se_bin op_pow op2_pow (se_var (pv 5)) se_int) se_int) se_int) (se_bin op_mod op2_mod (se_bin op_pow op2_pow (se_var (pv 5)) se_int) se_int)))
  (sss_one (ss_ret (se_bin op_mod op2_mod (se_bin op_fdivW op2_div (se_var (pv 6)) se_int) (se_var (pv 1)))))))))))))
  · refine shs_all ⟨?_, trivial⟩
    · exact sh_all (F.bindsN fun _ _ _ _ _ _ us hl => match us, hl with | [_, _], _ => rfl) rfl
theorem ok_Vow_on_pile (T : Ts K mg) : Tk P w K mg base 1 "Vow" "on_pile" ["self", "many"] f_Vow_on_pile [(1, [], gAll)] := by
  obtain ⟨fd, F⟩ := T.d_Vow_on_pile
  have F : FunD K "on_pile" "Vow.on_pile" (defArgs s_Vow_on_pile) (defBody s_Vow_on_pile) (defScope s_Vow_on_pile) [] [] (He.ma K (ga K "Vow") "on_pile") fd := F
  refine ⟨T.cl_Vow, T.mt_Vow_on_pile, fd, fn_body F sc_Vow_on_pile fun cdv A outer s H E hr tk => ?_, ?_⟩
  · exact (sss_one (ss_ret (se_blt (call_max2 rfl) opN_max2 (by exact rfl) T.n_max bo_max (sa_cons se_int (sa_cons (se_bin op_sub op2_sub (se_var (pv 1)) (se_blt op_lenA opN_len (by exact rfl) T.n_len bo_len (sa_cons (se_fld ["Vow"] T.a_handed (se_var (pv 0)) rfl) sa_nil))) sa_nil)))))
  · refine shs_all1 ⟨?_, trivial⟩
    · exact sh_all (F.bindsN fun _ _ _ _ _ _ us hl => match us, hl with | [_, _], _ => rfl) rfl
theorem ok_cell_of (T : Ts K mg) : Fk P w K mg base 2 "cell_of" ["vow", "at", "many", "counted"] f_cell_of [(3, ["counted"], (gP [] [.p 0, .p 1, .p 2, .k 0]))] := by
  have M_Vow_on_pile : Tk P w K mg base 1 "Vow" "on_pile" _ f_Vow_on_pile _ := ok_Vow_on_pile T
  obtain ⟨fd, F⟩ := T.d_cell_of
  have F : FunD K "cell_of" "cell_of" (defArgs s_cell_of) (defBody s_cell_of) (defScope s_cell_of) [] [("counted", .bl false)] (ga K "cell_of") fd := F
  refine ⟨T.m_cell_of, F.kp, fd, fn_body F sc_cell_of fun cdv A outer s H E hr tk => ?_, ?_⟩
  · exact (sss_cons (ss_set (i := 4) sc_cell_of.nd rfl (by first | exact Or.inl rfl | exact Or.inr rfl) (se_bin op_sub op2_sub (se_var (pv 1)) (se_blt op_lenA opN_len (by exact rfl) T.n_len bo_len (sa_cons (se_fld ["Vow"] T.a_handed (se_var (pv 0)) rfl) sa_nil))))
  (sss_cons (ss_if (st_not (st_tru (se_fld ["Vow"] T.a_up (se_var (pv 0)) rfl) (fun _ => rfl))) (sss_one (ss_set (i := 4) sc_cell_of.nd rfl (by first | exact Or.inl rfl | exact Or.inr rfl) (se_bin op_sub op2_sub (se_bin op_sub op2_sub (se_mt (ps := ["self", "many"]) M_Vow_on_pile 0 (hr.mono (by decide)) tk (se_var (pv 0)) (sa_cons (se_var (pv 2)) sa_nil)) se_int) (se_var (pv 4))))) sss_nil)
  (sss_one (ss_ret (se_tup (sa_cons se_str (sa_cons (se_bin op_addA op2_add (se_bin op_addA op2_add (se_var (pv 4)) (se_blty call_int1 opN_int (by exact rfl) T.n_int bo_int (sa_cons (se_cmp op_isN op2_isN (se_fld ["Vow"] T.a_link (se_var (pv 0)) rfl) se_non rfl) sa_nil))) (se_blty call_int1 opN_int (by exact rfl) T.n_int bo_int (sa_cons (se_and (se_var (pv 3)) (se_one (se_cmp op_isN op2_isN (se_fld ["Vow"] T.a_count (se_var (pv 0)) rfl) se_non rfl))) sa_nil))) sa_nil)))))))
  · refine shs_all ⟨?_, trivial⟩
    · exact sh_n F 3 ["counted"] _ fun _ _ _ _ _ _ us ws h1 h2 => match us, ws, h1, h2 with | [_, _, _], [_], _, _ => rfl
theorem ok_laid (T : Ts K mg) : Fk P w K mg base 3 "laid" ["vow", "things", "row", "counted"] f_laid [(3, ["counted"], (gP [] [.p 0, .p 1, .p 2, .k 0])), (3, [], (gP [.bl false] [.p 0, .p 1, .p 2, .d 0]))] := by
  have G_cell_of : Fk P w K mg base 2 "cell_of" _ f_cell_of _ := ok_cell_of T
  obtain ⟨fd, F⟩ := T.d_laid
  have F : FunD K "laid" "laid" (defArgs s_laid) (defBody s_laid) (defScope s_laid) [] [("counted", .bl false)] (ga K "laid") fd := F
  refine ⟨T.m_laid, F.kp, fd, fn_body F sc_laid fun cdv A outer s H E hr tk => ?_, ?_⟩
  · exact (sss_cons (ss_set (i := 4) sc_laid.nd rfl (by first | exact Or.inl rfl | exact Or.inr rfl) se_dictT)
  (sss_cons (ss_for (passes_of rfl) rfl (si_enum (by exact rfl) T.n_enumerate (se_var (pv 1))) (sg_tup rfl (sgs_cons (sg_name (i := 5) sc_laid.nd rfl (by first | exact Or.inl rfl | exact Or.inr rfl)) (sgs_cons (sg_name (i := 6) sc_laid.nd rfl (by first | exact Or.inl rfl | exact Or.inr rfl)) sgs_nil))) (sss_one (ss_if (st_cmp op_lt op2_cmpI (se_var (pv 5)) (se_blt op_lenA opN_len (by exact rfl) T.n_len bo_len (sa_cons (se_fld ["Vow"] T.a_handed (se_var (pv 0)) rfl) sa_nil)) rfl) (sss_one (ss_dputT (Rm.uu hr 1 (by decide)) (se_var (pv 4)) (se_tup (sa_cons se_str (sa_cons (se_ix (se_fld ["Vow"] T.a_handed (se_var (pv 0)) rfl) (se_var (pv 5)) (fun _ _ => rfl)) sa_nil))) (se_var (pv 6)) rfl)) (sss_one (ss_dputT (Rm.uu hr 1 (by decide)) (se_var (pv 4)) (se_fkk (ks := ["counted"]) (ps := ["vow", "at", "many", "counted"]) G_cell_of 0 (hr.mono (by decide)) tk (by exact rfl) (sa_cons (se_var (pv 0)) (sa_cons (se_var (pv 5)) (sa_cons (se_blt op_lenA opN_len (by exact rfl) T.n_len bo_len (sa_cons (se_var (pv 1)) sa_nil)) sa_nil))) (sk_cons (se_var (pv 3)) sk_nil)) (se_var (pv 6)) rfl)))))
  (sss_cons (ss_if (st_tru (se_var (pv 3)) (fun _ => rfl)) (sss_cons (ss_set (i := 7) sc_laid.nd rfl (by first | exact Or.inl rfl | exact Or.inr rfl) (se_ite (st_cmp op_isN op2_isN (se_fld ["Vow"] T.a_count (se_var (pv 0)) rfl) se_non rfl) (se_tup (sa_cons se_str (sa_cons (se_blty call_int1 opN_int (by exact rfl) T.n_int bo_int (sa_cons (se_cmp op_isN op2_isN (se_fld ["Vow"] T.a_link (se_var (pv 0)) rfl) se_non rfl) sa_nil)) sa_nil))) (se_tup (sa_cons se_str (sa_cons (se_fld ["Vow"] T.a_count (se_var (pv 0)) rfl) sa_nil)))))
  (sss_one (ss_dputT (Rm.uu hr 1 (by decide)) (se_var (pv 4)) (se_var (pv 7)) (se_blt op_lenA opN_len (by exact rfl) T.n_len bo_len (sa_cons (se_var (pv 1)) sa_nil)) rfl))) sss_nil)
  (sss_cons (ss_dputT (Rm.uu hr 1 (by decide)) (se_var (pv 4)) (se_ite (st_cmp op_isN op2_isN (se_fld ["Vow"] T.a_link (se_var (pv 0)) rfl) se_non rfl) (se_tup (sa_cons se_str (sa_cons se_int sa_nil))) (se_tup (sa_cons se_str (sa_cons (se_fld ["Vow"] T.a_link (se_var (pv 0)) rfl) sa_nil)))) (se_tup (sa_cons se_str (sa_cons (se_var (pv 2)) sa_nil))) rfl)
  (sss_one (ss_ret (se_var (pv 4))))))))
  · refine shs_all ⟨?_, ?_, trivial⟩
    · exact sh_n F 3 ["counted"] _ fun _ _ _ _ _ _ us ws h1 h2 => match us, ws, h1, h2 with | [_, _, _], [_], _, _ => rfl
    · exact shTk0 F [.bl false] [("counted", .bl false)] (rk_fl rk_nil) (by intro h; cases h) (by simp) 3 [] _ fun _ _ _ _ _ _ us mv ws h1 h2 h3 => match us, mv, ws, h1, h2, h3 with | [_, _, _], [_], [], _, _, _ => ⟨_, _, _, _, _, _, rfl, rfl, rfl⟩
theorem ok_law_pile (T : Ts K mg) : Fk P w K mg base 1 "_law_pile" ["_law_parts_here", "_law_things", "_law_row", "_law_tallied"] f_law_pile [(4, [], gAll)] := by
  obtain ⟨fd, F⟩ := T.d_law_pile
  have F : FunD K "_law_pile" "_law_pile" (defArgs s_law_pile) (defBody s_law_pile) (defScope s_law_pile) [] [] (ga K "_law_pile") fd := F
  refine ⟨T.m_law_pile, F.kp, fd, fn_body F sc_law_pile fun cdv A outer s H E hr tk => ?_, ?_⟩
  · exact (sss_cons (ss_set (i := 4) sc_law_pile.nd rfl (by first | exact Or.inl rfl | exact Or.inr rfl) (se_blty (call_dictA rfl) opN_dictA (by exact rfl) T.n_dict bo_dict (sa_cons (se_fz (se_lc (S := [6]) (own := [("_law_k", 6)]) rfl sc_law_pile.nd (si_range1 (by exact rfl) T.n_range (se_blt (call_min2 rfl) opN_min2 (by exact rfl) T.n_min bo_min (sa_cons (se_blt op_lenA opN_len (by exact rfl) T.n_len bo_len (sa_cons (se_ix (se_var (pv 0)) se_int (fun _ _ => rfl)) sa_nil)) (sa_cons (se_blt op_lenA opN_len (by exact rfl) T.n_len bo_len (sa_cons (se_var (pv 1)) sa_nil)) sa_nil)))) (blk_of (N := N_law_pile) (sc := (defScope s_law_pile)) (by decide +kernel)) (by decide) (fun _ _ _ _ _ => by exact (sg_name (i := 6) sc_law_pile.nd rfl (by first | exact Or.inl rfl | exact Or.inr rfl))) (fun _ _ _ _ _ => by exact sts_nil) (fun _ _ _ _ _ => by exact (se_tup (sa_cons (se_ix (se_ix (se_var (pv 0)) se_int (fun _ _ => rfl)) (se_var (pv 6)) (fun _ _ => rfl)) (sa_cons (se_ix (se_var (pv 1)) (se_var (pv 6)) (fun _ _ => rfl)) sa_nil)))))) sa_nil)))
  (sss_cons (ss_set (i := 5) sc_law_pile.nd rfl (by first | exact Or.inl rfl | exact Or.inr rfl) (se_blty call_list_of opN_list (by exact rfl) T.n_list bo_list (sa_cons (se_fz (se_slice (se_var (pv 1)) (so_some (se_blt op_lenA opN_len (by exact rfl) T.n_len bo_len (sa_cons (se_ix (se_var (pv 0)) se_int (fun _ _ => rfl)) sa_nil))) so_none)) sa_nil)))
  (sss_cons (ss_if (st_tru (se_ix (se_var (pv 0)) se_int (fun _ _ => rfl)) (fun _ => rfl)) (sss_one (ss_expr (se_bm0 tyM_l opM_rev PySem.F.plainAttrs_list PySem.F.slot_list_reverse PySem.F.type_list_reverse mt_reverse (se_var (pv 5))))) sss_nil)
  (sss_cons (ss_if (sw_t (sw_and (st_tru (se_var (pv 3)) (fun _ => rfl)) (sw_and1 (st_cmp op_isN op2_isN (se_ix (se_var (pv 0)) se_int (fun _ _ => rfl)) se_non rfl)))) (sss_one (ss_expr (se_bm tyM_l opM_app PySem.F.plainAttrs_list PySem.F.slot_list_append PySem.F.type_list_append mt_append (se_var (pv 5)) (sa_cons (se_blt op_lenA opN_len (by exact rfl) T.n_len bo_len (sa_cons (se_var (pv 1)) sa_nil)) sa_nil)))) sss_nil)
  (sss_cons (ss_if (sw_t (sw_and (st_tru (se_var (pv 3)) (fun _ => rfl)) (sw_and1 (st_cmp op_notN op2_notN (se_ix (se_var (pv 0)) se_int (fun _ _ => rfl)) se_non rfl)))) (sss_one (ss_dput (Rm.uu hr 1 (by decide)) (se_var (pv 4)) (se_ix (se_var (pv 0)) se_int (fun _ _ => rfl)) (se_blt op_lenA opN_len (by exact rfl) T.n_len bo_len (sa_cons (se_var (pv 1)) sa_nil)) rfl)) sss_nil)
  (sss_cons (ss_if (st_cmp op_isN op2_isN (se_ix (se_var (pv 0)) se_int (fun _ _ => rfl)) se_non rfl) (sss_one (ss_expr (se_bm tyM_l opM_app PySem.F.plainAttrs_list PySem.F.slot_list_append PySem.F.type_list_append mt_append (se_var (pv 5)) (sa_cons (se_tup (sa_cons se_str (sa_cons (se_var (pv 2)) sa_nil))) sa_nil)))) (sss_one (ss_dput (Rm.uu hr 1 (by decide)) (se_var (pv 4)) (se_ix (se_var (pv 0)) se_int (fun _ _ => rfl)) (se_tup (sa_cons se_str (sa_cons (se_var (pv 2)) sa_nil))) rfl)))
  (sss_one (ss_ret (se_tup (sa_cons (se_fz (se_var (pv 5))) (sa_cons (se_fz (se_var (pv 4))) sa_nil)))))))))))
  · refine shs_all ⟨?_, trivial⟩
    · exact sh_all (F.bindsN fun _ _ _ _ _ _ us hl => match us, hl with | [_, _, _, _], _ => rfl) rfl
theorem ok_law_laid (T : Ts K mg) : Fk P w K mg base 2 "_law_laid" ["_law_parts_here", "_law_things", "_law_row", "_law_tallied"] f_law_laid [(4, [], gAll)] := by
  have G_law_pile : Fk P w K mg base 1 "_law_pile" _ f_law_pile _ := ok_law_pile T
  obtain ⟨fd, F⟩ := T.d_law_laid
  have F : FunD K "_law_laid" "_law_laid" (defArgs s_law_laid) (defBody s_law_laid) (defScope s_law_laid) [] [] (ga K "_law_laid") fd := F
  refine ⟨T.m_law_laid, F.kp, fd, fn_body F sc_law_laid fun cdv A outer s H E hr tk => ?_, ?_⟩
  · exact (sss_cons (ss_asg (se_fk (ps := ["_law_parts_here", "_law_things", "_law_row", "_law_tallied"]) G_law_pile 0 (hr.mono (by decide)) tk (by exact rfl) (sa_cons (se_var (pv 0)) (sa_cons (se_var (pv 1)) (sa_cons (se_var (pv 2)) (sa_cons (se_var (pv 3)) sa_nil))))) (sg_tup rfl (sgs_cons (sg_name (i := 4) sc_law_laid.nd rfl (by first | exact Or.inl rfl | exact Or.inr rfl)) (sgs_cons (sg_name (i := 5) sc_law_laid.nd rfl (by first | exact Or.inl rfl | exact Or.inr rfl)) sgs_nil))))
  (sss_cons (ss_fzA (ss_setLc (i := 6) (S := [7]) (own := [("_law_k", 7)]) rfl sc_law_laid.nd rfl rfl (by exact sw_true rfl rfl rfl rfl) (si_range1 (by exact rfl) T.n_range (se_blt op_lenA opN_len (by exact rfl) T.n_len bo_len (sa_cons (se_var (pv 4)) sa_nil))) (blk_of (N := N_law_laid) (sc := (defScope s_law_laid)) (by decide +kernel)) (by decide) (fun _ _ _ _ _ => by exact (sg_name (i := 7) sc_law_laid.nd rfl (by first | exact Or.inl rfl | exact Or.inr rfl))) (fun _ _ _ _ _ => by exact sts_nil) (fun _ _ _ _ _ => by exact (se_tup (sa_cons (se_tup (sa_cons se_str (sa_cons (se_var (pv 7)) sa_nil))) (sa_cons (se_ix (se_var (pv 4)) (se_bin op_sub op2_sub (se_bin op_sub op2_sub (se_blt op_lenA opN_len (by exact rfl) T.n_len bo_len (sa_cons (se_var (pv 4)) sa_nil)) se_int) (se_var (pv 7))) (fun _ _ => rfl)) sa_nil))))))
  (sss_one (ss_ret (se_fz (se_blty (call_dictT rfl (Rm.uu hr 2 (by decide))) opN_dictT (by exact rfl) T.n_dict bo_dict (sa_cons (se_bin op_addA op2_addI (se_var (pv 6)) (se_lcKeI (S := [8]) (own := [("_law_number", 8)]) rfl sc_law_laid.nd (pv 5) (blk_of (N := N_law_laid) (sc := (defScope s_law_laid)) (by decide +kernel)) (by decide) (fun _ _ _ _ _ => by exact (sg_name (i := 8) sc_law_laid.nd rfl (by first | exact Or.inl rfl | exact Or.inr rfl))) (fun _ _ _ _ _ => by exact sts_nil) (fun _ _ _ _ _ => by exact (se_tup (sa_cons (se_tup (sa_cons se_str (sa_cons (se_var (pv 8)) sa_nil))) (sa_cons (se_dgetZ (Rm.uu hr 1 (by decide)) (se_var (pv 5)) (se_var (pv 8)) (fun _ _ => rfl)) sa_nil)))))) sa_nil)))))))
  · refine shs_all ⟨?_, trivial⟩
    · exact sh_all (F.bindsN fun _ _ _ _ _ _ us hl => match us, hl with | [_, _, _, _], _ => rfl) rfl
theorem ok_Vow___init__ (T : Ts K mg) : Ck P w K mg base 3 "Vow" ["self", "handed", "results", "kept", "link", "count", "up", "clears"] f_Vow___init__ [(0, ["kept", "handed", "link", "results", "clears", "up", "count"], (gP [] [.p 0, .k 1, .k 3, .k 0, .k 2, .k 6, .k 5, .k 4]))] := by
  have X_NoVow : Xk P w K mg base 1 "NoVow" 2 [("name", 1)] := okx_NoVow T
  obtain ⟨fd, F⟩ := T.d_Vow___init__
  have F : FunD K "__init__" "Vow.__init__" (defArgs s_Vow___init__) (defBody s_Vow___init__) (defScope s_Vow___init__) [] [("handed", .ref ((kwAt ("Vow", some "__init__") "handed") K)), ("results", .ref ((kwAt ("Vow", some "__init__") "results") K)), ("kept", .ref ((kwAt ("Vow", some "__init__") "kept") K)), ("link", .non), ("count", .non), ("up", .bl true), ("clears", .str "caller")] (He.ma K (ga K "Vow") "__init__") fd := F
  refine ⟨T.m_Vow, T.k_Vow, fd, fn_body F sc_Vow___init__ fun cdv A outer s H E hr tk => ?_, ?_⟩
  · exact (sss_cons (ss_fzA (ss_setLc (i := 8) (S := [9]) (own := [("number", 9)]) rfl sc_Vow___init__.nd rfl rfl (by exact sw_true rfl rfl rfl rfl) (si_any (se_tup (sa_cons (se_var (pv 4)) (sa_cons (se_var (pv 5)) sa_nil)))) (blk_of (N := N_Vow___init__) (sc := (defScope s_Vow___init__)) (by decide +kernel)) (by decide) (fun _ _ _ _ _ => by exact (sg_name (i := 9) sc_Vow___init__.nd rfl (by first | exact Or.inl rfl | exact Or.inr rfl))) (fun _ _ _ _ _ => by exact (sts_one (st_cmp op_notN op2_notN (se_var (pv 9)) se_non rfl))) (fun _ _ _ _ _ => by exact (se_var (pv 9)))))
  (sss_cons (ss_if (sw_t (sw_or (st_cmp op_gt op2_cmpI (se_blt op_lenA opN_len (by exact rfl) T.n_len bo_len (sa_cons (se_var (pv 1)) sa_nil)) (se_glI (by exact rfl) T.c_MOST_HANDED) rfl) (sw_or (st_cmp (op_neA (Rm.uu hr 64 (by decide))) op2_ne (se_blt op_lenA opN_len (by exact rfl) T.n_len bo_len (sa_cons (se_var (pv 2)) sa_nil)) (se_glI (by exact rfl) T.c_MOST_RESULTS) rfl) (sw_or1 (st_cmp (op_ninA (Rm.uu hr 65 (by decide))) op2_nin (se_var (pv 7)) (se_tup (sa_cons (se_glS (by exact rfl) T.c_CALLER) (sa_cons (se_glS (by exact rfl) T.c_CALLEE) sa_nil))) rfl))))) (sss_one (ss_raise X_NoVow (hr.mono (by decide)) rfl tk (by exact rfl) (sa_cons se_str sa_nil))) sss_nil)
  (sss_cons (ss_if (st_not (st_tru (se_blt (cr_all rfl) opN_all (by exact rfl) T.n_all bo_all (sa_cons (se_fz (se_lc2 (S := [10]) (S1 := [9]) (vs1 := [9]) (own := [("part", 10), ("number", 9)]) rfl sc_Vow___init__.nd (si_any (se_tup (sa_cons (se_var (pv 1)) (sa_cons (se_var (pv 2)) (sa_cons (se_var (pv 3)) (sa_cons (se_var (pv 8)) sa_nil)))))) (blk_of (N := N_Vow___init__) (sc := (defScope s_Vow___init__)) (by decide +kernel)) (by decide) (by decide) (by decide) (fun _ _ _ _ _ => by exact (sg_name (i := 10) sc_Vow___init__.nd rfl (by first | exact Or.inl rfl | exact Or.inr rfl))) (fun _ _ _ _ _ => by exact sts_nil) (fun _ _ _ _ _ => by exact (si_any (se_var (pv 10)))) (fun _ _ _ _ _ => by exact (sg_name (i := 9) sc_Vow___init__.nd rfl (by first | exact Or.inl rfl | exact Or.inr rfl))) (fun _ _ _ _ _ => by exact sts_nil) (fun _ _ _ _ _ => by exact (se_chain op_le op_lt op2_cmpI op2_cmpI se_int (se_var (pv 9)) (se_glI (by exact rfl) T.c_REGISTERS) rfl)))) sa_nil)) (fun _ => rfl))) (sss_one (ss_raise X_NoVow (hr.mono (by decide)) rfl tk (by exact rfl) (sa_cons se_str sa_nil))) sss_nil)
  (sss_cons (ss_fld ["Vow"] T.a_handed (se_var (pv 0)) (se_blty call_tuple_of opN_tuple (by exact rfl) T.n_tuple bo_tuple (sa_cons (se_var (pv 1)) sa_nil)) rfl)
  (sss_cons (ss_fld ["Vow"] T.a_results (se_var (pv 0)) (se_blty call_tuple_of opN_tuple (by exact rfl) T.n_tuple bo_tuple (sa_cons (se_var (pv 2)) sa_nil)) rfl)
  (sss_cons (ss_fld ["Vow"] T.a_kept (se_var (pv 0)) (se_blty call_tuple_of opN_tuple (by exact rfl) T.n_tuple bo_tuple (sa_cons (se_var (pv 3)) sa_nil)) rfl)
  (sss_cons (ss_fld ["Vow"] T.a_link (se_var (pv 0)) (se_var (pv 4)) rfl)
  (sss_cons (ss_fld ["Vow"] T.a_count (se_var (pv 0)) (se_var (pv 5)) rfl)
  (sss_cons (ss_fld ["Vow"] T.a_up (se_var (pv 0)) (se_var (pv 6)) rfl)
  (sss_one (ss_fld ["Vow"] T.a_clears (se_var (pv 0)) (se_var (pv 7)) rfl)))))))))))
  · refine shs_all1 ⟨?_, trivial⟩
    · exact sh_n F 1 ["kept", "handed", "link", "results", "clears", "up", "count"] _ fun _ _ _ _ _ _ us ws h1 h2 => match us, ws, h1, h2 with | [_], [_, _, _, _, _, _, _], _, _ => rfl
theorem ok_law_vow (T : Ts K mg) : Fk P w K mg base 5 "_law_vow" ["_law_parts_here"] f_law_vow [(1, [], gAll)] := by
  have C_Vow : Ck P w K mg base 3 "Vow" _ f_Vow___init__ _ := ok_Vow___init__ T
  obtain ⟨fd, F⟩ := T.d_law_vow
  have F : FunD K "_law_vow" "_law_vow" (defArgs s_law_vow) (defBody s_law_vow) (defScope s_law_vow) [] [] (ga K "_law_vow") fd := F
  refine ⟨T.m_law_vow, F.kp, fd, fn_body F sc_law_vow fun cdv A outer s H E hr tk => ?_, ?_⟩
  · exact (sss_one (ss_ret (se_fz (se_mkk0 (ks := ["kept", "handed", "link", "results", "clears", "up", "count"]) (ps := ["self", "handed", "results", "kept", "link", "count", "up", "clears"]) C_Vow 0 (hr.mono (by decide)) tk (by exact rfl) (sk_cons (se_ix (se_var (pv 0)) se_int (fun _ _ => rfl)) (sk_cons (se_ix (se_var (pv 0)) se_int (fun _ _ => rfl)) (sk_cons (se_ix (se_var (pv 0)) se_int (fun _ _ => rfl)) (sk_cons (se_ix (se_var (pv 0)) se_int (fun _ _ => rfl)) (sk_cons (se_ix (se_var (pv 0)) se_int (fun _ _ => rfl)) (sk_cons (se_ix (se_var (pv 0)) se_int (fun _ _ => rfl)) (sk_cons (se_ix (se_var (pv 0)) se_int (fun _ _ => rfl)) sk_nil)))))))))))
  · refine shs_all ⟨?_, trivial⟩
    · exact sh_all (F.bindsN fun _ _ _ _ _ _ us hl => match us, hl with | [_], _ => rfl) rfl
theorem ok_law_worth (T : Ts K mg) : Fk P w K mg base 2 "_law_worth" ["_law_state"] f_law_worth [(1, [], gAll)] := by
  have G_law_take : Fk P w K mg base 1 "_law_take" _ f_law_take _ := ok_law_take T
  obtain ⟨fd, F⟩ := T.d_law_worth
  have F : FunD K "_law_worth" "_law_worth" (defArgs s_law_worth) (defBody s_law_worth) (defScope s_law_worth) [] [] (ga K "_law_worth") fd := F
  refine ⟨T.m_law_worth, F.kp, fd, fn_body F sc_law_worth fun cdv A outer s H E hr tk => ?_, ?_⟩
  · exact (sss_cons (ss_set (i := 1) sc_law_worth.nd rfl (by first | exact Or.inl rfl | exact Or.inr rfl) (se_fk (ps := ["_law_state", "_law_many"]) G_law_take 0 (hr.mono (by decide)) tk (by exact rfl) (sa_cons (se_var (pv 0)) (sa_cons se_int sa_nil))))
  (sss_one (ss_ret (se_ix (se_lstI (sa_cons se_int (sa_cons (se_fk (ps := ["_law_state", "_law_many"]) G_law_take 0 (hr.mono (by decide)) tk (by exact rfl) (sa_cons (se_var (pv 0)) (sa_cons se_int sa_nil))) (sa_cons (se_bin op_sub op2_sub (se_glI (by exact rfl) T.c_MODULUS) se_int) (sa_cons (se_fk (ps := ["_law_state", "_law_many"]) G_law_take 0 (hr.mono (by decide)) tk (by exact rfl) (sa_cons (se_var (pv 0)) (sa_cons (se_glI (by exact rfl) T.c_MODULUS) sa_nil))) sa_nil))))) (se_var (pv 1)) (fun _ _ => rfl)))))
  · refine shs_all ⟨?_, trivial⟩
    · exact sh_all (F.bindsN fun _ _ _ _ _ _ us hl => match us, hl with | [_], _ => rfl) rfl
theorem ok_law_parts (T : Ts K mg) : Fk P w K mg base 2 "_law_parts" ["_law_state"] f_law_parts [(1, [], gAll)] := by
  have G_law_take : Fk P w K mg base 1 "_law_take" _ f_law_take _ := ok_law_take T
  obtain ⟨fd, F⟩ := T.d_law_parts
  have F : FunD K "_law_parts" "_law_parts" (defArgs s_law_parts) (defBody s_law_parts) (defScope s_law_parts) [] [] (ga K "_law_parts") fd := F
  refine ⟨T.m_law_parts, F.kp, fd, fn_body F sc_law_parts fun cdv A outer s H E hr tk => ?_, ?_⟩
  · exact (sss_cons (ss_set (i := 1) sc_law_parts.nd rfl (by first | exact Or.inl rfl | exact Or.inr rfl) (se_bin op_addA op2_add se_int (se_fk (ps := ["_law_state", "_law_many"]) G_law_take 0 (hr.mono (by decide)) tk (by exact rfl) (sa_cons (se_var (pv 0)) (sa_cons se_int sa_nil)))))
  (sss_cons (ss_set (i := 1) sc_law_parts.nd rfl (by first | exact Or.inl rfl | exact Or.inr rfl) (se_ix (se_lstI (sa_cons (se_var (pv 1)) (sa_cons se_int (sa_cons se_int sa_nil)))) (se_fk (ps := ["_law_state", "_law_many"]) G_law_take 0 (hr.mono (by decide)) tk (by exact rfl) (sa_cons (se_var (pv 0)) (sa_cons se_int sa_nil))) (fun _ _ => rfl)))
  (sss_cons (ss_set (i := 2) sc_law_parts.nd rfl (by first | exact Or.inl rfl | exact Or.inr rfl) (se_fk (ps := ["_law_state", "_law_many"]) G_law_take 0 (hr.mono (by decide)) tk (by exact rfl) (sa_cons (se_var (pv 0)) (sa_cons se_int sa_nil))))
  (sss_cons (ss_set (i := 3) sc_law_parts.nd rfl (by first | exact Or.inl rfl | exact Or.inr rfl) (se_lstI (sa_cons (se_fk (ps := ["_law_state", "_law_many"]) G_law_take 0 (hr.mono (by decide)) tk (by exact rfl) (sa_cons (se_var (pv 0)) (sa_cons se_int sa_nil))) (sa_cons se_int (sa_cons (se_fk (ps := ["_law_state", "_law_many"]) G_law_take 0 (hr.mono (by decide)) tk (by exact rfl) (sa_cons (se_var (pv 0)) (sa_cons se_int sa_nil))) sa_nil)))))
  (sss_cons (ss_fzA (ss_setLc (i := 4) (S := [7]) (own := [("_law_some", 7)]) rfl sc_law_parts.nd rfl rfl (by exact sw_true rfl rfl rfl rfl) (si_any (se_var (pv 3))) (blk_of (N := N_law_parts) (sc := (defScope s_law_parts)) (by decide +kernel)) (by decide) (fun _ _ _ _ _ => by exact (sg_name (i := 7) sc_law_parts.nd rfl (by first | exact Or.inl rfl | exact Or.inr rfl))) (fun _ _ _ _ _ => by exact sts_nil) (fun _ _ _ _ _ => by exact (se_blty call_tuple_of opN_tuple (by exact rfl) T.n_tuple bo_tuple (sa_cons (se_fz (se_lc (S := [8]) (own := [("_law_k", 8)]) rfl sc_law_parts.nd (si_range1 (by exact rfl) T.n_range (se_var (pv 7))) (by refine blk_of (N := N_law_parts) ?_; dsimp only [Cx.blk, compEnvC]; rw [relab_eq]; show blkB N_law_parts (relab _ (defScope s_law_parts)) _ _ = true; decide +kernel) (by decide) (fun _ _ _ _ _ => by exact (sg_name (i := 8) sc_law_parts.nd rfl (by first | exact Or.inl rfl | exact Or.inr rfl))) (fun _ _ _ _ _ => by exact sts_nil) (fun _ _ _ _ _ => by exact (se_bin op_mod op2_mod (se_bin op_addA op2_add (se_var (pv 2)) (se_fk (ps := ["_law_state", "_law_many"]) G_law_take 0 (hr.mono (by decide)) takesN (by exact rfl) (sa_cons (se_var (pv 0)) (sa_cons (se_var (pv 1)) sa_nil)))) se_int)))) sa_nil)))))
  (sss_cons (ss_set (i := 5) sc_law_parts.nd rfl (by first | exact Or.inl rfl | exact Or.inr rfl) (se_lstI (sa_cons (se_fk (ps := ["_law_state", "_law_many"]) G_law_take 0 (hr.mono (by decide)) tk (by exact rfl) (sa_cons (se_var (pv 0)) (sa_cons se_int sa_nil))) (sa_cons (se_fk (ps := ["_law_state", "_law_many"]) G_law_take 0 (hr.mono (by decide)) tk (by exact rfl) (sa_cons (se_var (pv 0)) (sa_cons se_int sa_nil))) (sa_cons (se_fk (ps := ["_law_state", "_law_many"]) G_law_take 0 (hr.mono (by decide)) tk (by exact rfl) (sa_cons (se_var (pv 0)) (sa_cons se_int sa_nil))) (sa_cons (se_fk (ps := ["_law_state", "_law_many"]) G_law_take 0 (hr.mono (by decide)) tk (by exact rfl) (sa_cons (se_var (pv 0)) (sa_cons se_int sa_nil))) sa_nil))))))
  (sss_cons (ss_fzA (ss_setLc (i := 6) (S := [9]) (own := [("_law_way", 9)]) rfl sc_law_parts.nd rfl rfl (by exact sw_true rfl rfl rfl rfl) (si_any (se_fz (se_slice (se_var (pv 5)) so_none (so_some se_int)))) (blk_of (N := N_law_parts) (sc := (defScope s_law_parts)) (by decide +kernel)) (by decide) (fun _ _ _ _ _ => by exact (sg_name (i := 9) sc_law_parts.nd rfl (by first | exact Or.inl rfl | exact Or.inr rfl))) (fun _ _ _ _ _ => by exact sts_nil) (fun _ _ _ _ _ => by exact (se_ite (st_cmp (op_eqA (Rm.uu hr 64 (by decide))) op2_eq (se_var (pv 9)) se_int rfl) se_non (se_bin op_mod op2_mod (se_bin op_addA op2_add (se_var (pv 2)) (se_fk (ps := ["_law_state", "_law_many"]) G_law_take 0 (hr.mono (by decide)) takesN (by exact rfl) (sa_cons (se_var (pv 0)) (sa_cons (se_var (pv 1)) sa_nil)))) se_int)))))
  (sss_one (ss_ret (se_tup (sa_cons (se_ix (se_var (pv 4)) se_int (fun _ _ => rfl)) (sa_cons (se_ix (se_var (pv 4)) se_int (fun _ _ => rfl)) (sa_cons (se_ix (se_var (pv 4)) se_int (fun _ _ => rfl)) (sa_cons (se_ix (se_var (pv 6)) se_int (fun _ _ => rfl)) (sa_cons (se_ix (se_var (pv 6)) se_int (fun _ _ => rfl)) (sa_cons (se_cmp (op_eqA (Rm.uu hr 64 (by decide))) op2_eq (se_ix (se_var (pv 5)) se_int (fun _ _ => rfl)) se_int rfl) (sa_cons (se_ix (se_lstI (sa_cons (se_glS (by exact rfl) T.c_CALLER) (sa_cons (se_glS (by exact rfl) T.c_CALLEE) sa_nil))) (se_ix (se_var (pv 5)) se_int (fun _ _ => rfl)) (fun _ _ => rfl)) sa_nil)))))))))))))))))
  · refine shs_all ⟨?_, trivial⟩
    · exact sh_all (F.bindsN fun _ _ _ _ _ _ us hl => match us, hl with | [_], _ => rfl) rfl
theorem ok_law_begun (T : Ts K mg) : Fk P w K mg base 1 "_law_begun" ["_law_script"] f_law_begun [(1, [], gAll)] := by
  obtain ⟨fd, F⟩ := T.d_law_begun
  have F : FunD K "_law_begun" "_law_begun" (defArgs s_law_begun) (defBody s_law_begun) (defScope s_law_begun) [] [] (ga K "_law_begun") fd := F
  refine ⟨T.m_law_begun, F.kp, fd, fn_body F sc_law_begun fun cdv A outer s H E hr tk => ?_, ?_⟩
  · exact (sss_one (ss_ret (se_dict (SPs.cons se_str (se_lc (S := [1]) (own := [("_law_cell", 1)]) rfl sc_law_begun.nd (si_any (se_var (pv 0))) (blk_of (N := N_law_begun) (sc := (defScope s_law_begun)) (by decide +kernel)) (by decide) (fun _ _ _ _ _ => by exact (sg_name (i := 1) sc_law_begun.nd rfl (by first | exact Or.inl rfl | exact Or.inr rfl))) (fun _ _ _ _ _ => by exact (sts_one (st_cmp op_ge op2_cmpI (se_var (pv 1)) (se_bin op_pow op2_pow se_int se_int) rfl))) (fun _ _ _ _ _ => by exact (se_var (pv 1)))) (SPs.cons se_str se_int (SPs.cons se_str se_int (SPs.cons se_str se_int (SPs.cons se_str (se_bin op_addA op2_add (se_lc (S := [1]) (own := [("_law_cell", 1)]) rfl sc_law_begun.nd (si_any (se_var (pv 0))) (blk_of (N := N_law_begun) (sc := (defScope s_law_begun)) (by decide +kernel)) (by decide) (fun _ _ _ _ _ => by exact (sg_name (i := 1) sc_law_begun.nd rfl (by first | exact Or.inl rfl | exact Or.inr rfl))) (fun _ _ _ _ _ => by exact sts_nil) (fun _ _ _ _ _ => by exact (se_bin op_mod op2_mod (se_var (pv 1)) se_int))) (se_lst (sa_cons se_int sa_nil))) SPs.nil))))) rfl rfl (by decide) (by decide))))
  · refine shs_all ⟨?_, trivial⟩
    · exact sh_all (F.bindsN fun _ _ _ _ _ _ us hl => match us, hl with | [_], _ => rfl) rfl
theorem ok_law (T : Ts K mg) {fd : FuncData} (F : FunD K "law" "law" (defArgs s_law) (defBody s_law) (defScope s_law) [] [] (ga K "law") fd) : FnG P w K mg base (CX P w) 6 (ga K "law") fd ["_law_script"] (fsp K 1 f_law) := by
  have G_laid_back : Fk P w K mg base 1 "laid_back" _ f_laid_back _ := ok_laid_back T
  have G_law_take : Fk P w K mg base 1 "_law_take" _ f_law_take _ := ok_law_take T
  have G_laid : Fk P w K mg base 3 "laid" _ f_laid _ := ok_laid T
  have G_law_laid : Fk P w K mg base 2 "_law_laid" _ f_law_laid _ := ok_law_laid T
  have G_law_vow : Fk P w K mg base 5 "_law_vow" _ f_law_vow _ := ok_law_vow T
  have G_law_worth : Fk P w K mg base 2 "_law_worth" _ f_law_worth _ := ok_law_worth T
  have G_law_parts : Fk P w K mg base 2 "_law_parts" _ f_law_parts _ := ok_law_parts T
  have G_law_begun : Fk P w K mg base 1 "_law_begun" _ f_law_begun _ := ok_law_begun T
  refine (fn_body F sc_law fun cdv A outer s H E hr tk => ?_ : FnG P w K mg base (CX P w) 6 (ga K "law") fd ["_law_script"] (fsp K ["_law_script"].length f_law))
  exact (sss_cons (ss_set (i := 1) sc_law.nd rfl (by first | exact Or.inl rfl | exact Or.inr rfl) (se_fk (ps := ["_law_script"]) G_law_begun 0 (hr.mono (by decide)) tk (by exact rfl) (sa_cons (se_var (pv 0)) sa_nil)))
  (sss_cons (ss_for (passes_of rfl) rfl (si_range1 (by exact rfl) T.n_range se_int) (sg_name (i := 2) sc_law.nd rfl (by first | exact Or.inl rfl | exact Or.inr rfl)) (sss_cons (ss_set (i := 3) sc_law.nd rfl (by first | exact Or.inl rfl | exact Or.inr rfl) (se_fk (ps := ["_law_state"]) G_law_parts 0 (hr.mono (by decide)) tk (by exact rfl) (sa_cons (se_var (pv 1)) sa_nil)))
  (sss_cons (ss_par (i := 4) (j := 5) rfl sc_law.nd rfl rfl (by decide) rfl rfl (sa_cons (se_fk (ps := ["_law_state", "_law_many"]) G_law_take 0 (hr.mono (by decide)) tk (by exact rfl) (sa_cons (se_var (pv 1)) (sa_cons se_int sa_nil))) (sa_cons (se_fk (ps := ["_law_state", "_law_many"]) G_law_take 0 (hr.mono (by decide)) tk (by exact rfl) (sa_cons (se_var (pv 1)) (sa_cons (se_bin op_pow op2_pow se_int se_int) sa_nil))) sa_nil)) rfl)
  (sss_cons (ss_fzA (ss_setLc (i := 6) (S := [13]) (own := [("_law_k", 13)]) rfl sc_law.nd rfl rfl (by exact sw_true rfl rfl rfl rfl) (si_range1 (by exact rfl) T.n_range (se_fk (ps := ["_law_state", "_law_many"]) G_law_take 0 (hr.mono (by decide)) tk (by exact rfl) (sa_cons (se_var (pv 1)) (sa_cons se_int sa_nil)))) (blk_of (N := N_law) (sc := (defScope s_law)) (by decide +kernel)) (by decide) (fun _ _ _ _ _ => by exact (sg_name (i := 13) sc_law.nd rfl (by first | exact Or.inl rfl | exact Or.inr rfl))) (fun _ _ _ _ _ => by exact sts_nil) (fun _ _ _ _ _ => by exact (se_fk (ps := ["_law_state"]) G_law_worth 0 (hr.mono (by decide)) takesN (by exact rfl) (sa_cons (se_var (pv 1)) sa_nil)))))
  (sss_cons (ss_par (i := 7) (j := 8) rfl sc_law.nd rfl rfl (by decide) rfl rfl (sa_cons (se_fk (ps := ["_law_parts_here"]) G_law_vow 0 (hr.mono (by decide)) tk (by exact rfl) (sa_cons (se_var (pv 3)) sa_nil)) (sa_cons (se_blty call_list_of opN_listI (by exact rfl) T.n_list bo_list (sa_cons (se_var (pv 6)) sa_nil)) sa_nil)) rfl)
  (sss_cons (ss_set (i := 9) sc_law.nd rfl (by first | exact Or.inl rfl | exact Or.inr rfl) (se_fk (ps := ["_law_parts_here", "_law_things", "_law_row", "_law_tallied"]) G_law_laid 0 (hr.mono (by decide)) tk (by exact rfl) (sa_cons (se_var (pv 3)) (sa_cons (se_var (pv 6)) (sa_cons (se_var (pv 5)) (sa_cons (se_cmp (op_eqA (Rm.uu hr 64 (by decide))) op2_eq (se_var (pv 4)) se_int rfl) sa_nil))))))
  (sss_cons (ss_if (st_cmp (op_eqA (Rm.uu hr 64 (by decide))) op2_eq (se_var (pv 4)) se_int rfl) (sss_one (ss_set (i := 10) sc_law.nd rfl (by first | exact Or.inl rfl | exact Or.inr rfl) (se_fk (ps := ["vow", "things", "row", "counted"]) G_laid 1 (hr.mono (by decide)) tk (by exact rfl) (sa_cons (se_var (pv 7)) (sa_cons (se_var (pv 8)) (sa_cons (se_var (pv 5)) sa_nil)))))) (sss_one (ss_set (i := 10) sc_law.nd rfl (by first | exact Or.inl rfl | exact Or.inr rfl) (se_fkk (ks := ["counted"]) (ps := ["vow", "things", "row", "counted"]) G_laid 0 (hr.mono (by decide)) tk (by exact rfl) (sa_cons (se_var (pv 7)) (sa_cons (se_var (pv 8)) (sa_cons (se_var (pv 5)) sa_nil))) (sk_cons (se_cmp (op_eqA (Rm.uu hr 64 (by decide))) op2_eq (se_var (pv 4)) se_int rfl) sk_nil)))))
  (sss_cons (ss_if (sw_t (sw_or (st_not (st_tru (se_isi (cv := .ty "dict") T.i_dict (.ty _) (by exact rfl) T.n_isinstance (se_var (pv 10)) (pe_ty (by exact rfl) T.n_dict bo_dict)) (fun _ => rfl))) (sw_or (st_cmp (op_neT (Rm.uu hr 66 (by decide))) (op2_eqT true) (se_var (pv 10)) (se_var (pv 9)) rfl) (sw_or1 (st_cmp (op_neA (Rm.uu hr 64 (by decide))) op2_ne (se_var (pv 8)) (se_var (pv 6)) rfl))))) (sss_one (ss_ret se_bl)) sss_nil)
  (sss_cons (ss_expr (se_bm0 tyM_dt opM_dclearT PySem.F.plainAttrs_dict PySem.F.slot_dict_clear PySem.F.type_dict_clear mtd_clearT (se_var (pv 10))))
  (sss_cons (ss_if (st_cmp (op_neT (Rm.uu hr 66 (by decide))) (op2_eqT true) (se_fkk (ks := ["counted"]) (ps := ["vow", "things", "row", "counted"]) G_laid 0 (hr.mono (by decide)) tk (by exact rfl) (sa_cons (se_var (pv 7)) (sa_cons (se_var (pv 6)) (sa_cons (se_var (pv 5)) sa_nil))) (sk_cons (se_cmp (op_eqA (Rm.uu hr 64 (by decide))) op2_eq (se_var (pv 4)) se_int rfl) sk_nil)) (se_var (pv 9)) rfl) (sss_one (ss_ret se_bl)) sss_nil)
  (sss_cons (ss_set (i := 11) sc_law.nd rfl (by first | exact Or.inl rfl | exact Or.inr rfl) (se_fz (se_slice (se_var (pv 6)) so_none (so_some (se_bin op_addA op2_add se_int (se_fk (ps := ["_law_state", "_law_many"]) G_law_take 0 (hr.mono (by decide)) tk (by exact rfl) (sa_cons (se_var (pv 1)) (sa_cons se_int sa_nil))))))))
  (sss_cons (ss_set (i := 12) sc_law.nd rfl (by first | exact Or.inl rfl | exact Or.inr rfl) (se_fz (se_blty (call_dictT rfl (Rm.uu hr 2 (by decide))) opN_dictT (by exact rfl) T.n_dict bo_dict (sa_cons (se_fz (se_lc (S := [13]) (own := [("_law_k", 13)]) rfl sc_law.nd (si_range1 (by exact rfl) T.n_range (se_blt op_lenA opN_len (by exact rfl) T.n_len bo_len (sa_cons (se_var (pv 11)) sa_nil))) (blk_of (N := N_law) (sc := (defScope s_law)) (by decide +kernel)) (by decide) (fun _ _ _ _ _ => by exact (sg_name (i := 13) sc_law.nd rfl (by first | exact Or.inl rfl | exact Or.inr rfl))) (fun _ _ _ _ _ => by exact sts_nil) (fun _ _ _ _ _ => by exact (se_tup (sa_cons (se_tup (sa_cons se_str (sa_cons (se_ix (se_ix (se_var (pv 3)) se_int (fun _ _ => rfl)) (se_var (pv 13)) (fun _ _ => rfl)) sa_nil))) (sa_cons (se_ix (se_var (pv 11)) (se_var (pv 13)) (fun _ _ => rfl)) sa_nil)))))) sa_nil))))
  (sss_one (ss_if (sw_t (sw_or (st_cmp (op_neT (Rm.uu hr 66 (by decide))) (op2_eqT true) (se_fk (ps := ["vow", "results"]) G_laid_back 0 (hr.mono (by decide)) tk (by exact rfl) (sa_cons (se_var (pv 7)) (sa_cons (se_blty call_list_of opN_listI (by exact rfl) T.n_list bo_list (sa_cons (se_var (pv 11)) sa_nil)) sa_nil))) (se_var (pv 12)) rfl) (sw_or1 (st_not (st_tru (se_isi (cv := .ty "dict") T.i_dict (.ty _) (by exact rfl) T.n_isinstance (se_fk (ps := ["vow", "results"]) G_laid_back 0 (hr.mono (by decide)) tk (by exact rfl) (sa_cons (se_var (pv 7)) (sa_cons (se_var (pv 11)) sa_nil))) (pe_ty (by exact rfl) T.n_dict bo_dict)) (fun _ => rfl)))))) (sss_one (ss_ret se_bl)) sss_nil))))))))))))))
  (sss_one (ss_ret se_bl))))
end
end L_k03
namespace L_k03
open PySem L2 Vz
def opA : Option Int → AV
  | none => .non
  | some i => .int i
/-- a register's number -/
def Reg (i : Int) : Prop := 0 ≤ i ∧ i < 12
instance (i : Int) : Decidable (Reg i) := inferInstanceAs (Decidable (_ ∧ _))
/-- v is a tuple of these numbers -/
def Tz (v : AV) (l : List Int) : Prop := v = .tup (zAV l) ∨ v = .con (zAV l)
def opl (o : Option Int) : List Int := match o with
  | some i => [i]
  | none => []
structure VOk (ha re ke : List Int) (li co : Option Int) (ow : Str) : Prop where
  h4 : ha.length ≤ 4
  r3 : re.length = 3
  ow : ow = "caller" ∨ ow = "callee"
  rg : ∀ i ∈ ha ++ (re ++ (ke ++ (opl li ++ opl co))), Reg i
def vN : List Str := ["handed", "results", "kept", "link", "count", "up", "clears"]
section
variable {QV : AV → Hs → Prop} {QB : Bool → Hs → Prop} {E : XQ} {G : Hs} {ρ : En} {D : SP} {b t s : Nat}
def isSome_ : AV → Bool
  | .int _ => true
  | _ => false
def ins_ : AV → Bool
  | .int i => decide (Reg i)
  | _ => false
theorem chain_any {i : Int} {σ : En} (e : σ[9]? = some (some (.int i))) : mChain fLe fLt (mC (.int 0)) (mVar 9) (mC (.int 12)) σ G = .ok (.bl (decide (Reg i))) G := by
  unfold mChain mC
  rw [R.bind_ok, var_ok e, R.bind_ok]
  have e2 : fLe (.int 0) (.int i) G = .ok (.bl (decide (0 ≤ i))) G := rfl
  rw [e2]
  by_cases h : 0 ≤ i
  · rw [decide_eq_true h]
    show fLt (.int i) (.int 12) G = _
    show R.ok (AV.bl (decide (i < 12))) G = _
    by_cases h2 : i < 12
    · have r : decide (Reg i) = true := decide_eq_true (show Reg i from ⟨h, h2⟩)
      rw [decide_eq_true h2, r]
    · have r : decide (Reg i) = false := decide_eq_false fun x : Reg i => h2 x.2
      rw [decide_eq_false h2, r]
  · have r : decide (Reg i) = false := decide_eq_false fun x : Reg i => h x.1
    rw [decide_eq_false h, r]
    rfl
theorem fst_step {n : Nat} {G0 : Hs} {f : Str} {fs : List (Str × AV)} {u : AV} (h : G[n]? = some (.ins "Vow" fs)) (fr : FrN n G0 G) : (G.set n (.ins "Vow" (putFA f u fs)))[n]? = some (.ins "Vow" (putFA f u fs)) ∧ FrN n G0 (G.set n (.ins "Vow" (putFA f u fs))) :=
  ⟨List.getElem?_set_self (List.getElem?_eq_some_iff.mp h).1, fr.set⟩
theorem tuple_z {v : AV} {l : List Int} (h : Tz v l) : (fTuple [v] G).wp QV E = QV v G := by
  rcases h with rfl | rfl <;> rfl
theorem len_z {v : AV} {l : List Int} (h : Tz v l) : (fLen [v] G).wp QV E = QV (.int (l.length : Nat)) G := by
  rcases h with rfl | rfl
  · show QV (.int ((zAV l).length : Nat)) G = _
    rw [zAV_len]
  · show QV (.int ((zAV l).length : Nat)) G = _
    rw [zAV_len]
theorem wk_z {v : AV} {l : List Int} (h : Tz v l) : seqOf G v = some (zAV l) := by
  rcases h with rfl | rfl <;> rfl
theorem wkO_z {v : AV} {l : List Int} (h : Tz v l) : wkOf G v = some (zAV l, none) := by
  rcases h with rfl | rfl <;> rfl
theorem init_end {h r k li co up ow : AV} {ha re ke : List Int} {n : Nat} {a8 a9 a10 : Option AV} {G0 : Hs} (h1 : Tz h ha) (h2 : Tz r re) (h3 : Tz k ke) (hn : G[n]? = some (.ins "Vow" [])) (fr : FrN n G0 G) (hq : ∀ σ G', G'[n]? = some (.ins "Vow" (vN.zip [h, r, k, li, co, up, ow])) → FrN n G0 G' → D.nx σ G') :
    (k_Vow___init___6 [some (.ref n), some h, some r, some k, some li, some co, some up, some ow, a8, a9, a10] G).wp D := by
  have hm : ("Vow" : Str) ∈ [("Vow" : Str)] := List.mem_singleton.mpr rfl
  unfold k_Vow___init___6
  simp_arith [tuple_z h1, tuple_z h2, tuple_z h3, st_wp hn hm (show ([] : List (Str × AV)).length < 1000 by decide)]
  obtain ⟨g1, r1⟩ := fst_step (f := "handed") (u := h) hn fr
  unfold k_Vow___init___7
  simp_arith [tuple_z h1, tuple_z h2, tuple_z h3, st_wp g1 hm (show (putFA _ _ _).length < 1000 by simp [putFA])]
  obtain ⟨g2, r2⟩ := fst_step (f := "results") (u := r) g1 r1
  unfold k_Vow___init___8
  simp_arith [tuple_z h1, tuple_z h2, tuple_z h3, st_wp g2 hm (show (putFA _ _ _).length < 1000 by simp [putFA, ofS_inj])]
  obtain ⟨g3, r3⟩ := fst_step (f := "kept") (u := k) g2 r2
  unfold k_Vow___init___9
  simp_arith [st_wp g3 hm (show (putFA _ _ _).length < 1000 by simp [putFA, ofS_inj])]
  obtain ⟨g4, r4⟩ := fst_step (f := "link") (u := li) g3 r3
  unfold k_Vow___init___10
  simp_arith [st_wp g4 hm (show (putFA _ _ _).length < 1000 by simp [putFA, ofS_inj])]
  obtain ⟨g5, r5⟩ := fst_step (f := "count") (u := co) g4 r4
  unfold k_Vow___init___11
  simp_arith [st_wp g5 hm (show (putFA _ _ _).length < 1000 by simp [putFA, ofS_inj])]
  obtain ⟨g6, r6⟩ := fst_step (f := "up") (u := up) g5 r5
  simp_arith [st_wp g6 hm (show (putFA _ _ _).length < 1000 by simp [putFA, ofS_inj])]
  obtain ⟨g7, r7⟩ := fst_step (f := "clears") (u := ow) g6 r6
  refine hq _ _ (g7.trans ?_) r7
  simp [putFA, ofS_inj, vN]
theorem named_eq {li co : Option Int} : [opA li, opA co].filter isSome_ = zAV (opl li ++ opl co) := by
  cases li <;> cases co <;> rfl
theorem init_wp {n : Nat} {ha re ke : List Int} {h r k : AV} {li co : Option Int} {up : Bool} {ow : Str} {a8 a9 a10 : Option AV} (h1 : Tz h ha) (h2 : Tz r re) (h3 : Tz k ke) (hl : ha.length ≤ 1000 ∧ re.length ≤ 1000 ∧ ke.length ≤ 1000) (hn : G[n]? = some (.ins "Vow" []))
    (hy : VOk ha re ke li co ow → ∀ σ G', G'[n]? = some (.ins "Vow" (vN.zip [h, r, k, opA li, opA co, .bl up, .str ow])) → FrN n G G' → D.nx σ G')
    (hz : ¬ VOk ha re ke li co ow → ∀ G', Kp 0 G G' → D.ex "NoVow" (["name"], [.str ""]) G') :
    (b_Vow___init__ [some (.ref n), some h, some r, some k, some (opA li), some (opA co), some (.bl up), some (.str ow), a8, a9, a10] G).wp D := by
  have e := szl_eq
  unfold b_Vow___init__
  simp_arith []
  rw [wp_fzSet (by simp)]
  refine wp_lcG (vs := [opA li, opA co]) (wk_ok rfl rfl) (Kp.refl _ _) isSome_ id (by show 2 ≤ szl; decide) (fun v hv G1 hk => ?_) fun G1 k1 => ?_
  · simp only [List.mem_cons, List.not_mem_nil, or_false] at hv
    rcases hv with q | q <;> subst q
    · cases li with
      | none => exact ⟨_, rfl, ⟨rfl, Kp.refl _ _, fun h => nomatch h⟩⟩
      | some i => exact ⟨_, rfl, ⟨rfl, Kp.refl _ _, fun _ => ⟨rfl, Kp.refl _ _⟩⟩⟩
    · cases co with
      | none => exact ⟨_, rfl, ⟨rfl, Kp.refl _ _, fun h => nomatch h⟩⟩
      | some i => exact ⟨_, rfl, ⟨rfl, Kp.refl _ _, fun _ => ⟨rfl, Kp.refl _ _⟩⟩⟩
  rw [List.map_id, named_eq]
  have hnl : (opl li ++ opl co).length ≤ 2 := by cases li <;> cases co <;> simp [opl]
  unfold k_Vow___init___2
  simp_arith [len_z h1, len_z h2]
  have no : ∀ G', Kp 0 G G' → ¬ VOk ha re ke li co ow → D.ex "NoVow" (mkX [("name", 1)] [.str ""]) G' := fun G' k n => hz n G' k
  by_cases c1 : ha.length ≤ 4
  case neg =>
    rw [show decide ((4 : Int) < (ha.length : Nat)) = true from decide_eq_true (by omega)]
    simp_arith [wp_raise]
    exact ⟨by decide, no _ k1 fun x => c1 x.h4⟩
  rw [show decide ((4 : Int) < (ha.length : Nat)) = false from decide_eq_false (by omega)]
  simp_arith [len_z h2]
  by_cases c2 : re.length = 3
  case neg =>
    rw [show decide (((re.length : Nat) : Int) = 3) = false from decide_eq_false (by omega)]
    simp_arith [wp_raise]
    exact ⟨by decide, no _ k1 fun x => c2 x.r3⟩
  rw [show decide (((re.length : Nat) : Int) = 3) = true from decide_eq_true (by omega)]
  simp_arith []
  by_cases c3 : ow = "caller" ∨ ow = "callee"
  case neg =>
    have hcl : ([("caller" : Str), "callee"].any fun y => y == ow) = false := by
      rw [List.any_eq_false]
      intro x hx
      simp only [List.mem_cons, List.not_mem_nil, or_false] at hx
      rcases hx with q | q <;> subst q <;> simp only [beq_iff_eq] <;> intro z <;> exact c3 (by simp [← z])
    rw [hcl]
    simp_arith [wp_raise]
    exact ⟨by decide, no _ k1 fun x => c3 x.ow⟩
  have hcl : ([("caller" : Str), "callee"].any fun y => y == ow) = true := by
    rcases c3 with q | q <;> subst q <;> decide +kernel
  rw [hcl]
  simp_arith []
  unfold k_Vow___init___4
  rw [wp_seq, wp_if, wp_not, wp_tru, wp_blt, wp_cons]
  refine wp_lc2I (vs := [h, r, k, .ls (zAV (opl li ++ opl co))]) (wk_ok rfl rfl) (Kp.refl _ _) (fun v => match seqOf G1 v with
    | some xs => xs
    | none => zAV (opl li ++ opl co)) (fun _ u => .bl (ins_ u)) ?_ (fun v hv G2 => ?_) fun G2 k2 => ?_
  · simp only [List.flatMap_cons, List.flatMap_nil, List.append_nil, List.length_append, wk_z h1, wk_z h2, wk_z h3, zAV_len]
    rw [show seqOf G1 (.ls (zAV (opl li ++ opl co))) = some (zAV (opl li ++ opl co)) from rfl]
    simp only [zAV_len]
    omega
  · have wz : ∀ (l : List Int) (σ : En), σ.length = 11 → ∀ u ∈ zAV l, ∀ G1 : Hs, ∃ ρ2, gNm 9 u σ G1 = .ok ρ2 G1 ∧ mYes ρ2 G1 = .ok true G1 ∧ mChain fLe fLt (mC (.int 0)) (mVar 9) (mC (.int 12)) ρ2 G1 = .ok (.bl (ins_ u)) G1 := fun l σ hσ u hu G1 => by
      obtain ⟨i, _, rfl⟩ := List.mem_map.mp hu
      exact ⟨_, rfl, rfl, chain_any (by rw [List.getElem?_set_self (by omega)])⟩
    simp only [List.mem_cons, List.not_mem_nil, or_false] at hv
    rcases hv with q | q | q | q <;> subst q
    · rw [wk_z h1]
      refine ⟨_, rfl, rfl, wk_ok rfl (wkO_z h1), ?_⟩
      exact wz _ _ rfl
    · rw [wk_z h2]
      refine ⟨_, rfl, rfl, wk_ok rfl (wkO_z h2), ?_⟩
      exact wz _ _ rfl
    · rw [wk_z h3]
      refine ⟨_, rfl, rfl, wk_ok rfl (wkO_z h3), ?_⟩
      exact wz _ _ rfl
    · exact ⟨_, rfl, rfl, rfl, wz _ _ rfl⟩
  have fl : ∀ l : List Int, (zAV l).map (fun u => AV.bl (ins_ u)) = (l.map fun i => decide (Reg i)).map AV.bl := fun l => by
    unfold zAV
    rw [List.map_map, List.map_map]
    rfl
  simp only [List.flatMap_cons, List.flatMap_nil, List.append_nil, wk_z h1, wk_z h2, wk_z h3]
  rw [show seqOf G1 (.ls (zAV (opl li ++ opl co))) = some (zAV (opl li ++ opl co)) from rfl]
  simp only [fl, ← List.map_append]
  simp_arith []
  rw [all_ls]
  by_cases c4 : ∀ i ∈ ha ++ (re ++ (ke ++ (opl li ++ opl co))), Reg i
  case neg =>
    have ea : ((ha ++ (re ++ (ke ++ (opl li ++ opl co)))).map fun i => decide (Reg i)).all id = false := by
      rw [List.all_eq_false]
      simp only [Classical.not_forall] at c4
      obtain ⟨i, hi, n⟩ := c4
      exact ⟨_, List.mem_map.mpr ⟨i, hi, rfl⟩, by simp [n]⟩
    rw [ea]
    simp_arith [tru_bl, wp_raise]
    exact ⟨by decide, no _ (k1.trans k2) fun x => c4 x.rg⟩
  have ea : ((ha ++ (re ++ (ke ++ (opl li ++ opl co)))).map fun i => decide (Reg i)).all id = true := by
    rw [List.all_eq_true]
    intro x hx
    obtain ⟨i, hi, rfl⟩ := List.mem_map.mp hx
    exact decide_eq_true (c4 i hi)
  rw [ea]
  simp_arith [tru_bl]
  have k12 := k1.trans k2
  exact init_end h1 h2 h3 (k12.get0 hn) .refl fun σ G' g f => hy ⟨c1, c2, c3, c4⟩ σ G' g ((FrN.refl.kpt k12).trans' f)
theorem init_yes {n : Nat} {ha re ke : List Int} {h r k : AV} {li co : Option Int} {up : Bool} {ow : Str} (h1 : Tz h ha) (h2 : Tz r re) (h3 : Tz k ke) (hl : ha.length ≤ 1000 ∧ re.length ≤ 1000 ∧ ke.length ≤ 1000) (hn : G[n]? = some (.ins "Vow" []))
    (ok : VOk ha re ke li co ow) (hy : ∀ G', G'[n]? = some (.ins "Vow" (vN.zip [h, r, k, opA li, opA co, .bl up, .str ow])) → FrN n G G' → QV .non G') : (f_Vow___init__ [.ref n, h, r, k, opA li, opA co, .bl up, .str ow] G).wp QV E := by
  unfold f_Vow___init__
  simp_arith []
  exact init_wp h1 h2 h3 hl hn (fun _ σ => hy) fun no => absurd ok no
/-- a vow's parts -/
structure PT where
  ha : List Int
  re : List Int
  ke : List Int
  li : Option Int
  co : Option Int
  up : Bool
  ow : Str
  deriving DecidableEq
def PT.xs (p : PT) : List AV := [.tup (zAV p.ha), .tup (zAV p.re), .tup (zAV p.ke), opA p.li, opA p.co, .bl p.up, .str p.ow]
def PT.av (p : PT) : AV := .tup p.xs
def PT.iv (p : PT) : AV := .iv "Vow" vN p.xs
abbrev PT.Ok (p : PT) : Prop := VOk p.ha p.re p.ke p.li p.co p.ow
/-- as drawn -/
structure PT.Dn (p : PT) : Prop where
  ok : p.Ok
  k4 : p.ke.length ≤ 4
theorem opl_reg {o : Option Int} (h : ∀ i, o = some i → Reg i) {i : Int} (hi : i ∈ opl o) : Reg i := by
  cases o with
  | none => cases hi
  | some j =>
    simp only [opl, List.mem_singleton] at hi
    subst hi
    exact h _ rfl
theorem take_eq : f_law_take = f_take := rfl
theorem begun_eq : f_law_begun = f_begun 7 := rfl
theorem rg_len {n : Int} : (rgA 0 n).length = n.toNat := by rw [rgA_len]; simp
/-- a row of drawn registers -/
theorem row_wp {pool shift n : Int} {a3 a4 a5 a6 a7 a8 : Option AV} (h : Dr b t s G) (ht : t + 10 < 2 ^ 60) (hp : 0 < pool ∧ pool ≤ 12) (hs : 0 ≤ shift ∧ shift < 12) (hn : 0 ≤ n ∧ n ≤ 4)
    (hq : ∀ l G', (l.length : Int) = n → (∀ i ∈ l, Reg i) → Dr b (t + 4) s G' → Kp b G G' → QV (.ls (zAV l)) G') :
    (mFz (mLc (mRg1 (mVar 7)) (gNm 8) mYes (m2 fMod (m2 fAdd (mVar 2) (mCall 2 2 0 gAll f_law_take (mCons (mVar 0) (mCons (mVar 1) mNil)) mNil)) (mC (.int 12))) [8]) [some (.ref s), some (.int pool), some (.int shift), a3, a4, a5, a6, some (.int n), a7, a8] G).wp QV E := by
  have e := szl_eq
  refine wp_lcD (rg1_ok (n := n) rfl (by omega) (by omega)) (Kp.refl _ _) h 1 (fun _ r => ∃ i, r = .int i ∧ Reg i) (by rw [rg_len]; omega) (fun j v G1 hv hd hk => ?_) fun xs G' hl hT hd hk => ?_
  · obtain ⟨rfl, hj⟩ := rgA_get hv
    refine ⟨_, rfl, ?_⟩
    simp_arith [take_eq]
    refine take_wp hd (by omega) (by omega) (by omega) fun r G2 r0 r1 h2 k2 => ?_
    simp_arith []
    exact ⟨by decide, ⟨_, rfl, mod_b (by decide)⟩, h2.mono (by omega), k2⟩
  · obtain ⟨l, rfl, hr⟩ := zAV_of (all_of hl hT)
    rw [zAV_len, rg_len] at hl
    rw [rg_len] at hd
    exact hq l G' (by omega) hr (hd.mono (by omega)) hk
theorem rows_wp {pool shift r1 r2 : Int} {a4 a5 a6 a7 a8 a9 : Option AV} (h : Dr b t s G) (ht : t + 30 < 2 ^ 60) (hp : 0 < pool ∧ pool ≤ 12) (hs : 0 ≤ shift ∧ shift < 12) (h1 : 0 ≤ r1 ∧ r1 ≤ 4) (h2 : 0 ≤ r2 ∧ r2 ≤ 4)
    (hq : ∀ l1 l2 l3 G', (l1.length : Int) = r1 → l2.length = 3 → (l3.length : Int) = r2 → (∀ l ∈ [l1, l2, l3], ∀ i ∈ l, Reg i) → Dr b (t + 12) s G' → Kp b G G' → QV (.ls [.tup (zAV l1), .tup (zAV l2), .tup (zAV l3)]) G') :
    (mFz (mLc (mWk (mVar 3)) (gNm 7) mYes (mBlt fTuple (mCons (mFz (mLc (mRg1 (mVar 7)) (gNm 8) mYes (m2 fMod (m2 fAdd (mVar 2) (mCall 2 2 0 gAll f_law_take (mCons (mVar 0) (mCons (mVar 1) mNil)) mNil)) (mC (.int 12))) [8])) mNil)) [7])
      [some (.ref s), some (.int pool), some (.int shift), some (.ls [.int r1, .int 3, .int r2]), a4, a5, a6, a7, a8, a9] G).wp QV E := by
  have e := szl_eq
  refine wp_lcD (wk_ok (v := .ls [.int r1, .int 3, .int r2]) rfl rfl) (Kp.refl _ _) h 4 (fun v r => ∃ l : List Int, r = .tup (zAV l) ∧ v = .int l.length ∧ ∀ i ∈ l, Reg i) (by show 3 ≤ szl; decide) (fun j v G1 hv hd hk => ?_) fun xs G' hl hT hd hk => ?_
  · obtain ⟨n, rfl, hnn⟩ : ∃ n : Int, v = .int n ∧ (0 ≤ n ∧ n ≤ 4) := by
      match j, hv with
      | 0, hv => exact ⟨r1, by cases hv; rfl, h1⟩
      | 1, hv => exact ⟨3, by cases hv; rfl, by omega⟩
      | 2, hv => exact ⟨r2, by cases hv; rfl, h2⟩
    have hj : j < 3 := (List.getElem?_eq_some_iff.mp hv).1
    refine ⟨_, rfl, ?_⟩
    simp_arith []
    refine row_wp (b := b) (t := t + 4 * j) hd (by omega) hp hs hnn fun l G2 hln hlr hd2 hk2 => ?_
    simp_arith []
    exact ⟨⟨l, rfl, by rw [hln], hlr⟩, hd2.mono (by omega), hk2⟩
  · match xs, hl with
    | [x1, x2, x3], _ =>
      obtain ⟨l1, rfl, e1, q1⟩ := hT 0 _ _ rfl rfl
      obtain ⟨l2, rfl, e2, q2⟩ := hT 1 _ _ rfl rfl
      obtain ⟨l3, rfl, e3, q3⟩ := hT 2 _ _ rfl rfl
      cases e1; cases e3
      injection e2 with e2
      exact hq l1 l2 l3 G' rfl (by omega) rfl (by simp only [List.mem_cons, List.not_mem_nil, or_false]; rintro l (rfl | rfl | rfl) <;> assumption) hd hk
/-- the two that may lack -/
theorem ones_wp {pool shift : Int} {w1 w2 w3 w4 : Int} {a3 a4 a6 a7 a8 a9 : Option AV} (h : Dr b t s G) (ht : t + 30 < 2 ^ 60) (hp : 0 < pool ∧ pool ≤ 12) (hs : 0 ≤ shift ∧ shift < 12)
    (hq : ∀ o1 o2 G', (∀ i, o1 = some i → Reg i) → (∀ i, o2 = some i → Reg i) → Dr b (t + 2) s G' → Kp b G G' → QV (.ls [opA o1, opA o2]) G') :
    (mFz (mLc (mWk (mFz (mSl (mVar 5) mNone (mSome (mC (.int 2)))))) (gNm 9) mYes (mIte (mTest (m2 fEq (mVar 9) (mC (.int 0)))) (mC .non) (m2 fMod (m2 fAdd (mVar 2) (mCall 2 2 0 gAll f_law_take (mCons (mVar 0) (mCons (mVar 1) mNil)) mNil)) (mC (.int 12)))) [9])
      [some (.ref s), some (.int pool), some (.int shift), a3, a4, some (.ls [.int w1, .int w2, .int w3, .int w4]), a6, a7, a8, a9] G).wp QV E := by
  have e := szl_eq
  refine wp_lcD (wk_ok (slI_ok (xs := [.int w1, .int w2, .int w3, .int w4]) (lo := none) (hi := some 2) rfl rfl rfl) rfl) (Kp.app _ _ _) h.app 1 (fun _ r => ∃ o, r = opA o ∧ ∀ i, o = some i → Reg i) (by show 2 ≤ szl; decide) (fun j v G1 hv hd hk => ?_) fun xs G' hl hT hd hk => ?_
  · have hv : ([AV.int w1, .int w2] : List AV)[j]? = some v := hv
    obtain ⟨w, rfl, hj⟩ : ∃ w : Int, v = .int w ∧ j < 2 := by
      match j, hv with
      | 0, hv => exact ⟨w1, by cases hv; rfl, by omega⟩
      | 1, hv => exact ⟨w2, by cases hv; rfl, by omega⟩
    refine ⟨_, rfl, ?_⟩
    simp_arith []
    by_cases hw0 : w = 0
    · subst hw0
      simp_arith []
      exact ⟨⟨none, rfl, fun i hi => nomatch hi⟩, hd.mono (by omega), Kp.refl _ _⟩
    · rw [show decide (w = 0) = false from decide_eq_false hw0]
      simp_arith [take_eq]
      refine take_wp hd (by omega) (by omega) (by omega) fun r G2 r0 r1 h2 k2 => ?_
      simp_arith []
      exact ⟨by decide, ⟨some ((shift + r) % 12), rfl, fun i hi => by cases hi; exact mod_b (by decide)⟩, h2.mono (by omega), k2⟩
  · match xs, hl with
    | [x1, x2], _ =>
      obtain ⟨o1, rfl, q1⟩ := hT 0 _ _ rfl rfl
      obtain ⟨o2, rfl, q2⟩ := hT 1 _ _ rfl rfl
      exact hq o1 o2 G' q1 q2 hd hk
theorem parts_wp (h : Dr b t s G) (ht : t + 60 < 2 ^ 60) (hq : ∀ p : PT, ∀ G', p.Dn → Dr b (t + 40) s G' → Kp b G G' → QV p.av G') : (f_law_parts [.ref s] G).wp QV E := by
  unfold f_law_parts b_law_parts
  simp_arith [k_law_parts_8, k_law_parts_7, k_law_parts_6, k_law_parts_5, k_law_parts_4, k_law_parts_3, k_law_parts_2, take_eq]
  refine take_wp h (by decide) (by decide) (by omega) fun p1 G1 _ _ h1 k1 => ?_
  simp_arith []
  refine take_wp h1 (by decide) (by decide) (by omega) fun r2 G2 _ _ h2 k2 => ?_
  obtain ⟨pool, hp, hpl⟩ : ∃ pool : Int, [AV.int (1 + p1), .int 12, .int 12][r2.toNat]? = some (.int pool) ∧ 0 < pool ∧ pool ≤ 12 := by
    rcases (show r2 = 0 ∨ r2 = 1 ∨ r2 = 2 by omega) with q | q | q <;> subst q
    · exact ⟨1 + p1, rfl, by omega, by omega⟩
    · exact ⟨12, rfl, by omega, by omega⟩
    · exact ⟨12, rfl, by omega, by omega⟩
  rw [ix_ls (by omega) (by simp; omega) hp]
  simp_arith []
  refine take_wp h2 (by decide) (by decide) (by omega) fun sh G3 s0 s1 h3 k3 => ?_
  simp_arith []
  refine take_wp h3 (by decide) (by decide) (by omega) fun m1 G4 _ _ h4 k4 => ?_
  simp_arith []
  refine take_wp h4 (by decide) (by decide) (by omega) fun m2 G5 _ _ h5 k5 => ?_
  simp_arith []
  rw [wp_fzSet (by simp)]
  refine rows_wp (r1 := m1) (r2 := m2) h5 (by omega) hpl ⟨s0, s1⟩ ⟨by omega, by omega⟩ ⟨by omega, by omega⟩ fun l1 l2 l3 G6 e1 e2 e3 hreg h6 k6 => ?_
  simp_arith []
  refine take_wp h6 (by decide) (by decide) (by omega) fun w1 G7 _ _ h7 k7 => ?_
  simp_arith []
  refine take_wp h7 (by decide) (by decide) (by omega) fun w2 G8 _ _ h8 k8 => ?_
  simp_arith []
  refine take_wp h8 (by decide) (by decide) (by omega) fun w3 G9 _ _ h9 k9 => ?_
  simp_arith []
  refine take_wp h9 (by decide) (by decide) (by omega) fun w4 G10 _ _ h10 k10 => ?_
  simp_arith []
  rw [wp_fzSet (by simp)]
  refine ones_wp h10 (by omega) hpl ⟨s0, s1⟩ fun o1 o2 G11 ho1 ho2 h11 k11 => ?_
  have kE : Kp b G G11 := (((((((((k1.trans k2).trans k3).trans k4).trans k5).trans k6).trans k7).trans k8).trans k9).trans k10).trans k11
  simp_arith []
  have fin : ∀ ow : Str, (ow = "caller" ∨ ow = "callee") → QV (PT.av ⟨l1, l2, l3, o1, o2, decide (w3 = 0), ow⟩) G11 := fun ow how =>
    hq _ _ ⟨⟨by show l1.length ≤ 4; omega, e2, how, fun i hi => by
      simp only [List.mem_append] at hi
      rcases hi with hi | hi | hi | hi | hi
      · exact hreg l1 (by simp) i hi
      · exact hreg l2 (by simp) i hi
      · exact hreg l3 (by simp) i hi
      · exact opl_reg ho1 hi
      · exact opl_reg ho2 hi⟩, by show l3.length ≤ 4; omega⟩ (h11.mono (by omega)) kE
  rcases (show w4 = 0 ∨ w4 = 1 by omega) with q | q <;> subst q
  · simp_arith []
    exact fin _ (.inl rfl)
  · simp_arith []
    exact fin _ (.inr rfl)
def zD (l : List Int) : PyData := .tuple (l.map .int)
def oD : Option Int → PyData
  | none => .none
  | some i => .int i
def PT.dt (p : PT) : PyData := .tuple [zD p.ha, zD p.re, zD p.ke, oD p.li, oD p.co, .bool p.up, .str p.ow]
theorem fz_ins {n : Nat} {G' : Hs} {xs : List AV} (hx : xs.length = 7) (h : G'[n]? = some (.ins "Vow" (vN.zip xs))) : fzQ QV (.ref n) G' = QV (.iv "Vow" vN xs) (G'.set n .gone) := by
  rw [fzQ_ins h]
  have e1 : (vN.zip xs).map (·.1) = vN := List.map_fst_zip (by rw [hx]; decide)
  have e2 : (vN.zip xs).map (·.2) = xs := List.map_snd_zip (by rw [hx]; decide)
  rw [e1, e2]
theorem beqS {a c : String} : ((Str.ofString a : Str) == Str.ofString c) = decide (a = c) := by
  rw [Bool.eq_iff_iff]
  simp [ofS_inj]
theorem cV : ("Vow" : Str) ∈ [("Vow" : Str)] := List.mem_singleton.mpr rfl
theorem fl_ha {h r k l c u w : AV} : (fFld ["Vow"] "handed" (.iv "Vow" vN [h, r, k, l, c, u, w]) G).wp QV E = QV h G := fld_iv cV (by simp [vN, List.lookup, beqS])
theorem fl_re {h r k l c u w : AV} : (fFld ["Vow"] "results" (.iv "Vow" vN [h, r, k, l, c, u, w]) G).wp QV E = QV r G := fld_iv cV (by simp [vN, List.lookup, beqS])
theorem fl_li {h r k l c u w : AV} : (fFld ["Vow"] "link" (.iv "Vow" vN [h, r, k, l, c, u, w]) G).wp QV E = QV l G := fld_iv cV (by simp [vN, List.lookup, beqS])
theorem fl_co {h r k l c u w : AV} : (fFld ["Vow"] "count" (.iv "Vow" vN [h, r, k, l, c, u, w]) G).wp QV E = QV c G := fld_iv cV (by simp [vN, List.lookup, beqS])
theorem fl_up {h r k l c u w : AV} : (fFld ["Vow"] "up" (.iv "Vow" vN [h, r, k, l, c, u, w]) G).wp QV E = QV u G := fld_iv cV (by simp [vN, List.lookup, beqS])
structure PT.Sm (p : PT) : Prop where
  a : p.ha.length ≤ 1000
  b : p.re.length ≤ 1000
  c : p.ke.length ≤ 1000
theorem mk_yes {p : PT} (ok : p.Ok) (sm : p.Sm) (hq : ∀ G', Kp 0 G G' → QV p.iv G') : (f_law_vow [p.av] G).wp QV E := by
  unfold f_law_vow b_law_vow PT.av PT.xs
  simp_arith [gP, List.filterMap_cons, List.filterMap_nil, wp_fz]
  refine init_yes (.inl rfl) (.inl rfl) (.inl rfl) ⟨sm.a, sm.b, sm.c⟩ (by simp) ok fun G' g f => ⟨rfl, ?_⟩
  rw [fz_ins rfl g]
  exact hq _ (Kp.setN (FrN.kp0 f) (Nat.le_refl _))
end
end L_k03
namespace L_k03
open PySem L2 Vz
section
variable {κ : Type} [DecidableEq κ]
def puts (ps acc : List (κ × AV)) : List (κ × AV) := ps.foldl (fun acc q => putA acc q.1 q.2) acc
theorem getA_cons {a k : κ} {b : AV} {r : List (κ × AV)} : getA ((a, b) :: r) k = if a = k then some b else getA r k := rfl
theorem getA_nil {k : κ} : getA ([] : List (κ × AV)) k = none := rfl
theorem getA_rep {k j : κ} {v : AV} (ej : ¬ k = j) : ∀ l : List (κ × AV), getA (l.map fun kv => if kv.1 = k then (kv.1, v) else kv) j = getA l j
  | [] => rfl
  | (a, b) :: r => by
    rw [List.map_cons]
    by_cases ea : a = k
    · subst ea
      rw [if_pos rfl, getA_cons, getA_cons, if_neg ej, if_neg ej, getA_rep ej r]
    · rw [if_neg ea, getA_cons, getA_cons, getA_rep ej r]
theorem getA_hit {k : κ} {v : AV} : ∀ l : List (κ × AV), (l.any fun kv => decide (kv.1 = k)) = true → getA (l.map fun kv => if kv.1 = k then (kv.1, v) else kv) k = some v
  | [], h => by simp at h
  | (a, b) :: r, h => by
    rw [List.map_cons]
    by_cases ea : a = k
    · subst ea
      rw [if_pos rfl, getA_cons, if_pos rfl]
    · rw [if_neg ea, getA_cons, if_neg ea]
      refine getA_hit r ?_
      simp only [List.any_cons, Bool.or_eq_true, decide_eq_true_eq] at h
      exact h.resolve_left ea
theorem getA_app {ps qs : List (κ × AV)} {k : κ} : getA (ps ++ qs) k = (getA ps k).or (getA qs k) := by
  induction ps with
  | nil => rfl
  | cons q r ih =>
    obtain ⟨a, b⟩ := q
    rw [List.cons_append, getA_cons, getA_cons]
    split
    · rfl
    · exact ih
theorem getA_put {kvs : List (κ × AV)} {k j : κ} {v : AV} : getA (putA kvs k v) j = if k = j then some v else getA kvs j := by
  unfold putA
  split
  · next h =>
    by_cases e : k = j
    · subst e
      rw [if_pos rfl]
      exact getA_hit kvs h
    · rw [if_neg e]
      exact getA_rep e kvs
  · next h =>
    rw [getA_app, getA_cons, getA_nil]
    by_cases e : k = j
    · subst e
      rw [if_pos rfl, if_pos rfl]
      have : getA kvs k = none := by
        cases q : getA kvs k with
        | none => rfl
        | some v' =>
          have : ∀ l : List (κ × AV), getA l k = some v' → (l.any fun kv => decide (kv.1 = k)) = true := fun l => by
            induction l with
            | nil => intro z; cases z
            | cons x r ih =>
              obtain ⟨a, b⟩ := x
              rw [getA_cons]
              intro z
              rw [List.any_cons, Bool.or_eq_true]
              by_cases ea : a = k
              · exact .inl (decide_eq_true ea)
              · rw [if_neg ea] at z
                exact .inr (ih z)
          exact absurd (this kvs q) h
      rw [this]
      rfl
    · rw [if_neg e, if_neg e]
      cases getA kvs j <;> rfl
theorem getA_puts {k : κ} : ∀ {ps acc : List (κ × AV)}, getA (puts ps acc) k = (getA ps.reverse k).or (getA acc k)
  | [], acc => rfl
  | q :: ps, acc => by
    show getA (puts ps (putA acc q.1 q.2)) k = _
    rw [getA_puts, getA_put, List.reverse_cons, getA_app, Option.or_assoc]
    congr 1
    obtain ⟨a, b⟩ := q
    rw [getA_cons, getA_nil]
    by_cases e : a = k
    · simp [e]
    · simp [e]
theorem putA_keys {kvs : List (κ × AV)} {k : κ} {v : AV} (h : (kvs.map (·.1)).Nodup) : ((putA kvs k v).map (·.1)).Nodup := by
  unfold putA
  split
  · have : (kvs.map fun kv => if kv.1 = k then (kv.1, v) else kv).map (·.1) = kvs.map (·.1) := by
      rw [List.map_map]
      refine List.map_congr_left fun q _ => ?_
      simp only [Function.comp_apply]
      split <;> rfl
    rw [this]
    exact h
  · next hk =>
    rw [List.map_append, List.nodup_append]
    refine ⟨h, by simp, fun a ha b hb => ?_⟩
    have hb : b = k := by simpa using hb
    subst hb
    intro e
    subst e
    obtain ⟨q, hq, rfl⟩ := List.mem_map.mp ha
    exact hk (List.any_eq_true.mpr ⟨q, hq, by simp⟩)
theorem puts_keys : ∀ {ps acc : List (κ × AV)}, (acc.map (·.1)).Nodup → ((puts ps acc).map (·.1)).Nodup
  | [], _, h => h
  | _ :: ps, _, h => puts_keys (ps := ps) (putA_keys h)
theorem getA_mem {k : κ} {v : AV} : ∀ {kvs : List (κ × AV)}, (kvs.map (·.1)).Nodup → (k, v) ∈ kvs → getA kvs k = some v
  | [], _, h => nomatch h
  | (k', v') :: r, n, h => by
    rw [getA_cons]
    obtain ⟨n1, n2⟩ := List.nodup_cons.mp n
    rcases List.mem_cons.mp h with e | h
    · cases e; rw [if_pos rfl]
    · rw [if_neg]
      · exact getA_mem n2 h
      · intro e
        subst e
        exact n1 (List.mem_map.mpr ⟨_, h, rfl⟩)
theorem getA_some {k : κ} {v : AV} : ∀ {kvs : List (κ × AV)}, getA kvs k = some v → (k, v) ∈ kvs
  | [], h => nomatch h
  | (k', v') :: r, h => by
    rw [getA_cons] at h
    split at h
    · next e => cases h; rw [e]; exact List.mem_cons_self ..
    · exact List.mem_cons_of_mem _ (getA_some h)
/-- alike in every key: as many -/
theorem same_len {l m : List (κ × AV)} (hl : (l.map (·.1)).Nodup) (hm : (m.map (·.1)).Nodup) (h : ∀ k, getA l k = getA m k) : l.length = m.length := by
  have key : ∀ {l m : List (κ × AV)}, (∀ k, getA l k = getA m k) → (l.map (·.1)).Nodup → ∀ k ∈ l.map (·.1), k ∈ m.map (·.1) := fun {l m} h hl k hk => by
    obtain ⟨⟨a, b⟩, hq, rfl⟩ := List.mem_map.mp hk
    have := getA_mem hl hq
    rw [h] at this
    exact List.mem_map.mpr ⟨_, getA_some this, rfl⟩
  have p : (l.map (·.1)).Perm (m.map (·.1)) := (List.perm_ext_iff_of_nodup hl hm).mpr fun k => ⟨key h hl k, key (fun k => (h k).symm) hm k⟩
  have := p.length_eq
  simpa using this
/-- pairs told by a number -/
theorem getA_rng {n : Nat} {f : Nat → κ} {g : Nat → AV} {k : κ} {j : Nat} (hj : j < n) (e : f j = k) (u : ∀ i < n, f i = k → i = j) : getA ((List.range n).map fun i => (f i, g i)).reverse k = some (g j) := by
  induction n with
  | zero => omega
  | succ n ih =>
    rw [List.range_succ, List.map_append, List.reverse_append]
    show getA ((f n, g n) :: ((List.range n).map fun i => (f i, g i)).reverse) k = _
    rw [getA_cons]
    by_cases c : f n = k
    · rw [if_pos c, u n (by omega) c]
    · rw [if_neg c]
      have : j ≠ n := fun z => c (by rw [← z]; exact e)
      exact ih (by omega) fun i hi => u i (by omega)
theorem getA_rno {n : Nat} {f : Nat → κ} {g : Nat → AV} {k : κ} (u : ∀ i < n, f i ≠ k) : getA ((List.range n).map fun i => (f i, g i)).reverse k = none := by
  induction n with
  | zero => rfl
  | succ n ih =>
    rw [List.range_succ, List.map_append, List.reverse_append]
    show getA ((f n, g n) :: ((List.range n).map fun i => (f i, g i)).reverse) k = _
    rw [getA_cons]
    rw [if_neg (u n (by omega))]
    exact ih fun i hi => u i (by omega)
end
def rK (i : Int) : List Key := [.inr "r", .inl i]
def pK (z : Int) : List Key := [.inr "p", .inl z]
theorem rK_inj {i j : Int} : rK i = rK j ↔ i = j := ⟨fun h => by
  have h : ([.inr "r", .inl i] : List Key) = [.inr "r", .inl j] := h
  injection h with _ h
  injection h with h _
  injection h, fun h => by rw [h]⟩
theorem pK_inj {i j : Int} : pK i = pK j ↔ i = j := ⟨fun h => by
  have h : ([.inr "p", .inl i] : List Key) = [.inr "p", .inl j] := h
  injection h with _ h
  injection h with h _
  injection h, fun h => by rw [h]⟩
theorem rp_ne {i j : Int} : rK i ≠ pK j := fun h => by
  have h : ([.inr "r", .inl i] : List Key) = [.inr "p", .inl j] := h
  injection h with h _
  injection h with h
  exact absurd h (by decide +kernel)
def rowA (R : AV) : AV := .tup [.str "row", R]
def o1 (o : Option Int) : Int := if o = none then 1 else 0
/-- the cell of the thing k of m -/
def celI (p : PT) (k m : Nat) (c : Bool) : Int := (if p.up then (k : Int) - p.ha.length else (m : Int) - 1 - k) + o1 p.li + (if c then o1 p.co else 0)
def kyK (p : PT) (c : Bool) (m k : Nat) : List Key := if k < p.ha.length then rK (p.ha.getD k 0) else pK (celI p k m c)
def ctK (p : PT) : List Key := match p.co with
  | some i => rK i
  | none => pK (o1 p.li)
def lkK (p : PT) : List Key := match p.li with
  | some i => rK i
  | none => pK 0
/-- as the program lays -/
def prL (p : PT) (c : Bool) (xs : List AV) (R : AV) : List (List Key × AV) := (List.range xs.length).map (fun k => (kyK p c xs.length k, xs.getD k .non)) ++ (if c then [(ctK p, .int xs.length)] else []) ++ [(lkK p, rowA R)]
/-- the law's pile -/
def plP (p : PT) (c : Bool) (xs : List AV) (R : AV) : List AV := (if p.up then (xs.drop p.ha.length).reverse else xs.drop p.ha.length) ++ (if c && p.co.isNone then [.int xs.length] else []) ++ (if p.li.isNone then [rowA R] else [])
/-- the law's registers -/
def rgL (p : PT) (c : Bool) (xs : List AV) (R : AV) : List (Key × AV) := (List.range (min p.ha.length xs.length)).map (fun k => (.inl (p.ha.getD k 0), xs.getD k .non)) ++ (match p.co with
  | some i => if c then [(.inl i, .int xs.length)] else []
  | none => []) ++ (match p.li with
  | some i => [(.inl i, rowA R)]
  | none => [])
def dkOf (k : Key) : List Key := [.inr "r", k]
def duL (p : PT) (c : Bool) (xs : List AV) (R : AV) : List (List Key × AV) := (List.range (plP p c xs R).length).map (fun (k : Nat) => (pK (k : Nat), (plP p c xs R).getD ((plP p c xs R).length - 1 - k) .non)) ++ (puts (rgL p c xs R) []).map fun q => (dkOf q.1, q.2)
theorem getA_dk {kvs : List (Key × AV)} {i : Int} : getA (kvs.map fun q => (dkOf q.1, q.2)) (rK i) = getA kvs (.inl i) := by
  induction kvs with
  | nil => rfl
  | cons q r ih =>
    obtain ⟨a, b⟩ := q
    rw [List.map_cons, getA_cons, getA_cons]
    have e : (dkOf a = rK i) = (a = (.inl i : Key)) := propext ⟨fun h => by
      have h : ([.inr "r", a] : List Key) = [.inr "r", .inl i] := h
      injection h with _ h
      injection h, fun h => by rw [h]; rfl⟩
    by_cases c : a = (.inl i : Key)
    · rw [if_pos c, if_pos (e ▸ c)]
    · rw [if_neg c, if_neg (fun z => c (e ▸ z)), ih]
theorem getA_dkp {kvs : List (Key × AV)} {z : Int} : getA (kvs.map fun q => (dkOf q.1, q.2)) (pK z) = none := by
  induction kvs with
  | nil => rfl
  | cons q r ih =>
    obtain ⟨a, b⟩ := q
    rw [List.map_cons, getA_cons, if_neg, ih]
    intro h
    have h : ([.inr "r", a] : List Key) = [.inr "p", .inl z] := h
    injection h with h _
    injection h with h
    exact absurd h (by decide +kernel)
/-- the registers' part, alike -/
theorem alike_r {p : PT} {c : Bool} {xs : List AV} {R : AV} {i : Int} : getA (prL p c xs R).reverse (rK i) = getA (rgL p c xs R).reverse ((.inl i : Key)) := by
  have th : ∀ n, getA ((List.range n).map fun k => (kyK p c xs.length k, xs.getD k .non)).reverse (rK i) = getA ((List.range (min p.ha.length n)).map fun k => ((.inl (p.ha.getD k 0) : Key), xs.getD k .non)).reverse ((.inl i : Key)) := fun n => by
    induction n with
    | zero => rw [Nat.min_zero]; rfl
    | succ n ih =>
      rw [List.range_succ, List.map_append, List.reverse_append]
      show getA ((kyK p c xs.length n, xs.getD n .non) :: ((List.range n).map fun k => (kyK p c xs.length k, xs.getD k .non)).reverse) (rK i) = _
      rw [getA_cons]
      by_cases h : n < p.ha.length
      · rw [show min p.ha.length (n + 1) = n + 1 by omega, List.range_succ, List.map_append, List.reverse_append]
        show _ = getA (((.inl (p.ha.getD n 0) : Key), xs.getD n .non) :: ((List.range n).map fun k => ((.inl (p.ha.getD k 0) : Key), xs.getD k .non)).reverse) ((.inl i : Key))
        rw [show min p.ha.length n = n by omega] at ih
        have ek : kyK p c xs.length n = rK (p.ha.getD n 0) := by unfold kyK; rw [if_pos h]
        rw [ek, getA_cons]
        by_cases e : p.ha.getD n 0 = i
        · rw [if_pos (by rw [e]), if_pos (by rw [e])]
        · rw [if_neg (fun z => e (rK_inj.mp z)), if_neg (fun z => e (Sum.inl.inj z))]
          exact ih
      · rw [show min p.ha.length (n + 1) = min p.ha.length n by omega]
        have ek : kyK p c xs.length n = pK (celI p n xs.length c) := by unfold kyK; rw [if_neg h]
        rw [ek, if_neg (fun z => rp_ne z.symm)]
        exact ih
  unfold prL rgL
  rw [List.reverse_append, List.reverse_append, List.reverse_append, List.reverse_append, getA_app, getA_app, getA_app, getA_app, th]
  congr 1
  · unfold lkK
    cases p.li with
    | none => rw [List.reverse_singleton, getA_cons, if_neg (fun z => rp_ne z.symm)]; rfl
    | some j =>
      simp only
      rw [List.reverse_singleton, List.reverse_singleton, getA_cons, getA_cons]
      by_cases e : j = i
      · rw [if_pos (by rw [e]), if_pos (by rw [e])]
      · rw [if_neg (fun z => e (rK_inj.mp z)), if_neg (fun z => e (Sum.inl.inj z))]
        rfl
  · congr 1
    cases c with
    | false => cases p.co <;> rfl
    | true =>
      simp only [if_true]
      unfold ctK
      cases p.co with
      | none => rw [List.reverse_singleton, getA_cons, if_neg (fun z => rp_ne z.symm)]; rfl
      | some j =>
        simp only
        rw [List.reverse_singleton, List.reverse_singleton, getA_cons, getA_cons]
        by_cases e : j = i
        · rw [if_pos (by rw [e]), if_pos (by rw [e])]
        · rw [if_neg (fun z => e (rK_inj.mp z)), if_neg (fun z => e (Sum.inl.inj z))]
          rfl
theorem base_get {p : PT} {xs : List AV} {j : Nat} (hj : j < xs.length - p.ha.length) : (if p.up then (xs.drop p.ha.length).reverse else xs.drop p.ha.length).getD j .non = xs.getD (if p.up then xs.length - 1 - j else p.ha.length + j) .non := by
  cases p.up with
  | true =>
    simp only [if_true]
    rw [List.getD_eq_getElem?_getD, List.getD_eq_getElem?_getD, List.getElem?_reverse (by rw [List.length_drop]; exact hj), List.getElem?_drop, List.length_drop]
    congr 2
    omega
  | false =>
    simp only [Bool.false_eq_true, if_false]
    rw [List.getD_eq_getElem?_getD, List.getD_eq_getElem?_getD, List.getElem?_drop]
theorem getD_app {xs ys : List AV} {j : Nat} : (xs ++ ys).getD j .non = if j < xs.length then xs.getD j .non else ys.getD (j - xs.length) .non := by
  rw [List.getD_eq_getElem?_getD, List.getElem?_append]
  split
  · rw [List.getD_eq_getElem?_getD]
  · rw [List.getD_eq_getElem?_getD]
/-- the pile's part, alike -/
theorem alike_p {p : PT} {c : Bool} {xs : List AV} {R : AV} {z : Int} : getA (prL p c xs R).reverse (pK z) = getA ((List.range (plP p c xs R).length).map fun (k : Nat) => (pK (k : Nat), (plP p c xs R).getD ((plP p c xs R).length - 1 - k) .non)).reverse (pK z) := by
  have bl : (if p.up then (xs.drop p.ha.length).reverse else xs.drop p.ha.length).length = xs.length - p.ha.length := by split <;> simp
  have pl : (plP p c xs R).length = (xs.length - p.ha.length) + (if c && p.co.isNone then 1 else 0) + (if p.li.isNone then 1 else 0) := by
    unfold plP
    rw [List.length_append, List.length_append, bl]
    congr 1
    · congr 1
      split <;> rfl
    · split <;> rfl
  -- the law's side
  have rhs : getA ((List.range (plP p c xs R).length).map fun (k : Nat) => (pK (k : Nat), (plP p c xs R).getD ((plP p c xs R).length - 1 - k) .non)).reverse (pK z) = if 0 ≤ z ∧ z < (plP p c xs R).length then some ((plP p c xs R).getD ((plP p c xs R).length - 1 - z.toNat) .non) else none := by
    split
    · next h =>
      exact getA_rng (f := fun (k : Nat) => pK (k : Nat)) (g := fun k => (plP p c xs R).getD ((plP p c xs R).length - 1 - k) .non) (j := z.toNat) (by omega) (by rw [Int.toNat_of_nonneg h.1]) fun i hi e => by
        have := pK_inj.mp e
        omega
    · next h => exact getA_rno (f := fun (k : Nat) => pK (k : Nat)) fun i hi e => h (by have := pK_inj.mp e; omega)
  rw [rhs]
  -- the things on the pile
  have th : getA ((List.range xs.length).map fun k => (kyK p c xs.length k, xs.getD k .non)).reverse (pK z) = if o1 p.li + (if c then o1 p.co else 0) ≤ z ∧ z < o1 p.li + (if c then o1 p.co else 0) + (xs.length - p.ha.length : Nat) then some (xs.getD (if p.up then p.ha.length + (z - o1 p.li - (if c then o1 p.co else 0)).toNat else xs.length - 1 - (z - o1 p.li - (if c then o1 p.co else 0)).toNat) .non) else none := by
    generalize he : o1 p.li + (if c then o1 p.co else 0) = e
    have he2 : z - o1 p.li - (if c then o1 p.co else 0) = z - e := by omega
    rw [he2]
    have key : ∀ k, p.ha.length ≤ k → kyK p c xs.length k = pK ((if p.up then (k : Int) - p.ha.length else (xs.length : Int) - 1 - k) + e) := fun k hk => by
      unfold kyK celI
      rw [if_neg (by omega), Int.add_assoc, he]
    have keyr : ∀ k, k < p.ha.length → kyK p c xs.length k ≠ pK z := fun k hk => by
      unfold kyK
      rw [if_pos hk]
      exact rp_ne
    split
    · next h =>
      refine getA_rng (j := if p.up then p.ha.length + (z - e).toNat else xs.length - 1 - (z - e).toNat) ?_ ?_ ?_
      · split <;> omega
      · rw [key _ (by split <;> omega), pK_inj]
        split <;> omega
      · intro i hi ei
        by_cases hh : i < p.ha.length
        · exact absurd ei (keyr i hh)
        · rw [key i (by omega), pK_inj] at ei
          revert ei
          split <;> intro ei <;> omega
    · next h =>
      refine getA_rno fun i hi ei => h ?_
      by_cases hh : i < p.ha.length
      · exact absurd ei (keyr i hh)
      · rw [key i (by omega), pK_inj] at ei
        revert ei
        split <;> intro ei <;> omega
  unfold prL
  rw [List.reverse_append, List.reverse_append, getA_app, getA_app, th]
  have gl : getA [(lkK p, rowA R)].reverse (pK z) = if p.li = none ∧ z = 0 then some (rowA R) else none := by
    unfold lkK
    cases p.li with
    | none =>
      rw [List.reverse_singleton, getA_cons]
      by_cases e : z = 0
      · rw [if_pos (by rw [e]), if_pos ⟨rfl, e⟩]
      · rw [if_neg (fun y => e (pK_inj.mp y).symm), if_neg (fun y => e y.2)]
        rfl
    | some j =>
      rw [List.reverse_singleton, getA_cons, if_neg rp_ne, if_neg (fun y => nomatch y.1)]
      rfl
  have gc : getA (if c then [(ctK p, AV.int xs.length)] else []).reverse (pK z) = if c = true ∧ p.co = none ∧ z = o1 p.li then some (.int xs.length) else none := by
    cases c with
    | false => rw [if_neg (show ¬ (false = true ∧ p.co = none ∧ z = o1 p.li) from fun y => Bool.false_ne_true y.1)]; rfl
    | true =>
      simp only [if_true, true_and]
      unfold ctK
      cases p.co with
      | none =>
        rw [List.reverse_singleton, getA_cons]
        by_cases e : z = o1 p.li
        · rw [if_pos (by rw [e]), if_pos ⟨rfl, e⟩]
        · rw [if_neg (fun y => e (pK_inj.mp y).symm), if_neg (fun y => e y.2)]
          rfl
      | some j =>
        rw [List.reverse_singleton, getA_cons, if_neg rp_ne, if_neg (fun y => nomatch y.1)]
        rfl
  rw [gl, gc]
  -- which place of the law's pile it is
  have at_ : ∀ k : Nat, k < (plP p c xs R).length → (plP p c xs R).getD k .non = if k < xs.length - p.ha.length then xs.getD (if p.up then xs.length - 1 - k else p.ha.length + k) .non else if (c && p.co.isNone) = true ∧ k = xs.length - p.ha.length then .int xs.length else rowA R := fun k hk => by
    rw [pl] at hk
    unfold plP
    rw [getD_app, getD_app, List.length_append, bl]
    by_cases h1 : k < xs.length - p.ha.length
    · rw [if_pos (by omega), if_pos h1, if_pos h1, base_get h1]
    · rw [if_neg h1]
      cases hc : (c && p.co.isNone) with
      | true =>
        rw [hc] at hk
        simp only [if_true, true_and, List.length_singleton] at hk ⊢
        by_cases h2 : k = xs.length - p.ha.length
        · rw [if_pos (by omega), if_neg h1, if_pos h2, h2, Nat.sub_self]
          rfl
        · rw [if_neg (by omega), if_neg h2]
          cases hl : p.li.isNone with
          | true =>
            rw [hl] at hk
            simp only [if_true] at hk ⊢
            rw [show k - (xs.length - p.ha.length + 1) = 0 by omega, if_neg h1]
            rfl
          | false =>
            rw [hl] at hk
            simp only [Bool.false_eq_true, if_false] at hk
            omega
      | false =>
        rw [hc] at hk
        simp only [Bool.false_eq_true, if_false, false_and, List.length_nil, Nat.add_zero] at hk ⊢
        rw [if_neg h1]
        cases hl : p.li.isNone with
        | true =>
          rw [hl] at hk
          simp only [if_true] at hk ⊢
          rw [show k - (xs.length - p.ha.length) = 0 by omega, if_neg h1]
          rfl
        | false =>
          rw [hl] at hk
          simp only [Bool.false_eq_true, if_false] at hk
          omega
  generalize hL : (plP p c xs R).length = L at pl at_ ⊢
  generalize plP p c xs R = P at at_ ⊢
  obtain ⟨a, ha, ea⟩ : ∃ a : Nat, (p.li = none ∧ a = 1 ∨ p.li ≠ none ∧ a = 0) ∧ o1 p.li = a := by
    unfold o1
    cases p.li with
    | none => exact ⟨1, .inl ⟨rfl, rfl⟩, rfl⟩
    | some j => exact ⟨0, .inr ⟨(fun z => nomatch z), rfl⟩, rfl⟩
  obtain ⟨b, hb, eb⟩ : ∃ b : Nat, ((c = true ∧ p.co = none) ∧ b = 1 ∨ ¬ (c = true ∧ p.co = none) ∧ b = 0) ∧ (if c then o1 p.co else 0) = (b : Int) := by
    unfold o1
    cases c with
    | false => exact ⟨0, .inr ⟨(fun z => Bool.false_ne_true z.1), rfl⟩, rfl⟩
    | true =>
      cases p.co with
      | none => exact ⟨1, .inl ⟨⟨rfl, rfl⟩, rfl⟩, rfl⟩
      | some j => exact ⟨0, .inr ⟨(fun z => nomatch z.2), rfl⟩, rfl⟩
  have eL : L = xs.length - p.ha.length + b + a := by
    rw [pl]
    congr 1
    · congr 1
      rcases hb with ⟨⟨q1, q2⟩, q3⟩ | ⟨q1, q2⟩
      · rw [q1, q2, q3]; rfl
      · rw [q2, if_neg]
        intro y
        rw [Bool.and_eq_true] at y
        exact q1 ⟨y.1, Option.isNone_iff_eq_none.mp y.2⟩
    · rcases ha with ⟨q1, q2⟩ | ⟨q1, q2⟩
      · rw [q1, q2]; rfl
      · rw [q2, if_neg]
        intro y
        exact q1 (Option.isNone_iff_eq_none.mp y)
  have cb : ((c && p.co.isNone) = true) = (c = true ∧ p.co = none) := propext ⟨fun y => by
    rw [Bool.and_eq_true] at y
    exact ⟨y.1, Option.isNone_iff_eq_none.mp y.2⟩, fun y => by rw [y.1, y.2]; rfl⟩
  simp only [cb] at at_
  clear pl rhs th gl gc bl
  rw [ea, eb]
  by_cases hz : 0 ≤ z ∧ z < (L : Nat)
  · rw [if_pos hz, at_ _ (by omega)]
    by_cases hk : L - 1 - z.toNat < xs.length - p.ha.length
    · rw [if_pos hk, if_neg (fun y => by rcases ha with ⟨q1, q2⟩ | ⟨q1, q2⟩; omega; exact q1 y.1), if_neg (fun y => by rcases hb with ⟨q1, q2⟩ | ⟨q1, q2⟩; omega; exact q1 ⟨y.1, y.2.1⟩), if_pos (by omega)]
      show some _ = some _
      congr 2
      cases p.up with
      | true => simp only [if_true]; omega
      | false => simp only [Bool.false_eq_true, if_false]; omega
    · rw [if_neg hk]
      by_cases hb1 : (c = true ∧ p.co = none) ∧ L - 1 - z.toNat = xs.length - p.ha.length
      · have b1 : b = 1 := by rcases hb with ⟨_, q⟩ | ⟨q, _⟩; exact q; exact absurd hb1.1 q
        rw [if_pos hb1, if_neg (fun y => by rcases ha with ⟨q1, q2⟩ | ⟨q1, q2⟩; omega; exact q1 y.1), if_pos ⟨hb1.1.1, hb1.1.2, by omega⟩]
        rfl
      · rw [if_neg hb1]
        have a1 : a = 1 ∧ z = 0 := by
          rcases hb with ⟨q1, q2⟩ | ⟨q1, q2⟩
          · have : L - 1 - z.toNat ≠ xs.length - p.ha.length := fun y => hb1 ⟨q1, y⟩
            rcases ha with ⟨_, q4⟩ | ⟨_, q4⟩ <;> omega
          · rcases ha with ⟨_, q4⟩ | ⟨_, q4⟩ <;> omega
        have l1 : p.li = none := by rcases ha with ⟨q, _⟩ | ⟨_, q⟩; exact q; omega
        rw [if_pos ⟨l1, a1.2⟩]
        rfl
  · rw [if_neg hz, if_neg (fun y => by rcases ha with ⟨q1, q2⟩ | ⟨q1, q2⟩; omega; exact q1 y.1), if_neg (fun y => by rcases hb with ⟨q1, q2⟩ | ⟨q1, q2⟩; omega; exact q1 ⟨y.1, y.2.1⟩), if_neg (by omega)]
    rfl
end L_k03
namespace L_k03
open PySem L2 Vz
section
variable {κ : Type} [DecidableEq κ]
theorem getA_off {k : κ} : ∀ {l : List (κ × AV)}, (∀ q ∈ l, q.1 ≠ k) → getA l k = none
  | [], _ => rfl
  | (a, b) :: r, h => by
    rw [getA_cons, if_neg (h (a, b) (List.mem_cons_self ..))]
    exact getA_off fun q hq => h q (List.mem_cons_of_mem _ hq)
theorem getA_rev {k : κ} {l : List (κ × AV)} (h : (l.map (·.1)).Nodup) : getA l.reverse k = getA l k := by
  have hr : (l.reverse.map (·.1)).Nodup := by rw [List.map_reverse]; exact List.pairwise_reverse.mpr (h.imp Ne.symm)
  cases e : getA l k with
  | some v => exact getA_mem hr (List.mem_reverse.mpr (getA_some e))
  | none =>
    cases e2 : getA l.reverse k with
    | none => rfl
    | some v =>
      have := getA_mem h (List.mem_reverse.mp (getA_some e2))
      rw [e] at this
      cases this
end
theorem dkOf_inj {a b : Key} (h : dkOf a = dkOf b) : a = b := by
  have h : ([.inr "r", a] : List Key) = [.inr "r", b] := h
  injection h with _ h
  injection h
theorem alike_all {p : PT} {c : Bool} {xs : List AV} {R : AV} (k : List Key) : getA (puts (prL p c xs R) []) k = getA (puts (duL p c xs R) []) k := by
  rw [getA_puts, getA_puts]
  show (getA (prL p c xs R).reverse k).or none = (getA (duL p c xs R).reverse k).or none
  congr 1
  have nd : ((puts (rgL p c xs R) []).map (·.1)).Nodup := puts_keys List.nodup_nil
  have nd2 : (((puts (rgL p c xs R) []).map fun q => (dkOf q.1, q.2)).map (·.1)).Nodup := by
    rw [List.map_map]
    have : ((puts (rgL p c xs R) []).map (·.1)).map dkOf = (puts (rgL p c xs R) []).map ((fun q : List Key × AV => q.1) ∘ fun q => (dkOf q.1, q.2)) := by rw [List.map_map]; rfl
    rw [← this]
    exact List.Pairwise.map dkOf (fun a b h e => h (dkOf_inj e)) nd
  unfold duL
  rw [List.reverse_append, getA_app, getA_rev nd2]
  by_cases h1 : ∃ i, k = rK i
  · obtain ⟨i, rfl⟩ := h1
    rw [getA_dk, getA_puts, alike_r, getA_off (l := (List.map _ _).reverse)]
    · show _ = ((getA (rgL p c xs R).reverse (.inl i)).or none).or none
      cases getA (rgL p c xs R).reverse (.inl i) <;> rfl
    · intro q hq
      obtain ⟨j, _, rfl⟩ := List.mem_map.mp (List.mem_reverse.mp hq)
      exact fun z => rp_ne z.symm
  · by_cases h2 : ∃ z, k = pK z
    · obtain ⟨z, rfl⟩ := h2
      rw [getA_dkp, alike_p]
      rfl
    · rw [getA_off, getA_off (l := List.map _ _), getA_off (l := (List.map _ _).reverse)]
      · rfl
      · intro q hq
        obtain ⟨j, _, rfl⟩ := List.mem_map.mp (List.mem_reverse.mp hq)
        exact fun z => h2 ⟨_, z.symm⟩
      · intro q hq
        obtain ⟨⟨a, b⟩, hm, rfl⟩ := List.mem_map.mp hq
        have := getA_mem nd hm
        rw [getA_puts] at this
        have this : (getA (rgL p c xs R).reverse a).or none = some b := this
        have e : getA (rgL p c xs R).reverse a = some b := by
          cases q : getA (rgL p c xs R).reverse a with
          | none => rw [q] at this; cases this
          | some v => rw [q] at this; exact this
        have hm2 := List.mem_reverse.mp (getA_some e)
        unfold rgL at hm2
        have ai : ∃ i : Int, a = .inl i := by
          rcases List.mem_append.mp hm2 with hm2 | hm2
          · rcases List.mem_append.mp hm2 with hm2 | hm2
            · obtain ⟨j, _, z⟩ := List.mem_map.mp hm2
              cases z; exact ⟨_, rfl⟩
            · split at hm2
              · split at hm2
                · cases List.mem_singleton.mp hm2; exact ⟨_, rfl⟩
                · cases hm2
              · cases hm2
          · split at hm2
            · cases List.mem_singleton.mp hm2; exact ⟨_, rfl⟩
            · cases hm2
        obtain ⟨i, rfl⟩ := ai
        exact fun z => h1 ⟨i, z.symm⟩
      · intro q hq
        have hq := List.mem_reverse.mp hq
        unfold prL at hq
        intro z
        have : (∃ i, q.1 = rK i) ∨ ∃ y, q.1 = pK y := by
          rcases List.mem_append.mp hq with hq | hq
          · rcases List.mem_append.mp hq with hq | hq
            · obtain ⟨j, _, rfl⟩ := List.mem_map.mp hq
              show (∃ i, kyK p c xs.length j = rK i) ∨ ∃ y, kyK p c xs.length j = pK y
              unfold kyK
              split
              · exact .inl ⟨_, rfl⟩
              · exact .inr ⟨_, rfl⟩
            · split at hq
              · rw [List.mem_singleton.mp hq]
                show (∃ i, ctK p = rK i) ∨ ∃ y, ctK p = pK y
                unfold ctK
                cases p.co with
                | none => exact .inr ⟨_, rfl⟩
                | some i => exact .inl ⟨_, rfl⟩
              · cases hq
          · rw [List.mem_singleton.mp hq]
            show (∃ i, lkK p = rK i) ∨ ∃ y, lkK p = pK y
            unfold lkK
            cases p.li with
            | none => exact .inr ⟨_, rfl⟩
            | some i => exact .inl ⟨_, rfl⟩
        rw [z] at this
        exact this.elim h1 h2
section
variable {QV : AV → Hs → Prop} {QB : Bool → Hs → Prop} {E : XQ} {G : Hs} {ρ : En} {D : SP} {b t s : Nat}
theorem cmp_same {ls : List (List Key × AV)} : ∀ {ks : List (List Key × AV)}, (∀ q ∈ ks, getA ls q.1 = some q.2 ∧ eqF G q.2 q.2 = some true) → cmpT G ls ks = some true
  | [], _ => rfl
  | (k, x) :: r, h => by
    obtain ⟨h1, h2⟩ := h (k, x) (List.mem_cons_self ..)
    simp only [cmpT, h1, h2, cmp_same fun q hq => h q (List.mem_cons_of_mem _ hq)]
    rfl
theorem neT_same {v w : AV} {ks ls : List (List Key × AV)} (hv : dtR G v = some ks) (hw : dtR G w = some ls) (nk : (ks.map (·.1)).Nodup) (nl : (ls.map (·.1)).Nodup) (h : ∀ k, getA ks k = getA ls k) (he : ∀ q ∈ ks, eqF G q.2 q.2 = some true) : (fEqT true v w G).wp QV E = QV (.bl false) G := by
  have hl := same_len nk nl h
  have hc : cmpT G ls ks = some true := cmp_same fun q hq => ⟨by rw [← h]; exact getA_mem nk hq, he q hq⟩
  have e : fEqT true v w G = .ok (.bl false) G := by
    unfold fEqT
    rw [hv, hw]
    simp only [if_pos hl, hc]
    rfl
  rw [e, wp_ok]
theorem eqF_nice {v : AV} (h : niceV v 11 = true) : eqF G v v = some true := by
  rw [eqF_sm sm_refl sm_refl h h, SeqAt.eqv_refl _ (avd_nice v 11 h).ly]
theorem flp_ha {p : PT} : (fFld ["Vow"] "handed" p.iv G).wp QV E = QV (.tup (zAV p.ha)) G := fl_ha
theorem flp_re {p : PT} : (fFld ["Vow"] "results" p.iv G).wp QV E = QV (.tup (zAV p.re)) G := fl_re
theorem flp_li {p : PT} : (fFld ["Vow"] "link" p.iv G).wp QV E = QV (opA p.li) G := fl_li
theorem flp_co {p : PT} : (fFld ["Vow"] "count" p.iv G).wp QV E = QV (opA p.co) G := fl_co
theorem flp_up {p : PT} : (fFld ["Vow"] "up" p.iv G).wp QV E = QV (.bl p.up) G := fl_up
theorem lenT {xs : List AV} : (fLen [.tup xs] G).wp QV E = QV (.int xs.length) G := propext Iff.rfl
theorem max_ii {a c : Int} : (fMax2 [.int a, .int c] G).wp QV E = QV (.int (max a c)) G := by
  show QV (.int _) G = _
  congr 2
  first | rfl | (rw [Int.max_def]; split <;> split <;> omega)
theorem isN_op {o : Option Int} : (fIsN (opA o) .non G).wp QV E = QV (.bl o.isNone) G := by cases o <;> exact propext Iff.rfl
theorem notN_op {o : Option Int} : (fNotN (opA o) .non G).wp QV E = QV (.bl (!o.isNone)) G := by cases o <;> exact propext Iff.rfl
theorem int_bl {q : Bool} : (fInt [.bl q] G).wp QV E = QV (.int (if q then 1 else 0)) G := by cases q <;> exact propext Iff.rfl
theorem o1_b {o : Option Int} : (if o.isNone = true then (1 : Int) else 0) = o1 o := by cases o <;> rfl
theorem onp_wp {p : PT} {m : Nat} : (f_Vow_on_pile [p.iv, .int m] G).wp QV E = QV (.int (max 0 ((m : Int) - p.ha.length))) G := by
  unfold f_Vow_on_pile b_Vow_on_pile
  simp_arith [flp_ha, lenT, zAV_len, max_ii]
theorem cell_wp {p : PT} {k m : Nat} {c : Bool} (hk : p.ha.length ≤ k) (hm : k < m) : (f_cell_of [p.iv, .int (k : Nat), .int (m : Nat), .bl c] G).wp QV E = QV (.tup [.str "p", .int (celI p k m c)]) G := by
  have hi : insOf "Vow" "on_pile" G p.iv = true := by
    show (decide (("Vow" : Str) = "Vow") && !decide (("on_pile" : Str) ∈ vN)) = true
    decide +kernel
  unfold f_cell_of b_cell_of k_cell_of_2 k_cell_of_4
  simp_arith [flp_ha, flp_up, flp_li, flp_co, lenT, zAV_len, onp_wp, isN_op, int_bl, o1_b]
  rw [hi]
  unfold celI
  have em : max 0 ((m : Int) - p.ha.length) - 1 - ((k : Int) - p.ha.length) = (m : Int) - 1 - k := by omega
  rw [em]
  cases p.up <;> cases c <;> simp [isN_op, o1_b]
theorem putA_len {κ : Type} [DecidableEq κ] {kvs : List (κ × AV)} {k : κ} {v : AV} : (putA kvs k v).length ≤ kvs.length + 1 := by
  unfold putA
  split <;> simp
theorem puts_len {κ : Type} [DecidableEq κ] : ∀ {ps acc : List (κ × AV)}, (puts ps acc).length ≤ acc.length + ps.length
  | [], _ => Nat.le_refl _
  | q :: ps, acc => by
    have h1 := puts_len (ps := ps) (acc := putA acc q.1 q.2)
    have h2 := putA_len (kvs := acc) (k := q.1) (v := q.2)
    show (puts ps (putA acc q.1 q.2)).length ≤ _
    simp only [List.length_cons]
    omega
theorem puts_snoc {κ : Type} [DecidableEq κ] {ps acc : List (κ × AV)} {q : κ × AV} : puts (ps ++ [q]) acc = putA (puts ps acc) q.1 q.2 := by
  unfold puts
  rw [List.foldl_append]
  rfl
def thL (p : PT) (c : Bool) (xs : List AV) (j : Nat) : List (List Key × AV) := (List.range j).map fun k => (kyK p c xs.length k, xs.getD k .non)
theorem laid_wp {p : PT} {T : AV} {xs : List AV} {R : AV} {c : Bool} (hp : p.Dn) (hT : ∀ {G : Hs}, enOf G T = some (zipE (xs, none))) (hL : ∀ {G : Hs} {Q : AV → Hs → Prop} {E : XQ}, (fLen [T] G).wp Q E = Q (.int (xs.length : Nat)) G) (hl : xs.length ≤ 50) (hq : ∀ G', G'[G.length]? = some (.dt (puts (prL p c xs R) [])) → Kp 0 G G' → QV (.ref G.length) G') : (f_laid [p.iv, T, R, .bl c] G).wp QV E := by
  have esz := szl_eq
  have h4 := hp.ok.h4
  unfold f_laid b_laid
  simp_arith []
  unfold k_laid_2
  rw [wp_seq]
  have g0 : (G ++ [AO.dt []])[G.length]? = some (.dt []) := by simp
  refine wp_forK (k := zipE (xs, none)) (en_ok (v := T) (var_ok rfl) hT) (fun j ρ G' => ∃ a5 a6, ρ = [some p.iv, some T, some R, some (.bl c), some (.ref G.length), a5, a6, none] ∧ G'[G.length]? = some (.dt (puts (thL p c xs j) [])) ∧ Kp 0 G G')
    ⟨_, _, rfl, g0, Kp.app _ _ _⟩ (fun _ _ _ _ _ => True.intro) (fun j v ρ G' hv ⟨a5, a6, er, hn, k⟩ => ?_) fun ρ G' ⟨a5, a6, er, hn, k⟩ => ?_
  · subst er
    rw [zipE_get] at hv
    have hj : j < xs.length := by
      by_cases h : j < xs.length
      · exact h
      · rw [List.getElem?_eq_none (show xs.length ≤ j by omega)] at hv; cases hv
    rw [List.getElem?_eq_getElem hj] at hv
    cases hv
    have ex : xs.getD j .non = xs[j] := by rw [List.getD_eq_getElem?_getD, List.getElem?_eq_getElem hj]; rfl
    have pl := puts_len (ps := thL p c xs j) (acc := [])
    have tl : (thL p c xs j).length = j := by unfold thL; simp
    simp only [List.length_nil] at pl
    have next : putA (puts (thL p c xs j) []) (kyK p c xs.length j) xs[j] = puts (thL p c xs (j + 1)) [] := by
      have : thL p c xs (j + 1) = thL p c xs j ++ [(kyK p c xs.length j, xs.getD j .non)] := by unfold thL; rw [List.range_succ, List.map_append]; rfl
      rw [this, puts_snoc, ex]
    rw [wp_gT2]
    unfold l_laid_2
    simp_arith [flp_ha, lenT, zAV_len]
    by_cases hc : j < p.ha.length
    · rw [decide_eq_true (show ((j : Nat) : Int) < (p.ha.length : Nat) by omega)]
      simp_arith [flp_ha]
      have ek : kyK p c xs.length j = rK (p.ha.getD j 0) := by unfold kyK; rw [if_pos hc]
      rw [wp_ixT (by omega) (by rw [zAV_len]; omega) (w := .int (p.ha.getD j 0)) (by rw [zAV_get, Int.toNat_natCast, List.getD_eq_getElem?_getD, List.getElem?_eq_getElem hc]; rfl)]
      simp_arith []
      rw [wp_dpT hn (k := rK (p.ha.getD j 0)) rfl (by omega), ← ek, next]
      exact ⟨_, _, rfl, Pl.set_self hn, k.setN (by omega)⟩
    · rw [decide_eq_false (show ¬ ((j : Nat) : Int) < (p.ha.length : Nat) by omega)]
      simp_arith []
      rw [hL]
      simp_arith [gP, List.filterMap_cons, List.filterMap_nil]
      have ek : kyK p c xs.length j = pK (celI p j xs.length c) := by unfold kyK; rw [if_neg hc]
      rw [cell_wp (by omega) hj]
      rw [wp_dpT hn (k := pK (celI p j xs.length c)) rfl (by omega), ← ek, next]
      exact ⟨_, _, rfl, Pl.set_self hn, k.setN (by omega)⟩
  · subst er
    have e2 : (zipE (xs, none)).1.length = xs.length := zipE_len
    rw [e2] at hn
    have pl := puts_len (ps := thL p c xs xs.length) (acc := [])
    have tl : (thL p c xs xs.length).length = xs.length := by unfold thL; simp
    simp only [List.length_nil] at pl
    -- the link
    have lnk : ∀ (a7 : Option AV) (G1 : Hs) (ps : List (List Key × AV)), G1[G.length]? = some (.dt (puts ps [])) → ps.length ≤ 60 → Kp 0 G G1 → ps ++ [(lkK p, rowA R)] = prL p c xs R → (k_laid_10 [some p.iv, some T, some R, some (.bl c), some (.ref G.length), a5, a6, a7] G1).wp { nx := fun _ G => QV .non G, rt := QV, bk := fun _ _ => False, ct := fun _ _ => False, ex := E } := fun a7 G1 ps h1 hps k1 epr => by
      have pl := puts_len (ps := ps) (acc := [])
      simp only [List.length_nil] at pl
      have fin : ∀ w, tkOf w = some (lkK p) → (fDpT (.ref G.length) w (.tup [.str "row", R]) G1).wp (fun _ G2 => QV (.ref G.length) G2) E := fun w hw => by
        rw [wp_dpT h1 hw (by omega)]
        have e3 : putA (puts ps []) (lkK p) (.tup [.str "row", R]) = puts (prL p c xs R) [] := by rw [← epr, puts_snoc]; rfl
        rw [e3]
        exact hq _ (Pl.set_self h1) (k1.setN (by omega))
      unfold k_laid_10
      simp_arith [flp_li, isN_op]
      unfold lkK at fin
      cases q : p.li with
      | none =>
        rw [q] at fin
        simp_arith [Option.isNone]
        exact fin (.tup [.str "p", .int 0]) rfl
      | some i =>
        rw [q] at fin
        simp_arith [Option.isNone]
        exact fin (.tup [.str "r", .int i]) rfl
    unfold k_laid_7
    simp_arith []
    cases c with
    | false =>
      simp_arith []
      exact lnk _ G' (thL p false xs xs.length) hn (by omega) k (by unfold prL thL; simp)
    | true =>
      simp_arith [flp_co, flp_li, isN_op, int_bl]
      have fin : ∀ w, tkOf w = some (ctK p) → (k_laid_9 [some p.iv, some T, some R, some (.bl true), some (.ref G.length), a5, a6, some w] G').wp { nx := fun ρ G => (k_laid_10 ρ G).wp { nx := fun _ G => QV .non G, rt := QV, bk := fun _ _ => False, ct := fun _ _ => False, ex := E }, rt := QV, bk := fun _ _ => False, ct := fun _ _ => False, ex := E } := fun w hw => by
        unfold k_laid_9
        simp_arith []
        rw [hL]
        simp_arith []
        rw [wp_dpT hn hw (by omega)]
        refine lnk _ _ (thL p true xs xs.length ++ [(ctK p, .int xs.length)]) ?_ (by rw [List.length_append]; simp; omega) (k.setN (by omega)) (by unfold prL thL; simp)
        rw [Pl.set_self hn, puts_snoc]
      unfold ctK at fin
      cases q : p.co with
      | none =>
        rw [q] at fin
        simp_arith [Option.isNone]
        have := fin (.tup [.str "p", .int (o1 p.li)]) rfl
        rw [← o1_b] at this
        exact this
      | some i =>
        rw [q] at fin
        simp_arith [Option.isNone]
        exact fin (.tup [.str "r", .int i]) rfl
end
end L_k03
namespace L_k03
open PySem L2 Vz
section
variable {QV : AV → Hs → Prop} {QB : Bool → Hs → Prop} {E : XQ} {G : Hs} {ρ : En} {D : SP} {b t s : Nat}
theorem dput_wp {n : Nat} {kvs : List (Key × AV)} {w u : AV} {k : Key} {QU : Unit → Hs → Prop} (h : G[n]? = some (.dk kvs)) (e : kOf w = some k) (hl : kvs.length < szl) : (fDp (.ref n) w u G).wp QU E = QU () (G.set n (.dk (putA kvs k u))) := by
  have : Vz.dkOf G (.ref n) = some (n, kvs) := by simp only [Vz.dkOf, h]
  unfold fDp
  rw [this, e]
  simp only [if_pos hl]
  rfl
theorem revM_L {n : Nat} {xs : List AV} (h : G[n]? = some (.lst xs)) : (fRevM (.ref n) [] G).wp QV E = QV .non (G.set n (.lst xs.reverse)) := by
  simp only [fRevM, h]
  rfl
theorem slI {xs : List AV} {lo hi : Option Int} : (fSl (.ls xs) lo hi G).wp (fzQ QV) E = QV (.ls (cutA xs lo hi)) (G ++ [.gone]) := by
  have e : fSl (.ls xs) lo hi G = .ok (.ref G.length) (G ++ [.lst (cutA xs lo hi)]) := by simp only [fSl, tupOf, lstOf]
  rw [e, wp_ok, fzQ_lst List.getElem?_concat_length]
  simp
theorem cut_drop {ys : List AV} {k : Nat} : cutA ys (some (k : Int)) none = ys.drop k := by
  have e : HT.sIx ys.length 0 (some (k : Int)) = min k ys.length := HT.sIx_nat _ _ _
  have e2 : HT.sIx ys.length ys.length none = ys.length := rfl
  unfold cutA
  rw [e, e2]
  rcases Nat.le_total k ys.length with l | l
  · rw [Nat.min_eq_left l]; exact List.take_of_length_le (by rw [List.length_drop]; omega)
  · rw [Nat.min_eq_right l, List.drop_of_length_le l, List.drop_length, List.take_nil]
theorem px {p : PT} {i : Int} {v : AV} (h0 : 0 ≤ i) (hi : p.xs[i.toNat]? = some v) : (fIx p.av (.int i) G).wp QV E = QV v G := wp_ixT (xs := p.xs) h0 (by have := (List.getElem?_eq_some_iff.mp hi).1; omega) hi
theorem p0 {p : PT} : (fIx p.av (.int 0) G).wp QV E = QV (.tup (zAV p.ha)) G := px (by decide) rfl
theorem p1 {p : PT} : (fIx p.av (.int 1) G).wp QV E = QV (.tup (zAV p.re)) G := px (by decide) rfl
theorem p3 {p : PT} : (fIx p.av (.int 3) G).wp QV E = QV (opA p.li) G := px (by decide) rfl
theorem p4 {p : PT} : (fIx p.av (.int 4) G).wp QV E = QV (opA p.co) G := px (by decide) rfl
theorem p5 {p : PT} : (fIx p.av (.int 5) G).wp QV E = QV (.bl p.up) G := px (by decide) rfl
theorem min_ii {x y : Int} : (fMin2 [.int x, .int y] G).wp QV E = QV (.int (if y < x then y else x)) G := propext Iff.rfl
theorem ixLs {xs : List AV} {k : Nat} (h : k < xs.length) : (fIx (.ls xs) (.int (k : Nat)) G).wp QV E = QV (xs.getD k .non) G := by
  have e1 : seqOf G (.ls xs) = some xs := rfl
  have e2 : atI xs ((k : Nat) : Int) = some (xs.getD k .non) := by
    unfold atI
    have : ixN xs.length ((k : Nat) : Int) = some k := by
      unfold ixN
      rw [if_pos (by omega), if_pos (by omega)]
      simp
    rw [this]
    show xs[k]? = _
    rw [List.getD_eq_getElem?_getD, List.getElem?_eq_getElem h]
    rfl
  simp only [fIx, e1, e2, wp_ok]
theorem ixZ {l : List Int} {k : Nat} (h : k < l.length) : (fIx (.tup (zAV l)) (.int (k : Nat)) G).wp QV E = QV (.int (l.getD k 0)) G := by
  rw [wp_ixT (by omega) (by rw [zAV_len]; omega) (w := .int (l.getD k 0)) (by rw [zAV_get, Int.toNat_natCast, List.getD_eq_getElem?_getD, List.getElem?_eq_getElem h]; rfl)]
def hnL (p : PT) (xs : List AV) : List (Key × AV) := (List.range (min p.ha.length xs.length)).map fun k => (.inl (p.ha.getD k 0), xs.getD k .non)
def prA : Key × AV → AV
  | (.inl i, v) => .tup [.int i, v]
  | (.inr s, v) => .tup [.str s, v]
theorem pairsA_pr : ∀ l : List (Key × AV), pairsA (l.map prA) = some l
  | [] => rfl
  | (.inl i, v) :: r => by
    rw [List.map_cons]
    unfold pairsA
    rw [pairsA_pr r]
    rfl
  | (.inr i, v) :: r => by
    rw [List.map_cons]
    unfold pairsA
    rw [pairsA_pr r]
    rfl
def hnY (p : PT) (xs : List AV) : AV → AV
  | .int i => .tup [.int (p.ha.getD i.toNat 0), xs.getD i.toNat .non]
  | v => v
theorem lpile_wp {p : PT} {xs : List AV} {R : AV} {c : Bool} (hp : p.Dn) (hl : xs.length ≤ 50) (hq : ∀ G', Kp 0 G G' → QV (.tup [.ls (plP p c xs R), .id ((puts (rgL p c xs R) []).map (·.1)) ((puts (rgL p c xs R) []).map (·.2))]) G') : (f_law_pile [p.av, .ls xs, R, .bl c] G).wp QV E := by
  have esz := szl_eq
  have h4 := hp.ok.h4
  unfold f_law_pile b_law_pile
  simp_arith []
  have hk : (mRg1 (mBlt fMin2 (mCons (mBlt fLen (mCons (m2 fIx (mVar 0) (mC (.int 0))) mNil)) (mCons (mBlt fLen (mCons (mVar 1) mNil)) mNil)))) [some p.av, some (.ls xs), some R, some (.bl c), none, none, none] G = .ok (rgA 0 ((min p.ha.length xs.length : Nat) : Int), none) G := by
    refine rg1_ok (eq_of_wp ?_) (by omega) (by omega)
    simp_arith [p0, lenT, zAV_len, min_ii]
    congr 1
    split <;> omega
  refine wp_lcM hk (Kp.refl _ _) (hnY p xs) (by rw [rgA_len]; omega) (fun v hv G1 k1 => ?_) fun G1 k1 => ?_
  · obtain ⟨j, hj, rfl⟩ := List.mem_map.mp hv
    have hj : j < min p.ha.length xs.length := by simpa using hj
    rw [Int.zero_add]
    refine ⟨_, rfl, ?_⟩
    simp_arith [p0]
    rw [ixZ (by omega)]
    simp_arith []
    rw [ixLs (by omega)]
    simp_arith []
    exact ⟨by simp [hnY], Kp.refl _ _⟩
  have eh : (rgA 0 ((min p.ha.length xs.length : Nat) : Int)).map (hnY p xs) = (hnL p xs).map prA := by
    unfold rgA hnL
    rw [List.map_map, List.map_map]
    simp only [Int.sub_zero, Int.toNat_natCast]
    refine List.map_congr_left fun k _ => ?_
    simp [hnY, prA]
  rw [eh, dict_ls (pairsA_pr _)]
  have g1 : (G1 ++ [AO.dk (mergeA (hnL p xs))])[G1.length]? = some (.dk (puts (hnL p xs) [])) := by simp [mergeA, puts]
  have k2 : Kp 0 G (G1 ++ [AO.dk (mergeA (hnL p xs))]) := k1.trans (Kp.app 0 G1 _)
  have hle := k1.le
  generalize hn : G1.length = n at g1 k2 hle ⊢
  generalize G1 ++ [AO.dk (mergeA (hnL p xs))] = G2 at g1 k2 ⊢
  simp_arith []
  unfold k_law_pile_2
  simp_arith []
  rw [wp_fz]
  simp_arith [p0, lenT, zAV_len]
  rw [slI, cut_drop]
  have g3 : (G2 ++ [AO.gone])[n]? = some (.dk (puts (hnL p xs) [])) := by rw [List.getElem?_append_left (Pl.lt_of g1)]; exact g1
  have k3 : Kp 0 G (G2 ++ [AO.gone]) := k2.trans (Kp.app 0 G2 _)
  generalize G2 ++ [AO.gone] = G3 at g3 k3 ⊢
  have eL : fList [.ls (xs.drop p.ha.length)] G3 = .ok (.ref G3.length) (G3 ++ [.lst (xs.drop p.ha.length)]) := rfl
  rw [eL, wp_ok]
  have g4 : (G3 ++ [AO.lst (xs.drop p.ha.length)])[n]? = some (.dk (puts (hnL p xs) [])) := by rw [List.getElem?_append_left (Pl.lt_of g3)]; exact g3
  have m4 : (G3 ++ [AO.lst (xs.drop p.ha.length)])[G3.length]? = some (.lst (xs.drop p.ha.length)) := by simp
  have k4 : Kp 0 G (G3 ++ [AO.lst (xs.drop p.ha.length)]) := k3.trans (Kp.app 0 G3 _)
  have hmn : n < G3.length := Pl.lt_of g3
  have hle3 := k3.le
  generalize hm : G3.length = m at m4 hmn hle3 ⊢
  generalize G3 ++ [AO.lst (xs.drop p.ha.length)] = G4 at g4 m4 k4 ⊢
  unfold k_law_pile_3
  simp_arith [p5]
  have hll : (xs.drop p.ha.length).length ≤ 50 := by rw [List.length_drop]; omega
  have pl0 := puts_len (ps := hnL p xs) (acc := [])
  have hnl : (hnL p xs).length ≤ 4 := by unfold hnL; rw [List.length_map, List.length_range]; omega
  simp only [List.length_nil] at pl0
  -- behind the reversing
  have s5 : ∀ (G5 : Hs) (B : List AV), B = (if p.up then (xs.drop p.ha.length).reverse else xs.drop p.ha.length) → B.length ≤ 50 → G5[n]? = some (.dk (puts (hnL p xs) [])) → G5[m]? = some (.lst B) → Kp 0 G G5 →
      (k_law_pile_5 [some p.av, some (.ls xs), some R, some (.bl c), some (.ref n), some (.ref m), none] G5).wp { nx := fun _ G => QV .non G, rt := QV, bk := fun _ _ => False, ct := fun _ _ => False, ex := E } := fun G5 B eB lB g5 m5 k5 => by
    -- behind the count
    have s9 : ∀ (G6 : Hs) (B2 : List AV) (rs : List (Key × AV)), B2 = B ++ (if c && p.co.isNone then [.int xs.length] else []) → B2.length ≤ 51 → rs.length ≤ 8 → rs = hnL p xs ++ (match p.co with
        | some i => if c then [(.inl i, .int xs.length)] else []
        | none => []) → G6[n]? = some (.dk (puts rs [])) → G6[m]? = some (.lst B2) → Kp 0 G G6 →
        (k_law_pile_9 [some p.av, some (.ls xs), some R, some (.bl c), some (.ref n), some (.ref m), none] G6).wp { nx := fun _ G => QV .non G, rt := QV, bk := fun _ _ => False, ct := fun _ _ => False, ex := E } := fun G6 B2 rs eB2 lB2 lrs ers g6 m6 k6 => by
      have plr := puts_len (ps := rs) (acc := [])
      simp only [List.length_nil] at plr
      have s13 : ∀ (G7 : Hs), G7[n]? = some (.dk (puts (rgL p c xs R) [])) → G7[m]? = some (.lst (plP p c xs R)) → Kp 0 G G7 →
          (k_law_pile_13 [some p.av, some (.ls xs), some R, some (.bl c), some (.ref n), some (.ref m), none] G7).wp { nx := fun _ G => QV .non G, rt := QV, bk := fun _ _ => False, ct := fun _ _ => False, ex := E } := fun G7 g7 m7 k7 => by
        unfold k_law_pile_13
        simp_arith []
        rw [wp_fz]
        simp_arith []
        rw [fzQ_lst m7]
        have g8 : (G7.set m .gone)[n]? = some (.dk (puts (rgL p c xs R) [])) := by rw [Pl.set_other (by omega)]; exact g7
        simp_arith []
        rw [wp_fz]
        simp_arith []
        rw [fzQ_ref g8 rfl]
        exact hq _ ((k7.setN (by omega)).setN (by omega))
      unfold k_law_pile_9
      simp_arith [p3]
      rw [isN_op]
      cases q : p.li with
      | none =>
        simp_arith [Option.isNone, isL_L m6]
        rw [wp_appL m6]
        refine ⟨by omega, ?_⟩
        refine s13 _ ?_ ?_ (k6.setN (by omega))
        · rw [Pl.set_other (by omega), g6, ers]
          unfold rgL
          rw [q, List.append_nil]
          rfl
        · rw [Pl.set_self m6, eB2, eB]
          unfold plP
          rw [q]
          rfl
      | some i =>
        simp_arith [Option.isNone, p3]
        rw [show opA (some i) = .int i from rfl]
        show ((fDp (.ref n) (.int i) _ G6).wp _ _ : Prop)
        rw [dput_wp g6 (k := .inl i) rfl (by omega)]
        refine s13 _ ?_ ?_ (k6.setN (by omega))
        · rw [Pl.set_self g6, ers]
          unfold rgL
          rw [q]
          simp only
          rw [puts_snoc]
          rfl
        · rw [Pl.set_other (by omega), m6, eB2, eB]
          unfold plP
          rw [q]
          simp
    unfold k_law_pile_5
    simp_arith []
    cases c with
    | false =>
      simp_arith []
      unfold k_law_pile_7
      simp_arith []
      exact s9 G5 B (hnL p xs) (by simp) (by omega) (by omega) (by cases p.co <;> simp) g5 m5 k5
    | true =>
      simp_arith [p4]
      rw [isN_op]
      cases q : p.co with
      | none =>
        simp_arith [Option.isNone, isL_L m5]
        rw [wp_appL m5]
        refine ⟨by omega, ?_⟩
        unfold k_law_pile_7
        simp_arith [p4]
        rw [q]
        simp_arith [opA]
        refine s9 _ (B ++ [.int xs.length]) (hnL p xs) (by rw [q]; rfl) (by rw [List.length_append]; simp; omega) (by omega) (by rw [q]; simp) ?_ ?_ (k5.setN (by omega))
        · rw [Pl.set_other (by omega)]; exact g5
        · exact Pl.set_self m5
      | some i =>
        simp_arith [Option.isNone]
        unfold k_law_pile_7
        simp_arith [p4]
        rw [notN_op, q]
        simp_arith [Option.isNone, p4]
        rw [show opA (some i) = .int i from rfl]
        show ((fDp (.ref n) (.int i) _ G5).wp _ _ : Prop)
        rw [dput_wp g5 (k := .inl i) rfl (by omega)]
        refine s9 _ B (hnL p xs ++ [(.inl i, .int xs.length)]) (by rw [q]; simp) (by omega) (by rw [List.length_append]; simp; omega) (by rw [q]; rfl) ?_ ?_ (k5.setN (by omega))
        · rw [Pl.set_self g5, puts_snoc]
        · rw [Pl.set_other (by omega)]; exact m5
  cases q : p.up with
  | true =>
    simp_arith [isL_L m4]
    rw [revM_L m4]
    refine s5 _ (xs.drop p.ha.length).reverse (by rw [q]; rfl) (by rw [List.length_reverse]; exact hll) ?_ (Pl.set_self m4) (k4.setN (by omega))
    rw [Pl.set_other (by omega)]
    exact g4
  | false =>
    simp_arith []
    exact s5 _ (xs.drop p.ha.length) (by rw [q]; rfl) hll g4 m4 k4
end
end L_k03
namespace L_k03
open PySem L2 Vz
theorem tk_r (k : Key) : tkOf (.tup [.str "r", keyV k]) = some [.inr "r", k] := by cases k <;> rfl
def dtA (kvs : List (List Key × AV)) : AV := .it (kvs.map (·.1)) (kvs.map (·.2))
theorem zip_un {κ : Type} {kvs : List (κ × AV)} : (kvs.map (·.1)).zip (kvs.map (·.2)) = kvs := by
  induction kvs with
  | nil => rfl
  | cons q r ih => rw [List.map_cons, List.map_cons, List.zip_cons_cons, ih]
section
variable {QV : AV → Hs → Prop} {QB : Bool → Hs → Prop} {E : XQ} {G : Hs} {ρ : En} {D : SP} {b t s : Nat}
theorem dtR_A {kvs : List (List Key × AV)} : dtR G (dtA kvs) = some kvs := by
  show some (((kvs.map (·.1)).zip (kvs.map (·.2)))) = _
  rw [zip_un]
theorem dgZ {ks : List Key} {xs : List AV} {i : Int} {v : AV} (h : getA (ks.zip xs) (.inl i) = some v) : (fDgZ (.fd ks xs) (.int i) G).wp QV E = QV v G := by
  have e : fDgZ (.fd ks xs) (.int i) G = .ok v G := by
    unfold fDgZ
    simp only [dkZ, kOf, h]
  rw [e, wp_ok]
theorem pairsT_app : ∀ {xs ys : List AV} {l m : List (List Key × AV)}, pairsT xs = some l → pairsT ys = some m → pairsT (xs ++ ys) = some (l ++ m)
  | [], ys, l, m, h, h2 => by
    cases h
    exact h2
  | x :: xs, ys, l, m, h, h2 => by
    rw [List.cons_append]
    unfold pairsT at h ⊢
    cases e : pairT x with
    | none => rw [e] at h; cases h
    | some p =>
      cases e2 : pairsT xs with
      | none => rw [e, e2] at h; cases h
      | some ps =>
        rw [e, e2] at h
        cases h
        rw [pairsT_app e2 h2]
        rfl
theorem pairsT_map {α : Type} {f : α → AV} {g : α → List Key × AV} (h : ∀ a, ∃ k v, f a = .tup [k, v] ∧ tkOf k = some (g a).1 ∧ v = (g a).2) : ∀ l : List α, pairsT (l.map f) = some (l.map g)
  | [] => rfl
  | a :: l => by
    obtain ⟨k, v, e1, e2, e3⟩ := h a
    rw [List.map_cons, List.map_cons]
    unfold pairsT
    have : pairT (f a) = some (g a) := by
      rw [e1]
      show (tkOf k).map (fun k => (k, v)) = some (g a)
      rw [e2, e3]
      rfl
    rw [this, pairsT_map h l]
/-- what may stand in the law's registers -/
def vOk (v : AV) : Prop := (∃ i : Int, v = .int i ∧ i.natAbs ≤ 2000000000) ∨ ∃ i : Int, v = rowA (.int i) ∧ i.natAbs ≤ 2000000000
theorem vOk.pl {v : AV} (h : vOk v) : plA 4 v = true := by
  rcases h with ⟨i, rfl, _⟩ | ⟨i, rfl, _⟩
  · rfl
  · rfl
theorem vOk.nice {v : AV} (h : vOk v) : niceV v 11 = true := by
  rcases h with ⟨i, rfl, h⟩ | ⟨i, rfl, h⟩
  · rw [niceV]
    exact decide_eq_true (by omega)
  · have q : niceS "row" = true := by decide +kernel
    unfold rowA
    simp only [niceV, niceVs, q, Bool.true_and, Bool.and_true, decide_eq_true_eq]
    omega
def okL (xs : List AV) : Prop := ∀ v ∈ xs, ∃ i : Int, v = .int i ∧ i.natAbs ≤ 2000000000
theorem okL.getD {xs : List AV} (h : okL xs) {k : Nat} (hk : k < xs.length) : vOk (xs.getD k .non) := by
  rw [List.getD_eq_getElem?_getD, List.getElem?_eq_getElem hk]
  exact .inl (h _ (List.getElem_mem hk))
theorem puts_mem {κ : Type} [DecidableEq κ] {q : κ × AV} : ∀ {ps acc : List (κ × AV)}, q ∈ puts ps acc → (∃ r ∈ ps, r.2 = q.2) ∨ ∃ r ∈ acc, r.2 = q.2
  | [], acc, h => .inr ⟨q, h, rfl⟩
  | p :: ps, acc, h => by
    rcases puts_mem (ps := ps) (acc := putA acc p.1 p.2) h with ⟨r, hr, e⟩ | ⟨r, hr, e⟩
    · exact .inl ⟨r, List.mem_cons_of_mem _ hr, e⟩
    · unfold putA at hr
      split at hr
      · obtain ⟨x, hx, rfl⟩ := List.mem_map.mp hr
        split at e
        · exact .inl ⟨p, List.mem_cons_self .., e⟩
        · exact .inr ⟨x, hx, e⟩
      · rcases List.mem_append.mp hr with hr | hr
        · exact .inr ⟨r, hr, e⟩
        · rw [List.mem_singleton.mp hr] at e
          exact .inl ⟨p, List.mem_cons_self .., e⟩
theorem rg_ok {p : PT} {c : Bool} {xs : List AV} {i : Int} (hx : okL xs) (hl : xs.length ≤ 50) (hi : i.natAbs ≤ 2000000000) : ∀ q ∈ rgL p c xs (.int i), vOk q.2 := fun q hq => by
  unfold rgL at hq
  rcases List.mem_append.mp hq with hq | hq
  · rcases List.mem_append.mp hq with hq | hq
    · obtain ⟨k, hk, rfl⟩ := List.mem_map.mp hq
      have := List.mem_range.mp hk
      exact hx.getD (by omega)
    · split at hq
      · split at hq
        · rw [List.mem_singleton.mp hq]
          exact .inl ⟨_, rfl, by omega⟩
        · cases hq
      · cases hq
  · split at hq
    · rw [List.mem_singleton.mp hq]
      exact .inr ⟨i, rfl, hi⟩
    · cases hq
theorem rgs_ok {p : PT} {c : Bool} {xs : List AV} {i : Int} (hx : okL xs) (hl : xs.length ≤ 50) (hi : i.natAbs ≤ 2000000000) : ∀ q ∈ puts (rgL p c xs (.int i)) [], vOk q.2 := fun q hq => by
  rcases puts_mem hq with ⟨r, hr, e⟩ | ⟨r, hr, _⟩
  · rw [← e]
    exact rg_ok hx hl hi r hr
  · cases hr
theorem pr_ok {p : PT} {c : Bool} {xs : List AV} {i : Int} (hx : okL xs) (hl : xs.length ≤ 50) (hi : i.natAbs ≤ 2000000000) : ∀ q ∈ puts (prL p c xs (.int i)) [], vOk q.2 := fun q hq => by
  rcases puts_mem hq with ⟨r, hr, e⟩ | ⟨r, hr, _⟩
  · rw [← e]
    unfold prL at hr
    rcases List.mem_append.mp hr with hr | hr
    · rcases List.mem_append.mp hr with hr | hr
      · obtain ⟨k, hk, rfl⟩ := List.mem_map.mp hr
        exact hx.getD (List.mem_range.mp hk)
      · split at hr
        · rw [List.mem_singleton.mp hr]
          exact .inl ⟨_, rfl, by omega⟩
        · cases hr
    · rw [List.mem_singleton.mp hr]
      exact .inr ⟨i, rfl, hi⟩
  · cases hr
def pkY (P : List AV) : AV → AV
  | .int i => .tup [.tup [.str "p", .int i], P.getD (P.length - 1 - i.toNat) .non]
  | v => v
def rkY (kvs : List (Key × AV)) : AV → AV
  | .int i => .tup [.tup [.str "r", .int i], (getA kvs (.inl i)).getD .non]
  | v => v
theorem rg_int {p : PT} {c : Bool} {xs : List AV} {R : AV} : ∀ q ∈ rgL p c xs R, ∃ i : Int, q.1 = .inl i := fun q hq => by
  unfold rgL at hq
  rcases List.mem_append.mp hq with hq | hq
  · rcases List.mem_append.mp hq with hq | hq
    · obtain ⟨k, hk, rfl⟩ := List.mem_map.mp hq
      exact ⟨_, rfl⟩
    · split at hq
      · split at hq
        · rw [List.mem_singleton.mp hq]; exact ⟨_, rfl⟩
        · cases hq
      · cases hq
  · split at hq
    · rw [List.mem_singleton.mp hq]; exact ⟨_, rfl⟩
    · cases hq
theorem rgs_int {p : PT} {c : Bool} {xs : List AV} {R : AV} : ∀ q ∈ puts (rgL p c xs R) [], ∃ i : Int, q.1 = .inl i := fun q hq => by
  have := getA_mem (puts_keys (acc := ([] : List (Key × AV))) (by simp)) (show (q.1, q.2) ∈ puts (rgL p c xs R) [] from hq)
  rw [getA_puts] at this
  have this : (getA (rgL p c xs R).reverse q.1).or none = some q.2 := this
  cases e : getA (rgL p c xs R).reverse q.1 with
  | none => rw [e] at this; cases this
  | some v => exact rg_int (q.1, v) (List.mem_reverse.mp (getA_some e))
theorem rgL_len {p : PT} {c : Bool} {xs : List AV} {R : AV} : (rgL p c xs R).length ≤ p.ha.length + 2 := by
  unfold rgL
  rw [List.length_append, List.length_append, List.length_map, List.length_range]
  rcases p.co with _ | i <;> rcases p.li with _ | j <;> cases c <;> simp <;> omega
theorem gT2N {i j : Nat} {v w : AV} : MG.wp (gTp 2 (gCo (gNm i) (gCo (gNm j) gNi)) (.tup [v, w]) ρ G) D = D.nx ((ρ.set i (some v)).set j (some w)) G := propext Iff.rfl
theorem plP_len {p : PT} {c : Bool} {xs : List AV} {i : Int} (hl : xs.length ≤ 50) : (plP p c xs (.int i)).length ≤ 60 := by
  unfold plP
  rw [List.length_append, List.length_append]
  have h1 : (if p.up then (xs.drop p.ha.length).reverse else xs.drop p.ha.length).length ≤ 50 := by split <;> simp <;> omega
  have h2 : (if c && p.co.isNone then [AV.int xs.length] else []).length ≤ 1 := by split <;> simp
  have h3 : (if p.li.isNone then [rowA (.int i)] else []).length ≤ 1 := by split <;> simp
  omega
theorem duL_eq {p : PT} {c : Bool} {xs : List AV} {i : Int} : duL p c xs (.int i) = (List.range (plP p c xs (.int i)).length).map (fun (k : Nat) => (pK (k : Nat), (plP p c xs (.int i)).getD ((plP p c xs (.int i)).length - 1 - k) .non)) ++ (puts (rgL p c xs (.int i)) []).map fun q => (dkOf q.1, q.2) := rfl
theorem rgs_len {p : PT} {c : Bool} {xs : List AV} {i : Int} (hp : p.Dn) : (puts (rgL p c xs (.int i)) []).length ≤ 60 := by
  have h1 := puts_len (ps := rgL p c xs (.int i)) (acc := [])
  have h4 := hp.ok.h4
  have h2 := rgL_len (p := p) (c := c) (xs := xs) (R := .int i)
  simp only [List.length_nil] at h1
  omega
theorem llaid_wp {p : PT} {xs : List AV} {i : Int} {c : Bool} (hp : p.Dn) (hl : xs.length ≤ 50) (hx : okL xs) (hi : i.natAbs ≤ 2000000000) (hq : ∀ G', Kp 0 G G' → QV (dtA (puts (duL p c xs (.int i)) [])) G') : (f_law_laid [p.av, .ls xs, .int i, .bl c] G).wp QV E := by
  have esz := szl_eq
  unfold f_law_laid b_law_laid
  simp_arith [wp_asgT]
  refine lpile_wp hp hl fun G1 k1 => ?_
  simp_arith [gT2N]
  unfold k_law_laid_2
  simp_arith []
  have lP := plP_len (p := p) (c := c) (i := i) hl
  have nd : ((puts (rgL p c xs (.int i)) []).map (·.1)).Nodup := puts_keys (by simp)
  have hv := rgs_ok (p := p) (c := c) hx hl hi
  have hint := rgs_int (p := p) (c := c) (xs := xs) (R := .int i)
  have ldu := duL_eq (p := p) (c := c) (xs := xs) (i := i)
  have lK := rgs_len (c := c) (xs := xs) (i := i) hp
  generalize plP p c xs (.int i) = P at *
  generalize puts (rgL p c xs (.int i)) [] = kvs at *
  rw [wp_fzSet (by simp)]
  have hk : (mRg1 (mBlt fLen (mCons (mVar 4) mNil))) [some p.av, some (.ls xs), some (.int i), some (.bl c), some (.ls P), some (.id (kvs.map (·.1)) (kvs.map (·.2))), none, none, none] G1 = .ok (rgA 0 (P.length : Nat), none) G1 := by
    refine rg1_ok (eq_of_wp ?_) (by omega) (by omega)
    simp_arith []
  refine wp_lcM hk (Kp.refl _ _) (pkY P) (by rw [rgA_len]; omega) (fun v hv2 G2 k2 => ?_) fun G2 k2 => ?_
  · obtain ⟨j, hj, rfl⟩ := List.mem_map.mp hv2
    have hj : j < P.length := by simpa using hj
    rw [Int.zero_add]
    refine ⟨_, rfl, ?_⟩
    simp_arith []
    rw [show ((P.length : Nat) : Int) - 1 - (j : Nat) = ((P.length - 1 - j : Nat) : Int) by omega, ixLs (by omega)]
    simp_arith []
    exact ⟨by simp [pkY], Kp.refl _ _⟩
  simp_arith []
  unfold k_law_laid_3
  simp_arith []
  rw [wp_fz]
  simp_arith []
  rw [keI_wp (v := .id (kvs.map (·.1)) (kvs.map (·.2))) (kvs := kvs) rfl (by show some _ = some _; rw [zip_un]) (by
    rw [List.all_eq_true]
    intro v hv2
    obtain ⟨q, hq2, rfl⟩ := List.mem_map.mp hv2
    exact (hv q hq2).pl) (rkY kvs) (by omega) (fun u hu G3 => ?_) ?_]
  · simp_arith []
    have e1 : (rgA 0 (P.length : Nat)).map (pkY P) = (List.range P.length).map (fun (k : Nat) => AV.tup [.tup [.str "p", .int (k : Nat)], P.getD (P.length - 1 - k) .non]) := by
      unfold rgA
      rw [List.map_map]
      simp only [Int.sub_zero, Int.toNat_natCast]
      refine List.map_congr_left fun k _ => ?_
      simp [pkY]
    have e2 : (keysA kvs).map (rkY kvs) = kvs.map fun q => AV.tup [.tup [.str "r", keyV q.1], q.2] := by
      unfold keysA
      rw [List.map_map]
      refine List.map_congr_left fun q hq2 => ?_
      obtain ⟨j, ej⟩ := hint q hq2
      have eg := getA_mem nd (show (q.1, q.2) ∈ kvs from hq2)
      simp only [Function.comp_apply]
      rw [ej] at eg ⊢
      show AV.tup [.tup [.str "r", .int j], (getA kvs (.inl j)).getD .non] = _
      rw [eg]
      rfl
    refine ⟨by rw [List.length_map, List.length_map, rgA_len]; unfold keysA; rw [List.length_map]; omega, ?_⟩
    rw [e1, e2, dictT_ls (pairsT_app (pairsT_map (g := fun (k : Nat) => (pK (k : Nat), P.getD (P.length - 1 - k) .non)) (fun k => ⟨_, _, rfl, rfl, rfl⟩) _) (pairsT_map (g := fun q : Key × AV => (dkOf q.1, q.2)) (fun q => ⟨_, _, rfl, tk_r q.1, rfl⟩) _)), ← ldu]
    rw [fzQ_ref (o := .dt (puts (duL p c xs (.int i)) [])) (by simp [mergeTA, puts]) rfl]
    exact hq _ (((k1.trans k2).trans (Kp.app 0 G2 _)).setN (by have := k1.le; have := k2.le; omega))
  · rw [List.all_eq_true]
    intro v hv2
    obtain ⟨u, hu, rfl⟩ := List.mem_map.mp hv2
    obtain ⟨q, hq2, rfl⟩ := List.mem_map.mp hu
    obtain ⟨j, ej⟩ := hint q hq2
    have eg := getA_mem nd (show (q.1, q.2) ∈ kvs from hq2)
    rw [ej] at eg ⊢
    show plA 4 (AV.tup [.tup [.str "r", .int j], (getA kvs (.inl j)).getD .non]) = true
    rw [eg]
    rcases hv q hq2 with ⟨i, e, _⟩ | ⟨i, e, _⟩
    · rw [e]; rfl
    · rw [e]; rfl
  · obtain ⟨q, hq2, rfl⟩ := List.mem_map.mp hu
    obtain ⟨j, ej⟩ := hint q hq2
    have eg := getA_mem nd (show (q.1, q.2) ∈ kvs from hq2)
    rw [ej] at eg ⊢
    refine ⟨_, rfl, rfl, eq_of_wp ?_⟩
    simp_arith [keE, keyV, blankE, List.map_cons, List.map_nil]
    rw [dgZ (v := q.2) (by rw [zip_un]; exact eg)]
    exact ⟨by show _ = AV.tup [.tup [.str "r", .int j], (getA kvs (.inl j)).getD .non]; rw [eg]; rfl, rfl⟩
end
end L_k03
namespace L_k03
open PySem L2 Vz
section
variable {QV : AV → Hs → Prop} {QB : Bool → Hs → Prop} {E : XQ} {G : Hs} {ρ : En} {D : SP} {b t s : Nat}
def bkL (p : PT) (xs : List AV) (n : Nat) : List (List Key × AV) := (List.range n).map fun k => (rK (p.re.getD k 0), xs.getD k .non)
theorem bkL_len {p : PT} {xs : List AV} {n : Nat} : (bkL p xs n).length = n := by unfold bkL; simp
theorem bkL_succ {p : PT} {xs : List AV} {n : Nat} : bkL p xs (n + 1) = bkL p xs n ++ [(rK (p.re.getD n 0), xs.getD n .non)] := by
  unfold bkL
  rw [List.range_succ, List.map_append]
  rfl
theorem lback_wp {p : PT} {xs : List AV} (hp : p.Dn) (hl : xs.length ≤ 3) (hq : ∀ G', Kp 0 G G' → QV (dtA (puts (bkL p xs xs.length) [])) G') : (f_laid_back [p.iv, .ls xs] G).wp QV E := by
  have e := szl_eq
  have r3 := hp.ok.r3
  unfold f_laid_back b_laid_back
  simp_arith [wp_fz]
  refine wp_dct (fun j acc G' => acc = puts (bkL p xs j) [] ∧ Kp 0 G G') ?_
  rw [en_ok (v := .ls xs) rfl rfl]
  have el : (zipE (xs, none)).1.length = xs.length := zipE_len
  refine ⟨⟨by simp [bkL, puts], Kp.app _ _ _⟩, fun _ _ _ _ _ => True.intro, fun j v acc G' hv ⟨ha, k⟩ hn => ?_, fun acc G' hn ⟨ha, k⟩ => ?_⟩
  · rw [zipE_get] at hv
    have hj : j < xs.length := by
      by_cases h : j < xs.length
      · exact h
      · rw [List.getElem?_eq_none (show xs.length ≤ j by omega)] at hv; cases hv
    rw [List.getElem?_eq_getElem hj] at hv
    cases hv
    have ex : xs.getD j .non = xs[j] := by rw [List.getD_eq_getElem?_getD, List.getElem?_eq_getElem hj]; rfl
    refine ⟨_, _, rfl, ?_⟩
    have ey : ∀ (σ : En) (G' : Hs) (Q : Bool → Hs → Prop), (mYes σ G').wp Q noX = Q true G' := fun _ _ _ => propext Iff.rfl
    rw [ey, if_pos rfl]
    simp_arith [flp_re]
    rw [ixZ (by omega)]
    simp_arith []
    have pl := puts_len (ps := bkL p xs j) (acc := [])
    rw [bkL_len, List.length_nil] at pl
    refine ⟨rK (p.re.getD j 0), rfl, hn, by rw [ha]; omega, ?_, k.setN (by omega)⟩
    rw [ha, bkL_succ, puts_snoc, ex]
  · rw [el] at ha
    subst ha
    rw [fzQ_ref hn rfl]
    exact hq _ (k.setN (by omega))
theorem ndp {ps : List (List Key × AV)} : ((puts ps []).map (·.1)).Nodup := puts_keys (acc := ([] : List (List Key × AV))) (by simp)
theorem okL.nice {xs : List AV} (h : okL xs) : ∀ v ∈ xs, niceV v 11 = true := fun v hv => vOk.nice (.inl (h v hv))
theorem da_okL {xs : List AV} (h : okL xs) : Da 2 (.ls xs) := da_ls fun v hv => by
  obtain ⟨i, rfl, _⟩ := h v hv
  exact da_int i
theorem okL.take {xs : List AV} {n : Nat} (h : okL xs) : okL (xs.take n) := fun v hv => h v (List.mem_of_mem_take hv)
theorem cut_take {xs : List AV} {k : Nat} : cutA xs none (some (k : Int)) = xs.take k := by
  have e : HT.sIx xs.length xs.length (some (k : Int)) = min k xs.length := HT.sIx_nat _ _ _
  have e2 : HT.sIx xs.length 0 none = 0 := rfl
  unfold cutA
  rw [e, e2]
  simp
/-- a worth -/
theorem worth_wp (hd : Dr b t s G) (ht : t + 10 < 2 ^ 60) (hq : ∀ (i : Int) G', 0 ≤ i → i < 1000000007 → Dr b (t + 3) s G' → Kp b G G' → QV (.int i) G') : (f_law_worth [.ref s] G).wp QV E := by
  unfold f_law_worth b_law_worth
  simp_arith [take_eq]
  refine take_wp hd (by decide) (by decide) (by omega) fun k G1 k0 k1 h1 q1 => ?_
  simp_arith []
  unfold k_law_worth_2
  simp_arith [take_eq]
  refine take_wp h1 (by decide) (by decide) (by omega) fun a G2 a0 a1 h2 q2 => ?_
  simp_arith [take_eq]
  refine take_wp h2 (by decide) (by decide) (by omega) fun c G3 c0 c1 h3 q3 => ?_
  simp_arith []
  obtain ⟨n, rfl⟩ : ∃ n : Nat, k = (n : Int) := ⟨k.toNat, by omega⟩
  rw [ixLs (by simp; omega)]
  have kk := (q1.trans q2).trans q3
  have h3 : Dr b (t + 3) s G3 := h3.mono (by omega)
  match n, k1 with
  | 0, _ => exact hq 0 _ (by decide) (by decide) h3 kk
  | 1, _ => exact hq a _ a0 (by omega) h3 kk
  | 2, _ => exact hq 1000000006 _ (by decide) (by decide) h3 kk
  | 3, _ => exact hq c _ c0 c1 h3 kk
  | n + 4, z => exact absurd z (by omega)
theorem worths_wp {mi : MI} {own : List Nat} {x : Nat} {n : Nat} {σ : En} {G0 : Hs} (hk : mi σ G = .ok (rgA 0 n, none) G0) (k0 : Kp b G G0) (hd : Dr b t s G0) (hn : n ≤ 50) (ht : t + 200 < 2 ^ 60) (he : ∀ v, ((wipeA σ own).set x (some v))[1]? = some (some (.ref s)))
    (hq : ∀ (l : List AV) (G' : Hs), l.length = n → okL l → Dr b (t + 3 * n) s G' → Kp b G G' → QV (.ls l) G') : (mFz (mLc mi (gNm x) mYes (mCall 1 1 0 gAll f_law_worth (mCons (mVar 1) mNil) mNil) own) σ G).wp QV E := by
  have e := szl_eq
  refine wp_lcD hk k0 hd 3 (fun _ r => ∃ i : Int, r = .int i ∧ i.natAbs ≤ 2000000000) (by rw [rgA_len]; omega) (fun j v G1 hv h1 k1 => ⟨_, rfl, ?_⟩) fun xs G' hl hT hd' k' => ?_
  · have hj := (List.getElem?_eq_some_iff.mp hv).1
    rw [rgA_len] at hj
    simp_arith [he]
    exact worth_wp h1 (by omega) fun r G2 r0 r1 h2 k2 => ⟨⟨r, rfl, by omega⟩, h2.mono (by omega), k2⟩
  · exact hq xs G' (by rw [hl, rgA_len]; omega) (all_of (T := fun r => ∃ i : Int, r = .int i ∧ i.natAbs ≤ 2000000000) hl hT) (hd'.mono (by rw [rgA_len]; omega)) k'
theorem tyA_it {ks : List (List Key)} {xs : List AV} : tyA G (.it ks xs) = some (.b "dict") := rfl
def bkY (p : PT) (xs : List AV) : AV → AV
  | .int i => .tup [.tup [.str "r", .int (p.re.getD i.toNat 0)], xs.getD i.toNat .non]
  | v => v
/-- the last part of a turn -/
theorem part3 {p : PT} {xs : List AV} {o0 o2 a4 a5 a8 a9 a10 a12 a13 : Option AV} (hp : p.Dn) (hl : xs.length ≤ 50) (hx : okL xs) (hd : Dr b t s G) (ht : t + 200 < 2 ^ 60)
    (hq : ∀ G' (a11 a12 : Option AV), Dr b (t + 10) s G' → D.nx [o0, some (.ref s), o2, some p.av, a4, a5, some (.ls xs), some p.iv, a8, a9, a10, a11, a12, a13] G') :
    (k_law_17 [o0, some (.ref s), o2, some p.av, a4, a5, some (.ls xs), some p.iv, a8, a9, a10, a11, a12, a13] G).wp D := by
  have e := szl_eq
  have r3 := hp.ok.r3
  unfold k_law_17
  simp_arith [wp_fz, take_eq]
  refine take_wp hd (by decide) (by decide) (by omega) fun r G1 r0 r1 h1 k1 => ?_
  simp_arith [slI]
  obtain ⟨m, rfl⟩ : ∃ m : Nat, r = (m : Int) := ⟨r.toNat, by omega⟩
  rw [show (1 : Int) + (m : Nat) = ((m + 1 : Nat) : Int) by omega, cut_take]
  have h1 := h1.app (o := [AO.gone])
  generalize G1 ++ [AO.gone] = G2 at h1 ⊢
  have hy : okL (xs.take (m + 1)) := hx.take
  have hy3 : (xs.take (m + 1)).length ≤ 3 := by rw [List.length_take]; omega
  generalize xs.take (m + 1) = ys at hy hy3 ⊢
  unfold k_law_18
  rw [wp_seq, wp_asg, wp_fz]
  simp_arith [wp_fz]
  have hk : (mRg1 (mBlt fLen (mCons (mVar 11) mNil))) [o0, some (.ref s), o2, some p.av, a4, a5, some (.ls xs), some p.iv, a8, a9, a10, some (.ls ys), a12, a13] G2 = .ok (rgA 0 (ys.length : Nat), none) G2 := by
    refine rg1_ok (eq_of_wp ?_) (by omega) (by omega)
    simp_arith []
  rw [← wp_fz]
  refine wp_lcM hk (Kp.refl _ _) (bkY p ys) (by rw [rgA_len]; omega) (fun v hv2 G3 k3 => ?_) fun G3 k3 => ?_
  · obtain ⟨j, hj, rfl⟩ := List.mem_map.mp hv2
    have hj : j < ys.length := by simpa using hj
    rw [Int.zero_add]
    refine ⟨_, rfl, ?_⟩
    simp_arith [p1]
    rw [ixZ (by omega)]
    simp_arith []
    rw [ixLs hj]
    simp_arith []
    exact ⟨by simp [bkY], Kp.refl _ _⟩
  have e1 : (rgA 0 (ys.length : Nat)).map (bkY p ys) = (List.range ys.length).map (fun (k : Nat) => AV.tup [.tup [.str "r", .int (p.re.getD k 0)], ys.getD k .non]) := by
    unfold rgA
    rw [List.map_map]
    simp only [Int.sub_zero, Int.toNat_natCast]
    refine List.map_congr_left fun k _ => ?_
    simp [bkY]
  rw [e1, dictT_ls (pairsT_map (g := fun (k : Nat) => (rK (p.re.getD k 0), ys.getD k .non)) (fun k => ⟨_, _, rfl, rfl, rfl⟩) _)]
  rw [fzQ_ref (o := .dt (puts (bkL p ys ys.length) [])) (by simp [mergeTA, puts, bkL]) rfl]
  have kb : Kp 0 G2 ((G3 ++ [AO.dt (mergeTA ((List.range ys.length).map fun (k : Nat) => (rK (p.re.getD k 0), ys.getD k .non)))]).set G3.length .gone) := (k3.trans (Kp.app _ _ _)).setN (show G2.length ≤ G3.length from k3.le)
  generalize (G3 ++ [AO.dt (mergeTA ((List.range ys.length).map fun (k : Nat) => (rK (p.re.getD k 0), ys.getD k .non)))]).set G3.length .gone = G4 at kb ⊢
  have h4 := h1.kp kb
  simp_arith []
  unfold k_law_19
  simp_arith []
  refine lback_wp hp hy3 fun G5 k5 => ?_
  show ((fEqT true (dtA (puts (bkL p ys ys.length) [])) (dtA (puts (bkL p ys ys.length) [])) G5).wp _ _)
  rw [neT_same dtR_A dtR_A ndp ndp (fun _ => rfl) (fun q hq2 => by
    refine eqF_nice ?_
    rcases puts_mem hq2 with ⟨r, hr, e⟩ | ⟨r, hr, _⟩
    · obtain ⟨k, hk2, rfl⟩ := List.mem_map.mp hr
      rw [← e]
      exact (hy.getD (List.mem_range.mp hk2)).nice
    · cases hr)]
  simp_arith []
  refine lback_wp hp hy3 fun G6 k6 => ?_
  unfold dtA
  simp_arith []
  rw [isi_wp (ty := .b "dict") (r := true) tyA_it rfl]
  simp_arith []
  exact hq _ _ _ (((h4.kp k5).kp k6).mono (by omega))
theorem part2 {p : PT} {xs : List AV} {i : Int} {c : Bool} {κ : Int} {o0 o2 a9 a11 a12 a13 : Option AV} {n : Nat} (hc : c = decide (κ = 0)) (hp : p.Dn) (hl : xs.length ≤ 50) (hx : okL xs) (hi : i.natAbs ≤ 2000000000) (hd : Dr b t s G) (hbn : b ≤ n) (ht : t + 200 < 2 ^ 60) (hn : G[n]? = some (.dt (puts (prL p c xs (.int i)) [])))
    (h9 : a9 = some (dtA (puts (duL p c xs (.int i)) [])))
    (hq : ∀ G' (a11 a12 : Option AV), Dr b (t + 10) s G' → D.nx [o0, some (.ref s), o2, some p.av, some (.int κ), some (.int i), some (.ls xs), some p.iv, some (.ls xs), a9, some (.ref n), a11, a12, a13] G') :
    (k_law_12 [o0, some (.ref s), o2, some p.av, some (.int κ), some (.int i), some (.ls xs), some p.iv, some (.ls xs), a9, some (.ref n), a11, a12, a13] G).wp D := by
  subst h9
  unfold k_law_12
  simp_arith []
  rw [isi_wp (ty := .b "dict") (r := true) (by simp only [tyA, hn]) rfl]
  simp_arith []
  have nic : ∀ G : Hs, ∀ q ∈ puts (prL p c xs (.int i)) [], eqF G q.2 q.2 = some true := fun G q hq2 => eqF_nice (pr_ok hx hl hi q hq2).nice
  rw [neT_same (dtR_ref hn) dtR_A ndp ndp alike_all (nic _)]
  simp_arith []
  rw [ne_refl (da_okL hx) (by decide)]
  simp_arith []
  unfold k_law_14
  simp_arith []
  refine ⟨by unfold isDT; rw [dtR_ref hn]; rfl, ?_⟩
  rw [dclearT_wp hn]
  have h2 : Dr b t s (G.set n (.dt [])) := hd.setN hbn
  generalize G.set n (.dt []) = G2 at h2 ⊢
  unfold k_law_15
  simp_arith [gP, List.filterMap_cons, List.filterMap_nil]
  rw [← hc]
  refine laid_wp hp (T := .ls xs) (xs := xs) rfl (fun {G Q E} => len_lsN) hl fun G3 g3 k3 => ?_
  rw [neT_same (dtR_ref g3) dtR_A ndp ndp alike_all (nic _)]
  simp_arith []
  exact part3 hp hl hx (h2.kp k3) (by omega) hq
theorem turn_wp {o0 o2 a3 a4 a5 a6 a7 a8 a9 a10 a11 a12 a13 : Option AV} (hd : Dr b t s G) (ht : t + 400 < 2 ^ 60)
    (hq : ∀ G' (a3 a4 a5 a6 a7 a8 a9 a10 a11 a12 a13 : Option AV), Dr b (t + 100) s G' → D.nx [o0, some (.ref s), o2, a3, a4, a5, a6, a7, a8, a9, a10, a11, a12, a13] G') :
    (l_law_2 [o0, some (.ref s), o2, a3, a4, a5, a6, a7, a8, a9, a10, a11, a12, a13] G).wp D := by
  have e := szl_eq
  unfold l_law_2
  simp_arith []
  refine parts_wp hd (by omega) fun p G1 hp h1 k1 => ?_
  simp_arith []
  unfold k_law_4
  simp_arith [wp_par3, take_eq]
  refine take_wp h1 (by decide) (by decide) (by omega) fun κ G2 κ0 κ1 h2 k2 => ?_
  simp_arith [take_eq]
  refine ⟨by decide, ?_⟩
  refine take_wp h2 (by decide) (by decide) (by omega) fun i G3 i0 i1 h3 k3 => ?_
  simp_arith []
  unfold k_law_5
  rw [wp_seq, wp_fzSet (by simp)]
  obtain ⟨k, G4, e4, n, en, hn, h4, k4⟩ := (show (mRg1 (mCall 2 2 0 gAll f_law_take (mCons (mVar 1) (mCons (mC (.int 8)) mNil)) mNil) [o0, some (.ref s), o2, some p.av, some (.int κ), some (.int i), a6, a7, a8, a9, a10, a11, a12, a13] G3).wp (fun k G1 => ∃ n : Nat, k = (rgA 0 n, none) ∧ n ≤ 7 ∧ Dr b (t + 43) s G1 ∧ Kp b G3 G1) noX from by
    simp_arith [take_eq]
    refine take_wp h3 (by decide) (by decide) (by omega) fun r G2 r0 r1 h2 k2 => ?_
    simp_arith []
    exact ⟨by omega, r.toNat, by rw [Int.toNat_of_nonneg r0], by omega, h2.mono (by omega), k2⟩).ex
  subst en
  refine worths_wp e4 k4 h4 (by omega) (by omega) (fun v => rfl) fun xs G5 hl hx h5 k5 => ?_
  unfold k_law_6
  simp_arith []
  have sm : p.Sm := ⟨by have := hp.ok.h4; omega, by have := hp.ok.r3; omega, by have := hp.k4; omega⟩
  refine mk_yes hp.ok sm fun G6 k6 => ?_
  simp_arith [list_lsN]
  have h6 := h5.kp k6
  unfold k_law_7
  simp_arith []
  have i2 : i < 1000000 := i1
  have hi : i.natAbs ≤ 2000000000 := by omega
  refine llaid_wp hp (by omega) hx hi fun G7 k7 => ?_
  have h7 := h6.kp k7
  simp_arith []
  unfold k_law_8
  simp_arith []
  have fin : ∀ G' (a10 : Option AV) (n : Nat), a10 = some (.ref n) → b ≤ n → G'[n]? = some (.dt (puts (prL p (decide (κ = 0)) xs (.int i)) [])) → Dr b (t + 80) s G' →
      (k_law_12 [o0, some (.ref s), o2, some p.av, some (.int κ), some (.int i), some (.ls xs), some p.iv, some (.ls xs), some (dtA (puts (duL p (decide (κ = 0)) xs (.int i)) [])), a10, a11, a12, a13] G').wp D := fun G' a10 n e hb g h => by
    subst e
    exact part2 rfl hp (by omega) hx hi h hb (by omega) g rfl fun G' a11 a12 h => hq G' _ _ _ _ _ _ _ _ _ _ _ (h.mono (by omega))
  have hb := h7.bl
  by_cases h2 : κ = 2
  · rw [decide_eq_true h2]
    simp_arith [gP, List.filterMap_cons, List.filterMap_nil]
    have e0 : decide (κ = 0) = false := decide_eq_false (by omega)
    rw [e0] at fin ⊢
    exact laid_wp hp (T := .ls xs) (xs := xs) rfl (fun {G Q E} => len_lsN) (by omega) fun G8 g8 k8 => fin G8 _ G7.length rfl hb g8 ((h7.kp k8).mono (by omega))
  · rw [decide_eq_false h2]
    simp_arith [gP, List.filterMap_cons, List.filterMap_nil]
    exact laid_wp hp (T := .ls xs) (xs := xs) rfl (fun {G Q E} => len_lsN) (by omega) fun G8 g8 k8 => fin G8 _ G7.length rfl hb g8 ((h7.kp k8).mono (by omega))
end
theorem law_pure : ∀ ns : List Int, ns.length ≤ 63 → ∃ G, f_law [scriptAV ns] [] = .ok (.bl true) G := fun ns hn => by
  have main : (f_law [scriptAV ns] []).wp (fun v _ => v = .bl true) noX := by
    have e := szl_eq
    unfold f_law b_law
    simp_arith [begun_eq]
    refine begun_wp (by decide) (by decide) hn fun s G1 h1 k1 => ?_
    simp_arith []
    unfold k_law_2
    rw [wp_seq]
    generalize hb : G1.length = b at h1
    refine wp_forR0 (n := 12) (rg1_ok (n := 12) rfl (by decide) (by decide)) (fun j ρ G' => Dr b (100 * j) s G' ∧ ∃ a2 a3 a4 a5 a6 a7 a8 a9 a10 a11 a12 a13 : Option AV, ρ = [some (scriptAV ns), some (.ref s), a2, a3, a4, a5, a6, a7, a8, a9, a10, a11, a12, a13])
      ⟨h1, _, _, _, _, _, _, _, _, _, _, _, _, rfl⟩ (fun j ρ G2 hj ⟨h2, a2, a3, a4, a5, a6, a7, a8, a9, a10, a11, a12, a13, hρ⟩ => ?_) fun ρ G2 _ => ?_
    · subst hρ
      simp only [List.set_cons_succ, List.set_cons_zero]
      exact turn_wp h2 (by omega) fun G' a3 a4 a5 a6 a7 a8 a9 a10 a11 a12 a13 h => ⟨h.mono (by omega), _, _, _, _, _, _, _, _, _, _, _, _, rfl⟩
    · simp_arith []
  obtain ⟨v, G, e, q⟩ := main.ex
  subst q
  exact ⟨G, e⟩
end L_k03
namespace L_k03
open PySem L2 Vz
theorem tells {w : World} {mg : Str → Option Value} {a : Addr} {hp : Heap} (Y : hk.says w hp) (G : hp.Ns mainGlobals mg) (ha : mg "law" = some (.ref a)) (pure_ : ∀ ns : List Int, ns.length ≤ 63 → ∃ G, f_law [scriptAV ns] [] = .ok (.bl true) G) :
    ∃ (K : PySem.W.Frag) (fd : FuncData) (b : List AV → Hs → R AV), K.In hp ∧ (∀ (s : Shared) (u : Value), BindsTo s fd ⟨[u], []⟩ [("_law_script", u)]) ∧
      (∀ ns : List Int, ns.length ≤ 63 → ∃ G, b [scriptAV ns] [] = .ok (.bl true) G) ∧ ∀ base : Heap, K.In base → base.Ns mainGlobals mg → FnG PySem.Challenge.pw_callvows_k03_laid_by_vows w K mg base (CX PySem.Challenge.pw_callvows_k03_laid_by_vows w) 6 a fd ["_law_script"] (fsp K 1 b) := by
  obtain ⟨K, KX, t⟩ := Y
  have T : Ts K mg := .of t ⟨hp, KX, G⟩
  have e := ha.symm.trans T.m_law
  cases e
  obtain ⟨fd, F⟩ := T.d_law
  have F : FunD K "law" "law" (defArgs s_law) (defBody s_law) (defScope s_law) [] [] (ga K "law") fd := F
  have b := FunD.bindsA (ps := ["_law_script"]) F fun _ _ _ _ _ _ us hl => match us, hl with | [_], _ => rfl
  exact ⟨K, fd, f_law, KX, fun s u => b s [u] rfl, pure_, fun base _ _ => ok_law T F⟩
end L_k03
open PySem PySem.W PySem.Calls PyProof.Rows in
theorem PySem.Challenge.cw_callvows_k03_laid_by_vows_holds : PySem.Challenge.rw_callvows_k03_laid_by_vows.Holds := by
  w_on; o_law
  refine HandSHeadRun.head_any (r := OpenLaw.row PySem.Challenge.rw_callvows_k03_laid_by_vows) (q := view (OpenLaw.row PySem.Challenge.rw_callvows_k03_laid_by_vows).prog [22]) (H := L_k03.hk) (ob := L_k03.ob) (M := 3880) (loose := L_k03.loose) (d := HandSHeadRun.topDef (OpenLaw.row PySem.Challenge.rw_callvows_k03_laid_by_vows).prog 22) (kwd := []) L_k03.ob_eq
    (by kernel_rfl) (fun s => by kernel_rfl) L_k03.run (by kernel_rfl) (by kernel_rfl) (by kernel_rfl) (by rfl) (by first | assumption | decide +kernel) (by decide +kernel) ⟨rfl, rfl, rfl, rfl, rfl, by decide +kernel⟩ ?hw ?hc
  case hw => w_witness2
  case hc =>
    refine Vz.walkX (l := PySem.Challenge.rw_callvows_k03_laid_by_vows) (n := 63) (k := 6) (x := "_law_script") rfl (by decide) (by kernel_rfl) ⟨⟨rfl, by decide, by decide⟩, rfl⟩ ?F
    intro w mg a hp Y G hmg0
    have hmg : mg ("law" : PySem.Str) = some (.ref a) := by
      have e : (HandSHeadRun.topDef (OpenLaw.row PySem.Challenge.rw_callvows_k03_laid_by_vows).prog 22).name = ("law" : PySem.Str) := by kernel_rfl
      rw [← e]
      exact hmg0
    exact L_k03.tells Y G hmg L_k03.law_pure
